import PyProof.Rows.All
import Wide.All
import OpenK.AllK
import Wide.FinOn
import HandS.ForMost
import HandS.Deep
import HandS.Wide
import KE.DataEq
import HandS.TupAny
import HandS.IsInst
import KE.SortData
import KE.DataMinMax
import HandS.Conv
import PySem.Challenge.RW_foldwright_k60_presses_by_all_orders
set_option Elab.async false
set_option linter.all false
set_option maxRecDepth 100000
/-! VL1: data read as values: what is frozen (G), what is owned (trees S), the state's relation ER. -/
namespace VL
open PySem PySem.Spec PyProof.Rows L2
/-- data as values; a dict tells whether its keys are tuples -/
inductive D where
  | non | bl (b : Bool) | int (i : Int) | str (x : Str) | lst (xs : List D) | tup (xs : List D) | dic (t : Bool) (kvs : List (D × D))
def kD : Key → D
  | .inl i => .int i
  | .inr x => .str x
mutual
inductive Rp (K : PySem.W.Frag) (H : Hp) : V → D → Prop
  | non : Rp K H .non .non
  | bl (b : Bool) : Rp K H (.bl b) (.bl b)
  | int (i : Int) : Rp K H (.int i) (.int i)
  | str (x : Str) : Rp K H (.str x) (.str x)
  | lst {a : Addr} {xs : List V} {ds : List D} : H a = some (.lst xs) → RpL K H xs ds → Rp K H (.ref a) (.lst ds)
  | tup {a : Addr} {xs : List V} {ds : List D} : H a = some (.tup xs) → RpL K H xs ds → Rp K H (.ref a) (.tup ds)
  | dK {a : Addr} {kvs : List (Key × V)} {ds : List (D × D)} : Rd H a (.dK kvs) → RpK K H kvs ds → Rp K H (.ref a) (.dic false ds)
  | dT {a : Addr} {kvs : List (List Key × V)} {ds : List (D × D)} : Rd H a (.dT kvs) → RpT K H kvs ds → Rp K H (.ref a) (.dic true ds)
inductive RpL (K : PySem.W.Frag) (H : Hp) : List V → List D → Prop
  | nil : RpL K H [] []
  | cons {v : V} {vs : List V} {d : D} {ds : List D} : Rp K H v d → RpL K H vs ds → RpL K H (v :: vs) (d :: ds)
inductive RpK (K : PySem.W.Frag) (H : Hp) : List (Key × V) → List (D × D) → Prop
  | nil : RpK K H [] []
  | cons {k : Key} {v : V} {vs : List (Key × V)} {d : D} {ds : List (D × D)} : Rp K H v d → RpK K H vs ds → RpK K H ((k, v) :: vs) ((kD k, d) :: ds)
inductive RpT (K : PySem.W.Frag) (H : Hp) : List (List Key × V) → List (D × D) → Prop
  | nil : RpT K H [] []
  | cons {k : List Key} {v : V} {vs : List (List Key × V)} {d : D} {ds : List (D × D)} : Rp K H v d → RpT K H vs ds → RpT K H ((k, v) :: vs) ((.tup (k.map kD), d) :: ds)
end
theorem sqT_mono {K : PySem.W.Frag} {H H' : Hp} {a : Addr} {xs : List V} (e : Same H H') (h : SqT K H a xs) : SqT K H' a xs := by
  rcases h with (h | ⟨o, h⟩) | h
  · exact .inl (.inl (e _ _ h))
  · exact .inl (.inr ⟨o, e _ _ h⟩)
  · exact .inr h
theorem rd_mono {H H' : Hp} {a : Addr} {u : HO} (e : Same H H') (h : Rd H a u) : Rd H' a u := by
  rcases h with h | ⟨o, h⟩
  · exact .inl (e _ _ h)
  · exact .inr ⟨o, e _ _ h⟩
section
variable {K : PySem.W.Frag} {H H' : Hp}
mutual
theorem Rp.mono (e : Same H H') : ∀ (d : D) (v : V), Rp K H v d → Rp K H' v d
  | .non, _, h => by cases h; exact .non
  | .bl b, _, h => by cases h; exact .bl b
  | .int i, _, h => by cases h; exact .int i
  | .str x, _, h => by cases h; exact .str x
  | .lst ds, _, h => by
    cases h with
    | lst h1 h2 => exact .lst (e _ _ h1) (RpL.mono e ds _ h2)
  | .tup ds, _, h => by
    cases h with
    | tup h1 h2 => exact .tup (e _ _ h1) (RpL.mono e ds _ h2)
  | .dic false ds, _, h => by
    cases h with
    | dK h1 h2 => exact .dK (rd_mono e h1) (RpK.mono e ds _ h2)
  | .dic true ds, _, h => by
    cases h with
    | dT h1 h2 => exact .dT (rd_mono e h1) (RpT.mono e ds _ h2)
theorem RpL.mono (e : Same H H') : ∀ (ds : List D) (vs : List V), RpL K H vs ds → RpL K H' vs ds
  | [], _, h => by cases h; exact .nil
  | d :: ds, _, h => by
    cases h with
    | cons h1 h2 => exact .cons (Rp.mono e d _ h1) (RpL.mono e ds _ h2)
theorem RpK.mono (e : Same H H') : ∀ (ds : List (D × D)) (vs : List (Key × V)), RpK K H vs ds → RpK K H' vs ds
  | [], _, h => by cases h; exact .nil
  | (_, d) :: ds, _, h => by
    cases h with
    | cons h1 h2 => exact .cons (Rp.mono e d _ h1) (RpK.mono e ds _ h2)
theorem RpT.mono (e : Same H H') : ∀ (ds : List (D × D)) (vs : List (List Key × V)), RpT K H vs ds → RpT K H' vs ds
  | [], _, h => by cases h; exact .nil
  | (_, d) :: ds, _, h => by
    cases h with
    | cons h1 h2 => exact .cons (Rp.mono e d _ h1) (RpT.mono e ds _ h2)
end
theorem Rp.up {v : V} {d : D} (h : Rp K H v d) (e : Same H H') : Rp K H' v d := Rp.mono e d v h
theorem RpL.up {v : List V} {d : List D} (h : RpL K H v d) (e : Same H H') : RpL K H' v d := RpL.mono e d v h
theorem RpL.length : ∀ {vs : List V} {ds : List D}, RpL K H vs ds → vs.length = ds.length
  | _, _, .nil => rfl
  | _, _, .cons _ t => by rw [List.length_cons, List.length_cons, RpL.length t]
theorem RpL.get : ∀ {vs : List V} {ds : List D} {i : Nat} {d : D}, RpL K H vs ds → ds[i]? = some d → ∃ v, vs[i]? = some v ∧ Rp K H v d
  | _, _, _, _, .nil, e => by simp at e
  | _, _, 0, _, .cons r _, e => by simp at e; subst e; exact ⟨_, rfl, r⟩
  | _, _, i + 1, _, .cons _ t, e => by
    obtain ⟨u, h1, h2⟩ := RpL.get (i := i) t (by simpa using e)
    exact ⟨u, by simpa using h1, h2⟩
theorem RpL.append : ∀ {xs ys : List V} {ds es : List D}, RpL K H xs ds → RpL K H ys es → RpL K H (xs ++ ys) (ds ++ es)
  | _, _, _, _, .nil, s => s
  | _, _, _, _, .cons r t, s => .cons r (RpL.append t s)
theorem RpL.take : ∀ {xs : List V} {ds : List D} (n : Nat), RpL K H xs ds → RpL K H (xs.take n) (ds.take n)
  | _, _, 0, _ => .nil
  | _, _, _ + 1, .nil => .nil
  | _, _, n + 1, .cons r t => .cons r (RpL.take n t)
theorem RpL.drop : ∀ {xs : List V} {ds : List D} (n : Nat), RpL K H xs ds → RpL K H (xs.drop n) (ds.drop n)
  | _, _, 0, r => r
  | _, _, _ + 1, .nil => .nil
  | _, _, n + 1, .cons _ t => RpL.drop n t
theorem RpL.reverse {xs : List V} {ds : List D} (h : RpL K H xs ds) : RpL K H xs.reverse ds.reverse := by
  induction xs generalizing ds with
  | nil => cases h; exact .nil
  | cons x xs ih =>
    cases h with
    | cons h1 h2 =>
      rw [List.reverse_cons, List.reverse_cons]
      exact RpL.append (ih h2) (.cons h1 .nil)
/-- ints, as they stand -/
theorem RpL.ints : ∀ {vs : List V} {ns : List Int}, RpL K H vs (ns.map D.int) → vs = ns.map V.int
  | _, [], h => by cases h; rfl
  | _, n :: ns, h => by
    cases h with
    | cons h1 h2 =>
      cases h1
      rw [RpL.ints h2]; rfl
theorem RpL.of_ints : ∀ (ns : List Int), RpL K H (ns.map V.int) (ns.map D.int)
  | [] => .nil
  | n :: ns => .cons (.int n) (RpL.of_ints ns)
theorem RpL.bls : ∀ {vs : List V} {ns : List Bool}, RpL K H vs (ns.map D.bl) → vs = ns.map V.bl
  | _, [], h => by cases h; rfl
  | _, n :: ns, h => by
    cases h with
    | cons h1 h2 =>
      cases h1
      rw [RpL.bls h2]; rfl
end
/-! data without dicts: for == and in -/
mutual
def D.py : D → PyData
  | .non => .none
  | .bl b => .bool b
  | .int i => .int i
  | .str x => .str x
  | .lst xs => .list (D.pyL xs)
  | .tup xs => .tuple (D.pyL xs)
  | .dic _ _ => .none
def D.pyL : List D → List PyData
  | [] => []
  | x :: xs => x.py :: D.pyL xs
end
mutual
def D.plain : D → Bool
  | .lst xs => D.plainL xs
  | .tup xs => D.plainL xs
  | .dic _ _ => false
  | _ => true
def D.plainL : List D → Bool
  | [] => true
  | x :: xs => x.plain && D.plainL xs
end
mutual
theorem D.py_plain : ∀ d : D, d.py.plain = true
  | .non => rfl
  | .bl _ => rfl
  | .int _ => rfl
  | .str _ => rfl
  | .lst xs => D.pyL_plain xs
  | .tup xs => D.pyL_plain xs
  | .dic _ _ => rfl
theorem D.pyL_plain : ∀ xs : List D, PyData.plainAll (D.pyL xs) = true
  | [] => rfl
  | x :: xs => by
    show (x.py.plain && PyData.plainAll (D.pyL xs)) = true
    rw [D.py_plain x, D.pyL_plain xs]; rfl
end
section
variable {K : PySem.W.Frag} {H : Hp}
mutual
theorem Rp.dp : ∀ (d : D) (v : V), d.plain = true → Rp K H v d → Dp K H v d.py
  | .non, _, _, h => by cases h; exact .non
  | .bl b, _, _, h => by cases h; exact .bl b
  | .int i, _, _, h => by cases h; exact .int i
  | .str x, _, _, h => by cases h; exact .str x
  | .lst ds, _, p, h => by
    cases h with
    | lst h1 h2 => exact .lst (SqL.of h1) (RpL.dp ds _ p h2)
  | .tup ds, _, p, h => by
    cases h with
    | tup h1 h2 => exact .tup (SqT.of h1) (RpL.dp ds _ p h2)
  | .dic _ ds, _, p, _ => by cases (show false = true from p)
theorem RpL.dp : ∀ (ds : List D) (vs : List V), D.plainL ds = true → RpL K H vs ds → DpAll K H vs (D.pyL ds)
  | [], _, _, h => by cases h; exact .nil
  | d :: ds, _, p, h => by
    have q : d.plain = true ∧ D.plainL ds = true := by simpa [D.plainL] using p
    cases h with
    | cons h1 h2 => exact .cons (Rp.dp d _ q.1 h1) (RpL.dp ds _ q.2 h2)
end
end

/-- what a slot holds: frozen data; a list, a dict, a tuple, an instance of the def's own, with what is in it -/
inductive S where
  | fz (d : D)
  | ol (xs : List S)
  | od (t : Bool) (kvs : List (D × S))
  | ot (xs : List S)
  | ob (C : Addr) (fs : List (Str × S))
  | at (a : Addr) (s : S)
mutual
def S.er : S → D
  | .fz d => d
  | .ol xs => .lst (S.erL xs)
  | .od t kvs => .dic t (S.erK kvs)
  | .ot xs => .tup (S.erL xs)
  | .ob _ _ => .non
  | .at _ s => s.er
def S.erL : List S → List D
  | [] => []
  | x :: xs => x.er :: S.erL xs
def S.erK : List (D × S) → List (D × D)
  | [] => []
  | (k, x) :: xs => (k, x.er) :: S.erK xs
end
mutual
def S.noOb : S → Bool
  | .fz _ => true
  | .ol xs => S.noObL xs
  | .od _ kvs => S.noObK kvs
  | .ot xs => S.noObL xs
  | .ob _ _ => false
  | .at _ _ => false
def S.noObL : List S → Bool
  | [] => true
  | x :: xs => x.noOb && S.noObL xs
def S.noObK : List (D × S) → Bool
  | [] => true
  | (_, x) :: xs => x.noOb && S.noObK xs
end
mutual
inductive SlR (K : PySem.W.Frag) (G H : Hp) : V → S → List Addr → Prop
  | fz {v : V} {d : D} : Rp K G v d → SlR K G H v (.fz d) []
  | ol {p : Addr} {vs : List V} {xs : List S} {F : List Addr} : H p = some (.lst vs) → SlRs K G H vs xs F → SlR K G H (.ref p) (.ol xs) (p :: F)
  | ot {p : Addr} {vs : List V} {xs : List S} {F : List Addr} : H p = some (.tup vs) → SlRs K G H vs xs F → SlR K G H (.ref p) (.ot xs) (p :: F)
  | odK {p : Addr} {vs : List (Key × V)} {xs : List (D × S)} {F : List Addr} : H p = some (.dK vs) → SlRK K G H vs xs F → SlR K G H (.ref p) (.od false xs) (p :: F)
  | odT {p : Addr} {vs : List (List Key × V)} {xs : List (D × S)} {F : List Addr} : H p = some (.dT vs) → SlRT K G H vs xs F → SlR K G H (.ref p) (.od true xs) (p :: F)
  | ob {p C dx : Addr} {vs : List (Str × V)} {xs : List (Str × S)} {F : List Addr} : H p = some (.ins C dx vs) → SlRF K G H vs xs F → SlR K G H (.ref p) (.ob C xs) (p :: F)
  | at {a : Addr} {s : S} {F : List Addr} : SlR K G H (.ref a) s F → SlR K G H (.ref a) (.at a s) F
inductive SlRs (K : PySem.W.Frag) (G H : Hp) : List V → List S → List Addr → Prop
  | nil : SlRs K G H [] [] []
  | cons {v : V} {x : S} {F : List Addr} {vs : List V} {xs : List S} {F' : List Addr} : SlR K G H v x F → SlRs K G H vs xs F' → SlRs K G H (v :: vs) (x :: xs) (F ++ F')
inductive SlRK (K : PySem.W.Frag) (G H : Hp) : List (Key × V) → List (D × S) → List Addr → Prop
  | nil : SlRK K G H [] [] []
  | cons {k : Key} {v : V} {x : S} {F : List Addr} {vs : List (Key × V)} {xs : List (D × S)} {F' : List Addr} : SlR K G H v x F → SlRK K G H vs xs F' → SlRK K G H ((k, v) :: vs) ((kD k, x) :: xs) (F ++ F')
inductive SlRT (K : PySem.W.Frag) (G H : Hp) : List (List Key × V) → List (D × S) → List Addr → Prop
  | nil : SlRT K G H [] [] []
  | cons {k : List Key} {v : V} {x : S} {F : List Addr} {vs : List (List Key × V)} {xs : List (D × S)} {F' : List Addr} : SlR K G H v x F → SlRT K G H vs xs F' → SlRT K G H ((k, v) :: vs) ((.tup (k.map kD), x) :: xs) (F ++ F')
inductive SlRF (K : PySem.W.Frag) (G H : Hp) : List (Str × V) → List (Str × S) → List Addr → Prop
  | nil : SlRF K G H [] [] []
  | cons {k : Str} {v : V} {x : S} {F : List Addr} {vs : List (Str × V)} {xs : List (Str × S)} {F' : List Addr} : SlR K G H v x F → SlRF K G H vs xs F' → SlRF K G H ((k, v) :: vs) ((k, x) :: xs) (F ++ F')
end
section
variable {K : PySem.W.Frag} {G H G' H' : Hp}
mutual
theorem SlR.mono (e : Same G G') : ∀ (s : S) (v : V) (F : List Addr), (∀ a ∈ F, H' a = H a) → SlR K G H v s F → SlR K G' H' v s F
  | .fz d, _, _, _, h => by
    cases h with
    | fz r => exact .fz (r.up e)
  | .ol xs, _, _, k, h => by
    cases h with
    | ol h1 h2 => exact .ol ((k _ List.mem_cons_self).trans h1) (SlRs.mono e xs _ _ (fun a m => k a (List.mem_cons_of_mem _ m)) h2)
  | .ot xs, _, _, k, h => by
    cases h with
    | ot h1 h2 => exact .ot ((k _ List.mem_cons_self).trans h1) (SlRs.mono e xs _ _ (fun a m => k a (List.mem_cons_of_mem _ m)) h2)
  | .od false xs, _, _, k, h => by
    cases h with
    | odK h1 h2 => exact .odK ((k _ List.mem_cons_self).trans h1) (SlRK.mono e xs _ _ (fun a m => k a (List.mem_cons_of_mem _ m)) h2)
  | .od true xs, _, _, k, h => by
    cases h with
    | odT h1 h2 => exact .odT ((k _ List.mem_cons_self).trans h1) (SlRT.mono e xs _ _ (fun a m => k a (List.mem_cons_of_mem _ m)) h2)
  | .ob C xs, _, _, k, h => by
    cases h with
    | ob h1 h2 => exact .ob ((k _ List.mem_cons_self).trans h1) (SlRF.mono e xs _ _ (fun a m => k a (List.mem_cons_of_mem _ m)) h2)
  | .at a s, _, _, k, h => by
    cases h with
    | «at» h => exact .at (SlR.mono e s _ _ k h)
theorem SlRs.mono (e : Same G G') : ∀ (s : List S) (v : List V) (F : List Addr), (∀ a ∈ F, H' a = H a) → SlRs K G H v s F → SlRs K G' H' v s F
  | [], _, _, _, h => by cases h; exact .nil
  | x :: xs, _, _, k, h => by
    cases h with
    | cons h1 h2 => exact .cons (SlR.mono e x _ _ (fun a m => k a (List.mem_append_left _ m)) h1) (SlRs.mono e xs _ _ (fun a m => k a (List.mem_append_right _ m)) h2)
theorem SlRK.mono (e : Same G G') : ∀ (s : List (D × S)) (v : List (Key × V)) (F : List Addr), (∀ a ∈ F, H' a = H a) → SlRK K G H v s F → SlRK K G' H' v s F
  | [], _, _, _, h => by cases h; exact .nil
  | (_, x) :: xs, _, _, k, h => by
    cases h with
    | cons h1 h2 => exact .cons (SlR.mono e x _ _ (fun a m => k a (List.mem_append_left _ m)) h1) (SlRK.mono e xs _ _ (fun a m => k a (List.mem_append_right _ m)) h2)
theorem SlRT.mono (e : Same G G') : ∀ (s : List (D × S)) (v : List (List Key × V)) (F : List Addr), (∀ a ∈ F, H' a = H a) → SlRT K G H v s F → SlRT K G' H' v s F
  | [], _, _, _, h => by cases h; exact .nil
  | (_, x) :: xs, _, _, k, h => by
    cases h with
    | cons h1 h2 => exact .cons (SlR.mono e x _ _ (fun a m => k a (List.mem_append_left _ m)) h1) (SlRT.mono e xs _ _ (fun a m => k a (List.mem_append_right _ m)) h2)
theorem SlRF.mono (e : Same G G') : ∀ (s : List (Str × S)) (v : List (Str × V)) (F : List Addr), (∀ a ∈ F, H' a = H a) → SlRF K G H v s F → SlRF K G' H' v s F
  | [], _, _, _, h => by cases h; exact .nil
  | (_, x) :: xs, _, _, k, h => by
    cases h with
    | cons h1 h2 => exact .cons (SlR.mono e x _ _ (fun a m => k a (List.mem_append_left _ m)) h1) (SlRF.mono e xs _ _ (fun a m => k a (List.mem_append_right _ m)) h2)
end
mutual
theorem SlR.dom : ∀ (s : S) (v : V) (F : List Addr), SlR K G H v s F → ∀ a ∈ F, ∃ o, H a = some o
  | .fz d, _, _, h, a, m => by cases h; cases m
  | .ol xs, _, _, h, a, m => by
    cases h with
    | ol h1 h2 =>
      rcases List.mem_cons.mp m with rfl | m
      · exact ⟨_, h1⟩
      · exact SlRs.dom xs _ _ h2 a m
  | .ot xs, _, _, h, a, m => by
    cases h with
    | ot h1 h2 =>
      rcases List.mem_cons.mp m with rfl | m
      · exact ⟨_, h1⟩
      · exact SlRs.dom xs _ _ h2 a m
  | .od false xs, _, _, h, a, m => by
    cases h with
    | odK h1 h2 =>
      rcases List.mem_cons.mp m with rfl | m
      · exact ⟨_, h1⟩
      · exact SlRK.dom xs _ _ h2 a m
  | .od true xs, _, _, h, a, m => by
    cases h with
    | odT h1 h2 =>
      rcases List.mem_cons.mp m with rfl | m
      · exact ⟨_, h1⟩
      · exact SlRT.dom xs _ _ h2 a m
  | .ob C xs, _, _, h, a, m => by
    cases h with
    | ob h1 h2 =>
      rcases List.mem_cons.mp m with rfl | m
      · exact ⟨_, h1⟩
      · exact SlRF.dom xs _ _ h2 a m
  | .at b s, _, _, h, a, m => by
    cases h with
    | «at» h => exact SlR.dom s _ _ h a m
theorem SlRs.dom : ∀ (s : List S) (v : List V) (F : List Addr), SlRs K G H v s F → ∀ a ∈ F, ∃ o, H a = some o
  | [], _, _, h, a, m => by cases h; cases m
  | x :: xs, _, _, h, a, m => by
    cases h with
    | cons h1 h2 => exact (List.mem_append.mp m).elim (SlR.dom x _ _ h1 a) (SlRs.dom xs _ _ h2 a)
theorem SlRK.dom : ∀ (s : List (D × S)) (v : List (Key × V)) (F : List Addr), SlRK K G H v s F → ∀ a ∈ F, ∃ o, H a = some o
  | [], _, _, h, a, m => by cases h; cases m
  | (_, x) :: xs, _, _, h, a, m => by
    cases h with
    | cons h1 h2 => exact (List.mem_append.mp m).elim (SlR.dom x _ _ h1 a) (SlRK.dom xs _ _ h2 a)
theorem SlRT.dom : ∀ (s : List (D × S)) (v : List (List Key × V)) (F : List Addr), SlRT K G H v s F → ∀ a ∈ F, ∃ o, H a = some o
  | [], _, _, h, a, m => by cases h; cases m
  | (_, x) :: xs, _, _, h, a, m => by
    cases h with
    | cons h1 h2 => exact (List.mem_append.mp m).elim (SlR.dom x _ _ h1 a) (SlRT.dom xs _ _ h2 a)
theorem SlRF.dom : ∀ (s : List (Str × S)) (v : List (Str × V)) (F : List Addr), SlRF K G H v s F → ∀ a ∈ F, ∃ o, H a = some o
  | [], _, _, h, a, m => by cases h; cases m
  | (_, x) :: xs, _, _, h, a, m => by
    cases h with
    | cons h1 h2 => exact (List.mem_append.mp m).elim (SlR.dom x _ _ h1 a) (SlRF.dom xs _ _ h2 a)
end
mutual
/-- what is owned may be read, too -/
theorem SlR.view (e : Same G H) : ∀ (s : S) (v : V) (F : List Addr), s.noOb = true → SlR K G H v s F → Rp K H v s.er
  | .fz d, _, _, _, h => by
    cases h with
    | fz r => exact r.up e
  | .ol xs, _, _, n, h => by
    cases h with
    | ol h1 h2 => exact .lst h1 (SlRs.view e xs _ _ n h2)
  | .ot xs, _, _, n, h => by
    cases h with
    | ot h1 h2 => exact .tup h1 (SlRs.view e xs _ _ n h2)
  | .od false xs, _, _, n, h => by
    cases h with
    | odK h1 h2 => exact .dK (.inl h1) (SlRK.view e xs _ _ n h2)
  | .od true xs, _, _, n, h => by
    cases h with
    | odT h1 h2 => exact .dT (.inl h1) (SlRT.view e xs _ _ n h2)
  | .ob C xs, _, _, n, h => by cases (show false = true from n)
  | .at a s, _, _, n, h => by cases (show false = true from n)
theorem SlRs.view (e : Same G H) : ∀ (s : List S) (v : List V) (F : List Addr), S.noObL s = true → SlRs K G H v s F → RpL K H v (S.erL s)
  | [], _, _, _, h => by cases h; exact .nil
  | x :: xs, _, _, n, h => by
    have q : x.noOb = true ∧ S.noObL xs = true := by simpa [S.noObL] using n
    cases h with
    | cons h1 h2 => exact .cons (SlR.view e x _ _ q.1 h1) (SlRs.view e xs _ _ q.2 h2)
theorem SlRK.view (e : Same G H) : ∀ (s : List (D × S)) (v : List (Key × V)) (F : List Addr), S.noObK s = true → SlRK K G H v s F → RpK K H v (S.erK s)
  | [], _, _, _, h => by cases h; exact .nil
  | (_, x) :: xs, _, _, n, h => by
    have q : x.noOb = true ∧ S.noObK xs = true := by simpa [S.noObK] using n
    cases h with
    | cons h1 h2 => exact .cons (SlR.view e x _ _ q.1 h1) (SlRK.view e xs _ _ q.2 h2)
theorem SlRT.view (e : Same G H) : ∀ (s : List (D × S)) (v : List (List Key × V)) (F : List Addr), S.noObK s = true → SlRT K G H v s F → RpT K H v (S.erK s)
  | [], _, _, _, h => by cases h; exact .nil
  | (_, x) :: xs, _, _, n, h => by
    have q : x.noOb = true ∧ S.noObK xs = true := by simpa [S.noObK] using n
    cases h with
    | cons h1 h2 => exact .cons (SlR.view e x _ _ q.1 h1) (SlRT.view e xs _ _ q.2 h2)
end
end

/-! ### the state -/
abbrev Env := List (Option S)
structure ER (K : PySem.W.Frag) (G H : Hp) (st : L2.St) (env : VL.Env) (F : Nat → List Addr) : Prop where
  sub : Same G H
  len : env.length = st.length
  slot : ∀ i s, env[i]? = some (some s) → ∃ v, st[i]? = some (some v) ∧ SlR K G H v s (F i)
  out : ∀ i, (∀ s, env[i]? ≠ some (some s)) → F i = []
  off : ∀ i a, a ∈ F i → G a = none
  nd : ∀ i, (F i).Nodup
  dj : ∀ i j a, a ∈ F i → a ∈ F j → i = j
/-- what a pure evaluation does: new things are laid, some of them frozen -/
structure Ex (G H G' H' : Hp) : Prop where
  hh : Same H H'
  gg : Same G G'
  gh : Same G' H'
  nw : ∀ b, G' b ≠ none → G b ≠ none ∨ H b = none
theorem Ex.refl {G H : Hp} (h : Same G H) : Ex G H G H := ⟨Same.refl _, Same.refl _, h, fun b e => .inl e⟩
theorem Ex.trans {G H G1 H1 G2 H2 : Hp} (a : Ex G H G1 H1) (b : Ex G1 H1 G2 H2) : Ex G H G2 H2 :=
  ⟨a.hh.trans b.hh, a.gg.trans b.gg, b.gh, fun c e => (b.nw c e).elim (a.nw c) fun z => .inr (a.hh.free z)⟩
theorem same_upd {H : Hp} {p : Addr} {o : HO} (h : H p = none) : Same H (upd H p o) := fun b x e => by
  rw [upd_ne (ne_of_none e h)]
  exact e
/-- a frozen thing is laid -/
theorem Ex.frz {G H : Hp} {p : Addr} {o : HO} (s : Same G H) (n : H p = none) : Ex G H (upd G p o) (upd H p o) := by
  refine ⟨same_upd n, same_upd (s.free n), fun b u e => ?_, fun b e => ?_⟩
  · by_cases z : b = p
    · subst z; rw [upd_same] at e ⊢; exact e
    · rw [upd_ne z] at e ⊢; exact s _ _ e
  · by_cases z : b = p
    · subst z; exact .inr n
    · rw [upd_ne z] at e; exact .inl e
/-- an owned thing is laid -/
theorem Ex.own {G H : Hp} {p : Addr} {o : HO} (s : Same G H) (n : H p = none) : Ex G H G (upd H p o) :=
  ⟨same_upd n, Same.refl _, s.trans (same_upd n), fun b e => .inl e⟩
section
variable {K : PySem.W.Frag} {G H G' H' : Hp} {st : L2.St} {env : VL.Env} {F : Nat → List Addr}
theorem ER.dom (r : ER K G H st env F) {i : Nat} {a : Addr} (m : a ∈ F i) : ∃ o, H a = some o := by
  by_cases q : ∃ s, env[i]? = some (some s)
  · obtain ⟨s, e⟩ := q
    obtain ⟨v, _, h⟩ := r.slot i s e
    exact SlR.dom s v _ h a m
  · have := r.out i fun s e => q ⟨s, e⟩
    rw [this] at m; cases m
theorem ER.ext (r : ER K G H st env F) (x : Ex G H G' H') : ER K G' H' st env F := by
  refine ⟨x.gh, r.len, fun i s e => ?_, r.out, fun i a m => ?_, r.nd, r.dj⟩
  · obtain ⟨v, h1, h2⟩ := r.slot i s e
    refine ⟨v, h1, SlR.mono x.gg s v _ (fun a m => ?_) h2⟩
    obtain ⟨o, h⟩ := r.dom m
    rw [h]; exact x.hh _ _ h
  · cases z : G' a with
    | none => rfl
    | some o =>
      obtain ⟨u, h⟩ := r.dom m
      rcases x.nw a (by rw [z]; exact fun q => nomatch q) with q | q
      · exact absurd (r.off i a m) q
      · rw [h] at q; cases q
/-- a value read off a slot -/
theorem ER.fz (r : ER K G H st env F) {i : Nat} {d : D} (e : env[i]? = some (some (.fz d))) : ∃ v, st[i]? = some (some v) ∧ Rp K G v d := by
  obtain ⟨v, h1, h2⟩ := r.slot i _ e
  generalize F i = Fi at h2
  cases h2 with
  | fz q => exact ⟨v, h1, q⟩
theorem ER.view (r : ER K G H st env F) {i : Nat} {s : S} (e : env[i]? = some (some s)) (n : s.noOb = true) : ∃ v, st[i]? = some (some v) ∧ Rp K H v s.er := by
  obtain ⟨v, h1, h2⟩ := r.slot i _ e
  exact ⟨v, h1, SlR.view r.sub s v _ n h2⟩
end
end VL

set_option Elab.async false
set_option linter.all false
set_option maxRecDepth 100000
/-! VL2: pure expressions as functions of the slots. -/
namespace VL
open PySem PySem.Spec PyProof.Rows L2

/-! ### reading data -/
abbrev ROk (K : PySem.W.Frag) (f : VL.Env → Option D) (t : TE) (view : Bool) : Prop :=
  ∀ (G H : Hp) (st : L2.St) (env : VL.Env) (F : Nat → List Addr) (Q : VK) (d : D), ER K G H st env F → f env = some d →
    (∀ v G' H', Ex G H G' H' → Rp K (if view then H' else G') v d → Q v H') → t st H Q
/-- e is worth f of the slots: frozen -/
structure PV (X : Cx) (e : Expr) (f : VL.Env → Option D) : Prop where
  ex : ∃ t, PE X e t ∧ ∀ (G H : Hp) (st : L2.St) (env : VL.Env) (F : Nat → List Addr) (Q : VK) (d : D), ER X.K G H st env F → f env = some d →
    (∀ v G' H', Ex G H G' H' → Rp X.K G' v d → Q v H') → t st H Q
/-- e reads as f of the slots: as the heap stands -/
structure PW (X : Cx) (e : Expr) (f : VL.Env → Option D) : Prop where
  ex : ∃ t, PE X e t ∧ ∀ (G H : Hp) (st : L2.St) (env : VL.Env) (F : Nat → List Addr) (Q : VK) (d : D), ER X.K G H st env F → f env = some d →
    (∀ v G' H', Ex G H G' H' → Rp X.K H' v d → Q v H') → t st H Q
/-- e is a new list of f of the slots, of nobody else's -/
structure PL (X : Cx) (e : Expr) (f : VL.Env → Option (List D)) : Prop where
  ex : ∃ t, PE X e t ∧ ∀ (G H : Hp) (st : L2.St) (env : VL.Env) (F : Nat → List Addr) (Q : VK) (ds : List D), ER X.K G H st env F → f env = some ds →
    (∀ p vs G' H', Ex G H G' H' → H p = none → G' p = none → H' p = some (.lst vs) → RpL X.K G' vs ds → Q (.ref p) H') → t st H Q
/-- e is a new thing of nobody else's -/
structure PO (X : Cx) (e : Expr) (f : VL.Env → Option S) : Prop where
  ex : ∃ t, PE X e t ∧ ∀ (G H : Hp) (st : L2.St) (env : VL.Env) (F : Nat → List Addr) (Q : VK) (s : S), ER X.K G H st env F → f env = some s →
    (∀ v G' H' Fv, Ex G H G' H' → SlR X.K G' H' v s Fv → Fv.Nodup → (∀ a ∈ Fv, H a = none ∧ G' a = none) → Q v H') → t st H Q
/-- a test -/
structure TB (X : Cx) (e : Expr) (f : VL.Env → Option Bool) : Prop where
  ex : ∃ t, PT X e t ∧ ∀ (G H : Hp) (st : L2.St) (env : VL.Env) (F : Nat → List Addr) (Q : Bool → Hp → Prop) (b : Bool), ER X.K G H st env F → f env = some b →
    (∀ G' H', Ex G H G' H' → Q b H') → t st H Q
/-- the tests of a comprehension -/
structure TBs (X : Cx) (es : List Expr) (f : VL.Env → Option Bool) : Prop where
  ex : ∃ t, PTs X es t ∧ ∀ (G H : Hp) (st : L2.St) (env : VL.Env) (F : Nat → List Addr) (Q : Bool → Hp → Prop) (b : Bool), ER X.K G H st env F → f env = some b →
    (∀ G' H', Ex G H G' H' → Q b H') → t st H Q
/-- arguments: frozen; as they stand -/
structure AV (X : Cx) (es : List Expr) (f : VL.Env → Option (List D)) : Prop where
  ex : ∃ t, PA X es t ∧ ∀ (G H : Hp) (st : L2.St) (env : VL.Env) (F : Nat → List Addr) (Q : List V → Hp → Prop) (ds : List D), ER X.K G H st env F → f env = some ds →
    (∀ vs G' H', Ex G H G' H' → RpL X.K G' vs ds → Q vs H') → t st H Q
structure AW (X : Cx) (es : List Expr) (f : VL.Env → Option (List D)) : Prop where
  ex : ∃ t, PA X es t ∧ ∀ (G H : Hp) (st : L2.St) (env : VL.Env) (F : Nat → List Addr) (Q : List V → Hp → Prop) (ds : List D), ER X.K G H st env F → f env = some ds →
    (∀ vs G' H', Ex G H G' H' → RpL X.K H' vs ds → Q vs H') → t st H Q

def getF (env : VL.Env) (i : Nat) : Option D := match env[i]? with
  | some (some (.fz d)) => some d
  | _ => none
def getS (env : VL.Env) (i : Nat) : Option S := match env[i]? with
  | some (some s) => some s
  | _ => none
def getW (env : VL.Env) (i : Nat) : Option D := match env[i]? with
  | some (some s) => if s.noOb then some s.er else none
  | _ => none
theorem getF_some {env : VL.Env} {i : Nat} {d : D} (h : getF env i = some d) : env[i]? = some (some (.fz d)) := by
  unfold getF at h
  split at h
  · rename_i e; cases h; exact e
  · cases h
theorem getS_some {env : VL.Env} {i : Nat} {s : S} (h : getS env i = some s) : env[i]? = some (some s) := by
  unfold getS at h
  split at h
  · rename_i e; cases h; exact e
  · cases h
theorem getW_some {env : VL.Env} {i : Nat} {d : D} (h : getW env i = some d) : ∃ s, env[i]? = some (some s) ∧ s.noOb = true ∧ s.er = d := by
  unfold getW at h
  split at h
  · rename_i s e
    split at h
    · rename_i n; cases h; exact ⟨s, e, n, rfl⟩
    · cases h
  · cases h

/-- the lengths of what stands -/
def HLen (H : Hp) : Prop := (∀ a xs, H a = some (.lst xs) → xs.length ≤ sizeLine) ∧ (∀ a xs, H a = some (.tup xs) → xs.length ≤ sizeLine)
section
variable {X : Cx}
theorem hlen_of {pins : List (Addr × Obj)} {st : L2.St} {H : Hp} {s : Shared} (I : Inv X pins st H s) : HLen H :=
  ⟨fun a xs e => (I.hok a _ e).1, fun a xs e => (I.hok a _ e).1⟩
theorem pe_hlen {e : Expr} {t : TE} (h : PE X e t) : PE X e (fun st H Q => t st H fun v H' => HLen H' → Q v H') := by
  refine ⟨fun pins s st H Q I hw => ?_⟩
  exact thn (h.run pins s st H _ I hw) fun u s1 ⟨v, H1, I1, r, q⟩ => ⟨v, H1, I1, r, q (hlen_of I1)⟩
theorem pi_hlen {tg e : Expr} {t : TI} (h : PI X tg e t) : PI X tg e (fun st H R => t st H fun J H' => HLen H' → R J H') := by
  refine ⟨fun pins s st H R I hw => ?_⟩
  exact thn (h.run pins s st H _ I hw) fun u s1 h1 => thn h1 fun itv s2 ⟨it, fp, tn, J, H2, e, I2, T, st2, f2, q⟩ => ⟨it, fp, tn, J, H2, e, I2, T, st2, f2, q (hlen_of I2)⟩
theorem pi_or {tg e : Expr} {t t' : TI} (h : PI X tg e t) (h' : PI X tg e t') : PI X tg e (fun st H R => t st H R ∨ t' st H R) :=
  ⟨fun pins s st H R I hw => hw.elim (h.run pins s st H R I) (h'.run pins s st H R I)⟩
theorem pe_or' {e : Expr} {t t' : TE} (h : PE X e t) (h' : PE X e t') : PE X e (fun st H Q => t st H Q ∨ t' st H Q) :=
  ⟨fun pins s st H Q I hw => hw.elim (h.run pins s st H Q I) (h'.run pins s st H Q I)⟩

/-! ### from one to the other -/
theorem PV.w {e : Expr} {f : VL.Env → Option D} (h : PV X e f) : PW X e f := by
  obtain ⟨t, p, o⟩ := h.ex
  exact ⟨t, p, fun G H st env F Q d r e k => o G H st env F Q d r e fun v G' H' x q => k v G' H' x (q.up x.gh)⟩
theorem TB.one {e : Expr} {f : VL.Env → Option Bool} (h : TB X e f) : TBs X [e] f := by
  obtain ⟨t, p, o⟩ := h.ex
  exact ⟨t, pts_one p, o⟩
theorem tbs_nil : TBs X [] (fun _ => some true) := ⟨tYes, pts_nil, fun G H st env F Q b r e k => by cases e; exact k G H (Ex.refl r.sub)⟩
theorem PL.v {e : Expr} {f : VL.Env → Option (List D)} (h : PL X e f) : PV X e (fun env => (f env).map D.lst) := by
  obtain ⟨t, p, o⟩ := h.ex
  refine ⟨t, p, fun G H st env F Q d r e k => ?_⟩
  cases q : f env with
  | none => rw [q] at e; cases e
  | some ds =>
    rw [q] at e; cases e
    refine o G H st env F Q ds r q fun p vs G' H' x hp gp e' l => ?_
    have x2 : Ex G H (upd G' p (.lst vs)) H' := by
      refine ⟨x.hh, x.gg.trans (same_upd gp), fun b u z => ?_, fun b z => ?_⟩
      · by_cases c : b = p
        · subst c; rw [upd_same] at z; cases z; exact e'
        · rw [upd_ne c] at z; exact x.gh _ _ z
      · by_cases c : b = p
        · subst c; exact .inr hp
        · rw [upd_ne c] at z; exact x.nw _ z
    exact k _ _ _ x2 (.lst upd_same (l.up (same_upd gp)))
theorem slRs_fz {K : PySem.W.Frag} {G H : Hp} : ∀ {vs : List V} {ds : List D}, RpL K G vs ds → SlRs K G H vs (ds.map S.fz) []
  | _, _, .nil => .nil
  | _, _, .cons h t => SlRs.cons (F := []) (.fz h) (slRs_fz t)
theorem PL.o {e : Expr} {f : VL.Env → Option (List D)} (h : PL X e f) : PO X e (fun env => (f env).map fun ds => S.ol (ds.map S.fz)) := by
  obtain ⟨t, p, o⟩ := h.ex
  refine ⟨t, p, fun G H st env F Q s r e k => ?_⟩
  cases q : f env with
  | none => rw [q] at e; cases e
  | some ds =>
    rw [q] at e; cases e
    refine o G H st env F Q ds r q fun p vs G' H' x hp gp e' l => ?_
    exact k _ _ _ [p] x (.ol e' (slRs_fz l)) (by simp) fun a m => by cases List.mem_singleton.mp m; exact ⟨hp, gp⟩
theorem PV.o {e : Expr} {f : VL.Env → Option D} (h : PV X e f) : PO X e (fun env => (f env).map S.fz) := by
  obtain ⟨t, p, o⟩ := h.ex
  refine ⟨t, p, fun G H st env F Q s r e k => ?_⟩
  cases q : f env with
  | none => rw [q] at e; cases e
  | some ds =>
    rw [q] at e; cases e
    exact o G H st env F Q ds r q fun v G' H' x l => k _ _ _ [] x (.fz l) .nil fun a m => by cases m

/-! ### names, constants -/
theorem v_name (i : Nat) {x : Str} {pos : Pos} (hN : X.N[i]? = some x := by rfl) (hv : Vis X.env.scope x := by first | exact Or.inl rfl | exact Or.inr (Or.inl rfl) | exact Or.inr (Or.inr rfl))
    (hd : (x == ("__debug__" : Str)) = false := by decide) (hcd : (x == ("__classdict__" : Str)) = false := by decide) : PV X (.Name x pos) (fun env => getF env i) := by
  refine ⟨tVar i, pe_var hN hv hd hcd, fun G H st env F Q d r e k => ?_⟩
  obtain ⟨v, h1, h2⟩ := r.fz (getF_some e)
  exact ⟨v, h1, k v G H (Ex.refl r.sub) h2⟩
theorem w_name (i : Nat) {x : Str} {pos : Pos} (hN : X.N[i]? = some x := by rfl) (hv : Vis X.env.scope x := by first | exact Or.inl rfl | exact Or.inr (Or.inl rfl) | exact Or.inr (Or.inr rfl))
    (hd : (x == ("__debug__" : Str)) = false := by decide) (hcd : (x == ("__classdict__" : Str)) = false := by decide) : PW X (.Name x pos) (fun env => getW env i) := by
  refine ⟨tVar i, pe_var hN hv hd hcd, fun G H st env F Q d r e k => ?_⟩
  obtain ⟨s, h1, h2, h3⟩ := getW_some e
  obtain ⟨v, h4, h5⟩ := r.view h1 h2
  subst h3
  exact ⟨v, h4, k v G H (Ex.refl r.sub) h5⟩
theorem v_int {i : Int} {j : Nat} {pos : Pos} : PV X (.Constant (.int i) j pos) (fun _ => some (.int i)) := ⟨_, pe_int, fun G H st env F Q d r e k => by cases e; exact k _ G H (Ex.refl r.sub) (.int i)⟩
theorem v_bl {i : Bool} {j : Nat} {pos : Pos} : PV X (.Constant (.bool i) j pos) (fun _ => some (.bl i)) := ⟨_, pe_bl, fun G H st env F Q d r e k => by cases e; exact k _ G H (Ex.refl r.sub) (.bl i)⟩
theorem v_non {j : Nat} {pos : Pos} : PV X (.Constant .none j pos) (fun _ => some .non) := ⟨_, pe_non, fun G H st env F Q d r e k => by cases e; exact k _ G H (Ex.refl r.sub) .non⟩
theorem v_str {i : Str} {j : Nat} {pos : Pos} : PV X (.Constant (.str i) j pos) (fun _ => some (.str i)) := ⟨_, pe_str, fun G H st env F Q d r e k => by cases e; exact k _ G H (Ex.refl r.sub) (.str i)⟩

/-! ### operators by values -/
def OpF (X : Cx) (f : Value → Value → Sem Value) (g : D → D → Option D) : Prop :=
  ∃ r : R2, OpR X f r ∧ ∀ (G H : Hp) (x y : V) (d e z : D) (Q : VK), Same G H → Rp X.K G x d → Rp X.K G y e → g d e = some z → (∀ v G' H', Ex G H G' H' → Rp X.K G' v z → Q v H') → r x y H Q
def OpW (X : Cx) (f : Value → Value → Sem Value) (g : D → D → Option D) : Prop :=
  ∃ r : R2, OpR X f r ∧ ∀ (G H : Hp) (x y : V) (d e z : D) (Q : VK), Same G H → Rp X.K H x d → Rp X.K H y e → g d e = some z → (∀ v G' H', Ex G H G' H' → Rp X.K G' v z → Q v H') → r x y H Q
theorem OpW.f {f : Value → Value → Sem Value} {g : D → D → Option D} (h : OpW X f g) : OpF X f g := by
  obtain ⟨r, p, o⟩ := h
  exact ⟨r, p, fun G H x y d e z Q s rx ry q k => o G H x y d e z Q s (rx.up s) (ry.up s) q k⟩
theorem OpF.or {f : Value → Value → Sem Value} {g g' : D → D → Option D} (h : OpF X f g) (h' : OpF X f g') : OpF X f (fun d e => match g d e with | some z => some z | none => g' d e) := by
  obtain ⟨r, p, o⟩ := h
  obtain ⟨r', p', o'⟩ := h'
  refine ⟨_, p.or p', fun G H x y d e z Q s rx ry q k => ?_⟩
  cases c : g d e with
  | some u =>
    dsimp only at q
    rw [c] at q
    exact .inl (o G H x y d e z Q s rx ry (c.trans q) k)
  | none =>
    dsimp only at q
    rw [c] at q
    exact .inr (o' G H x y d e z Q s rx ry q k)
theorem OpF.of {f : Value → Value → Sem Value} {g g' : D → D → Option D} (h : OpF X f g) (k : ∀ d e z, g' d e = some z → g d e = some z) : OpF X f g' := by
  obtain ⟨r, p, o⟩ := h
  exact ⟨r, p, fun G H x y d e z Q s rx ry q => o G H x y d e z Q s rx ry (k d e z q)⟩
theorem OpW.or {f : Value → Value → Sem Value} {g g' : D → D → Option D} (h : OpW X f g) (h' : OpW X f g') : OpW X f (fun d e => match g d e with | some z => some z | none => g' d e) := by
  obtain ⟨r, p, o⟩ := h
  obtain ⟨r', p', o'⟩ := h'
  refine ⟨_, p.or p', fun G H x y d e z Q s rx ry q k => ?_⟩
  cases c : g d e with
  | some u =>
    dsimp only at q
    rw [c] at q
    exact .inl (o G H x y d e z Q s rx ry (c.trans q) k)
  | none =>
    dsimp only at q
    rw [c] at q
    exact .inr (o' G H x y d e z Q s rx ry q k)
theorem OpW.of {f : Value → Value → Sem Value} {g g' : D → D → Option D} (h : OpW X f g) (k : ∀ d e z, g' d e = some z → g d e = some z) : OpW X f g' := by
  obtain ⟨r, p, o⟩ := h
  exact ⟨r, p, fun G H x y d e z Q s rx ry q => o G H x y d e z Q s rx ry (k d e z q)⟩
@[simp] def b2 (fa fb : VL.Env → Option D) (g : D → D → Option D) : VL.Env → Option D := fun env => (fa env).bind fun x => (fb env).bind fun y => g x y
theorem twoF {a b : Expr} {fa fb : VL.Env → Option D} {g : D → D → Option D} {r : R2} (ha : PV X a fa) (hb : PV X b fb)
    (o : ∀ (G H : Hp) (x y : V) (d e z : D) (Q : VK), Same G H → Rp X.K G x d → Rp X.K G y e → g d e = some z → (∀ v G' H', Ex G H G' H' → Rp X.K G' v z → Q v H') → r x y H Q) :
    ∃ ta tb, PE X a ta ∧ PE X b tb ∧ ∀ (G H : Hp) (st : L2.St) (env : VL.Env) (F : Nat → List Addr) (Q : VK) (d : D), ER X.K G H st env F → b2 fa fb g env = some d →
      (∀ v G' H', Ex G H G' H' → Rp X.K G' v d → Q v H') → tOp r ta tb st H Q := by
  obtain ⟨ta, pa, oa⟩ := ha.ex
  obtain ⟨tb, pb, ob⟩ := hb.ex
  refine ⟨ta, tb, pa, pb, fun G H st env F Q d re e k => ?_⟩
  simp only [b2] at e
  obtain ⟨x, e1, e⟩ := Option.bind_eq_some_iff.mp e
  obtain ⟨y, e2, e⟩ := Option.bind_eq_some_iff.mp e
  refine oa G H st env F _ x re e1 fun v1 G1 H1 x1 r1 => ob G1 H1 st env F _ y (re.ext x1) e2 fun v2 G2 H2 x2 r2 => ?_
  exact o G2 H2 v1 v2 x y d Q x2.gh (r1.up x2.gg) r2 e fun v G' H' x3 r3 => k v G' H' ((x1.trans x2).trans x3) r3
theorem twoW {a b : Expr} {fa fb : VL.Env → Option D} {g : D → D → Option D} {r : R2} (ha : PW X a fa) (hb : PW X b fb)
    (o : ∀ (G H : Hp) (x y : V) (d e z : D) (Q : VK), Same G H → Rp X.K H x d → Rp X.K H y e → g d e = some z → (∀ v G' H', Ex G H G' H' → Rp X.K G' v z → Q v H') → r x y H Q) :
    ∃ ta tb, PE X a ta ∧ PE X b tb ∧ ∀ (G H : Hp) (st : L2.St) (env : VL.Env) (F : Nat → List Addr) (Q : VK) (d : D), ER X.K G H st env F → b2 fa fb g env = some d →
      (∀ v G' H', Ex G H G' H' → Rp X.K G' v d → Q v H') → tOp r ta tb st H Q := by
  obtain ⟨ta, pa, oa⟩ := ha.ex
  obtain ⟨tb, pb, ob⟩ := hb.ex
  refine ⟨ta, tb, pa, pb, fun G H st env F Q d re e k => ?_⟩
  simp only [b2] at e
  obtain ⟨x, e1, e⟩ := Option.bind_eq_some_iff.mp e
  obtain ⟨y, e2, e⟩ := Option.bind_eq_some_iff.mp e
  refine oa G H st env F _ x re e1 fun v1 G1 H1 x1 r1 => ob G1 H1 st env F _ y (re.ext x1) e2 fun v2 G2 H2 x2 r2 => ?_
  exact o G2 H2 v1 v2 x y d Q x2.gh (r1.up x2.hh) r2 e fun v G' H' x3 r3 => k v G' H' ((x1.trans x2).trans x3) r3
theorem v_op {op : Operator} {a b : Expr} {pos : Pos} {fa fb : VL.Env → Option D} {g : D → D → Option D} (ho : OpF X (binaryOp op) g) (ha : PV X a fa) (hb : PV X b fb) : PV X (.BinOp a op b pos) (b2 fa fb g) := by
  obtain ⟨r, p, o⟩ := ho
  obtain ⟨ta, tb, pa, pb, q⟩ := twoF ha hb o
  exact ⟨_, pe_op p pa pb, q⟩
theorem v_opW {op : Operator} {a b : Expr} {pos : Pos} {fa fb : VL.Env → Option D} {g : D → D → Option D} (ho : OpW X (binaryOp op) g) (ha : PW X a fa) (hb : PW X b fb) : PV X (.BinOp a op b pos) (b2 fa fb g) := by
  obtain ⟨r, p, o⟩ := ho
  obtain ⟨ta, tb, pa, pb, q⟩ := twoW ha hb o
  exact ⟨_, pe_op p pa pb, q⟩
/-- a comparison as a value -/
theorem v_cmp {op : CmpOp} {a b : Expr} {pos : Pos} {fa fb : VL.Env → Option D} {g : D → D → Option D} (ho : OpW X (compareOp op) g) (ha : PW X a fa) (hb : PW X b fb) (hm : behindInMarks op b = false) : PV X (.Compare a [op] [b] pos) (b2 fa fb g) := by
  obtain ⟨r, p, o⟩ := ho
  obtain ⟨ta, tb, pa, pb, q⟩ := twoW ha hb o
  exact ⟨_, pe_cmpR p pa pb hm, q⟩
def bOf : D → Option Bool
  | .bl b => some b
  | _ => none
@[simp] theorem bOf_bl (b : Bool) : bOf (.bl b) = some b := rfl
theorem bOf_some {d : D} {b : Bool} (h : bOf d = some b) : d = .bl b := by
  cases d <;> first | (cases h; rfl) | cases h
@[simp] def tb (f : VL.Env → Option D) : VL.Env → Option Bool := fun env => (f env).bind bOf
/-- a comparison as a test -/
theorem t_cmp {op : CmpOp} {a b : Expr} {pos : Pos} {fa fb : VL.Env → Option D} {g : D → D → Option D} (ho : OpW X (compareOp op) g) (ha : PW X a fa) (hb : PW X b fb) (hm : behindInMarks op b = false) : TB X (.Compare a [op] [b] pos) (tb (b2 fa fb g)) := by
  obtain ⟨r, p, o⟩ := ho
  obtain ⟨ta, tb', pa, pb, q⟩ := twoW ha hb o
  refine ⟨_, pt_cmpR p pa pb hm, fun G H st env F Q b re e k => ?_⟩
  simp only [tb] at e
  obtain ⟨d, e1, e2⟩ := Option.bind_eq_some_iff.mp e
  obtain rfl := bOf_some e2
  refine q G H st env F _ _ re e1 fun v G' H' x rv => ?_
  cases rv
  exact ⟨b, rfl, k G' H' x⟩
/-- any other expression that gives a bool, as a test -/
theorem t_val {a : Expr} {fa : VL.Env → Option D} (ha : PV X a fa) (he : ∀ whole, isTrue a X.env whole = (do let v ← whole; standAt a.pos; holding [v] (truthy v)) := by intro _; rfl) : TB X a (tb fa) := by
  obtain ⟨t, p, o⟩ := ha.ex
  refine ⟨_, pt_val p he, fun G H st env F Q b re e k => ?_⟩
  simp only [tb] at e
  obtain ⟨d, e1, e2⟩ := Option.bind_eq_some_iff.mp e
  obtain rfl := bOf_some e2
  refine o G H st env F _ _ re e1 fun v G' H' x rv => ?_
  cases rv
  exact ⟨b, rfl, k G' H' x⟩
/-- .. by its truth -/
def truD : D → Option Bool
  | .non => some false
  | .bl b => some b
  | .int i => some (i != 0)
  | .lst xs => some (!xs.isEmpty)
  | .tup xs => some (!xs.isEmpty)
  | .dic false xs => some (!xs.isEmpty)
  | _ => none
theorem RpL.isEmpty {K : PySem.W.Frag} {H : Hp} {vs : List V} {ds : List D} (h : RpL K H vs ds) : vs.isEmpty = ds.isEmpty := by cases h <;> rfl
theorem RpK.isEmpty {K : PySem.W.Frag} {H : Hp} {vs : List (Key × V)} {ds : List (D × D)} (h : RpK K H vs ds) : vs.isEmpty = ds.isEmpty := by cases h <;> rfl
@[simp] def tt (f : VL.Env → Option D) : VL.Env → Option Bool := fun env => (f env).bind truD
theorem truV_of {K : PySem.W.Frag} {H : Hp} {v : V} {d : D} {b : Bool} (r : Rp K H v d) (e : truD d = some b) (hu : ∀ kvs t, d ≠ .dic t kvs) : TruV K v H b := by
  cases r with
  | non => cases e; rfl
  | bl c => cases e; rfl
  | int i => cases e; rfl
  | str x => cases e
  | lst h l => cases e; exact .inl ⟨_, SqL.of h, by rw [l.isEmpty]⟩
  | tup h l => cases e; exact .inr (.inl ⟨_, SqT.of h, by rw [l.isEmpty]⟩)
  | dK h l => exact absurd rfl (hu _ _)
  | dT h l => exact absurd rfl (hu _ _)
def truE : D → Option Bool
  | .dic _ _ => none
  | d => truD d
theorem t_tru {a : Expr} {fa : VL.Env → Option D} (ha : PW X a fa) (he : ∀ whole, isTrue a X.env whole = (do let v ← whole; standAt a.pos; holding [v] (truthy v)) := by intro _; rfl) : TB X a (fun env => (fa env).bind truE) := by
  obtain ⟨t, p, o⟩ := ha.ex
  refine ⟨_, pt_truth p he, fun G H st env F Q b re e k => ?_⟩
  obtain ⟨d, e1, e2⟩ := Option.bind_eq_some_iff.mp e
  refine o G H st env F _ _ re e1 fun v G' H' x rv => ?_
  have h1 : truD d = some b ∧ ∀ kvs t, d ≠ .dic t kvs := by
    cases d <;> first | exact ⟨e2, fun _ _ z => nomatch z⟩ | cases e2
  exact ⟨b, truV_of rv h1.1 h1.2, k G' H' x⟩
/-! ### and, or, not, if -/
@[simp] def tAnd2 (f g : VL.Env → Option Bool) : VL.Env → Option Bool := fun env => (f env).bind fun b => if b then g env else some false
@[simp] def tOr2 (f g : VL.Env → Option Bool) : VL.Env → Option Bool := fun env => (f env).bind fun b => if b then some true else g env
@[simp] def tNot1 (f : VL.Env → Option Bool) : VL.Env → Option Bool := fun env => (f env).map not
/-- chains of and, or -/
structure TW (X : Cx) (e : Expr) (f : VL.Env → Option Bool) : Prop where
  ex : ∃ t, L2.PW X e t ∧ ∀ (G H : Hp) (st : L2.St) (env : VL.Env) (F : Nat → List Addr) (Q : Bool → Hp → Prop) (b : Bool), ER X.K G H st env F → f env = some b →
    (∀ G' H', Ex G H G' H' → Q b H') → t st H Q
theorem TW.t {e : Expr} {f : VL.Env → Option Bool} (h : TW X e f) : TB X e f := by
  obtain ⟨t, p, o⟩ := h.ex
  exact ⟨t, p.pt, o⟩
variable {a b c : Expr} {rest : List Expr} {pos : Pos} {f g : VL.Env → Option Bool} {fa fb : VL.Env → Option D}
theorem tw_and1 (h : TB X a f) : TW X (.BoolOp .And [a] pos) f := by
  obtain ⟨t, p, o⟩ := h.ex
  exact ⟨t, pw_and1 p, o⟩
theorem tw_or1 (h : TB X a f) : TW X (.BoolOp .Or [a] pos) f := by
  obtain ⟨t, p, o⟩ := h.ex
  exact ⟨t, pw_or1 p, o⟩
theorem tw_and (h : TB X a f) (h' : TW X (.BoolOp .And (b :: rest) pos) g) : TW X (.BoolOp .And (a :: b :: rest) pos) (tAnd2 f g) := by
  obtain ⟨t, p, o⟩ := h.ex
  obtain ⟨t', p', o'⟩ := h'.ex
  refine ⟨_, pw_and p p', fun G H st env F Q d re e k => ?_⟩
  simp only [tAnd2] at e
  obtain ⟨x, e1, e2⟩ := Option.bind_eq_some_iff.mp e
  refine o G H st env F _ _ re e1 fun G' H' x1 => ?_
  cases x with
  | true => exact iteT (o' G' H' st env F _ _ (re.ext x1) e2 fun G2 H2 x2 => k G2 H2 (x1.trans x2))
  | false => cases e2; exact iteF (k G' H' x1)
theorem tw_or (h : TB X a f) (h' : TW X (.BoolOp .Or (b :: rest) pos) g) : TW X (.BoolOp .Or (a :: b :: rest) pos) (tOr2 f g) := by
  obtain ⟨t, p, o⟩ := h.ex
  obtain ⟨t', p', o'⟩ := h'.ex
  refine ⟨_, pw_or p p', fun G H st env F Q d re e k => ?_⟩
  simp only [tOr2] at e
  obtain ⟨x, e1, e2⟩ := Option.bind_eq_some_iff.mp e
  refine o G H st env F _ _ re e1 fun G' H' x1 => ?_
  cases x with
  | true => cases e2; exact iteT (k G' H' x1)
  | false => exact iteF (o' G' H' st env F _ _ (re.ext x1) e2 fun G2 H2 x2 => k G2 H2 (x1.trans x2))
theorem t_not (h : TB X a f) : TB X (.UnaryOp .Not a pos) (tNot1 f) := by
  obtain ⟨t, p, o⟩ := h.ex
  refine ⟨_, pt_not p, fun G H st env F Q d re e k => ?_⟩
  simp only [tNot1] at e
  obtain ⟨x, e1, e2⟩ := Option.map_eq_some_iff.mp e
  subst e2
  exact o G H st env F _ _ re e1 fun G' H' x1 => k G' H' x1
/-- as values: bools -/
@[simp] def vAnd2 (f g : VL.Env → Option D) : VL.Env → Option D := fun env => (f env).bind fun d => (bOf d).bind fun b => if b then g env else some (.bl false)
@[simp] def vOr2 (f g : VL.Env → Option D) : VL.Env → Option D := fun env => (f env).bind fun d => (bOf d).bind fun b => if b then some (.bl true) else g env
theorem v_one {op : BoolOp} (h : PV X a fa) : PV X (.BoolOp op [a] pos) fa := by
  obtain ⟨t, p, o⟩ := h.ex
  exact ⟨t, pe_one p, o⟩
theorem v_and (h : PV X a fa) (h' : PV X (.BoolOp .And (b :: rest) pos) fb) : PV X (.BoolOp .And (a :: b :: rest) pos) (vAnd2 fa fb) := by
  obtain ⟨t, p, o⟩ := h.ex
  obtain ⟨t', p', o'⟩ := h'.ex
  refine ⟨_, pe_and p p', fun G H st env F Q d re e k => ?_⟩
  simp only [vAnd2] at e
  obtain ⟨x, e1, e⟩ := Option.bind_eq_some_iff.mp e
  obtain ⟨y, e2, e3⟩ := Option.bind_eq_some_iff.mp e
  obtain rfl := bOf_some e2
  refine o G H st env F _ _ re e1 fun v G' H' x1 rv => ?_
  cases rv
  refine ⟨y, rfl, ?_⟩
  cases y with
  | true => exact iteT (o' G' H' st env F _ _ (re.ext x1) e3 fun v G2 H2 x2 r2 => k v G2 H2 (x1.trans x2) r2)
  | false => cases e3; exact iteF (k _ G' H' x1 (.bl false))
theorem v_or (h : PV X a fa) (h' : PV X (.BoolOp .Or (b :: rest) pos) fb) : PV X (.BoolOp .Or (a :: b :: rest) pos) (vOr2 fa fb) := by
  obtain ⟨t, p, o⟩ := h.ex
  obtain ⟨t', p', o'⟩ := h'.ex
  refine ⟨_, pe_or p p', fun G H st env F Q d re e k => ?_⟩
  simp only [vOr2] at e
  obtain ⟨x, e1, e⟩ := Option.bind_eq_some_iff.mp e
  obtain ⟨y, e2, e3⟩ := Option.bind_eq_some_iff.mp e
  obtain rfl := bOf_some e2
  refine o G H st env F _ _ re e1 fun v G' H' x1 rv => ?_
  cases rv
  refine ⟨y, rfl, ?_⟩
  cases y with
  | true => cases e3; exact iteT (k _ G' H' x1 (.bl true))
  | false => exact iteF (o' G' H' st env F _ _ (re.ext x1) e3 fun v G2 H2 x2 r2 => k v G2 H2 (x1.trans x2) r2)
@[simp] def vNot1 (f : VL.Env → Option D) : VL.Env → Option D := fun env => (f env).bind fun d => (bOf d).map fun b => .bl (!b)
theorem v_not (h : PV X a fa) : PV X (.UnaryOp .Not a pos) (vNot1 fa) := by
  obtain ⟨t, p, o⟩ := h.ex
  refine ⟨_, pe_not p, fun G H st env F Q d re e k => ?_⟩
  simp only [vNot1] at e
  obtain ⟨x, e1, e⟩ := Option.bind_eq_some_iff.mp e
  obtain ⟨y, e2, e3⟩ := Option.map_eq_some_iff.mp e
  obtain rfl := bOf_some e2
  subst e3
  refine o G H st env F _ _ re e1 fun v G' H' x1 rv => ?_
  cases rv
  exact ⟨y, rfl, k _ G' H' x1 (.bl _)⟩
@[simp] def vIf (c : VL.Env → Option Bool) (f g : VL.Env → Option D) : VL.Env → Option D := fun env => (c env).bind fun b => if b then f env else g env
theorem v_if (hc : TB X c f) (ha : PV X a fa) (hb : PV X b fb) : PV X (.IfExp c a b pos) (vIf f fa fb) := by
  obtain ⟨tc, pc, oc⟩ := hc.ex
  obtain ⟨t, p, o⟩ := ha.ex
  obtain ⟨t', p', o'⟩ := hb.ex
  refine ⟨_, pe_ifExp pc p p', fun G H st env F Q d re e k => ?_⟩
  simp only [vIf] at e
  obtain ⟨x, e1, e2⟩ := Option.bind_eq_some_iff.mp e
  refine oc G H st env F _ _ re e1 fun G' H' x1 => ?_
  cases x with
  | true => exact iteT (o G' H' st env F _ _ (re.ext x1) e2 fun v G2 H2 x2 r2 => k v G2 H2 (x1.trans x2) r2)
  | false => exact iteF (o' G' H' st env F _ _ (re.ext x1) e2 fun v G2 H2 x2 r2 => k v G2 H2 (x1.trans x2) r2)
/-- a op b op c -/
@[simp] def vChain (fa fb fc : VL.Env → Option D) (g g' : D → D → Option D) : VL.Env → Option D := fun env => (fa env).bind fun x => (fb env).bind fun y => (g x y).bind fun z => (bOf z).bind fun k => if k then (fc env).bind fun w => g' y w else some (.bl false)
theorem chain_ok {op op' : CmpOp} {fc : VL.Env → Option D} {g g' : D → D → Option D} (ho : OpW X (compareOp op) g) (ho' : OpW X (compareOp op') g') (ha : PW X a fa) (hb : PW X b fb) (hc : PW X c fc) :
    ∃ r r' ta tb tc, OpR X (compareOp op) r ∧ OpR X (compareOp op') r' ∧ PE X a ta ∧ PE X b tb ∧ PE X c tc ∧ ∀ (G H : Hp) (st : L2.St) (env : VL.Env) (F : Nat → List Addr) (Q : VK) (d : D), ER X.K G H st env F → vChain fa fb fc g g' env = some d →
      (∀ v G' H', Ex G H G' H' → Rp X.K G' v d → Q v H') → tChain r r' ta tb tc st H Q := by
  obtain ⟨r, p, o⟩ := ho
  obtain ⟨r', p', o'⟩ := ho'
  obtain ⟨ta, pa, oa⟩ := ha.ex
  obtain ⟨tb, pb, ob⟩ := hb.ex
  obtain ⟨tc, pc, oc⟩ := hc.ex
  refine ⟨r, r', ta, tb, tc, p, p', pa, pb, pc, fun G H st env F Q d re e k => ?_⟩
  simp only [vChain] at e
  obtain ⟨x, e1, e⟩ := Option.bind_eq_some_iff.mp e
  obtain ⟨y, e2, e⟩ := Option.bind_eq_some_iff.mp e
  obtain ⟨z, e3, e⟩ := Option.bind_eq_some_iff.mp e
  obtain ⟨kk, e4, e⟩ := Option.bind_eq_some_iff.mp e
  obtain rfl := bOf_some e4
  refine oa G H st env F _ x re e1 fun v1 G1 H1 x1 r1 => ob G1 H1 st env F _ y (re.ext x1) e2 fun v2 G2 H2 x2 r2 => ?_
  refine o G2 H2 v1 v2 x y _ _ x2.gh (r1.up x2.hh) r2 e3 fun v G3 H3 x3 r3 => ?_
  cases r3
  refine ⟨kk, rfl, ?_⟩
  have x123 := (x1.trans x2).trans x3
  cases kk with
  | false => cases e; exact iteF (k _ _ _ x123 (.bl false))
  | true =>
    obtain ⟨w, e5, e6⟩ := Option.bind_eq_some_iff.mp (show (fc env).bind (fun w => g' y w) = some d from e)
    refine iteT (oc G3 H3 st env F _ w (re.ext x123) e5 fun v4 G4 H4 x4 r4 => ?_)
    exact o' G4 H4 v2 v4 y w d Q x4.gh ((r2.up x3.hh).up x4.hh) r4 e6 fun v G' H' x5 r5 => k v G' H' ((x123.trans x4).trans x5) r5
theorem v_chain {op op' : CmpOp} {fc : VL.Env → Option D} {g g' : D → D → Option D} (ho : OpW X (compareOp op) g) (ho' : OpW X (compareOp op') g') (ha : PW X a fa) (hb : PW X b fb) (hc : PW X c fc)
    (hm : lastMarks [op, op'] [b, c] = false := by with_unfolding_all rfl) : PV X (.Compare a [op, op'] [b, c] pos) (vChain fa fb fc g g') := by
  obtain ⟨r, r', ta, tb, tc, p, p', pa, pb, pc, q⟩ := chain_ok ho ho' ha hb hc
  exact ⟨_, pe_chain p p' pa pb pc hm, q⟩
theorem t_chain {op op' : CmpOp} {fc : VL.Env → Option D} {g g' : D → D → Option D} (ho : OpW X (compareOp op) g) (ho' : OpW X (compareOp op') g') (ha : PW X a fa) (hb : PW X b fb) (hc : PW X c fc)
    (hm : lastMarks [op, op'] [b, c] = false := by with_unfolding_all rfl) : TB X (.Compare a [op, op'] [b, c] pos) (tb (vChain fa fb fc g g')) := by
  obtain ⟨r, r', ta, tb', tc, p, p', pa, pb, pc, q⟩ := chain_ok ho ho' ha hb hc
  refine ⟨_, pt_chain p p' pa pb pc hm, fun G H st env F Q b re e k => ?_⟩
  simp only [tb] at e
  obtain ⟨d, e1, e2⟩ := Option.bind_eq_some_iff.mp e
  obtain rfl := bOf_some e2
  refine q G H st env F _ _ re e1 fun v G' H' x rv => ?_
  cases rv
  exact ⟨b, rfl, k G' H' x⟩

/-! ### argument lists, displays -/
@[simp] def aCons (f : VL.Env → Option D) (g : VL.Env → Option (List D)) : VL.Env → Option (List D) := fun env => (f env).bind fun x => (g env).bind fun xs => some (x :: xs)
theorem a_nil : AV X [] (fun _ => some []) := ⟨tNil, pa_nil, fun G H st env F Q ds re e k => by cases e; exact k [] G H (Ex.refl re.sub) .nil⟩
theorem a_cons {e : Expr} {es : List Expr} {fs : VL.Env → Option (List D)} (h : PV X e fa) (hr : AV X es fs) (hs : starEach (e :: es) X.env = (false, eval e X.env) :: starEach es X.env := by rfl) : AV X (e :: es) (aCons fa fs) := by
  obtain ⟨t, p, o⟩ := h.ex
  obtain ⟨t', p', o'⟩ := hr.ex
  refine ⟨_, pa_cons p p' hs, fun G H st env F Q ds re e k => ?_⟩
  simp only [aCons] at e
  obtain ⟨x, e1, e⟩ := Option.bind_eq_some_iff.mp e
  obtain ⟨xs, e2, e3⟩ := Option.bind_eq_some_iff.mp e
  cases e3
  exact o G H st env F _ _ re e1 fun v G1 H1 x1 r1 => o' G1 H1 st env F _ _ (re.ext x1) e2 fun vs G2 H2 x2 r2 => k _ G2 H2 (x1.trans x2) (.cons (r1.up x2.gg) r2)
theorem aw_nil : AW X [] (fun _ => some []) := ⟨tNil, pa_nil, fun G H st env F Q ds re e k => by cases e; exact k [] G H (Ex.refl re.sub) .nil⟩
theorem aw_cons {e : Expr} {es : List Expr} {fs : VL.Env → Option (List D)} (h : PW X e fa) (hr : AW X es fs) (hs : starEach (e :: es) X.env = (false, eval e X.env) :: starEach es X.env := by rfl) : AW X (e :: es) (aCons fa fs) := by
  obtain ⟨t, p, o⟩ := h.ex
  obtain ⟨t', p', o'⟩ := hr.ex
  refine ⟨_, pa_cons p p' hs, fun G H st env F Q ds re e k => ?_⟩
  simp only [aCons] at e
  obtain ⟨x, e1, e⟩ := Option.bind_eq_some_iff.mp e
  obtain ⟨xs, e2, e3⟩ := Option.bind_eq_some_iff.mp e
  cases e3
  exact o G H st env F _ _ re e1 fun v G1 H1 x1 r1 => o' G1 H1 st env F _ _ (re.ext x1) e2 fun vs G2 H2 x2 r2 => k _ G2 H2 (x1.trans x2) (.cons (r1.up x2.hh) r2)
theorem small_line {n : Nat} (h : n < 1000) : n ≤ sizeLine := by rw [sizeLine_eq]; omega
theorem l_disp {es : List Expr} {fs : VL.Env → Option (List D)} (h : AV X es fs) (hl : es.length < 1000 := by decide) : PL X (.List es pos) (fun env => (fs env).bind fun ds => if ds.length < 1000 then some ds else none) := by
  obtain ⟨t, p, o⟩ := h.ex
  refine ⟨_, pe_lst p, fun G H st env F Q ds re e k => ?_⟩
  obtain ⟨ds', e1, e2⟩ := Option.bind_eq_some_iff.mp e
  split at e2
  · rename_i hlen
    cases e2
    refine o G H st env F _ _ re e1 fun vs G1 H1 x1 r1 => ⟨small_line (by rw [r1.length]; exact hlen), fun p np => ?_⟩
    exact k p vs G1 _ (x1.trans (Ex.own x1.gh np)) (x1.hh.free np) (x1.gh.free np) upd_same r1
  · cases e2
theorem v_tup {es : List Expr} {fs : VL.Env → Option (List D)} {x1} (h : AV X es fs) : PV X (.Tuple es x1 pos) (fun env => (fs env).bind fun ds => if ds.length < 1000 then some (.tup ds) else none) := by
  obtain ⟨t, p, o⟩ := h.ex
  refine ⟨_, pe_tup p, fun G H st env F Q d re e k => ?_⟩
  obtain ⟨ds', e1, e2⟩ := Option.bind_eq_some_iff.mp e
  split at e2
  · rename_i hlen
    cases e2
    refine o G H st env F _ _ re e1 fun vs G1 H1 x1 r1 => ⟨small_line (by rw [r1.length]; exact hlen), fun p np => ?_⟩
    exact k _ _ _ (x1.trans (Ex.frz x1.gh np)) (.tup upd_same (r1.up (same_upd (x1.gh.free np))))
  · cases e2
end
end VL

set_option Elab.async false
set_option linter.all false
set_option maxRecDepth 100000
/-! VL3: the operations on data, each by the layer's rule. -/
namespace VL
open PySem PySem.Spec PyProof.Rows L2

/-! ### keys of dicts -/
def keyD : D → Option Key
  | .int i => some (.inl i)
  | .str x => some (.inr x)
  | _ => none
def keysD : List D → Option (List Key)
  | [] => some []
  | d :: ds => (keyD d).bind fun k => (keysD ds).map (k :: ·)
def tkeyD : D → Option (List Key)
  | .tup ds => keysD ds
  | _ => none
theorem keyD_kD (k : Key) : keyD (kD k) = some k := by cases k <;> rfl
theorem keysD_map : ∀ ks : List Key, keysD (ks.map kD) = some ks
  | [] => rfl
  | k :: ks => by
    show (keyD (kD k)).bind _ = _
    rw [keyD_kD, keysD_map ks]; rfl
theorem kD_of {d : D} {k : Key} (h : keyD d = some k) : d = kD k := by
  cases d <;> first | (cases h; rfl) | cases h
theorem kDs_of : ∀ {ds : List D} {ks : List Key}, keysD ds = some ks → ds = ks.map kD
  | [], _, h => by cases h; rfl
  | d :: ds, _, h => by
    obtain ⟨k, h1, h2⟩ := Option.bind_eq_some_iff.mp (show (keyD d).bind _ = _ from h)
    obtain ⟨ks, h3, h4⟩ := Option.map_eq_some_iff.mp h2
    subst h4
    rw [kD_of h1, kDs_of h3]; rfl
def lookK (k : Key) : List (D × D) → Option D
  | [] => none
  | (d, x) :: r => if keyD d = some k then some x else lookK k r
def lookT (k : List Key) : List (D × D) → Option D
  | [] => none
  | (d, x) :: r => if tkeyD d = some k then some x else lookT k r
section
variable {K : PySem.W.Frag} {G H : Hp}
theorem Rp.key {v : V} {k : Key} (h : Rp K H v (kD k)) : v = kV k := by
  cases k with
  | inl i => cases (show Rp K H v (.int i) from h); rfl
  | inr x => cases (show Rp K H v (.str x) from h); rfl
theorem RpL.keys : ∀ {vs : List V} {ks : List Key}, RpL K H vs (ks.map kD) → vs = ks.map kV
  | _, [], h => by cases h; rfl
  | _, k :: ks, h => by
    cases h with
    | cons h1 h2 => rw [h1.key, RpL.keys h2]; rfl
/-- what a dict holds: the place's value and the data agree -/
inductive OptR (K : PySem.W.Frag) (H : Hp) : Option V → Option D → Prop
  | none : OptR K H none none
  | some {v : V} {d : D} : Rp K H v d → OptR K H (some v) (some d)
theorem RpK.look : ∀ {vs : List (Key × V)} {ds : List (D × D)} (k : Key), RpK K H vs ds → OptR K H (valV vs k) (lookK k ds)
  | _, _, _, .nil => .none
  | (k', v) :: vs, _, k, .cons (d := d) (ds := ds) h t => by
    show OptR K H _ (if keyD (kD k') = some k then some d else lookK k ds)
    rw [keyD_kD]
    by_cases e : k' = k
    · subst e
      rw [if_pos rfl, valV_pos (p := (k', v)) rfl]
      exact .some h
    · rw [if_neg (fun z => e (Option.some.inj z)), valV_neg (p := (k', v)) e]
      exact RpK.look k t
theorem RpT.look : ∀ {vs : List (List Key × V)} {ds : List (D × D)} (k : List Key), RpT K H vs ds → OptR K H (valV vs k) (lookT k ds)
  | _, _, _, .nil => .none
  | (k', v) :: vs, _, k, .cons (d := d) (ds := ds) h t => by
    show OptR K H _ (if keysD (k'.map kD) = some k then some d else lookT k ds)
    rw [keysD_map]
    by_cases e : k' = k
    · subst e
      rw [if_pos rfl, valV_pos (p := (k', v)) rfl]
      exact .some h
    · rw [if_neg (fun z => e (Option.some.inj z)), valV_neg (p := (k', v)) e]
      exact RpT.look k t
theorem OptR.isSome {o : Option V} {u : Option D} (h : OptR K H o u) : o.isSome = u.isSome := by cases h <;> rfl
/-- a dict asked for a key -/
def dGet : D → D → Option (Option D)
  | .dic false kvs, k => (keyD k).map fun k => lookK k kvs
  | .dic true kvs, k => (tkeyD k).map fun k => lookT k kvs
  | _, _ => none
theorem dGet_ok {v y : V} {d k : D} {o : Option D} (hd : Rp K H v d) (hk : Rp K H y k) (e : dGet d k = some o) : ∃ a u, v = .ref a ∧ DGet H a y u ∧ OptR K H u o := by
  cases hd with
  | dK h l =>
    obtain ⟨kk, e1, e2⟩ := Option.map_eq_some_iff.mp (show (keyD k).map _ = _ from e)
    subst e2
    obtain rfl := kD_of e1
    rw [hk.key]
    exact ⟨_, _, rfl, .inl ⟨_, kk, h, rfl, rfl⟩, l.look kk⟩
  | dT h l =>
    obtain ⟨kk, e1, e2⟩ := Option.map_eq_some_iff.mp (show (tkeyD k).map _ = _ from e)
    subst e2
    cases hk with
    | tup h1 h2 =>
      obtain rfl := kDs_of (show keysD _ = some kk from e1)
      rw [h2.keys] at h1
      exact ⟨_, _, rfl, .inr ⟨_, kk, _, h, rfl, h1, rfl⟩, l.look kk⟩
    | _ => cases e1
  | _ => cases e
theorem isD_of {v : V} {d : D} {k : D} {o : Option D} (hd : Rp K H v d) (e : dGet d k = some o) : ∃ a, v = .ref a ∧ IsD H a := by
  cases hd with
  | dK h l => exact ⟨_, rfl, .inl ⟨_, h⟩⟩
  | dT h l => exact ⟨_, rfl, .inr ⟨_, h⟩⟩
  | _ => cases e
end

/-! ### numbers, + -/
def dAdd : D → D → Option D
  | .int i, .int j => some (.int (i + j))
  | .str x, .str y => if x.length + y.length ≤ sizeLine then some (.str (x ++ y)) else none
  | .lst xs, .lst ys => if xs.length + ys.length ≤ sizeLine then some (.lst (xs ++ ys)) else none
  | .tup xs, .tup ys => if xs.length + ys.length ≤ sizeLine then some (.tup (xs ++ ys)) else none
  | _, _ => none
def dSub : D → D → Option D
  | .int i, .int j => some (.int (i - j))
  | _, _ => none
def dMul : D → D → Option D
  | .int i, .int j => if i.natAbs < 2 ^ 64 ∨ j.natAbs < 2 ^ 64 then some (.int (i * j)) else none
  | .lst xs, .int k => if k < 2 ^ 62 ∧ -(2 ^ 62) < k ∧ xs.length * k.toNat ≤ sizeLine then some (.lst (List.replicate k.toNat xs).flatten) else none
  | _, _ => none
def dDiv : D → D → Option D
  | .int i, .int j => if 0 < j ∧ j.natAbs.log2 < 9000 then some (.int (i / j)) else none
  | _, _ => none
def dMod : D → D → Option D
  | .int i, .int j => if 0 < j then some (.int (i % j)) else none
  | _, _ => none
theorem log2_small {i : Int} {n : Nat} (h : i.natAbs < 2 ^ n) (h0 : 0 < n) : i.natAbs.log2 < n := PySem.Flt.log2_lt_of h0 h
theorem dMul_l {i j : Int} (hi : i.natAbs < 2 ^ 64) : dMul (.int i) (.int j) = some (.int (i * j)) := by
  show (if _ then _ else _) = _
  rw [if_pos (.inl hi)]
theorem dMul_r {i j : Int} (hj : j.natAbs < 2 ^ 64) : dMul (.int i) (.int j) = some (.int (i * j)) := by
  show (if _ then _ else _) = _
  rw [if_pos (.inr hj)]
theorem dDiv_small {i j : Int} (h0 : 0 < j) (hj : j.natAbs < 2 ^ 64) : dDiv (.int i) (.int j) = some (.int (i / j)) := by
  have h2 := log2_small hj (by decide)
  show (if _ then _ else _) = _
  rw [if_pos ⟨h0, by omega⟩]
theorem dMod_pos {i j : Int} (h0 : 0 < j) : dMod (.int i) (.int j) = some (.int (i % j)) := by
  show (if _ then _ else _) = _
  rw [if_pos h0]
section
variable {X : Cx}
theorem o_add : OpF X (binaryOp .Add) dAdd := by
  refine ⟨_, (op_add.or op_add_str).or (op_cat.or op_catA), fun G H x y d e z Q s rx ry q k => ?_⟩
  unfold dAdd at q
  split at q
  · cases rx; cases ry; cases q
    exact .inl (.inl ⟨_, _, rfl, rfl, k _ _ _ (Ex.refl s) (.int _)⟩)
  · split at q
    · rename_i hl
      cases rx; cases ry; cases q
      exact .inl (.inr ⟨_, _, rfl, rfl, hl, k _ _ _ (Ex.refl s) (.str _)⟩)
    · cases q
  · split at q
    · rename_i hl
      cases q
      cases rx with
      | lst h1 l1 =>
        cases ry with
        | lst h2 l2 =>
          refine .inr (.inl ⟨_, _, _, _, rfl, rfl, s _ _ h1, s _ _ h2, by rw [l1.length, l2.length]; exact hl, fun p np => ?_⟩)
          exact k _ _ _ (Ex.frz s np) (.lst upd_same ((l1.append l2).up (same_upd (s.free np))))
    · cases q
  · split at q
    · rename_i hl
      cases q
      cases rx with
      | tup h1 l1 =>
        cases ry with
        | tup h2 l2 =>
          refine .inr (.inr ⟨_, _, _, _, rfl, rfl, SqT.of (s _ _ h1), SqT.of (s _ _ h2), by rw [l1.length, l2.length]; exact hl, fun z => ?_, fun z z' => ?_, fun _ _ p np => ?_⟩)
          · subst z; cases l1; exact k _ _ _ (Ex.refl s) (.tup h2 l2)
          · subst z'; cases l2; rw [List.append_nil] at k; exact k _ _ _ (Ex.refl s) (.tup h1 l1)
          · exact k _ _ _ (Ex.frz s np) (.tup upd_same ((l1.append l2).up (same_upd (s.free np))))
    · cases q
  · cases q
theorem o_sub : OpF X (binaryOp .Sub) dSub := by
  refine ⟨_, op_sub, fun G H x y d e z Q s rx ry q k => ?_⟩
  unfold dSub at q
  split at q
  · cases rx; cases ry; cases q
    exact ⟨_, _, rfl, rfl, k _ _ _ (Ex.refl s) (.int _)⟩
  · cases q
theorem RpL.rep {K : PySem.W.Frag} {H : Hp} {vs : List V} {ds : List D} (h : RpL K H vs ds) : ∀ n : Nat, RpL K H (List.replicate n vs).flatten (List.replicate n ds).flatten
  | 0 => .nil
  | n + 1 => by
    rw [List.replicate_succ, List.replicate_succ, List.flatten_cons, List.flatten_cons]
    exact h.append (RpL.rep h n)
theorem o_mul : OpF X (binaryOp .Mult) dMul := by
  refine ⟨_, op_mul.or op_rep, fun G H x y d e z Q s rx ry q k => ?_⟩
  unfold dMul at q
  split at q
  · split at q
    · rename_i hl
      cases rx; cases ry; cases q
      exact .inl ⟨_, _, rfl, rfl, by unfold CMul; omega, k _ _ _ (Ex.refl s) (.int _)⟩
    · cases q
  · split at q
    · rename_i hl
      cases q; cases ry
      cases rx with
      | lst h1 l1 =>
        refine .inr ⟨_, _, _, rfl, rfl, s _ _ h1, by omega, by omega, by rw [l1.length]; exact hl.2.2, fun p np => ?_⟩
        exact k _ _ _ (Ex.frz s np) (.lst upd_same ((l1.rep _).up (same_upd (s.free np))))
    · cases q
  · cases q
theorem o_div : OpF X (binaryOp .FloorDiv) dDiv := by
  refine ⟨_, op_fdivW, fun G H x y d e z Q s rx ry q k => ?_⟩
  unfold dDiv at q
  split at q
  · split at q
    · rename_i hl
      cases rx; cases ry; cases q
      exact ⟨_, _, rfl, rfl, hl, k _ _ _ (Ex.refl s) (.int _)⟩
    · cases q
  · cases q
theorem o_mod : OpF X (binaryOp .Mod) dMod := by
  refine ⟨_, op_mod, fun G H x y d e z Q s rx ry q k => ?_⟩
  unfold dMod at q
  split at q
  · split at q
    · rename_i hl
      cases rx; cases ry; cases q
      exact ⟨_, _, rfl, rfl, hl, k _ _ _ (Ex.refl s) (.int _)⟩
    · cases q
  · cases q
def dNeg : D → Option D
  | .int i => some (.int (-i))
  | _ => none
theorem v_neg {a : Expr} {fa : VL.Env → Option D} {pos : Pos} (ha : PV X a fa) : PV X (.UnaryOp .USub a pos) (fun env => (fa env).bind dNeg) := by
  obtain ⟨t, p, o⟩ := ha.ex
  refine ⟨_, pe_un un_neg p, fun G H st env F Q d re e k => ?_⟩
  obtain ⟨x, e1, e2⟩ := Option.bind_eq_some_iff.mp e
  refine o G H st env F _ _ re e1 fun v G' H' x1 rv => ?_
  cases x <;> try cases e2
  cases rv
  exact ⟨_, rfl, k _ _ _ x1 (.int _)⟩
/-! ### comparisons -/
def dCmp (p : Int → Int → Bool) : D → D → Option D
  | .int i, .int j => some (.bl (p i j))
  | _, _ => none
theorem o_cmp {f : Value → Value → Sem Value} {p : Int → Int → Bool} (h : OpR X f (rI0 fun i j => .bl (p i j))) : OpW X f (dCmp p) := by
  refine ⟨_, h, fun G H x y d e z Q s rx ry q k => ?_⟩
  unfold dCmp at q
  split at q
  · cases rx; cases ry; cases q
    exact ⟨_, _, rfl, rfl, k _ _ _ (Ex.refl s) (.bl _)⟩
  · cases q
@[simp] abbrev dLt := dCmp fun i j => decide (i < j)
@[simp] abbrev dLe := dCmp fun i j => decide (i ≤ j)
@[simp] abbrev dGt := dCmp fun i j => decide (j < i)
@[simp] abbrev dGe := dCmp fun i j => decide (j ≤ i)
theorem o_lt : OpW X (compareOp .Lt) dLt := o_cmp op_lt
theorem o_le : OpW X (compareOp .LtE) dLe := o_cmp op_le
theorem o_gt : OpW X (compareOp .Gt) dGt := o_cmp op_gt
theorem o_ge : OpW X (compareOp .GtE) dGe := o_cmp op_ge
/-- == of data -/
def eqD (d e : D) : Bool := PyData.eqv d.py e.py
def cmpOk (d e : D) : Bool := d.plain && e.plain && decide (min d.py.depth e.py.depth ≤ 40)
def dEq (d e : D) : Option D := if cmpOk d e then some (.bl (eqD d e)) else none
def dNe (d e : D) : Option D := if cmpOk d e then some (.bl (!eqD d e)) else none
theorem op_eqP : OpR X (compareOp .Eq) (fun x y H Q => ∃ d e, Dp X.K H x d ∧ Dp X.K H y e ∧ d.plain = true ∧ e.plain = true ∧ X.A.units + min d.depth e.depth < cLine ∧ Q (.bl (PyData.eqv d e)) H) := by
  intro pins s st H x y v u Q I rx ry h
  obtain ⟨d, e, hd, he, sd, se, hu, q⟩ := h
  obtain ⟨as, r1⟩ := Dp.reads I d x v hd rx
  obtain ⟨bs, r2⟩ := Dp.reads I e y u he ry
  exact SeqAt.eq_plain r1 r2 sd se hu ⟨.bl _, H, I, rfl, q⟩
theorem op_neP : OpR X (compareOp .NotEq) (fun x y H Q => ∃ d e, Dp X.K H x d ∧ Dp X.K H y e ∧ d.plain = true ∧ e.plain = true ∧ X.A.units + min d.depth e.depth < cLine ∧ Q (.bl (!PyData.eqv d e)) H) := by
  intro pins s st H x y v u Q I rx ry h
  obtain ⟨d, e, hd, he, sd, se, hu, q⟩ := h
  obtain ⟨as, r1⟩ := Dp.reads I d x v hd rx
  obtain ⟨bs, r2⟩ := Dp.reads I e y u he ry
  exact SeqAt.ne_plain r1 r2 sd se hu ⟨.bl _, H, I, rfl, q⟩
theorem o_eq {k : Nat} (hr : Room k X.A) : OpW X (compareOp .Eq) dEq := by
  refine ⟨_, op_eqP, fun G H x y d e z Q s rx ry q kk => ?_⟩
  unfold dEq at q
  split at q
  · rename_i c
    simp only [cmpOk, Bool.and_eq_true, decide_eq_true_eq] at c
    cases q
    refine ⟨d.py, e.py, rx.dp _ _ c.1.1, ry.dp _ _ c.1.2, D.py_plain _, D.py_plain _, ?_, kk _ _ _ (Ex.refl s) (.bl _)⟩
    have := hr.units
    omega
  · cases q
theorem o_ne {k : Nat} (hr : Room k X.A) : OpW X (compareOp .NotEq) dNe := by
  refine ⟨_, op_neP, fun G H x y d e z Q s rx ry q kk => ?_⟩
  unfold dNe at q
  split at q
  · rename_i c
    simp only [cmpOk, Bool.and_eq_true, decide_eq_true_eq] at c
    cases q
    refine ⟨d.py, e.py, rx.dp _ _ c.1.1, ry.dp _ _ c.1.2, D.py_plain _, D.py_plain _, ?_, kk _ _ _ (Ex.refl s) (.bl _)⟩
    have := hr.units
    omega
  · cases q
def dIs : D → D → Option D
  | .non, .non => some (.bl true)
  | _, .non => some (.bl false)
  | _, _ => none
def dIsNot : D → D → Option D
  | .non, .non => some (.bl false)
  | _, .non => some (.bl true)
  | _, _ => none
theorem rp_non {K : PySem.W.Frag} {H : Hp} {v : V} {d : D} (h : Rp K H v d) (n : d ≠ .non) : v ≠ .non := by
  cases h <;> first | exact absurd rfl n | exact fun z => nomatch z
theorem o_is : OpW X (compareOp .Is) dIs := by
  refine ⟨_, op_isN, fun G H x y d e z Q s rx ry q k => ?_⟩
  unfold dIs at q
  split at q
  · cases rx; cases ry; cases q
    exact ⟨rfl, k _ _ _ (Ex.refl s) (.bl _)⟩
  · rename_i n
    cases ry; cases q
    have : x ≠ .non := rp_non rx n
    exact ⟨rfl, by rw [decide_eq_false this]; exact k _ _ _ (Ex.refl s) (.bl _)⟩
  · cases q
theorem o_isnot : OpW X (compareOp .IsNot) dIsNot := by
  refine ⟨_, op_notN, fun G H x y d e z Q s rx ry q k => ?_⟩
  unfold dIsNot at q
  split at q
  · cases rx; cases ry; cases q
    exact ⟨rfl, k _ _ _ (Ex.refl s) (.bl _)⟩
  · rename_i n
    cases ry; cases q
    have : x ≠ .non := rp_non rx n
    exact ⟨rfl, by rw [decide_eq_false this]; exact k _ _ _ (Ex.refl s) (.bl _)⟩
  · cases q
/-! ### in -/
def inOk (d : D) (ds : List D) : Bool := d.plain && D.plainL ds && decide (min (PyData.depthAll (D.pyL ds)) d.py.depth ≤ 40)
def inD (d : D) (ds : List D) : Bool := ds.any fun z => eqD z d
def dIn : D → D → Option D
  | d, .lst ds => if inOk d ds then some (.bl (inD d ds)) else none
  | d, .tup ds => if inOk d ds then some (.bl (inD d ds)) else none
  | k, .dic t kvs => (dGet (.dic t kvs) k).map fun o => .bl o.isSome
  | _, _ => none
def dNotIn : D → D → Option D
  | d, .lst ds => if inOk d ds then some (.bl (!inD d ds)) else none
  | d, .tup ds => if inOk d ds then some (.bl (!inD d ds)) else none
  | k, .dic t kvs => (dGet (.dic t kvs) k).map fun o => .bl (!o.isSome)
  | _, _ => none
theorem any_py (d : D) : ∀ ds : List D, ((D.pyL ds).any fun y => PyData.eqv y d.py) = inD d ds
  | [] => rfl
  | e :: ds => by
    show (PyData.eqv e.py d.py || (D.pyL ds).any _) = (eqD e d || inD d ds)
    rw [any_py d ds]; rfl
theorem op_inL : OpR X (compareOp .In) (fun x y H Q => ∃ (d : PyData) (xs : List PyData), Dp X.K H x d ∧ (Dp X.K H y (.list xs) ∨ Dp X.K H y (.tuple xs)) ∧ d.plain = true ∧ PyData.plainAll xs = true ∧ X.A.units + 1 + min (PyData.depthAll xs) d.depth < cLine ∧
    Q (.bl (xs.any fun y => PyData.eqv y d)) H) := by
  intro pins s st H x y v u Q I rx ry h
  obtain ⟨d, xs, hd, he, sd, se, hu, q⟩ := h
  obtain ⟨as, r1⟩ := Dp.reads I d x v hd rx
  rcases he with he | he
  · obtain ⟨bs, r2⟩ := Dp.reads I _ y u he ry
    exact SeqAt.in_list_data r2 r1 se sd hu ⟨.bl _, H, I, rfl, q⟩
  · obtain ⟨bs, r2⟩ := Dp.reads I _ y u he ry
    exact SeqAt.in_tuple_data r2 r1 se sd hu ⟨.bl _, H, I, rfl, q⟩
theorem op_notInL : OpR X (compareOp .NotIn) (fun x y H Q => ∃ (d : PyData) (xs : List PyData), Dp X.K H x d ∧ (Dp X.K H y (.list xs) ∨ Dp X.K H y (.tuple xs)) ∧ d.plain = true ∧ PyData.plainAll xs = true ∧ X.A.units + 1 + min (PyData.depthAll xs) d.depth < cLine ∧
    Q (.bl (!xs.any fun y => PyData.eqv y d)) H) := by
  intro pins s st H x y v u Q I rx ry h
  obtain ⟨d, xs, hd, he, sd, se, hu, q⟩ := h
  obtain ⟨as, r1⟩ := Dp.reads I d x v hd rx
  rcases he with he | he
  · obtain ⟨bs, r2⟩ := Dp.reads I _ y u he ry
    exact SeqAt.notIn_list_data r2 r1 se sd hu ⟨.bl _, H, I, rfl, q⟩
  · obtain ⟨bs, r2⟩ := Dp.reads I _ y u he ry
    exact SeqAt.notIn_tuple_data r2 r1 se sd hu ⟨.bl _, H, I, rfl, q⟩
theorem op_inD' (hu : X.A.units + 1 < cLine) : OpR X (compareOp .In) (fun y x H Q => ∃ a o, x = .ref a ∧ DGet H a y o ∧ Q (.bl o.isSome) H) := by
  intro pins s st H y x iv u Q I ry rx h
  obtain ⟨a, o, ex, g, q⟩ := h
  subst ex
  obtain rfl : u = Value.ref a := rx
  exact d_in hu I g ry fun s3 I3 => ⟨.bl o.isSome, H, I3, rfl, q⟩
theorem op_notInD' (hu : X.A.units + 1 < cLine) : OpR X (compareOp .NotIn) (fun y x H Q => ∃ a o, x = .ref a ∧ DGet H a y o ∧ Q (.bl (!o.isSome)) H) := by
  intro pins s st H y x iv u Q I ry rx h
  obtain ⟨a, o, ex, g, q⟩ := h
  subst ex
  obtain rfl : u = Value.ref a := rx
  exact d_notIn hu I g ry fun s3 I3 => ⟨.bl (!o.isSome), H, I3, rfl, q⟩
theorem o_in {k : Nat} (hr : Room k X.A) : OpW X (compareOp .In) dIn := by
  refine ⟨_, op_inL.or (op_inD' (hu_of hr)), fun G H x y d e z Q s rx ry q kk => ?_⟩
  have hun := hr.units
  unfold dIn at q
  split at q
  · rename_i ds
    split at q
    · rename_i c
      simp only [inOk, Bool.and_eq_true, decide_eq_true_eq] at c
      cases q
      refine .inl ⟨d.py, D.pyL ds, rx.dp _ _ c.1.1, .inl (ry.dp (.lst ds) _ c.1.2), D.py_plain _, D.pyL_plain _, by omega, ?_⟩
      rw [any_py]
      exact kk _ _ _ (Ex.refl s) (.bl _)
    · cases q
  · rename_i ds
    split at q
    · rename_i c
      simp only [inOk, Bool.and_eq_true, decide_eq_true_eq] at c
      cases q
      refine .inl ⟨d.py, D.pyL ds, rx.dp _ _ c.1.1, .inr (ry.dp (.tup ds) _ c.1.2), D.py_plain _, D.pyL_plain _, by omega, ?_⟩
      rw [any_py]
      exact kk _ _ _ (Ex.refl s) (.bl _)
    · cases q
  · obtain ⟨o, e1, e2⟩ := Option.map_eq_some_iff.mp q
    subst e2
    obtain ⟨a, u, ea, g, r⟩ := dGet_ok ry rx e1
    exact .inr ⟨a, u, ea, g, by rw [r.isSome]; exact kk _ _ _ (Ex.refl s) (.bl _)⟩
  · cases q
theorem o_notin {k : Nat} (hr : Room k X.A) : OpW X (compareOp .NotIn) dNotIn := by
  refine ⟨_, op_notInL.or (op_notInD' (hu_of hr)), fun G H x y d e z Q s rx ry q kk => ?_⟩
  have hun := hr.units
  unfold dNotIn at q
  split at q
  · rename_i ds
    split at q
    · rename_i c
      simp only [inOk, Bool.and_eq_true, decide_eq_true_eq] at c
      cases q
      refine .inl ⟨d.py, D.pyL ds, rx.dp _ _ c.1.1, .inl (ry.dp (.lst ds) _ c.1.2), D.py_plain _, D.pyL_plain _, by omega, ?_⟩
      rw [any_py]
      exact kk _ _ _ (Ex.refl s) (.bl _)
    · cases q
  · rename_i ds
    split at q
    · rename_i c
      simp only [inOk, Bool.and_eq_true, decide_eq_true_eq] at c
      cases q
      refine .inl ⟨d.py, D.pyL ds, rx.dp _ _ c.1.1, .inr (ry.dp (.tup ds) _ c.1.2), D.py_plain _, D.pyL_plain _, by omega, ?_⟩
      rw [any_py]
      exact kk _ _ _ (Ex.refl s) (.bl _)
    · cases q
  · obtain ⟨o, e1, e2⟩ := Option.map_eq_some_iff.mp q
    subst e2
    obtain ⟨a, u, ea, g, r⟩ := dGet_ok ry rx e1
    exact .inr ⟨a, u, ea, g, by rw [r.isSome]; exact kk _ _ _ (Ex.refl s) (.bl _)⟩
  · cases q

/-! ### subscripts -/
def dIx : D → D → Option D
  | .lst xs, .int i => atI xs i
  | .tup xs, .int i => atI xs i
  | .dic t kvs, k => (dGet (.dic t kvs) k).join
  | _, _ => none
theorem RpL.at {K : PySem.W.Frag} {H : Hp} {vs : List V} {ds : List D} {i : Int} {d : D} (h : RpL K H vs ds) (e : atI ds i = some d) : ∃ v, atI vs i = some v ∧ Rp K H v d := by
  unfold atI at e ⊢
  rw [h.length]
  obtain ⟨j, e1, e2⟩ := Option.bind_eq_some_iff.mp e
  obtain ⟨v, h1, h2⟩ := h.get e2
  exact ⟨v, by rw [e1]; exact h1, h2⟩
theorem ix_ok {K : PySem.W.Frag} {B H : Hp} {x y : V} {c i z : D} {Q : VK} (s : Same B H) (rx : Rp K B x c) (ry : Rp K H y i) (ry' : ∀ t kvs, c = .dic t kvs → Rp K B y i) (q : dIx c i = some z) (k : ∀ v, Rp K B v z → Q v H) :
    rIxL K x y H Q ∨ rIxT K x y H Q ∨ ∃ a v, x = .ref a ∧ DGet H a y (some v) ∧ Q v H := by
  unfold dIx at q
  split at q
  · cases ry
    cases rx with
    | lst h l =>
      obtain ⟨v, e, r⟩ := l.at q
      exact .inl ⟨_, _, _, v, rfl, rfl, SqL.of (s _ _ h), e, k v r⟩
  · cases ry
    cases rx with
    | tup h l =>
      obtain ⟨v, e, r⟩ := l.at q
      exact .inr (.inl ⟨_, _, _, v, rfl, rfl, SqT.of (s _ _ h), e, k v r⟩)
  · rename_i t kvs
    obtain ⟨o, e1, e2⟩ := Option.join_eq_some_iff.mp q |> fun h => (⟨_, h, rfl⟩ : ∃ o, dGet (.dic t kvs) i = some o ∧ o = some z)
    subst e2
    obtain ⟨a, u, ea, g, r⟩ := dGet_ok rx (ry' _ _ rfl) e1
    cases r with
    | some r =>
      refine .inr (.inr ⟨a, _, ea, ?_, k _ r⟩)
      rcases g with ⟨kvs', kk, h1, h2, h3⟩ | ⟨kvs', kk, b, h1, h2, h3, h4⟩
      · exact .inl ⟨kvs', kk, rd_mono s h1, h2, h3⟩
      · exact .inr ⟨kvs', kk, b, rd_mono s h1, h2, s _ _ h3, h4⟩
  · cases q
/-- three ways to go on, told behind the parts -/
theorem pe_sub {a b : Expr} {ta tb : TE} {pos : Pos} (hu : X.A.units + 1 < cLine) (ha : PE X a ta) (hb : PE X b tb) (hs : PlainIx b) :
    PE X (.Subscript a b pos) (tOp (fun x y H Q => rIxL X.K x y H Q ∨ rIxT X.K x y H Q ∨ ∃ a v, x = .ref a ∧ DGet H a y (some v) ∧ Q v H) ta tb) := by
  refine ⟨fun pins s st H Q I h => ?_⟩
  refine Subscript_ (binT ha hb I h fun v u s2 x y H2 I2 rx ry q => ?_)
  rcases q with q | q | ⟨a, w, ex, g, q⟩
  · exact ix_list a b pins s2 st H2 x y v u Q I2 rx ry q (hs _ _)
  · exact ix_tup a b pins s2 st H2 x y v u Q I2 rx ry q (hs _ _)
  · subst ex
    obtain rfl : v = Value.ref a := rx
    have hT := dict_typeIs I2 g
    exact tail_any hT PySem.F.slot_dict_getitem.lookup (d_getItem hu I2 g ry fun w' s3 I3 rw' => ⟨w, H2, I3, rw', q⟩) (hs _ _)
end
end VL

set_option Elab.async false
set_option linter.all false
set_option maxRecDepth 100000
/-! VL4: subscripts, slices, calls of built-ins, walks, comprehensions. -/
namespace VL
open PySem PySem.Spec PyProof.Rows L2
section
variable {X : Cx} {a b c e : Expr} {pos : Pos} {fa fb fc : VL.Env → Option D}
theorem v_ix {k : Nat} (hr : Room k X.A) (ha : PV X a fa) (hb : PV X b fb) (hs : PlainIx b := by intro _ _; rfl) : PV X (.Subscript a b pos) (b2 fa fb dIx) := by
  obtain ⟨ta, tb, pa, pb, q⟩ := twoF (r := fun x y H Q => rIxL X.K x y H Q ∨ rIxT X.K x y H Q ∨ ∃ a v, x = .ref a ∧ DGet H a y (some v) ∧ Q v H) (g := dIx) ha hb
    fun G H x y d e z Q s rx ry q kk => ix_ok s rx (ry.up s) (fun _ _ _ => ry) q fun v r => kk v G H (Ex.refl s) r
  exact ⟨_, pe_sub (hu_of hr) pa pb hs, q⟩
/-- the index as it stands (a number) -/
theorem v_ixW {k : Nat} (hr : Room k X.A) (ha : PW X a fa) (hb : PW X b fb) (hs : PlainIx b := by intro _ _; rfl) : PW X (.Subscript a b pos) (b2 fa fb dIx) := by
  obtain ⟨ta, pa, oa⟩ := ha.ex
  obtain ⟨tb, pb, ob⟩ := hb.ex
  refine ⟨_, pe_sub (hu_of hr) pa pb hs, fun G H st env F Q d re e k => ?_⟩
  simp only [b2] at e
  obtain ⟨x, e1, e⟩ := Option.bind_eq_some_iff.mp e
  obtain ⟨y, e2, e⟩ := Option.bind_eq_some_iff.mp e
  refine oa G H st env F _ x re e1 fun v1 G1 H1 x1 r1 => ob G1 H1 st env F _ y (re.ext x1) e2 fun v2 G2 H2 x2 r2 => ?_
  exact ix_ok (Same.refl H2) (r1.up x2.hh) r2 (fun _ _ _ => r2) e fun v r => k v G2 H2 (x1.trans x2) r
def scal : D → Option D
  | .non => some .non
  | .bl b => some (.bl b)
  | .int i => some (.int i)
  | .str x => some (.str x)
  | _ => none
/-- a plain value needs no freezing -/
theorem PW.sc (h : PW X a fa) : PV X a (fun env => (fa env).bind scal) := by
  obtain ⟨t, p, o⟩ := h.ex
  refine ⟨t, p, fun G H st env F Q d re e k => ?_⟩
  obtain ⟨x, e1, e2⟩ := Option.bind_eq_some_iff.mp e
  refine o G H st env F Q x re e1 fun v G' H' x1 r => k v G' H' x1 ?_
  cases r <;> first | (cases e2; constructor) | cases e2
/-- a frozen item of an owned list -/
def frzOf : S → Option D
  | .fz d => some d
  | _ => none
@[simp] theorem frzOf_fz (d : D) : frzOf (.fz d) = some d := rfl
def itemF : S → D → Option D
  | .ol xs, .int k => (atI xs k).bind frzOf
  | _, _ => none
theorem itemF_some {s : S} {d z : D} (h : itemF s d = some z) : ∃ xs k, s = .ol xs ∧ d = .int k ∧ atI xs k = some (.fz z) := by
  cases s <;> try (cases h; done)
  cases d <;> try (cases h; done)
  rename_i xs k
  obtain ⟨u, h1, h2⟩ := Option.bind_eq_some_iff.mp (show (atI xs k).bind frzOf = some z from h)
  cases u <;> try (cases h2; done)
  cases h2
  exact ⟨_, _, rfl, rfl, h1⟩
@[simp] def getI (i : Nat) (fb : VL.Env → Option D) : VL.Env → Option D := fun env => (getS env i).bind fun s => (fb env).bind fun d => itemF s d
theorem SlRs.get {K : PySem.W.Frag} {G H : Hp} : ∀ {vs : List V} {xs : List S} {F : List Addr} {i : Nat} {s : S}, SlRs K G H vs xs F → xs[i]? = some s → ∃ v F', vs[i]? = some v ∧ SlR K G H v s F' ∧ ∀ a ∈ F', a ∈ F
  | _, _, _, _, _, .nil, e => by simp at e
  | _, _, _, 0, _, .cons r _, e => by simp at e; subst e; exact ⟨_, _, rfl, r, fun a m => List.mem_append_left _ m⟩
  | _, _, _, i + 1, _, .cons _ t, e => by
    obtain ⟨u, F', h1, h2, h3⟩ := SlRs.get (i := i) t (by simpa using e)
    exact ⟨u, F', by simpa using h1, h2, fun a m => List.mem_append_right _ (h3 a m)⟩
theorem SlRs.length {K : PySem.W.Frag} {G H : Hp} : ∀ {vs : List V} {xs : List S} {F : List Addr}, SlRs K G H vs xs F → vs.length = xs.length
  | _, _, _, .nil => rfl
  | _, _, _, .cons _ t => by rw [List.length_cons, List.length_cons, SlRs.length t]
theorem v_ixO (i : Nat) {k : Nat} {x : Str} {xpos : Pos} (hr : Room k X.A) (hb : PV X b fb) (hs : PlainIx b := by intro _ _; rfl) (hN : X.N[i]? = some x := by rfl) (hv : Vis X.env.scope x := by first | exact Or.inl rfl | exact Or.inr (Or.inl rfl) | exact Or.inr (Or.inr rfl))
    (hd : (x == ("__debug__" : Str)) = false := by decide) (hcd : (x == ("__classdict__" : Str)) = false := by decide) : PV X (.Subscript (.Name x xpos) b pos) (getI i fb) := by
  obtain ⟨tb, pb, ob⟩ := hb.ex
  refine ⟨_, pe_sub (hu_of hr) (pe_var hN hv hd hcd) pb hs, fun G H st env F Q d re e k => ?_⟩
  simp only [getI] at e
  obtain ⟨s, e1, e⟩ := Option.bind_eq_some_iff.mp e
  obtain ⟨y, e2, e⟩ := Option.bind_eq_some_iff.mp e
  obtain ⟨xs, j, rfl, rfl, e3⟩ := itemF_some e
  obtain ⟨v, h1, h2⟩ := re.slot i _ (getS_some e1)
  refine ⟨v, h1, ob G H st env F _ _ re e2 fun v2 G2 H2 x2 r2 => ?_⟩
  cases r2
  obtain ⟨v', h1', h3⟩ := (re.ext x2).slot i _ (getS_some e1)
  rw [h1] at h1'
  cases h1'
  generalize F i = Fi at h3
  cases h3 with
  | ol g1 g2 =>
    unfold atI at e3
    obtain ⟨m, m1, m2⟩ := Option.bind_eq_some_iff.mp e3
    obtain ⟨w, F', w1, w2, _⟩ := g2.get m2
    cases w2 with
    | fz r => exact .inl ⟨_, _, _, w, rfl, rfl, SqL.of g1, by unfold atI; rw [g2.length, m1]; exact w1, k w G2 H2 x2 r⟩

/-! ### slices -/
structure SP1 (X : Cx) (e : Option Expr) (f : VL.Env → Option (Option Int)) : Prop where
  ex : ∃ t, L2.PO X e t ∧ ∀ (G H : Hp) (st : L2.St) (env : VL.Env) (F : Nat → List Addr) (Q : Option Int → Hp → Prop) (o : Option Int), ER X.K G H st env F → f env = some o →
    (∀ G' H', Ex G H G' H' → Q o H') → t st H Q
theorem s_none : SP1 X none (fun _ => some none) := ⟨_, po_none, fun G H st env F Q o re e k => by cases e; exact k G H (Ex.refl re.sub)⟩
def intOf : D → Option Int
  | .int i => some i
  | _ => none
@[simp] theorem intOf_int (i : Int) : intOf (.int i) = some i := rfl
theorem intOf_some {d : D} {i : Int} (h : intOf d = some i) : d = .int i := by
  cases d <;> first | (cases h; rfl) | cases h
theorem s_some (h : PW X e fa) : SP1 X (some e) (fun env => ((fa env).bind intOf).map some) := by
  obtain ⟨t, p, o⟩ := h.ex
  refine ⟨_, po_some p, fun G H st env F Q z re e k => ?_⟩
  obtain ⟨i, e1, e2⟩ := Option.map_eq_some_iff.mp e
  subst e2
  obtain ⟨d, e3, e4⟩ := Option.bind_eq_some_iff.mp e1
  obtain rfl := intOf_some e4
  refine o G H st env F _ _ re e3 fun v G' H' x1 r => ?_
  cases r
  exact ⟨i, rfl, k G' H' x1⟩
def cutD {α : Type} (xs : List α) (lo hi : Option Int) : List α := (xs.drop (HT.sIx xs.length 0 lo)).take (HT.sIx xs.length xs.length hi - HT.sIx xs.length 0 lo)
theorem RpL.cut {K : PySem.W.Frag} {H : Hp} {vs : List V} {ds : List D} (h : RpL K H vs ds) (lo hi : Option Int) : RpL K H (cutV vs lo hi) (cutD ds lo hi) := by
  unfold cutV cutD
  rw [h.length]
  exact (h.drop _).take _
def lstOf : D → Option (List D)
  | .lst xs => some xs
  | _ => none
@[simp] theorem lstOf_lst (xs : List D) : lstOf (.lst xs) = some xs := rfl
theorem lstOf_some {d : D} {xs : List D} (h : lstOf d = some xs) : d = .lst xs := by
  cases d <;> first | (cases h; rfl) | cases h
theorem l_slice {lo hi : Option Expr} {p2 : Pos} {fl fh : VL.Env → Option (Option Int)} (ha : PV X a fa) (hl : SP1 X lo fl) (hh : SP1 X hi fh) :
    PL X (.Subscript a (.Slice lo hi none p2) pos) (fun env => (fa env).bind fun d => (lstOf d).bind fun xs => (fl env).bind fun l => (fh env).bind fun h => some (cutD xs l h)) := by
  obtain ⟨t, p, o⟩ := ha.ex
  obtain ⟨tl, pl, ol⟩ := hl.ex
  obtain ⟨th, ph, oh⟩ := hh.ex
  refine ⟨_, pe_slice sl_list p pl ph, fun G H st env F Q ds re e k => ?_⟩
  obtain ⟨d, e1, e⟩ := Option.bind_eq_some_iff.mp e
  obtain ⟨xs, e2, e⟩ := Option.bind_eq_some_iff.mp e
  obtain ⟨l, e3, e⟩ := Option.bind_eq_some_iff.mp e
  obtain ⟨h, e4, e⟩ := Option.bind_eq_some_iff.mp e
  cases e
  obtain rfl := lstOf_some e2
  refine o G H st env F _ _ re e1 fun v G1 H1 x1 r1 => ol G1 H1 st env F _ _ (re.ext x1) e3 fun G2 H2 x2 => oh G2 H2 st env F _ _ ((re.ext x1).ext x2) e4 fun G3 H3 x3 => ?_
  have x123 := (x1.trans x2).trans x3
  cases r1 with
  | lst h1 l1 =>
    refine ⟨_, _, rfl, SqL.of (x3.hh _ _ (x2.hh _ _ (x1.gh _ _ h1))), fun p np => ?_⟩
    exact k p _ G3 _ (x123.trans (Ex.own x123.gh np)) (x123.hh.free np) (x123.gh.free np) upd_same ((l1.cut l h).up (x2.gg.trans x3.gg))

/-! ### calls of built-ins -/
def CallW (X : Cx) (f : Value) (g : List D → Option D) : Prop :=
  ∃ r : List V → Hp → VK → Prop, CallR X f r ∧ ∀ (G H : Hp) (vs : List V) (ds : List D) (z : D) (Q : VK), Same G H → RpL X.K H vs ds → g ds = some z → (∀ v G' H', Ex G H G' H' → Rp X.K G' v z → Q v H') → r vs H Q
def CallL (X : Cx) (f : Value) (g : List D → Option (List D)) : Prop :=
  ∃ r : List V → Hp → VK → Prop, CallR X f r ∧ ∀ (G H : Hp) (vs : List V) (ds : List D) (z : List D) (Q : VK), Same G H → RpL X.K G vs ds → g ds = some z →
    (∀ p us G' H', Ex G H G' H' → H p = none → G' p = none → H' p = some (.lst us) → RpL X.K G' us z → Q (.ref p) H') → r vs H Q
@[simp] def cB (fs : VL.Env → Option (List D)) (g : List D → Option D) : VL.Env → Option D := fun env => (fs env).bind g
@[simp] def cL (fs : VL.Env → Option (List D)) (g : List D → Option (List D)) : VL.Env → Option (List D) := fun env => (fs env).bind g
variable {x : Str} {p : Pos} {id : String} {es : List Expr} {fs : VL.Env → Option (List D)}
theorem v_callB {g : List D → Option D} (hc : CallW X (.builtin id) g) (hg : Gl X x) (hm : X.mg x = none) (hv : bootBuiltins x = some (.builtin id)) (ha : AW X (e :: es) fs) (hn : x ≠ "__name__" := by decide) (hdb : (x == ("__debug__" : Str)) = false := by decide)
    (he : starEach (e :: es) X.env = (false, eval e X.env) :: starEach es X.env := by rfl) (hpl : (backTo pos (starEach es X.env)).any (·.1) = false := by rfl) : PV X (.Call (.Name x p) (e :: es) [] pos) (cB fs g) := by
  obtain ⟨r, hr, o⟩ := hc
  obtain ⟨t, pa, oa⟩ := ha.ex
  refine ⟨_, pe_callB hr hg hm hv pa hn hdb he hpl, fun G H st env F Q d re e k => ?_⟩
  obtain ⟨ds, e1, e2⟩ := Option.bind_eq_some_iff.mp e
  exact oa G H st env F _ _ re e1 fun vs G1 H1 x1 r1 => o G1 H1 vs ds d Q x1.gh r1 e2 fun v G' H' x2 r2 => k v G' H' (x1.trans x2) r2
theorem v_callT {g : List D → Option D} (hc : CallW X (.type id) g) (hg : Gl X x) (hm : X.mg x = none) (hv : bootBuiltins x = some (.type id)) (ha : AW X (e :: es) fs) (hn : x ≠ "__name__" := by decide) (hdb : (x == ("__debug__" : Str)) = false := by decide)
    (he : starEach (e :: es) X.env = (false, eval e X.env) :: starEach es X.env := by rfl) (hpl : (backTo pos (starEach es X.env)).any (·.1) = false := by rfl) : PV X (.Call (.Name x p) (e :: es) [] pos) (cB fs g) := by
  obtain ⟨r, hr, o⟩ := hc
  obtain ⟨t, pa, oa⟩ := ha.ex
  refine ⟨_, pe_callTy hr hg hm hv pa hn hdb he hpl, fun G H st env F Q d re e k => ?_⟩
  obtain ⟨ds, e1, e2⟩ := Option.bind_eq_some_iff.mp e
  exact oa G H st env F _ _ re e1 fun vs G1 H1 x1 r1 => o G1 H1 vs ds d Q x1.gh r1 e2 fun v G' H' x2 r2 => k v G' H' (x1.trans x2) r2
theorem l_callB {g : List D → Option (List D)} (hc : CallL X (.builtin id) g) (hg : Gl X x) (hm : X.mg x = none) (hv : bootBuiltins x = some (.builtin id)) (ha : AV X (e :: es) fs) (hn : x ≠ "__name__" := by decide) (hdb : (x == ("__debug__" : Str)) = false := by decide)
    (he : starEach (e :: es) X.env = (false, eval e X.env) :: starEach es X.env := by rfl) (hpl : (backTo pos (starEach es X.env)).any (·.1) = false := by rfl) : PL X (.Call (.Name x p) (e :: es) [] pos) (cL fs g) := by
  obtain ⟨r, hr, o⟩ := hc
  obtain ⟨t, pa, oa⟩ := ha.ex
  refine ⟨_, pe_callB hr hg hm hv pa hn hdb he hpl, fun G H st env F Q d re e k => ?_⟩
  obtain ⟨ds, e1, e2⟩ := Option.bind_eq_some_iff.mp e
  exact oa G H st env F _ _ re e1 fun vs G1 H1 x1 r1 => o G1 H1 vs ds d Q x1.gh r1 e2 fun p us G' H' x2 n1 n2 h r2 => k p us G' H' (x1.trans x2) (x1.hh.free n1) n2 h r2
theorem l_callT {g : List D → Option (List D)} (hc : CallL X (.type id) g) (hg : Gl X x) (hm : X.mg x = none) (hv : bootBuiltins x = some (.type id)) (ha : AV X (e :: es) fs) (hn : x ≠ "__name__" := by decide) (hdb : (x == ("__debug__" : Str)) = false := by decide)
    (he : starEach (e :: es) X.env = (false, eval e X.env) :: starEach es X.env := by rfl) (hpl : (backTo pos (starEach es X.env)).any (·.1) = false := by rfl) : PL X (.Call (.Name x p) (e :: es) [] pos) (cL fs g) := by
  obtain ⟨r, hr, o⟩ := hc
  obtain ⟨t, pa, oa⟩ := ha.ex
  refine ⟨_, pe_callTy hr hg hm hv pa hn hdb he hpl, fun G H st env F Q d re e k => ?_⟩
  obtain ⟨ds, e1, e2⟩ := Option.bind_eq_some_iff.mp e
  exact oa G H st env F _ _ re e1 fun vs G1 H1 x1 r1 => o G1 H1 vs ds d Q x1.gh r1 e2 fun p us G' H' x2 n1 n2 h r2 => k p us G' H' (x1.trans x2) (x1.hh.free n1) n2 h r2
def intsOf : List D → Option (List Int)
  | [] => some []
  | d :: ds => (intOf d).bind fun i => (intsOf ds).map (i :: ·)
@[simp] theorem intsOf_map : ∀ ns : List Int, intsOf (ns.map D.int) = some ns
  | [] => rfl
  | n :: ns => by
    show (intOf (.int n)).bind _ = _
    rw [intsOf_map ns]; rfl
theorem intsOf_some : ∀ {ds : List D} {ns : List Int}, intsOf ds = some ns → ds = ns.map D.int
  | [], _, h => by cases h; rfl
  | d :: ds, _, h => by
    obtain ⟨i, h1, h2⟩ := Option.bind_eq_some_iff.mp (show (intOf d).bind _ = _ from h)
    obtain ⟨ns, h3, h4⟩ := Option.map_eq_some_iff.mp h2
    subst h4
    rw [intOf_some h1, intsOf_some h3]; rfl
def blsOf : List D → Option (List Bool)
  | [] => some []
  | d :: ds => (bOf d).bind fun i => (blsOf ds).map (i :: ·)
@[simp] theorem blsOf_map : ∀ ns : List Bool, blsOf (ns.map D.bl) = some ns
  | [] => rfl
  | n :: ns => by
    show (bOf (.bl n)).bind _ = _
    rw [blsOf_map ns]; rfl
theorem blsOf_some : ∀ {ds : List D} {ns : List Bool}, blsOf ds = some ns → ds = ns.map D.bl
  | [], _, h => by cases h; rfl
  | d :: ds, _, h => by
    obtain ⟨i, h1, h2⟩ := Option.bind_eq_some_iff.mp (show (bOf d).bind _ = _ from h)
    obtain ⟨ns, h3, h4⟩ := Option.map_eq_some_iff.mp h2
    subst h4
    rw [bOf_some h1, blsOf_some h3]; rfl
def dLen : List D → Option D
  | [.lst xs] => some (.int xs.length)
  | [.tup xs] => some (.int xs.length)
  | [.str x] => if x.length ≤ sizeLine then some (.int x.length) else none
  | _ => none
theorem c_len : CallW X (.builtin "len") dLen := by
  refine ⟨_, call_len, fun G H vs ds z Q s r q k => ?_⟩
  unfold dLen at q
  split at q
  · cases q
    cases r with
    | cons r1 r2 =>
      cases r2
      cases r1 with
      | lst h l => exact ⟨_, _, rfl, .inl ⟨_, SqL.of h, rfl⟩, by rw [l.length]; exact k _ _ _ (Ex.refl s) (.int _)⟩
  · cases q
    cases r with
    | cons r1 r2 =>
      cases r2
      cases r1 with
      | tup h l => exact ⟨_, _, rfl, .inr ⟨_, SqT.of h, rfl⟩, by rw [l.length]; exact k _ _ _ (Ex.refl s) (.int _)⟩
  · split at q
    · rename_i hl
      cases q
      cases r with
      | cons r1 r2 =>
        cases r2
        cases r1
        exact ⟨_, _, rfl, ⟨hl, rfl⟩, k _ _ _ (Ex.refl s) (.int _)⟩
    · cases q
  · cases q
def dSum : List D → Option D
  | [.lst xs] => (intsOf xs).map fun ns => .int ns.sum
  | _ => none
theorem c_sum (hc : X.calm = true) : CallW X (.builtin "sum") dSum := by
  refine ⟨_, cr_sum hc, fun G H vs ds z Q s r q k => ?_⟩
  unfold dSum at q
  split at q
  · obtain ⟨ns, e1, e2⟩ := Option.map_eq_some_iff.mp q
    subst e2
    obtain rfl := intsOf_some e1
    cases r with
    | cons r1 r2 =>
      cases r2
      cases r1 with
      | lst h l =>
        rw [l.ints] at h
        exact ⟨_, ns, rfl, SqL.of h, k _ _ _ (Ex.refl s) (.int _)⟩
  · cases q
def dAny : List D → Option D
  | [.lst xs] => (blsOf xs).map fun ns => .bl (ns.any _root_.id)
  | _ => none
def dAll : List D → Option D
  | [.lst xs] => (blsOf xs).map fun ns => .bl (ns.all _root_.id)
  | _ => none
theorem c_any (hc : X.calm = true) : CallW X (.builtin "any") dAny := by
  refine ⟨_, cr_any hc, fun G H vs ds z Q s r q k => ?_⟩
  unfold dAny at q
  split at q
  · obtain ⟨ns, e1, e2⟩ := Option.map_eq_some_iff.mp q
    subst e2
    obtain rfl := blsOf_some e1
    cases r with
    | cons r1 r2 =>
      cases r2
      cases r1 with
      | lst h l =>
        rw [l.bls] at h
        exact ⟨_, ns, rfl, SqL.of h, k _ _ _ (Ex.refl s) (.bl _)⟩
  · cases q
theorem c_all (hc : X.calm = true) : CallW X (.builtin "all") dAll := by
  refine ⟨_, cr_all hc, fun G H vs ds z Q s r q k => ?_⟩
  unfold dAll at q
  split at q
  · obtain ⟨ns, e1, e2⟩ := Option.map_eq_some_iff.mp q
    subst e2
    obtain rfl := blsOf_some e1
    cases r with
    | cons r1 r2 =>
      cases r2
      cases r1 with
      | lst h l =>
        rw [l.bls] at h
        exact ⟨_, ns, rfl, SqL.of h, k _ _ _ (Ex.refl s) (.bl _)⟩
  · cases q
/-- the greatest, the least of ints -/
def maxI : List Int → Int
  | [] => 0
  | x :: xs => xs.foldl max x
def minI : List Int → Int
  | [] => 0
  | x :: xs => xs.foldl min x
theorem foldl_max_ge : ∀ (xs : List Int) (x : Int), x ≤ xs.foldl max x ∧ ∀ y ∈ xs, y ≤ xs.foldl max x
  | [], x => ⟨Int.le_refl _, fun y h => by cases h⟩
  | z :: xs, x => by
    obtain ⟨h1, h2⟩ := foldl_max_ge xs (max x z)
    refine ⟨Int.le_trans (Int.le_max_left _ _) h1, fun y h => ?_⟩
    rcases List.mem_cons.mp h with rfl | h
    · exact Int.le_trans (Int.le_max_right _ _) h1
    · exact h2 y h
theorem foldl_max_mem : ∀ (xs : List Int) (x : Int), xs.foldl max x = x ∨ xs.foldl max x ∈ xs
  | [], x => .inl rfl
  | z :: xs, x => by
    rcases foldl_max_mem xs (max x z) with h | h
    · show (xs.foldl max (max x z)) = x ∨ (xs.foldl max (max x z)) ∈ z :: xs
      rw [h]
      by_cases c : x ≤ z
      · rw [Int.max_eq_right c]; exact .inr List.mem_cons_self
      · rw [Int.max_eq_left (by omega)]; exact .inl rfl
    · exact .inr (List.mem_cons_of_mem _ h)
theorem foldl_min_le : ∀ (xs : List Int) (x : Int), xs.foldl min x ≤ x ∧ ∀ y ∈ xs, xs.foldl min x ≤ y
  | [], x => ⟨Int.le_refl _, fun y h => by cases h⟩
  | z :: xs, x => by
    obtain ⟨h1, h2⟩ := foldl_min_le xs (min x z)
    refine ⟨Int.le_trans h1 (Int.min_le_left _ _), fun y h => ?_⟩
    rcases List.mem_cons.mp h with rfl | h
    · exact Int.le_trans h1 (Int.min_le_right _ _)
    · exact h2 y h
theorem foldl_min_mem : ∀ (xs : List Int) (x : Int), xs.foldl min x = x ∨ xs.foldl min x ∈ xs
  | [], x => .inl rfl
  | z :: xs, x => by
    rcases foldl_min_mem xs (min x z) with h | h
    · show (xs.foldl min (min x z)) = x ∨ (xs.foldl min (min x z)) ∈ z :: xs
      rw [h]
      by_cases c : x ≤ z
      · rw [Int.min_eq_left c]; exact .inl rfl
      · rw [Int.min_eq_right (by omega)]; exact .inr List.mem_cons_self
    · exact .inr (List.mem_cons_of_mem _ h)
theorem maxI_mem {ns : List Int} (h : ns ≠ []) : maxI ns ∈ ns := by
  cases ns with
  | nil => exact absurd rfl h
  | cons x xs => rcases foldl_max_mem xs x with q | q; exact (show xs.foldl max x ∈ _ by rw [q]; exact List.mem_cons_self); exact List.mem_cons_of_mem _ q
theorem maxI_ge {ns : List Int} {y : Int} (h : y ∈ ns) : y ≤ maxI ns := by
  cases ns with
  | nil => cases h
  | cons x xs => rcases List.mem_cons.mp h with rfl | h; exact (foldl_max_ge xs y).1; exact (foldl_max_ge xs x).2 y h
theorem minI_mem {ns : List Int} (h : ns ≠ []) : minI ns ∈ ns := by
  cases ns with
  | nil => exact absurd rfl h
  | cons x xs => rcases foldl_min_mem xs x with q | q; exact (show xs.foldl min x ∈ _ by rw [q]; exact List.mem_cons_self); exact List.mem_cons_of_mem _ q
theorem minI_le {ns : List Int} {y : Int} (h : y ∈ ns) : minI ns ≤ y := by
  cases ns with
  | nil => cases h
  | cons x xs => rcases List.mem_cons.mp h with rfl | h; exact (foldl_min_le xs y).1; exact (foldl_min_le xs x).2 y h
def dMax : List D → Option D
  | [.lst xs] => (intsOf xs).bind fun ns => if ns = [] then none else some (.int (maxI ns))
  | [.int i, .int j] => some (.int (max i j))
  | _ => none
def dMin : List D → Option D
  | [.lst xs] => (intsOf xs).bind fun ns => if ns = [] then none else some (.int (minI ns))
  | [.int i, .int j] => some (.int (min i j))
  | _ => none
theorem c_max (hc : X.calm = true) : CallW X (.builtin "max") dMax := by
  refine ⟨_, (cr_max hc).or (call_max2 hc), fun G H vs ds z Q s r q k => ?_⟩
  unfold dMax at q
  split at q
  · obtain ⟨ns, e1, e2⟩ := Option.bind_eq_some_iff.mp q
    split at e2
    · cases e2
    · rename_i hne
      cases e2
      obtain rfl := intsOf_some e1
      cases r with
      | cons r1 r2 =>
        cases r2
        cases r1 with
        | lst h l =>
          rw [l.ints] at h
          refine .inl ⟨_, ns, rfl, SqL.of h, List.length_pos_iff.mpr hne, fun m hm hg => ?_⟩
          have : m = maxI ns := Int.le_antisymm (maxI_ge hm) (hg _ (maxI_mem hne))
          subst this
          exact k _ _ _ (Ex.refl s) (.int _)
  · cases q
    cases r with
    | cons r1 r2 =>
      cases r2 with
      | cons r2 r3 =>
        cases r3; cases r1; cases r2
        rename_i i j
        refine .inr ⟨i, j, rfl, ?_⟩
        have : (if j > i then j else i) = max i j := by split <;> omega
        rw [this]
        exact k _ _ _ (Ex.refl s) (.int _)
  · cases q
theorem c_min (hc : X.calm = true) : CallW X (.builtin "min") dMin := by
  refine ⟨_, (cr_min hc).or (call_min2 hc), fun G H vs ds z Q s r q k => ?_⟩
  unfold dMin at q
  split at q
  · obtain ⟨ns, e1, e2⟩ := Option.bind_eq_some_iff.mp q
    split at e2
    · cases e2
    · rename_i hne
      cases e2
      obtain rfl := intsOf_some e1
      cases r with
      | cons r1 r2 =>
        cases r2
        cases r1 with
        | lst h l =>
          rw [l.ints] at h
          refine .inl ⟨_, ns, rfl, SqL.of h, List.length_pos_iff.mpr hne, fun m hm hg => ?_⟩
          have : m = minI ns := Int.le_antisymm (hg _ (minI_mem hne)) (minI_le hm)
          subst this
          exact k _ _ _ (Ex.refl s) (.int _)
  · cases q
    cases r with
    | cons r1 r2 =>
      cases r2 with
      | cons r2 r3 =>
        cases r3; cases r1; cases r2
        rename_i i j
        refine .inr ⟨i, j, rfl, ?_⟩
        have : (if j < i then j else i) = min i j := by split <;> omega
        rw [this]
        exact k _ _ _ (Ex.refl s) (.int _)
  · cases q
def dAbs : List D → Option D
  | [.int i] => some (.int i.natAbs)
  | _ => none
theorem c_abs : CallW X (.builtin "abs") dAbs := by
  refine ⟨_, call_abs, fun G H vs ds z Q s r q k => ?_⟩
  unfold dAbs at q
  split at q
  · cases q
    cases r with
    | cons r1 r2 =>
      cases r2; cases r1
      rename_i i
      refine ⟨i, rfl, ?_⟩
      have : (if i < 0 then -i else i) = (i.natAbs : Int) := by split <;> omega
      rw [this]
      exact k _ _ _ (Ex.refl s) (.int _)
  · cases q
def dInt : List D → Option D
  | [.int i] => some (.int i)
  | [.bl b] => some (.int (if b then 1 else 0))
  | _ => none
theorem c_int : CallW X (.type "int") dInt := by
  refine ⟨_, call_int1, fun G H vs ds z Q s r q k => ?_⟩
  unfold dInt at q
  split at q
  · cases q
    cases r with
    | cons r1 r2 => cases r2; cases r1; exact .inl ⟨_, rfl, k _ _ _ (Ex.refl s) (.int _)⟩
  · cases q
    cases r with
    | cons r1 r2 => cases r2; cases r1; exact .inr ⟨_, rfl, k _ _ _ (Ex.refl s) (.int _)⟩
  · cases q
def dList : List D → Option (List D)
  | [.lst xs] => some xs
  | [.tup xs] => some xs
  | _ => none
theorem c_list : CallL X (.type "list") dList := by
  refine ⟨_, call_list_of, fun G H vs ds z Q s r q k => ?_⟩
  unfold dList at q
  split at q
  · cases q
    cases r with
    | cons r1 r2 =>
      cases r2
      cases r1 with
      | lst h l => exact ⟨_, _, rfl, .inl (SqL.of (s _ _ h)), fun p np => k p _ G _ (Ex.own s np) np (s.free np) upd_same l⟩
  · cases q
    cases r with
    | cons r1 r2 =>
      cases r2
      cases r1 with
      | tup h l => exact ⟨_, _, rfl, .inr (SqT.of (s _ _ h)), fun p np => k p _ G _ (Ex.own s np) np (s.free np) upd_same l⟩
  · cases q
end
end VL

set_option Elab.async false
set_option linter.all false
set_option maxRecDepth 100000
/-! VL5: targets, walks, comprehensions, calls of own defs. -/
namespace VL
open PySem PySem.Spec PyProof.Rows L2

/-! ### slots set -/
section
variable {K : PySem.W.Frag} {G H : Hp} {st : L2.St} {env : VL.Env} {F : Nat → List Addr}
def putFp (F : Nat → List Addr) (i : Nat) (l : List Addr) : Nat → List Addr := fun j => if j = i then l else F j
theorem get_set {α : Type} {l : List α} {i j : Nat} {a b : α} (h : (l.set i a)[j]? = some b) : (j = i ∧ i < l.length ∧ b = a) ∨ (j ≠ i ∧ l[j]? = some b) := by
  by_cases e : i = j
  · subst e
    by_cases hl : i < l.length
    · rw [List.getElem?_set_self hl] at h
      exact .inl ⟨rfl, hl, (Option.some.inj h).symm⟩
    · rw [List.getElem?_eq_none (by simpa using hl)] at h
      cases h
  · rw [List.getElem?_set_ne e] at h
    exact .inr ⟨fun z => e z.symm, h⟩
theorem ER.setO (r : ER K G H st env F) (i : Nat) {v : V} {s : S} {l : List Addr} (h : SlR K G H v s l) (n : l.Nodup) (off : ∀ a ∈ l, G a = none) (dj : ∀ j, j ≠ i → ∀ a ∈ l, a ∉ F j) (hi : i < env.length) :
    ER K G H (st.set i (some v)) (env.set i (some s)) (putFp F i l) := by
  refine ⟨r.sub, by rw [List.length_set, List.length_set]; exact r.len, fun j t e => ?_, fun j hj => ?_, fun j a m => ?_, fun j => ?_, fun j k a m m' => ?_⟩
  · rcases get_set e with ⟨rfl, _, e⟩ | ⟨ne, e⟩
    · cases e
      refine ⟨v, ?_, ?_⟩
      · rw [List.getElem?_set_self (by rw [← r.len]; exact hi)]
      · unfold putFp; rw [if_pos rfl]; exact h
    · obtain ⟨w, h1, h2⟩ := r.slot j t e
      refine ⟨w, by rw [List.getElem?_set_ne (Ne.symm ne)]; exact h1, ?_⟩
      unfold putFp; rw [if_neg ne]; exact h2
  · unfold putFp
    by_cases c : j = i
    · subst c
      exact absurd (List.getElem?_set_self hi) (hj s)
    · rw [if_neg c]
      exact r.out j fun t e => hj t (by rw [List.getElem?_set_ne (Ne.symm c)]; exact e)
  · unfold putFp at m
    split at m
    · exact off a m
    · exact r.off j a m
  · unfold putFp
    split
    · exact n
    · exact r.nd j
  · unfold putFp at m m'
    split at m <;> split at m'
    · rename_i c c'; rw [c, c']
    · rename_i c c'; exact absurd m' (dj k c' a m)
    · rename_i c c'; exact absurd m (dj j c a m')
    · exact r.dj j k a m m'
theorem ER.setF (r : ER K G H st env F) (i : Nat) {v : V} {d : D} (h : Rp K G v d) : ER K G H (st.set i (some v)) (env.set i (some (.fz d))) (putFp F i []) := by
  by_cases hi : i < env.length
  · exact r.setO i (.fz h) .nil (fun a m => by cases m) (fun j _ a m => by cases m) hi
  · have e1 : env.set i (some (.fz d)) = env := List.set_eq_of_length_le (by omega)
    have e2 : st.set i (some v) = st := List.set_eq_of_length_le (by rw [← r.len]; omega)
    rw [e1, e2]
    have : putFp F i [] = F := by
      funext j
      unfold putFp
      split
      · rename_i c; subst c
        exact (r.out j fun s e => by rw [List.getElem?_eq_none (by omega)] at e; cases e).symm
      · rfl
    rw [this]; exact r
/-- a slot forgotten -/
theorem ER.drop1 (r : ER K G H st env F) (i : Nat) : ER K G H (st.set i none) (env.set i none) (putFp F i []) := by
  refine ⟨r.sub, by rw [List.length_set, List.length_set]; exact r.len, fun j t e => ?_, fun j hj => ?_, fun j a m => ?_, fun j => ?_, fun j k a m m' => ?_⟩
  · rcases get_set e with ⟨rfl, _, e⟩ | ⟨ne, e⟩
    · cases e
    · obtain ⟨w, h1, h2⟩ := r.slot j t e
      refine ⟨w, by rw [List.getElem?_set_ne (Ne.symm ne)]; exact h1, ?_⟩
      unfold putFp; rw [if_neg ne]; exact h2
  · unfold putFp
    by_cases c : j = i
    · rw [if_pos c]
    · rw [if_neg c]
      exact r.out j fun t e => hj t (by rw [List.getElem?_set_ne (Ne.symm c)]; exact e)
  · unfold putFp at m
    split at m
    · cases m
    · exact r.off j a m
  · unfold putFp
    split
    · exact .nil
    · exact r.nd j
  · unfold putFp at m m'
    split at m <;> split at m'
    · cases m
    · cases m
    · cases m'
    · exact r.dj j k a m m'
/-- .. on the proof's side alone -/
theorem ER.hide (r : ER K G H st env F) (i : Nat) : ER K G H st (env.set i none) (putFp F i []) := by
  refine ⟨r.sub, by rw [List.length_set]; exact r.len, fun j t e => ?_, fun j hj => ?_, fun j a m => ?_, fun j => ?_, fun j k a m m' => ?_⟩
  · rcases get_set e with ⟨rfl, _, e⟩ | ⟨ne, e⟩
    · cases e
    · obtain ⟨w, h1, h2⟩ := r.slot j t e
      refine ⟨w, h1, ?_⟩
      unfold putFp; rw [if_neg ne]; exact h2
  · unfold putFp
    by_cases c : j = i
    · rw [if_pos c]
    · rw [if_neg c]
      exact r.out j fun t e => hj t (by rw [List.getElem?_set_ne (Ne.symm c)]; exact e)
  · unfold putFp at m
    split at m
    · cases m
    · exact r.off j a m
  · unfold putFp
    split
    · exact .nil
    · exact r.nd j
  · unfold putFp at m m'
    split at m <;> split at m'
    · cases m
    · cases m
    · cases m'
    · exact r.dj j k a m m'
theorem putFp_sub {F : Nat → List Addr} {i j : Nat} {a : Addr} (h : a ∈ putFp F i [] j) : a ∈ F j := by
  unfold putFp at h
  split at h
  · cases h
  · exact h
def wipeE (env : VL.Env) : List Nat → VL.Env
  | [] => env
  | v :: vs => (wipeE env vs).set v none
theorem ER.wipe (r : ER K G H st env F) : ∀ vs : List Nat, ∃ F', ER K G H (L2.wipe st vs) (wipeE env vs) F' ∧ ∀ i a, a ∈ F' i → a ∈ F i
  | [] => ⟨F, r, fun _ _ h => h⟩
  | v :: vs => by
    obtain ⟨F', h1, h2⟩ := ER.wipe r vs
    exact ⟨_, h1.drop1 v, fun i a m => h2 i a (putFp_sub m)⟩
end
theorem wipe_set {α : Type} {o : Option V} (st : L2.St) {i : Nat} : ∀ {vs : List Nat}, i ∈ vs → L2.wipe (st.set i o) vs = L2.wipe st vs
  | v :: vs, h => by
    show (L2.wipe (st.set i o) vs).set v none = (L2.wipe st vs).set v none
    by_cases m : i ∈ vs
    · rw [wipe_set (α := α) st m]
    · rcases List.mem_cons.mp h with rfl | h
      · clear m h
        induction vs with
        | nil => show (st.set i o).set i none = st.set i none; rw [List.set_set]
        | cons u us ih =>
          show ((L2.wipe (st.set i o) us).set u none).set i none = ((L2.wipe st us).set u none).set i none
          by_cases c : u = i
          · subst c; rw [List.set_set, List.set_set]; exact ih
          · rw [List.set_comm _ _ c, List.set_comm _ _ c, ih]
      · exact absurd h m
theorem wipe_set1 {vs : List Nat} (st : L2.St) {i : Nat} (o : Option V) (h : i ∈ vs) : L2.wipe (st.set i o) vs = L2.wipe st vs := wipe_set (α := Nat) st h
theorem wipe_idem' (st : L2.St) (ws : List Nat) : ∀ {vs : List Nat}, (∀ i ∈ vs, i ∈ ws) → L2.wipe (L2.wipe st vs) ws = L2.wipe st ws
  | [], _ => rfl
  | v :: vs, h => by
    show L2.wipe ((L2.wipe st vs).set v none) ws = _
    rw [wipe_set1 _ _ (h v List.mem_cons_self)]
    exact wipe_idem' st ws fun i m => h i (List.mem_cons_of_mem _ m)
theorem wipe_idem (st : L2.St) (vs : List Nat) : L2.wipe (L2.wipe st vs) vs = L2.wipe st vs := wipe_idem' st vs fun _ h => h

/-! ### targets: names, tuples of names -/
/-- what a store of data at a target does: the slots ts are set -/
def TgOk (K : PySem.W.Frag) (ts : List Nat) (f : D → VL.Env → Option VL.Env) (g : TG) : Prop :=
  ∀ (G H : Hp) (st : L2.St) (env : VL.Env) (F : Nat → List Addr) (v : V) (d : D) (env' : VL.Env) (Q : L2.St → Hp → Prop), ER K G H st env F → Rp K G v d → f d env = some env' →
    (∀ st' F', ER K G H st' env' F' → (∀ i a, a ∈ F' i → a ∈ F i) → (∀ vs, (∀ i ∈ ts, i ∈ vs) → L2.wipe st' vs = L2.wipe st vs) → Q st' H) → g v st H Q
structure TG1 (X : Cx) (tg : Expr) (ts : List Nat) (f : D → VL.Env → Option VL.Env) : Prop where
  ex : ∃ g, PG X tg g ∧ TgOk X.K ts f g
def TgsOk (K : PySem.W.Frag) (ts : List Nat) (f : List D → VL.Env → Option VL.Env) (g : TGs) : Prop :=
  ∀ (G H : Hp) (st : L2.St) (env : VL.Env) (F : Nat → List Addr) (vs : List V) (ds : List D) (env' : VL.Env) (Q : L2.St → Hp → Prop), ER K G H st env F → RpL K G vs ds → f ds env = some env' →
    (∀ st' F', ER K G H st' env' F' → (∀ i a, a ∈ F' i → a ∈ F i) → (∀ vs, (∀ i ∈ ts, i ∈ vs) → L2.wipe st' vs = L2.wipe st vs) → Q st' H) → g vs st H Q
structure TGn (X : Cx) (tgs : List Expr) (n : Nat) (ts : List Nat) (f : List D → VL.Env → Option VL.Env) : Prop where
  len : ∀ ds env env', f ds env = some env' → ds.length = n
  ex : ∃ g, PGs X tgs g ∧ TgsOk X.K ts f g
@[simp] def gN (i : Nat) : D → VL.Env → Option VL.Env := fun d env => some (env.set i (some (.fz d)))
@[simp] def gs0 : List D → VL.Env → Option VL.Env
  | [], env => some env
  | _, _ => none
@[simp] def gsC (f : D → VL.Env → Option VL.Env) (g : List D → VL.Env → Option VL.Env) : List D → VL.Env → Option VL.Env
  | d :: ds, env => (f d env).bind (g ds)
  | _, _ => none
@[simp] def gT (g : List D → VL.Env → Option VL.Env) : D → VL.Env → Option VL.Env
  | .tup ds, env => g ds env
  | _, _ => none
section
variable {X : Cx} {pos : Pos}
theorem g_name (i : Nat) {x : Str} (hN : X.N.Nodup) (hi : X.N[i]? = some x := by rfl) (hx : Loc X.env.scope x := by first | exact Or.inl rfl | exact Or.inr rfl)
    (hf : X.fn x = true ∨ X.env.scope.names.lookup x = some .local := by first | exact .inl rfl | exact .inr rfl) : TG1 X (.Name x pos) [i] (gN i) := by
  refine ⟨gName i, pg_name hN hi hx hf, fun G H st env F v d env' Q r rv e k => ?_⟩
  cases e
  exact k _ _ (r.setF i rv) (fun j a m => putFp_sub m) fun vs h => wipe_set1 st _ (h i List.mem_cons_self)
theorem gs_nil : TGn X [] 0 [] gs0 := by
  refine ⟨fun ds env env' e => ?_, gNil, pgs_nil, fun G H st env F vs ds env' Q r rv e k => ?_⟩
  · cases ds with
    | nil => rfl
    | cons d ds => cases e
  · cases ds with
    | nil =>
      cases rv; cases e
      exact ⟨rfl, k st F r (fun _ _ h => h) fun _ _ => rfl⟩
    | cons d ds => cases e
theorem gs_cons {tg : Expr} {tgs : List Expr} {ts us : List Nat} {n : Nat} {f : D → VL.Env → Option VL.Env} {g : List D → VL.Env → Option VL.Env} (h1 : TG1 X tg ts f) (h2 : TGn X tgs n us g)
    (hs : (assignEach (tg :: tgs) X.env).map (·.2) = assign tg X.env :: (assignEach tgs X.env).map (·.2) := by rfl) : TGn X (tg :: tgs) (n + 1) (ts ++ us) (gsC f g) := by
  obtain ⟨a, pa, oa⟩ := h1.ex
  obtain ⟨hl, b, pb, ob⟩ := h2
  refine ⟨fun ds env env' e => ?_, _, pgs_cons pa pb hs, fun G H st env F vs ds env' Q r rv e k => ?_⟩
  · cases ds with
    | nil => cases e
    | cons d ds =>
      obtain ⟨e1, h1, h2⟩ := Option.bind_eq_some_iff.mp (show (f d env).bind (g ds) = some env' from e)
      rw [List.length_cons, hl _ _ _ h2]
  · cases ds with
    | nil => cases e
    | cons d ds =>
      obtain ⟨e1, h1, h2⟩ := Option.bind_eq_some_iff.mp (show (f d env).bind (g ds) = some env' from e)
      cases rv with
      | cons rv rvs =>
        exact ⟨_, _, rfl, oa G H st env F _ d e1 _ r rv h1 fun st1 F1 r1 s1 w1 => ob G H st1 e1 F1 _ ds env' _ r1 rvs h2 fun st2 F2 r2 s2 w2 => k st2 F2 r2 (fun i a m => s1 i a (s2 i a m)) fun ws hw => by
          rw [w2 ws fun i m => hw i (List.mem_append_right _ m), w1 ws fun i m => hw i (List.mem_append_left _ m)]⟩
theorem g_tup {es : List Expr} {k : Nat} {n : Nat} {ts : List Nat} {g : List D → VL.Env → Option VL.Env} (hc : X.calm = true) (h : TGn X es n ts g)
    (hn : (assignEach es X.env).length = n := by rfl) (hst : (assignEach es X.env).findIdx? (·.1) = none := by rfl) : TG1 X (.Tuple es k pos) ts (gT g) := by
  obtain ⟨hl, b, pb, ob⟩ := h
  refine ⟨_, pg_tup hc pb hn hst, fun G H st env F v d env' Q r rv e kk => ?_⟩
  cases d <;> try (cases e; done)
  rename_i ds
  cases rv with
  | tup h1 l1 =>
    exact ⟨_, _, rfl, SqT.of (r.sub _ _ h1), by rw [l1.length]; exact hl _ _ _ e, ob G H st env F _ ds env' Q r l1 e kk⟩

/-! ### the canonical readings -/
def cE (K : PySem.W.Frag) (f : VL.Env → Option D) : TE := fun st H Q => ∃ G env F d, ER K G H st env F ∧ f env = some d ∧ ∀ v G' H', Ex G H G' H' → Rp K G' v d → Q v H'
def cT (K : PySem.W.Frag) (f : VL.Env → Option Bool) : TT := fun st H Q => ∃ G env F b, ER K G H st env F ∧ f env = some b ∧ ∀ G' H', Ex G H G' H' → Q b H'
def cG (K : PySem.W.Frag) (ts : List Nat) (f : D → VL.Env → Option VL.Env) : TG := fun v st H Q => ∃ G env F d env', ER K G H st env F ∧ Rp K G v d ∧ f d env = some env' ∧
  ∀ st' F', ER K G H st' env' F' → (∀ i a, a ∈ F' i → a ∈ F i) → (∀ vs, (∀ i ∈ ts, i ∈ vs) → L2.wipe st' vs = L2.wipe st vs) → Q st' H
theorem PV.c {e : Expr} {f : VL.Env → Option D} (h : PV X e f) : PE X e (cE X.K f) := by
  obtain ⟨t, p, o⟩ := h.ex
  exact ⟨fun pins s st H Q I ⟨G, env, F, d, r, e, k⟩ => p.run pins s st H Q I (o G H st env F Q d r e k)⟩
theorem TBs.c {e : List Expr} {f : VL.Env → Option Bool} (h : TBs X e f) : PTs X e (cT X.K f) := by
  obtain ⟨t, p, o⟩ := h.ex
  exact ⟨fun pins s st H Q I ⟨G, env, F, d, r, e, k⟩ => p.run pins s st H Q I (o G H st env F Q d r e k)⟩
theorem TG1.c {tg : Expr} {ts : List Nat} {f : D → VL.Env → Option VL.Env} (h : TG1 X tg ts f) : PG X tg (cG X.K ts f) := by
  obtain ⟨t, p, o⟩ := h.ex
  exact ⟨fun pins s st H v u Q I rv ⟨G, env, F, d, env', r, rd, e, k⟩ => p.run pins s st H v u Q I rv (o G H st env F v d env' Q r rd e k)⟩
end

/-! ### walks -/
structure Yl (K : PySem.W.Frag) (G1 B : Hp) (J : It) (xs : List D) : Prop where
  len : xs.length ≤ sizeLine
  step : ∀ (i : Nat) (G2 H2 : Hp), Same G1 G2 → Same B H2 → Same G2 H2 → ∀ d, xs[i]? = some d → J.go i H2 ∧ ∀ v H3, J.yld i H2 v H3 → ∃ G3, Ex G2 H2 G3 H3 ∧ Rp K G3 v d
  stop : ∀ (i : Nat) (G2 H2 : Hp), Same G1 G2 → Same B H2 → Same G2 H2 → i = xs.length → J.stop i H2
/-- iter yields f of the slots; nothing but what is frozen stands behind it -/
structure IV (X : Cx) (tg iter : Expr) (f : VL.Env → Option (List D)) : Prop where
  ex : ∃ wi, PI X tg iter wi ∧ ∀ (G H : Hp) (st : L2.St) (env : VL.Env) (F : Nat → List Addr) (R : It → Hp → Prop) (xs : List D), ER X.K G H st env F → f env = some xs →
    (∀ J G1 H1, Ex G H G1 H1 → Yl X.K G1 G1 J xs → R J H1) → wi st H R
/-- .. as long as the heap only grows -/
structure IC (X : Cx) (tg iter : Expr) (f : VL.Env → Option (List D)) : Prop where
  ex : ∃ wi, PI X tg iter wi ∧ ∀ (G H : Hp) (st : L2.St) (env : VL.Env) (F : Nat → List Addr) (R : It → Hp → Prop) (xs : List D), ER X.K G H st env F → f env = some xs →
    (∀ J G1 H1, Ex G H G1 H1 → Yl X.K G1 H1 J xs → R J H1) → wi st H R
theorem Yl.base {K : PySem.W.Frag} {G1 B B' : Hp} {J : It} {xs : List D} (y : Yl K G1 B J xs) (h : Same B B') : Yl K G1 B' J xs :=
  ⟨y.len, fun i G2 H2 a b c => y.step i G2 H2 a (h.trans b) c, fun i G2 H2 a b c => y.stop i G2 H2 a (h.trans b) c⟩
section
variable {X : Cx} {tg iter : Expr} {pos : Pos} {fa : VL.Env → Option D} {fs : VL.Env → Option (List D)}
theorem IV.c {f : VL.Env → Option (List D)} (h : IV X tg iter f) : IC X tg iter f := by
  obtain ⟨wi, p, o⟩ := h.ex
  exact ⟨wi, p, fun G H st env F R xs r e k => o G H st env F R xs r e fun J G1 H1 x y => k J G1 H1 x (y.base x.gh)⟩
def seqOf : D → Option (List D)
  | .lst xs => some xs
  | .tup xs => some xs
  | _ => none
@[simp] theorem seqOf_lst (xs : List D) : seqOf (.lst xs) = some xs := rfl
@[simp] theorem seqOf_tup (xs : List D) : seqOf (.tup xs) = some xs := rfl
theorem yl_list {K : PySem.W.Frag} {G1 : Hp} {a : Addr} {vs : List V} {xs : List D} (h : G1 a = some (.lst vs)) (l : RpL K G1 vs xs) (hz : vs.length ≤ sizeLine) : Yl K G1 G1 (Itl K a) xs := by
  refine ⟨by rw [← l.length]; exact hz, fun i G2 H2 s1 s2 s3 d e => ?_, fun i G2 H2 s1 s2 s3 e => ?_⟩
  · obtain ⟨v, hv, rv⟩ := l.get e
    have hh : H2 a = some (.lst vs) := s3 _ _ (s1 _ _ h)
    refine ⟨⟨vs, v, SqL.of hh, hv⟩, fun w H3 ⟨e3, q⟩ => ?_⟩
    subst e3
    have := q vs (SqL.of hh)
    rw [hv] at this
    cases this
    exact ⟨G2, Ex.refl s3, rv.up s1⟩
  · exact ⟨vs, SqL.of (s3 _ _ (s1 _ _ h)), by rw [l.length, e]; exact Nat.le_refl _⟩
theorem yl_tup {K : PySem.W.Frag} {G1 : Hp} {a : Addr} {vs : List V} {xs : List D} (h : G1 a = some (.tup vs)) (l : RpL K G1 vs xs) (hz : vs.length ≤ sizeLine) : Yl K G1 G1 (Itt K a) xs := by
  refine ⟨by rw [← l.length]; exact hz, fun i G2 H2 s1 s2 s3 d e => ?_, fun i G2 H2 s1 s2 s3 e => ?_⟩
  · obtain ⟨v, hv, rv⟩ := l.get e
    have hh : H2 a = some (.tup vs) := s3 _ _ (s1 _ _ h)
    refine ⟨⟨vs, v, SqT.of hh, hv⟩, fun w H3 ⟨e3, q⟩ => ?_⟩
    subst e3
    have := q vs (SqT.of hh)
    rw [hv] at this
    cases this
    exact ⟨G2, Ex.refl s3, rv.up s1⟩
  · exact ⟨vs, SqT.of (s3 _ _ (s1 _ _ h)), by rw [l.length, e]; exact Nat.le_refl _⟩
theorem i_seq {l : Expr} (h : PV X l fa) : IV X tg l (fun env => (fa env).bind seqOf) := by
  obtain ⟨t, p, o⟩ := h.ex
  refine ⟨_, pi_or (pi_list (pe_hlen p)) (pi_tup (pe_hlen p)), fun G H st env F R xs r e k => ?_⟩
  obtain ⟨d, e1, e2⟩ := Option.bind_eq_some_iff.mp e
  cases d <;> try (cases e2; done)
  · cases e2
    refine .inl (o G H st env F _ _ r e1 fun v G' H' x rv hz => ?_)
    cases rv with
    | lst h l => exact ⟨_, rfl, ⟨_, SqL.of (x.gh _ _ h)⟩, k _ G' H' x (yl_list h l (hz.1 _ _ (x.gh _ _ h)))⟩
  · cases e2
    refine .inr (o G H st env F _ _ r e1 fun v G' H' x rv hz => ?_)
    cases rv with
    | tup h l => exact ⟨_, rfl, ⟨_, SqT.of (x.gh _ _ h)⟩, k _ G' H' x (yl_tup h l (hz.2 _ _ (x.gh _ _ h)))⟩
/-- a list of the def's own, whose items are frozen -/
def frzL : List S → Option (List D)
  | [] => some []
  | .fz d :: xs => (frzL xs).map (d :: ·)
  | _ => none
@[simp] theorem frzL_map : ∀ ds : List D, frzL (ds.map S.fz) = some ds
  | [] => rfl
  | d :: ds => by
    show (frzL (ds.map S.fz)).map _ = _
    rw [frzL_map ds]; rfl
theorem frzL_some : ∀ {xs : List S} {ds : List D}, frzL xs = some ds → xs = ds.map S.fz
  | [], _, h => by cases h; rfl
  | .fz d :: xs, _, h => by
    obtain ⟨ds, h1, h2⟩ := Option.map_eq_some_iff.mp (show (frzL xs).map _ = _ from h)
    subst h2
    rw [frzL_some h1]; rfl
  | .ol _ :: _, _, h => by cases h
  | .od _ _ :: _, _, h => by cases h
  | .ot _ :: _, _, h => by cases h
  | .ob _ _ :: _, _, h => by cases h
  | .at _ _ :: _, _, h => by cases h
def olOf : S → Option (List D)
  | .ol xs => frzL xs
  | _ => none
@[simp] theorem olOf_ol (ds : List D) : olOf (.ol (ds.map S.fz)) = some ds := frzL_map ds
theorem slRs_rp {K : PySem.W.Frag} {G H : Hp} : ∀ {ds : List D} {vs : List V} {F : List Addr}, SlRs K G H vs (ds.map S.fz) F → RpL K G vs ds ∧ F = []
  | [], _, _, h => by cases h; exact ⟨.nil, rfl⟩
  | d :: ds, _, _, h => by
    cases h with
    | cons h1 h2 =>
      cases h1 with
      | fz r =>
        obtain ⟨a, b⟩ := slRs_rp h2
        exact ⟨.cons r a, by rw [b]; rfl⟩
theorem olOf_some {s : S} {ds : List D} (h : olOf s = some ds) : s = .ol (ds.map S.fz) := by
  cases s <;> try (cases h; done)
  rw [frzL_some (show frzL _ = some ds from h)]
theorem yl_own {K : PySem.W.Frag} {G1 H1 : Hp} {a : Addr} {vs : List V} {xs : List D} (h : H1 a = some (.lst vs)) (l : RpL K G1 vs xs) (hz : vs.length ≤ sizeLine) : Yl K G1 H1 (Itl K a) xs := by
  refine ⟨by rw [← l.length]; exact hz, fun i G2 H2 s1 s2 s3 d e => ?_, fun i G2 H2 s1 s2 s3 e => ?_⟩
  · obtain ⟨v, hv, rv⟩ := l.get e
    have hh : H2 a = some (.lst vs) := s2 _ _ h
    refine ⟨⟨vs, v, SqL.of hh, hv⟩, fun w H3 ⟨e3, q⟩ => ?_⟩
    subst e3
    have := q vs (SqL.of hh)
    rw [hv] at this
    cases this
    exact ⟨G2, Ex.refl s3, rv.up s1⟩
  · exact ⟨vs, SqL.of (s2 _ _ h), by rw [l.length, e]; exact Nat.le_refl _⟩
theorem i_own (i : Nat) {x : Str} (hN : X.N[i]? = some x := by rfl) (hv : Vis X.env.scope x := by first | exact Or.inl rfl | exact Or.inr (Or.inl rfl) | exact Or.inr (Or.inr rfl))
    (hd : (x == ("__debug__" : Str)) = false := by decide) (hcd : (x == ("__classdict__" : Str)) = false := by decide) : IC X tg (.Name x pos) (fun env => (getS env i).bind olOf) := by
  refine ⟨_, pi_list (pe_hlen (pe_var hN hv hd hcd)), fun G H st env F R xs r e k => ?_⟩
  obtain ⟨s, e1, e2⟩ := Option.bind_eq_some_iff.mp e
  obtain rfl := olOf_some e2
  obtain ⟨v, h1, h2⟩ := r.slot i _ (getS_some e1)
  generalize F i = Fi at h2
  refine ⟨v, h1, fun hz => ?_⟩
  cases h2 with
  | ol g1 g2 =>
    obtain ⟨l, _⟩ := slRs_rp g2
    exact ⟨_, rfl, ⟨_, SqL.of g1⟩, k _ G H (Ex.refl r.sub) (yl_own g1 l (hz.1 _ _ g1))⟩
/-- range -/
def rangeD (lo : Int) (n : Nat) : List D := (List.range n).map fun (i : Nat) => D.int (lo + (i : Int))
def rng1 : List D → Option (List D)
  | [.int n] => if n.natAbs ≤ sizeLine then some (rangeD 0 n.toNat) else none
  | _ => none
def rng2 : List D → Option (List D)
  | [.int a, .int b] => if a.natAbs ≤ sizeLine ∧ b.natAbs ≤ 4000000 ∧ (b - a).toNat ≤ sizeLine then some (rangeD a (b - a).toNat) else none
  | _ => none
theorem yl_range {K : PySem.W.Frag} {G1 : Hp} {lo : Int} {n : Nat} (hz : n ≤ sizeLine) : Yl K G1 G1 (Itr lo n) (rangeD lo n) := by
  have hl : (rangeD lo n).length = n := by unfold rangeD; rw [List.length_map, List.length_range]
  refine ⟨by rw [hl]; exact hz, fun i G2 H2 s1 s2 s3 d e => ?_, fun i G2 H2 s1 s2 s3 e => ?_⟩
  · have hi : i < n := by
      rw [← hl]; exact (List.getElem?_eq_some_iff.mp e).1
    have hd : d = .int (lo + i) := by
      unfold rangeD at e
      rw [List.getElem?_map, List.getElem?_range hi] at e
      exact (Option.some.inj e).symm
    subst hd
    refine ⟨hi, fun w H3 ⟨e3, q⟩ => ?_⟩
    subst e3 q
    exact ⟨G2, Ex.refl s3, .int _⟩
  · show n ≤ i
    rw [e, hl]; exact Nat.le_refl _
theorem line62 : (sizeLine : Int) < 2 ^ 62 := by rw [sizeLine_eq]; decide
theorem i_range1 {a : Expr} {p : Pos} (hg : Gl X "range") (hm : X.mg "range" = none) (ha : AW X [a] fs) (hs : starEach [a] X.env = [(false, eval a X.env)] := by rfl) : IV X tg (.Call (.Name "range" p) [a] [] pos) (fun env => (fs env).bind rng1) := by
  obtain ⟨t, pa, o⟩ := ha.ex
  refine ⟨_, pi_range1 hg hm pa hs, fun G H st env F R xs r e k => ?_⟩
  obtain ⟨ds, e1, e2⟩ := Option.bind_eq_some_iff.mp e
  unfold rng1 at e2
  split at e2
  · rename_i n
    split at e2
    · rename_i hn
      cases e2
      refine o G H st env F _ _ r e1 fun vs G1 H1 x rv => ?_
      cases rv with
      | cons r1 r2 =>
        cases r2; cases r1
        have := line62
        exact ⟨n, rfl, by omega, by omega, k _ G1 H1 x (yl_range (by omega))⟩
    · cases e2
  · cases e2
theorem i_range2 {a b : Expr} {p : Pos} (hg : Gl X "range") (hm : X.mg "range" = none) (ha : AW X [a, b] fs) (hs : starEach [a, b] X.env = [(false, eval a X.env), (false, eval b X.env)] := by rfl) (hs2 : starEach [b] X.env = [(false, eval b X.env)] := by rfl) :
    IV X tg (.Call (.Name "range" p) [a, b] [] pos) (fun env => (fs env).bind rng2) := by
  obtain ⟨t, pa, o⟩ := ha.ex
  refine ⟨_, pi_range2 hg hm pa hs hs2, fun G H st env F R xs r e k => ?_⟩
  obtain ⟨ds, e1, e2⟩ := Option.bind_eq_some_iff.mp e
  unfold rng2 at e2
  split at e2
  · rename_i m n
    split at e2
    · rename_i hn
      cases e2
      refine o G H st env F _ _ r e1 fun vs G1 H1 x rv => ?_
      cases rv with
      | cons r1 r2 =>
        cases r1
        cases r2 with
        | cons r2 r3 =>
          cases r3; cases r2
          have := line62
          exact ⟨m, n, rfl, by omega, k _ G1 H1 x (yl_range hn.2.2)⟩
    · cases e2
  · cases e2
/-- enumerate -/
def enumD (xs : List D) : List D := xs.mapIdx fun (i : Nat) d => D.tup [.int (i : Int), d]
theorem yl_enum {K : PySem.W.Frag} {G1 : Hp} {a : Addr} {vs : List V} {xs : List D} (h : G1 a = some (.lst vs)) (l : RpL K G1 vs xs) (hz : vs.length ≤ sizeLine) : Yl K G1 G1 (Ite K a) (enumD xs) := by
  have hl : (enumD xs).length = xs.length := by unfold enumD; rw [List.length_mapIdx]
  refine ⟨by rw [hl, ← l.length]; exact hz, fun i G2 H2 s1 s2 s3 d e => ?_, fun i G2 H2 s1 s2 s3 e => ?_⟩
  · unfold enumD at e
    rw [List.getElem?_mapIdx] at e
    obtain ⟨z, e1, e2⟩ := Option.map_eq_some_iff.mp e
    subst e2
    obtain ⟨v, hv, rv⟩ := l.get e1
    have hh : H2 a = some (.lst vs) := s3 _ _ (s1 _ _ h)
    refine ⟨⟨vs, v, SqL.of hh, hv⟩, fun w H3 ⟨T, y, ew, nT, e3, q⟩ => ?_⟩
    subst ew e3
    have := q vs (SqL.of hh)
    rw [hv] at this
    cases this
    exact ⟨_, Ex.frz s3 nT, .tup upd_same (.cons (.int _) (.cons ((rv.up s1).up (same_upd (s3.free nT))) .nil))⟩
  · exact ⟨vs, SqL.of (s3 _ _ (s1 _ _ h)), by rw [l.length, e, hl]; exact Nat.le_refl _⟩
theorem i_enum {l : Expr} {p tpos : Pos} {elts : List Expr} {kk : Nat} (hg : Gl X "enumerate") (hm : X.mg "enumerate" = none) (h : PV X l fa) (hs : starEach [l] X.env = [(false, eval l X.env)] := by rfl) :
    IV X (.Tuple elts kk tpos) (.Call (.Name "enumerate" p) [l] [] pos) (fun env => (fa env).bind fun d => (lstOf d).map enumD) := by
  obtain ⟨t, pa, o⟩ := h.ex
  refine ⟨_, pi_hlen (pi_enum hg hm (pa_cons pa pa_nil hs) hs), fun G H st env F R xs r e k => ?_⟩
  obtain ⟨d, e1, e2⟩ := Option.bind_eq_some_iff.mp e
  obtain ⟨ys, e3, e4⟩ := Option.map_eq_some_iff.mp e2
  subst e4
  obtain rfl := lstOf_some e3
  refine o G H st env F _ _ r e1 fun v G' H' x rv => ?_
  cases rv with
  | lst h l => exact ⟨_, _, rfl, SqL.of (x.gh _ _ h), fun hz => k _ G' H' x (yl_enum h l (hz.1 _ _ (x.gh _ _ h)))⟩

/-! ### comprehensions -/
def compD (ft : D → VL.Env → Option VL.Env) (fc : VL.Env → Option Bool) (fe : VL.Env → Option D) (env : VL.Env) : List D → Option (List D)
  | [] => some []
  | d :: ds => (ft d env).bind fun e1 => (fc e1).bind fun b => if b then (fe e1).bind fun y => (compD ft fc fe env ds).map (y :: ·) else compD ft fc fe env ds
def OkL (K : PySem.W.Frag) (f : VL.Env → Option (List D)) (t : TE) : Prop := ∀ (G H : Hp) (st : L2.St) (env : VL.Env) (F : Nat → List Addr) (Q : VK) (ds : List D), ER K G H st env F → f env = some ds →
    (∀ p vs G' H', Ex G H G' H' → H p = none → G' p = none → H' p = some (.lst vs) → RpL K G' vs ds → Q (.ref p) H') → t st H Q
theorem ex_none {G H G' H' : Hp} (x : Ex G H G' H') {p : Addr} {o : HO} (g : G p = none) (h : H p = some o) : G' p = none := by
  cases z : G' p with
  | none => rfl
  | some u =>
    rcases x.nw p (by rw [z]; exact fun q => nomatch q) with q | q
    · exact absurd g q
    · rw [h] at q; cases q
theorem ex_upd {G H G' H' : Hp} {p : Addr} {o : HO} (x : Ex G H G' H') (hp : H p = none) (gp : G' p = none) : Ex G H G' (upd H' p o) :=
  ⟨fun b u e => by rw [upd_ne (ne_of_none e hp)]; exact x.hh _ _ e, x.gg, fun b u e => by rw [upd_ne (ne_of_none e gp)]; exact x.gh _ _ e, x.nw⟩
theorem lc_ok {K : PySem.W.Frag} {wi : TI} {fi : VL.Env → Option (List D)} {ts vs : List Nat} {ft : D → VL.Env → Option VL.Env} {fc : VL.Env → Option Bool} {fe : VL.Env → Option D}
    (hi : ∀ (G H : Hp) (st : L2.St) (env : VL.Env) (F : Nat → List Addr) (R : It → Hp → Prop) (xs : List D), ER K G H st env F → fi env = some xs → (∀ J G1 H1, Ex G H G1 H1 → Yl K G1 H1 J xs → R J H1) → wi st H R)
    (hts : ∀ i ∈ ts, i ∈ vs) : OkL K (fun env => (fi env).bind (compD ft fc fe (wipeE env vs))) (tLc wi (cG K ts ft) (cT K fc) (cE K fe) vs) := by
  intro G H st env F Q ys r e k
  obtain ⟨xs, e1, e2⟩ := Option.bind_eq_some_iff.mp e
  refine hi G H st env F _ xs r e1 fun J G1 H1 x1 y => fun Dp hD => ?_
  refine ⟨fun i m Hc => m = xs.length - i ∧ i ≤ xs.length ∧ ∃ Gc acc accD rest, Ex G1 H1 Gc Hc ∧ Gc Dp = none ∧ Hc Dp = some (.lst acc) ∧ RpL K Gc acc accD ∧ acc.length ≤ i ∧
    compD ft fc fe (wipeE env vs) (xs.drop i) = some rest ∧ accD ++ rest = ys, ⟨xs.length, rfl, Nat.zero_le _, G1, [], [], ys, ex_upd (Ex.refl x1.gh) hD (x1.gh.free hD), x1.gh.free hD, upd_same, .nil, Nat.le_refl _, e2, rfl⟩, ?_⟩
  rintro i m Hc ⟨em, hi', Gc, acc, accD, rest, xc, gD, hDc, lc, la, ec, ea⟩
  by_cases hlt : i < xs.length
  · have ed : xs.drop i = xs[i] :: xs.drop (i + 1) := List.drop_eq_getElem_cons hlt
    rw [ed] at ec
    obtain ⟨e1', t1, ec⟩ := Option.bind_eq_some_iff.mp (show (ft xs[i] (wipeE env vs)).bind _ = some rest from ec)
    obtain ⟨b, t2, ec⟩ := Option.bind_eq_some_iff.mp ec
    obtain ⟨go, hy⟩ := y.step i Gc Hc xc.gg xc.hh xc.gh xs[i] (List.getElem?_eq_getElem hlt)
    refine .inr ⟨go, _, fun H' h' => ⟨xs.length - (i + 1), by omega, rfl, hlt, h'⟩, fun v H3 hv => ?_⟩
    obtain ⟨G3, x3, rv⟩ := hy v H3 hv
    have xa := x1.trans (xc.trans x3)
    obtain ⟨Fw, rw', _⟩ := ER.wipe (r.ext xa) vs
    refine ⟨G3, wipeE env vs, Fw, xs[i], e1', rw', rv, t1, fun st' F' r' _ w' => ⟨?_, ?_⟩⟩
    · rw [w' vs hts, wipe_idem]
    · refine ⟨G3, e1', F', b, r', t2, fun G4 H4 x4 => ?_⟩
      cases b with
      | true =>
        obtain ⟨yv, t3, ec⟩ := Option.bind_eq_some_iff.mp (show (fe e1').bind _ = some rest from ec)
        obtain ⟨rest', t4, t5⟩ := Option.map_eq_some_iff.mp ec
        subst t5
        refine iteT ⟨G4, e1', F', yv, r'.ext x4, t3, fun u G5 H5 x5 r5 => ?_⟩
        have hd5 : H5 Dp = some (.lst acc) := x5.hh _ _ (x4.hh _ _ (x3.hh _ _ hDc))
        have xx := (x3.trans x4).trans x5
        have g5 : G5 Dp = none := ex_none xx gD hDc
        refine ⟨acc, hd5, Nat.lt_of_le_of_lt la (Nat.lt_of_lt_of_le hlt y.len), G5, acc ++ [u], accD ++ [yv], rest', ex_upd (xc.trans xx) hD g5, g5, upd_same, (lc.up xx.gg).append (.cons r5 .nil), ?_, t4, ?_⟩
        · rw [List.length_append, List.length_singleton]; omega
        · rw [List.append_assoc]; exact ea
      | false =>
        refine iteF ?_
        have xx := x3.trans x4
        exact ⟨G4, acc, accD, rest, xc.trans xx, ex_none xx gD hDc, x4.hh _ _ (x3.hh _ _ hDc), lc.up xx.gg, by omega, ec, ea⟩
  · have ei : i = xs.length := by omega
    refine .inl ⟨y.stop i Gc Hc xc.gg xc.hh xc.gh ei, ?_⟩
    rw [List.drop_eq_nil_of_le (by omega)] at ec
    cases ec
    rw [List.append_nil] at ea
    subst ea
    exact k Dp acc Gc Hc (x1.trans xc) (x1.hh.free hD) gD hDc lc
variable {elt : Expr} {ifs : List Expr} {scope : Scope} {own : List (Str × Nat)} {fi : VL.Env → Option (List D)} {ts : List Nat} {ft : D → VL.Env → Option VL.Env} {fc : VL.Env → Option Bool} {fe : VL.Env → Option D}
theorem l_comp (hc : X.calm = true) (hN : X.N.Nodup) (hi : IC X tg iter fi) (ok : BlkOk X.N X.env.scope scope own) (hts : ∀ i ∈ ts, i ∈ own.map (·.2))
    (hg : ∀ (s : Shared) (H : Hp) (C : Addr) (cl : List (Str × Addr)) (fp : List Addr), TG1 (X.blk s H scope (compEnvC scope cl C X.env) fp) tg ts ft)
    (ht : ∀ (s : Shared) (H : Hp) (C : Addr) (cl : List (Str × Addr)) (fp : List Addr), TBs (X.blk s H scope (compEnvC scope cl C X.env) fp) ifs fc)
    (he : ∀ (s : Shared) (H : Hp) (C : Addr) (cl : List (Str × Addr)) (fp : List Addr), PV (X.blk s H scope (compEnvC scope cl C X.env) fp) elt fe) (hs : ∀ x, foldedSetIterable iter X.env x = pure x := by intro _; rfl) :
    PL X (.ListComp elt [⟨tg, iter, ifs, 0⟩] scope pos) (fun env => (fi env).bind (compD ft fc fe (wipeE env (own.map (·.2))))) := by
  obtain ⟨wi, p, o⟩ := hi.ex
  exact ⟨_, pe_lc hc hN p ok (fun s H C cl fp => (hg s H C cl fp).c) (fun s H C cl fp => (ht s H C cl fp).c) (fun s H C cl fp => (he s H C cl fp).c) hs, lc_ok o hts⟩

end
end VL

set_option Elab.async false
set_option linter.all false
set_option maxRecDepth 100000
/-! VL6: statements, bodies, defs. -/
namespace VL
open PySem PySem.Spec PyProof.Rows L2

/-! ### freezing -/
def frzG (G H : Hp) (l : List Addr) : Hp := fun a => if a ∈ l then H a else G a
theorem frzG_up {G H : Hp} {l : List Addr} (off : ∀ a ∈ l, G a = none) : Same G (frzG G H l) := fun b o e => by
  unfold frzG
  by_cases m : b ∈ l
  · rw [off b m] at e; cases e
  · rw [if_neg m]; exact e
theorem frzG_in {G H : Hp} {l : List Addr} (s : Same G H) : Same (frzG G H l) H := fun b o e => by
  unfold frzG at e
  split at e
  · exact e
  · exact s _ _ e
theorem frzG_rp {K : PySem.W.Frag} {G H : Hp} {v : V} {s : S} {l : List Addr} (h : SlR K G H v s l) (n : s.noOb = true) (off : ∀ a ∈ l, G a = none) : Rp K (frzG G H l) v s.er := by
  refine SlR.view (Same.refl _) s v l n (SlR.mono (frzG_up off) s v l (fun a m => ?_) h)
  unfold frzG; rw [if_pos m]
theorem frzG_ex {G H G' H' : Hp} {l : List Addr} (x : Ex G H G' H') (fr : ∀ a ∈ l, H a = none ∧ G' a = none) : Ex G H (frzG G' H' l) H' :=
  ⟨x.hh, x.gg.trans (frzG_up fun a m => (fr a m).2), frzG_in x.gh, fun b e => by
    unfold frzG at e
    split at e
    · rename_i m; exact .inr (fr b m).1
    · exact x.nw b e⟩
def frS (s : S) : Option D := if s.noOb then some s.er else none
@[simp] theorem frS_fz (d : D) : frS (.fz d) = some d := rfl
theorem frS_some {s : S} {d : D} (h : frS s = some d) : s.noOb = true ∧ s.er = d := by
  unfold frS at h
  split at h
  · rename_i n; cases h; exact ⟨n, rfl⟩
  · cases h
theorem PO.v {X : Cx} {e : Expr} {f : VL.Env → Option S} (h : PO X e f) : PV X e (fun env => (f env).bind frS) := by
  obtain ⟨t, p, o⟩ := h.ex
  refine ⟨t, p, fun G H st env F Q d r e k => ?_⟩
  obtain ⟨s, e1, e2⟩ := Option.bind_eq_some_iff.mp e
  obtain ⟨n, rfl⟩ := frS_some e2
  exact o G H st env F Q s r e1 fun v G' H' Fv x h nd fr => k v _ H' (frzG_ex x fr) (frzG_rp h n fun a m => (fr a m).2)

/-! ### the context of a body -/
structure C0 where
  G : Hp
  H : Hp
  O : Addr → Prop
structure CR (c : C0) (G H : Hp) (F : Nat → List Addr) : Prop where
  g0 : Same c.G G
  gnew : ∀ b, G b ≠ none → c.G b ≠ none ∨ c.H b = none ∨ c.O b
  keep : ∀ b o, c.H b = some o → ¬ c.O b → H b = some o
  own : ∀ i a, a ∈ F i → c.H a = none ∨ c.O a
theorem CR.new {c : C0} {G H : Hp} {F : Nat → List Addr} (r : CR c G H F) {a : Addr} (h : H a = none) : c.H a = none ∨ c.O a := by
  by_cases q : c.O a
  · exact .inr q
  · cases z : c.H a with
    | none => exact .inl rfl
    | some o => rw [r.keep a o z q] at h; cases h
theorem CR.ext {c : C0} {G H G' H' : Hp} {F : Nat → List Addr} (r : CR c G H F) (x : Ex G H G' H') : CR c G' H' F :=
  ⟨r.g0.trans x.gg, fun b e => (x.nw b e).elim (r.gnew b) fun z => .inr (r.new z), fun b o e q => x.hh _ _ (r.keep b o e q), r.own⟩
theorem CR.sub {c : C0} {G H : Hp} {F F' : Nat → List Addr} (r : CR c G H F) (h : ∀ i a, a ∈ F' i → a ∈ F i) : CR c G H F' := ⟨r.g0, r.gnew, r.keep, fun i a m => r.own i a (h i a m)⟩
def re (G H : Hp) (F : Nat → List Addr) : C0 := ⟨G, H, fun a => ∃ i, a ∈ F i⟩
theorem CR.re {G H : Hp} {F : Nat → List Addr} : CR (VL.re G H F) G H F := ⟨Same.refl _, fun b e => .inl e, fun b o e _ => e, fun i a m => .inr ⟨i, m⟩⟩
theorem CR.trans {c : C0} {G H G' H' : Hp} {F F' : Nat → List Addr} (a : CR c G H F) (b : CR (VL.re G H F) G' H' F') : CR c G' H' F' := by
  refine ⟨a.g0.trans b.g0, fun x e => ?_, fun x o e q => b.keep x o (a.keep x o e q) fun ⟨i, m⟩ => ?_, fun i x m => ?_⟩
  · rcases b.gnew x e with z | z | ⟨i, m⟩
    · exact a.gnew x z
    · exact .inr (a.new z)
    · exact .inr (a.own i x m)
  · rcases a.own i x m with z | z
    · rw [z] at e; cases e
    · exact q z
  · rcases b.own i x m with z | ⟨j, m'⟩
    · exact a.new z
    · exact a.own j x m'
inductive Out where
  | nx (env : VL.Env)
  | rt (s : S) (env : VL.Env)
  | bk (env : VL.Env)
  | ct (env : VL.Env)
def Post (K : PySem.W.Frag) (c : C0) (E : Ends) : Out → Prop
  | .nx env => ∀ (G H : Hp) (st : L2.St) (F : Nat → List Addr), ER K G H st env F → CR c G H F → E.nx st H
  | .bk env => ∀ (G H : Hp) (st : L2.St) (F : Nat → List Addr), ER K G H st env F → CR c G H F → E.bk st H
  | .ct env => ∀ (G H : Hp) (st : L2.St) (F : Nat → List Addr), ER K G H st env F → CR c G H F → E.ct st H
  | .rt s env => ∀ (v : V) (G H : Hp) (st : L2.St) (F : Nat → List Addr) (l : List Addr), ER K G H st env F → CR c G H F → SlR K G H v s l → l.Nodup →
      (∀ a ∈ l, G a = none ∧ (c.H a = none ∨ c.O a)) → (∀ i a, a ∈ l → a ∉ F i) → E.rt v H
theorem Post.re {K : PySem.W.Frag} {c : C0} {E : Ends} {G H : Hp} {F : Nat → List Addr} (r : CR c G H F) : ∀ {o : Out}, Post K c E o → Post K (VL.re G H F) E o
  | .nx env, h => fun G' H' st F' e q => h G' H' st F' e (r.trans q)
  | .bk env, h => fun G' H' st F' e q => h G' H' st F' e (r.trans q)
  | .ct env, h => fun G' H' st F' e q => h G' H' st F' e (r.trans q)
  | .rt s env, h => fun v G' H' st F' l e q sl nd fr dj => h v G' H' st F' l e (r.trans q) sl nd (fun a m => ⟨(fr a m).1, by
      rcases (fr a m).2 with z | ⟨i, m'⟩
      · exact r.new z
      · exact r.own i a m'⟩) dj
def OkT (K : PySem.W.Frag) (f : VL.Env → Option Out) (t : TS) : Prop :=
  ∀ (c : C0) (G H : Hp) (st : L2.St) (env : VL.Env) (F : Nat → List Addr) (E : Ends) (o : Out), ER K G H st env F → CR c G H F → f env = some o → Post K c E o → t E st H
structure SV (X : Cx) (st : Stmt) (f : VL.Env → Option Out) : Prop where
  ex : ∃ t, PS X st t ∧ OkT X.K f t
structure BV (X : Cx) (st : List Stmt) (f : VL.Env → Option Out) : Prop where
  ex : ∃ t, PSs X st t ∧ OkT X.K f t

/-! ### blocks -/
@[simp] def sNx : VL.Env → Option Out := fun env => some (.nx env)
def sq (f g : VL.Env → Option Out) : VL.Env → Option Out := fun env => (f env).bind fun o => match o with
  | .nx e => g e
  | o => some o
section
variable {X : Cx} {pos : Pos} {st : Stmt} {sts : List Stmt} {f g : VL.Env → Option Out}
theorem b_nil : BV X [] sNx := ⟨_, pss_nil, fun c G H s env F E o r q e k => by cases e; exact k G H s F r q⟩
theorem b_one (h : SV X st f) : BV X [st] f := by
  obtain ⟨t, p, o⟩ := h.ex
  exact ⟨t, pss_one p, o⟩
theorem b_cons (h : SV X st f) (h' : BV X sts g) : BV X (st :: sts) (sq f g) := by
  obtain ⟨t, p, o⟩ := h.ex
  obtain ⟨t', p', o'⟩ := h'.ex
  refine ⟨_, pss_cons p p', fun c G H s env F E u r q e k => ?_⟩
  obtain ⟨z, e1, e2⟩ := Option.bind_eq_some_iff.mp e
  refine o c G H s env F _ z r q e1 ?_
  cases z with
  | nx e' => exact fun G' H' s' F' r' q' => o' c G' H' s' e' F' E u r' q' e2 k
  | rt v e' => cases e2; exact k
  | bk e' => cases e2; exact k
  | ct e' => cases e2; exact k
/-- what the proof does on its own side ahead of a statement: a slot is frozen -/
def frzE (i : Nat) (env : VL.Env) : Option VL.Env := (getS env i).bind fun s => (frS s).map fun d => env.set i (some (.fz d))
theorem ER.freeze {K : PySem.W.Frag} {G H : Hp} {s : L2.St} {env env' : VL.Env} {F : Nat → List Addr} {i : Nat} (r : ER K G H s env F) (e : frzE i env = some env') : ∃ G', ER K G' H s env' (putFp F i []) ∧ Same G G' ∧ (∀ b, G' b ≠ none → G b ≠ none ∨ b ∈ F i) := by
  obtain ⟨z, e1, e2⟩ := Option.bind_eq_some_iff.mp e
  obtain ⟨d, e3, e4⟩ := Option.map_eq_some_iff.mp e2
  subst e4
  obtain ⟨n, rfl⟩ := frS_some e3
  have ei := getS_some e1
  obtain ⟨v, h1, h2⟩ := r.slot i z ei
  have hi : i < env.length := (List.getElem?_eq_some_iff.mp ei).1
  have up := frzG_up (H := H) (r.off i)
  refine ⟨frzG G H (F i), ⟨frzG_in r.sub, by rw [List.length_set]; exact r.len, fun j t e => ?_, fun j hj => ?_, fun j a m => ?_, fun j => ?_, fun j k a m m' => ?_⟩, up, fun b e => ?_⟩
  · rcases get_set e with ⟨rfl, _, e⟩ | ⟨ne, e⟩
    · cases e
      refine ⟨v, h1, ?_⟩
      unfold putFp; rw [if_pos rfl]
      exact .fz (frzG_rp h2 n (r.off j))
    · obtain ⟨w, h3, h4⟩ := r.slot j t e
      refine ⟨w, h3, ?_⟩
      unfold putFp; rw [if_neg ne]
      exact SlR.mono up t w _ (fun _ _ => rfl) h4
  · unfold putFp
    by_cases c : j = i
    · rw [if_pos c]
    · rw [if_neg c]
      exact r.out j fun t e => hj t (by rw [List.getElem?_set_ne (Ne.symm c)]; exact e)
  · unfold putFp at m
    split at m
    · cases m
    · rename_i c
      unfold frzG
      rw [if_neg fun z => c (r.dj j i a m z)]
      exact r.off j a m
  · unfold putFp
    split
    · exact .nil
    · exact r.nd j
  · unfold putFp at m m'
    split at m <;> split at m'
    · cases m
    · cases m
    · cases m'
    · exact r.dj j k a m m'
  · unfold frzG at e
    split at e
    · rename_i m; exact .inr m
    · exact .inl e
theorem CR.freeze {c : C0} {G H G' : Hp} {F : Nat → List Addr} {i : Nat} (r : CR c G H F) (u : Same G G') (n : ∀ b, G' b ≠ none → G b ≠ none ∨ b ∈ F i) : CR c G' H (putFp F i []) :=
  ⟨r.g0.trans u, fun b e => (n b e).elim (r.gnew b) fun m => .inr (r.own i b m), r.keep, fun j a m => r.own j a (putFp_sub m)⟩
theorem OkT.freeze {K : PySem.W.Frag} {t : TS} (i : Nat) (h : OkT K f t) : OkT K (fun env => (frzE i env).bind f) t := fun c G H s env F E o r q e k => by
  obtain ⟨env', e1, e2⟩ := Option.bind_eq_some_iff.mp e
  obtain ⟨G', r', u, n⟩ := r.freeze e1
  exact h c G' H s env' _ E o r' (q.freeze u n) e2 k
theorem s_freeze (i : Nat) (h : SV X st f) : SV X st (fun env => (frzE i env).bind f) := by
  obtain ⟨t, p, o⟩ := h.ex
  exact ⟨t, p, o.freeze i⟩
theorem b_freeze (i : Nat) (h : BV X sts f) : BV X sts (fun env => (frzE i env).bind f) := by
  obtain ⟨t, p, o⟩ := h.ex
  exact ⟨t, p, o.freeze i⟩

/-! ### small statements -/
variable {e : Expr} {fe : VL.Env → Option D} {fo : VL.Env → Option S} {fl : VL.Env → Option (List D)} {fc : VL.Env → Option Bool}
theorem s_pass : SV X (.Pass pos) sNx := ⟨_, ps_pass, fun c G H s env F E o r q e k => by cases e; exact k G H s F r q⟩
theorem s_break : SV X (.Break pos) (fun env => some (.bk env)) := ⟨_, ps_break, fun c G H s env F E o r q e k => by cases e; exact k G H s F r q⟩
theorem s_continue : SV X (.Continue pos) (fun env => some (.ct env)) := ⟨_, ps_continue, fun c G H s env F E o r q e k => by cases e; exact k G H s F r q⟩
@[simp] def sSet (i : Nat) (fe : VL.Env → Option D) : VL.Env → Option Out := fun env => (fe env).map fun d => .nx (env.set i (some (.fz d)))
@[simp] def sSetO (i : Nat) (fo : VL.Env → Option S) : VL.Env → Option Out := fun env => (fo env).map fun d => .nx (env.set i (some d))
theorem okSet {K : PySem.W.Frag} {te : TE} {i : Nat} (o : ∀ (G H : Hp) (st : L2.St) (env : VL.Env) (F : Nat → List Addr) (Q : VK) (d : D), ER K G H st env F → fe env = some d → (∀ v G' H', Ex G H G' H' → Rp K G' v d → Q v H') → te st H Q) :
    OkT K (sSet i fe) (tAsg te (gName i)) := fun c G H s env F E u r q e k => by
  obtain ⟨d, e1, e2⟩ := Option.map_eq_some_iff.mp e
  subst e2
  exact o G H s env F _ d r e1 fun v G' H' x rv => k G' H' _ _ ((r.ext x).setF i rv) ((q.ext x).sub fun j a m => putFp_sub m)
theorem okSetO {K : PySem.W.Frag} {te : TE} {i : Nat} (o : ∀ (G H : Hp) (st : L2.St) (env : VL.Env) (F : Nat → List Addr) (Q : VK) (s : S), ER K G H st env F → fo env = some s →
      (∀ v G' H' Fv, Ex G H G' H' → SlR K G' H' v s Fv → Fv.Nodup → (∀ a ∈ Fv, H a = none ∧ G' a = none) → Q v H') → te st H Q) :
    OkT K (sSetO i fo) (tAsg te (gName i)) := fun c G H s env F E u r q e k => by
  obtain ⟨d, e1, e2⟩ := Option.map_eq_some_iff.mp e
  subst e2
  refine o G H s env F _ d r e1 fun v G' H' l x rv nd fr => ?_
  by_cases hi : i < env.length
  · refine k G' H' _ _ ((r.ext x).setO i rv nd (fun a m => (fr a m).2) (fun j _ a m m' => ?_) hi) ⟨(q.ext x).g0, (q.ext x).gnew, (q.ext x).keep, fun j a m => ?_⟩
    · obtain ⟨o, z⟩ := r.dom m'
      rw [(fr a m).1] at z; cases z
    · unfold putFp at m
      split at m
      · exact q.new (fr a m).1
      · exact q.own j a m
  · have e1 : env.set i (some d) = env := List.set_eq_of_length_le (by omega)
    have e2 : s.set i (some v) = s := List.set_eq_of_length_le (by rw [← r.len]; omega)
    show E.nx (s.set i (some v)) H'
    rw [e2]
    have k' : ∀ (G H : Hp) (st : L2.St) (F : Nat → List Addr), ER K G H st env F → CR c G H F → E.nx st H := by rw [e1] at k; exact k
    exact k' G' H' s F (r.ext x) (q.ext x)
theorem s_set (i : Nat) {x : Str} {pos' : Pos} (hN : X.N.Nodup) (he : PV X e fe) (hi : X.N[i]? = some x := by rfl) (hx : Loc X.env.scope x := by first | exact Or.inl rfl | exact Or.inr rfl) (hs : swapsWith e (some (.Name x pos')) pos.line X.env = pure false := by rfl)
    (hf : X.fn x = true ∨ X.env.scope.names.lookup x = some .local := by first | exact .inl rfl | exact .inr rfl) : SV X (.Assign [.Name x pos'] e pos) (sSet i fe) := by
  obtain ⟨t, p, o⟩ := he.ex
  exact ⟨_, ps_set hN hi hx p hs hf, okSet o⟩
theorem s_setO (i : Nat) {x : Str} {pos' : Pos} (hN : X.N.Nodup) (he : PO X e fo) (hi : X.N[i]? = some x := by rfl) (hx : Loc X.env.scope x := by first | exact Or.inl rfl | exact Or.inr rfl) (hs : swapsWith e (some (.Name x pos')) pos.line X.env = pure false := by rfl)
    (hf : X.fn x = true ∨ X.env.scope.names.lookup x = some .local := by first | exact .inl rfl | exact .inr rfl) : SV X (.Assign [.Name x pos'] e pos) (sSetO i fo) := by
  obtain ⟨t, p, o⟩ := he.ex
  exact ⟨_, ps_set hN hi hx p hs hf, okSetO o⟩
/-- name = [..] -/
theorem okL_v {K : PySem.W.Frag} {te : TE} (o : OkL K fl te) : ∀ (G H : Hp) (st : L2.St) (env : VL.Env) (F : Nat → List Addr) (Q : VK) (d : D), ER K G H st env F → (fl env).map D.lst = some d → (∀ v G' H', Ex G H G' H' → Rp K G' v d → Q v H') → te st H Q := fun G H st env F Q d r e k => by
  obtain ⟨ds, q, e2⟩ := Option.map_eq_some_iff.mp e
  subst e2
  refine o G H st env F Q ds r q fun p vs G' H' x hp gp e' l => ?_
  have x2 := frzG_ex (l := [p]) x (fun a m => by cases List.mem_singleton.mp m; exact ⟨hp, gp⟩)
  refine k _ _ _ x2 (.lst (by unfold frzG; rw [if_pos (List.mem_singleton.mpr rfl)]; exact e') (l.up (frzG_up fun a m => by cases List.mem_singleton.mp m; exact gp)))
theorem okL_o {K : PySem.W.Frag} {te : TE} (o : OkL K fl te) : ∀ (G H : Hp) (st : L2.St) (env : VL.Env) (F : Nat → List Addr) (Q : VK) (s : S), ER K G H st env F → (fl env).map (fun ds => S.ol (ds.map S.fz)) = some s →
    (∀ v G' H' Fv, Ex G H G' H' → SlR K G' H' v s Fv → Fv.Nodup → (∀ a ∈ Fv, H a = none ∧ G' a = none) → Q v H') → te st H Q := fun G H st env F Q s r e k => by
  obtain ⟨ds, q, e2⟩ := Option.map_eq_some_iff.mp e
  subst e2
  exact o G H st env F Q ds r q fun p vs G' H' x hp gp e' l => k _ _ _ [p] x (.ol e' (slRs_fz l)) (by simp) fun a m => by cases List.mem_singleton.mp m; exact ⟨hp, gp⟩
variable {elt tg iter : Expr} {ifs : List Expr} {scope : Scope} {own : List (Str × Nat)} {fi : VL.Env → Option (List D)} {ts : List Nat} {ft : D → VL.Env → Option VL.Env}
theorem lc_parts (hi : IC X tg iter fi) (hts : ∀ i ∈ ts, i ∈ own.map (·.2))
    (hg : ∀ (s : Shared) (H : Hp) (C : Addr) (cl : List (Str × Addr)) (fp : List Addr), TG1 (X.blk s H scope (compEnvC scope cl C X.env) fp) tg ts ft)
    (ht : ∀ (s : Shared) (H : Hp) (C : Addr) (cl : List (Str × Addr)) (fp : List Addr), TBs (X.blk s H scope (compEnvC scope cl C X.env) fp) ifs fc)
    (he : ∀ (s : Shared) (H : Hp) (C : Addr) (cl : List (Str × Addr)) (fp : List Addr), PV (X.blk s H scope (compEnvC scope cl C X.env) fp) elt fe) (hc : X.calm = true) (hN : X.N.Nodup) (ok : BlkOk X.N X.env.scope scope own)
    {i : Nat} {y : Str} {py spos : Pos} (hy : X.N[i]? = some y) (hyl : X.env.scope.names.lookup y = some .local)
    (hsw : swapsWith (.ListComp elt [⟨tg, iter, ifs, 0⟩] scope pos) (some (.Name y py)) spos.line X.env = pure true) (hs : ∀ x, foldedSetIterable iter X.env x = pure x) :
    ∃ te, PS X (.Assign [.Name y py] (.ListComp elt [⟨tg, iter, ifs, 0⟩] scope pos) spos) (tAsg te (gName i)) ∧ OkL X.K (fun env => (fi env).bind (compD ft fc fe (wipeE env (own.map (·.2))))) te := by
  obtain ⟨wi, p, o⟩ := hi.ex
  exact ⟨_, ps_setLc hc hN hy hyl hsw p ok (fun s H C cl fp => (hg s H C cl fp).c) (fun s H C cl fp => (ht s H C cl fp).c) (fun s H C cl fp => (he s H C cl fp).c) hs, lc_ok o hts⟩
theorem s_setC (i : Nat) {y : Str} {py spos : Pos} (hc : X.calm = true) (hN : X.N.Nodup) (hi : IC X tg iter fi) (ok : BlkOk X.N X.env.scope scope own) (hts : ∀ i ∈ ts, i ∈ own.map (·.2))
    (hg : ∀ (s : Shared) (H : Hp) (C : Addr) (cl : List (Str × Addr)) (fp : List Addr), TG1 (X.blk s H scope (compEnvC scope cl C X.env) fp) tg ts ft)
    (ht : ∀ (s : Shared) (H : Hp) (C : Addr) (cl : List (Str × Addr)) (fp : List Addr), TBs (X.blk s H scope (compEnvC scope cl C X.env) fp) ifs fc)
    (he : ∀ (s : Shared) (H : Hp) (C : Addr) (cl : List (Str × Addr)) (fp : List Addr), PV (X.blk s H scope (compEnvC scope cl C X.env) fp) elt fe)
    (hsw : swapsWith (.ListComp elt [⟨tg, iter, ifs, 0⟩] scope pos) (some (.Name y py)) spos.line X.env = pure true) (hy : X.N[i]? = some y := by rfl) (hyl : X.env.scope.names.lookup y = some .local := by rfl)
    (hs : ∀ x, foldedSetIterable iter X.env x = pure x := by intro _; rfl) :
    SV X (.Assign [.Name y py] (.ListComp elt [⟨tg, iter, ifs, 0⟩] scope pos) spos) (sSet i fun env => ((fi env).bind (compD ft fc fe (wipeE env (own.map (·.2))))).map D.lst) := by
  obtain ⟨te, p, o⟩ := lc_parts (fi := fi) hi hts hg ht he hc hN ok hy hyl hsw hs
  exact ⟨_, p, okSet (okL_v o)⟩
theorem s_setCO (i : Nat) {y : Str} {py spos : Pos} (hc : X.calm = true) (hN : X.N.Nodup) (hi : IC X tg iter fi) (ok : BlkOk X.N X.env.scope scope own) (hts : ∀ i ∈ ts, i ∈ own.map (·.2))
    (hg : ∀ (s : Shared) (H : Hp) (C : Addr) (cl : List (Str × Addr)) (fp : List Addr), TG1 (X.blk s H scope (compEnvC scope cl C X.env) fp) tg ts ft)
    (ht : ∀ (s : Shared) (H : Hp) (C : Addr) (cl : List (Str × Addr)) (fp : List Addr), TBs (X.blk s H scope (compEnvC scope cl C X.env) fp) ifs fc)
    (he : ∀ (s : Shared) (H : Hp) (C : Addr) (cl : List (Str × Addr)) (fp : List Addr), PV (X.blk s H scope (compEnvC scope cl C X.env) fp) elt fe)
    (hsw : swapsWith (.ListComp elt [⟨tg, iter, ifs, 0⟩] scope pos) (some (.Name y py)) spos.line X.env = pure true) (hy : X.N[i]? = some y := by rfl) (hyl : X.env.scope.names.lookup y = some .local := by rfl)
    (hs : ∀ x, foldedSetIterable iter X.env x = pure x := by intro _; rfl) :
    SV X (.Assign [.Name y py] (.ListComp elt [⟨tg, iter, ifs, 0⟩] scope pos) spos) (sSetO i fun env => ((fi env).bind (compD ft fc fe (wipeE env (own.map (·.2))))).map fun ds => S.ol (ds.map S.fz)) := by
  obtain ⟨te, p, o⟩ := lc_parts (fi := fi) hi hts hg ht he hc hN ok hy hyl hsw hs
  exact ⟨_, p, okSetO (okL_o o)⟩
/-- targets -/
@[simp] def sTg (ft : D → VL.Env → Option VL.Env) (fe : VL.Env → Option D) : VL.Env → Option Out := fun env => (fe env).bind fun d => (ft d env).map .nx
theorem s_tg (he : PV X e fe) (hg : TG1 X tg ts ft) (hs : swapsWithSole [tg] e pos.line X.env = pure false := by rfl) (hw : swappedStores [tg] e X.env = pure none := by rfl)
    (h1 : (assignEach [tg] X.env).map (·.2) = [assign tg X.env] := by rfl) : SV X (.Assign [tg] e pos) (sTg ft fe) := by
  obtain ⟨t, p, o⟩ := he.ex
  obtain ⟨g, pg, og⟩ := hg.ex
  refine ⟨_, ps_asg p pg hs hw h1, fun c G H s env F E u r q e k => ?_⟩
  obtain ⟨d, e1, e2⟩ := Option.bind_eq_some_iff.mp e
  obtain ⟨env', e3, e4⟩ := Option.map_eq_some_iff.mp e2
  subst e4
  exact o G H s env F _ d r e1 fun v G' H' x rv => og G' H' s env F v d env' _ (r.ext x) rv e3 fun st' F' r' sb _ => k G' H' st' F' r' ((q.ext x).sub sb)
/-- a, b = x, y -/
@[simp] def sPar (i j : Nat) (fs : VL.Env → Option (List D)) : VL.Env → Option Out := fun env => (fs env).bind fun ds => match ds with
  | [d, e] => some (.nx ((env.set i (some (.fz d))).set j (some (.fz e))))
  | _ => none
theorem s_par {i j : Nat} {x y : Str} {a b : Expr} {fs : VL.Env → Option (List D)} {px py pt : Pos} {kt k2 pt2} (hc : X.calm = true) (hN : X.N.Nodup) (ha : AV X [a, b] fs) (hij : i ≠ j) (hi : X.N[i]? = some x := by rfl) (hj : X.N[j]? = some y := by rfl)
    (hx : X.env.scope.names.lookup x = some .local := by rfl) (hy : X.env.scope.names.lookup y = some .local := by rfl)
    (hw : swappedStores [.Tuple [.Name x px, .Name y py] kt pt] (.Tuple [a, b] k2 pt2) X.env = pure (some [x, y]) := by rfl)
    (hs : swapsWithSole [.Tuple [.Name x px, .Name y py] kt pt] (.Tuple [a, b] k2 pt2) pos.line X.env = pure false := by rfl) :
    SV X (.Assign [.Tuple [.Name x px, .Name y py] kt pt] (.Tuple [a, b] k2 pt2) pos) (sPar i j fs) := by
  obtain ⟨t, p, o⟩ := ha.ex
  refine ⟨_, ps_par hc hN hi hj hij hx hy p hw hs, fun c G H s env F E u r q e k => ?_⟩
  obtain ⟨ds, e1, e2⟩ := Option.bind_eq_some_iff.mp e
  split at e2
  · cases e2
    refine o G H s env F _ _ r e1 fun vs G' H' x rv => ?_
    cases rv with
    | cons r1 r2 =>
      cases r2 with
      | cons r2 r3 =>
        cases r3
        exact ⟨_, _, rfl, k G' H' _ _ (((r.ext x).setF i r1).setF j r2) ((q.ext x).sub fun j a m => putFp_sub (putFp_sub m))⟩
  · cases e2
@[simp] def sIf (c : VL.Env → Option Bool) (f g : VL.Env → Option Out) : VL.Env → Option Out := fun env => (c env).bind fun b => if b then f env else g env
theorem s_if {cnd : Expr} {a b : List Stmt} (hc : TB X cnd fc) (ha : BV X a f) (hb : BV X b g) : SV X (.If cnd a b pos) (sIf fc f g) := by
  obtain ⟨tc, pc, oc⟩ := hc.ex
  obtain ⟨t, p, o⟩ := ha.ex
  obtain ⟨t', p', o'⟩ := hb.ex
  refine ⟨_, ps_if pc p p', fun c G H s env F E u r q e k => ?_⟩
  obtain ⟨x, e1, e2⟩ := Option.bind_eq_some_iff.mp e
  refine oc G H s env F _ x r e1 fun G' H' y => ?_
  cases x with
  | true => exact iteT (o c G' H' s env F E u (r.ext y) (q.ext y) e2 k)
  | false => exact iteF (o' c G' H' s env F E u (r.ext y) (q.ext y) e2 k)
@[simp] def sRet (fe : VL.Env → Option D) : VL.Env → Option Out := fun env => (fe env).map fun d => .rt (.fz d) env
@[simp] def sRetO (fo : VL.Env → Option S) : VL.Env → Option Out := fun env => (fo env).map fun s => .rt s env
theorem s_ret (he : PV X e fe) : SV X (.Return (some e) pos) (sRet fe) := by
  obtain ⟨t, p, o⟩ := he.ex
  refine ⟨_, ps_ret p, fun c G H s env F E u r q e k => ?_⟩
  obtain ⟨d, e1, e2⟩ := Option.map_eq_some_iff.mp e
  subst e2
  exact o G H s env F _ d r e1 fun v G' H' x rv => k v G' H' s F [] (r.ext x) (q.ext x) (.fz rv) .nil (fun a m => by cases m) (fun i a m => by cases m)
theorem s_retO (he : PO X e fo) : SV X (.Return (some e) pos) (sRetO fo) := by
  obtain ⟨t, p, o⟩ := he.ex
  refine ⟨_, ps_ret p, fun c G H s env F E u r q e k => ?_⟩
  obtain ⟨d, e1, e2⟩ := Option.map_eq_some_iff.mp e
  subst e2
  refine o G H s env F _ d r e1 fun v G' H' l x rv nd fr => k v G' H' s F l (r.ext x) (q.ext x) rv nd (fun a m => ⟨(fr a m).2, q.new (fr a m).1⟩) (fun i a m m' => ?_)
  obtain ⟨o, z⟩ := r.dom m'
  rw [(fr a m).1] at z; cases z
/-- return of an owned name: it is moved out -/
@[simp] def sRetN (i : Nat) : VL.Env → Option Out := fun env => (getS env i).map fun s => .rt s (env.set i none)
theorem s_retN (i : Nat) {x : Str} {xpos : Pos} (hN : X.N[i]? = some x := by rfl) (hv : Vis X.env.scope x := by first | exact Or.inl rfl | exact Or.inr (Or.inl rfl) | exact Or.inr (Or.inr rfl))
    (hd : (x == ("__debug__" : Str)) = false := by decide) (hcd : (x == ("__classdict__" : Str)) = false := by decide) : SV X (.Return (some (.Name x xpos)) pos) (sRetN i) := by
  refine ⟨_, ps_ret (pe_var hN hv hd hcd), fun c G H s env F E u r q e k => ?_⟩
  obtain ⟨d, e1, e2⟩ := Option.map_eq_some_iff.mp e
  subst e2
  obtain ⟨v, h1, h2⟩ := r.slot i d (getS_some e1)
  refine ⟨v, h1, k v G H s (putFp F i []) (F i) (r.hide i) (q.sub fun j a m => putFp_sub m) h2 (r.nd i) (fun a m => ⟨r.off i a m, q.own i a m⟩) (fun j a m m' => ?_)⟩
  unfold putFp at m'
  split at m'
  · cases m'
  · rename_i c
    exact c (r.dj j i a m' m)
theorem s_retNone : SV X (.Return none pos) (fun env => some (.rt (.fz .non) env)) := by
  refine ⟨_, ps_retN, fun c G H s env F E u r q e k => ?_⟩
  cases e
  exact k .non G H s F [] r q (.fz .non) .nil (fun a m => by cases m) (fun i a m => by cases m)
/-- n += e, whole numbers -/
@[simp] def sAug (i : Nat) (g : Int → Int → Int) (fe : VL.Env → Option D) : VL.Env → Option Out := fun env => (getF env i).bind fun x => (intOf x).bind fun a => (fe env).bind fun y => (intOf y).map fun b => .nx (env.set i (some (.fz (.int (g a b)))))
theorem s_aug (i : Nat) {x : Str} {pos' : Pos} {op : Operator} {gg : Int → Int → Int} (hN : X.N.Nodup) (he : PV X e fe) (ho : PIp X op (ipI gg)) (hi : X.N[i]? = some x := by rfl) (hx : Loc X.env.scope x := by first | exact Or.inl rfl | exact Or.inr rfl)
    (hf : X.fn x = true ∨ X.env.scope.names.lookup x = some .local := by first | exact .inl rfl | exact .inr rfl) : SV X (.AugAssign (.Name x pos') op e pos) (sAug i gg fe) := by
  obtain ⟨t, p, o⟩ := he.ex
  refine ⟨_, ps_aug hN hi hx p ho hf, fun c G H s env F E u r q e k => ?_⟩
  obtain ⟨d, e1, e⟩ := Option.bind_eq_some_iff.mp e
  obtain ⟨a, e2, e⟩ := Option.bind_eq_some_iff.mp e
  obtain ⟨d', e3, e⟩ := Option.bind_eq_some_iff.mp e
  obtain ⟨b, e4, e5⟩ := Option.map_eq_some_iff.mp e
  subst e5
  obtain rfl := intOf_some e2
  obtain rfl := intOf_some e4
  obtain ⟨v, h1, h2⟩ := r.fz (getF_some e1)
  cases h2
  refine ⟨_, h1, o G H s env F _ _ r e3 fun w G' H' y rw' => ?_⟩
  cases rw'
  exact ⟨a, b, rfl, rfl, k G' H' _ _ ((r.ext y).setF i (.int _)) ((q.ext y).sub fun j a m => putFp_sub m)⟩

/-! ### a slot's own thing changed -/
theorem ER.upd {K : PySem.W.Frag} {G H H' : Hp} {s : L2.St} {env : VL.Env} {F : Nat → List Addr} (r : ER K G H s env F) {i : Nat} {v : V} {z : S} {l : List Addr} (hv : s[i]? = some (some v))
    (ag : ∀ b, b ∉ F i → H' b = H b ∨ H b = none) (h : SlR K G H' v z l) (nd : l.Nodup) (hl : ∀ a ∈ l, a ∈ F i ∨ (G a = none ∧ ∀ j, a ∉ F j)) : ER K G H' s (env.set i (some z)) (putFp F i l) := by
  have hi : i < env.length := by rw [r.len]; exact (List.getElem?_eq_some_iff.mp hv).1
  refine ⟨fun b o e => ?_, by rw [List.length_set]; exact r.len, fun j t e => ?_, fun j hj => ?_, fun j a m => ?_, fun j => ?_, fun j k a m m' => ?_⟩
  · have hb : b ∉ F i := fun m => by rw [r.off i b m] at e; cases e
    rcases ag b hb with q | q
    · rw [q]; exact r.sub _ _ e
    · rw [r.sub _ _ e] at q; cases q
  · rcases get_set e with ⟨rfl, _, e⟩ | ⟨ne, e⟩
    · cases e
      refine ⟨v, hv, ?_⟩
      unfold putFp; rw [if_pos rfl]; exact h
    · obtain ⟨w, h1, h2⟩ := r.slot j t e
      refine ⟨w, h1, ?_⟩
      unfold putFp; rw [if_neg ne]
      refine SlR.mono (Same.refl _) t w _ (fun a m => ?_) h2
      rcases ag a (fun z => ne (r.dj j i a m z)) with q | q
      · exact q
      · obtain ⟨o, z⟩ := r.dom m
        rw [z] at q; cases q
  · unfold putFp
    by_cases c : j = i
    · subst c; exact absurd (List.getElem?_set_self hi) (hj z)
    · rw [if_neg c]
      exact r.out j fun t e => hj t (by rw [List.getElem?_set_ne (Ne.symm c)]; exact e)
  · unfold putFp at m
    split at m
    · rcases hl a m with q | q
      · exact r.off i a q
      · exact q.1
    · exact r.off j a m
  · unfold putFp
    split
    · exact nd
    · exact r.nd j
  · unfold putFp at m m'
    split at m <;> split at m'
    · rename_i c c'; rw [c, c']
    · rename_i c c'
      rcases hl a m with q | q
      · exact absurd (r.dj i k a q m').symm c'
      · exact absurd m' (q.2 k)
    · rename_i c c'
      rcases hl a m' with q | q
      · exact absurd (r.dj i j a q m).symm c
      · exact absurd m (q.2 j)
    · exact r.dj j k a m m'
theorem CR.upd {c : C0} {G H H' : Hp} {F : Nat → List Addr} (r : CR c G H F) {i : Nat} {l : List Addr} (ag : ∀ b, b ∉ F i → H' b = H b ∨ H b = none) (hl : ∀ a ∈ l, a ∈ F i ∨ c.H a = none ∨ c.O a) : CR c G H' (putFp F i l) := by
  refine ⟨r.g0, r.gnew, fun b o e q => ?_, fun j a m => ?_⟩
  · have hb : b ∉ F i := fun m => by
      rcases r.own i b m with z | z
      · rw [z] at e; cases e
      · exact q z
    have := r.keep b o e q
    rcases ag b hb with z | z
    · rw [z]; exact this
    · rw [this] at z; cases z
  · unfold putFp at m
    split at m
    · rcases hl a m with q | q
      · exact r.own i a q
      · exact q
    · exact r.own j a m
theorem SlRs.append {K : PySem.W.Frag} {G H : Hp} : ∀ {xs : List S} {vs : List V} {F : List Addr} {v : V} {s : S} {l : List Addr}, SlRs K G H vs xs F → SlR K G H v s l → SlRs K G H (vs ++ [v]) (xs ++ [s]) (F ++ l)
  | [], _, _, _, _, l, h, h' => by
    cases h
    have := SlRs.cons h' (SlRs.nil (K := K) (G := G) (H := H))
    rw [List.append_nil] at this
    exact this
  | x :: xs, _, _, _, _, _, h, h' => by
    cases h with
    | cons h1 h2 =>
      rw [List.append_assoc]
      exact .cons h1 (SlRs.append h2 h')
theorem SlRs.appendL {K : PySem.W.Frag} {G H : Hp} : ∀ {xs ys : List S} {vs ws : List V} {F l : List Addr}, SlRs K G H vs xs F → SlRs K G H ws ys l → SlRs K G H (vs ++ ws) (xs ++ ys) (F ++ l)
  | [], _, _, _, _, l, h, h' => by cases h; exact h'
  | x :: xs, _, _, _, _, _, h, h' => by
    cases h with
    | cons h1 h2 =>
      rw [List.append_assoc]
      exact .cons h1 (SlRs.appendL h2 h')
/-- x.append(e) at an owned name -/
def appS : S → S → Option S
  | .ol xs, s => if xs.length < sizeLine then some (.ol (xs ++ [s])) else none
  | _, _ => none
theorem appS_some {z s u : S} (h : appS z s = some u) : ∃ xs, z = .ol xs ∧ xs.length < sizeLine ∧ u = .ol (xs ++ [s]) := by
  cases z <;> try (cases h; done)
  unfold appS at h
  dsimp only at h
  split at h
  · rename_i hl; cases h; exact ⟨_, rfl, hl, rfl⟩
  · cases h
@[simp] def sApp (i : Nat) (fo : VL.Env → Option S) : VL.Env → Option Out := fun env => (getS env i).bind fun z => (fo env).bind fun s => (appS z s).map fun u => .nx (env.set i (some u))
theorem s_app (i : Nat) {x : Str} {xpos apos cpos : Pos} (he : PO X e fo) (hN : X.N[i]? = some x := by rfl) (hv : Vis X.env.scope x := by first | exact Or.inl rfl | exact Or.inr (Or.inl rfl) | exact Or.inr (Or.inr rfl))
    (hd : (x == ("__debug__" : Str)) = false := by decide) (hcd : (x == ("__classdict__" : Str)) = false := by decide)
    (hbase : attributeBase (.Name x xpos) "append" X.env (eval (.Name x xpos) X.env) = eval (.Name x xpos) X.env := by rfl)
    (hfew : ((backTo cpos (starEach [e] X.env)).all (fun x => !x.1) && (backToKw cpos (keywordEach [] X.env)).all (fun x => x.1.isSome)
      && decide ([e].length + ([] : List Keyword).length + (if ([] : List Keyword).isEmpty then 0 else 1) < 30)) = true := by rfl)
    (hline : (apos.endLine == cpos.line) = true := by rfl) (hs : starEach [e] X.env = (false, eval e X.env) :: starEach [] X.env := by rfl)
    (hsw : swapsWith (.Call (.Attribute (.Name x xpos) "append" apos) [e] [] cpos) none pos.line X.env = pure false := by rfl) :
    SV X (.Expr (.Call (.Attribute (.Name x xpos) "append" apos) [e] [] cpos) pos) (sApp i fo) := by
  obtain ⟨t, p, o⟩ := he.ex
  refine ⟨_, ps_expr (pe_bm PySem.F.plainAttrs_list PySem.F.slot_list_append PySem.F.type_list_append mt_append (pe_var hN hv hd hcd) (pa_cons p pa_nil hs) hbase hfew hline hs rfl) hsw, fun c G H s env F E u r q e k => ?_⟩
  obtain ⟨z, e1, e⟩ := Option.bind_eq_some_iff.mp e
  obtain ⟨y, e2, e⟩ := Option.bind_eq_some_iff.mp e
  obtain ⟨u', e3, e4⟩ := Option.map_eq_some_iff.mp e
  subst e4
  obtain ⟨xs, rfl, hl, rfl⟩ := appS_some e3
  · obtain ⟨v, h1, h2⟩ := r.slot i _ (getS_some e1)
    have hF : F i = F i := rfl
    generalize hFi : F i = Fi at h2
    cases h2 with
    | @ol pp vs _ Fx g1 g2 =>
      have h2' : SlR X.K G H (.ref pp) (.ol xs) (pp :: Fx) := .ol g1 g2
      refine ⟨.ref pp, h1, .inl ⟨rfl, _, SqL.of g1⟩, o G H s env F _ y r e2 fun w G' H' l x rw' nd fr => ?_⟩
      have r1 := r.ext x
      have q1 := q.ext x
      have hp : H' pp = some (.lst vs) := x.hh _ _ g1
      refine ⟨pp, vs, w, rfl, rfl, hp, by rw [g2.length]; exact hl, ?_⟩
      have dx : ∀ a ∈ Fx, a ∈ F i := fun a m => by rw [hFi]; exact List.mem_cons_of_mem _ m
      have ndi : (pp :: Fx).Nodup := by rw [← hFi]; exact r.nd i
      have fresh : ∀ a ∈ l, ∀ j, a ∉ F j := fun a m j m' => by
        obtain ⟨o, z⟩ := r.dom m'
        rw [(fr a m).1] at z; cases z
      have hppF : pp ∈ F i := by rw [hFi]; exact List.mem_cons_self
      have ag : ∀ b, b ∉ F i → (L2.upd H' pp (.lst (vs ++ [w]))) b = H' b ∨ H' b = none := fun b hb => .inl (upd_ne fun z => hb (by rw [z]; exact hppF))
      have hne : ∀ a ∈ Fx ++ l, a ≠ pp := fun a m z => by
        subst z
        rcases List.mem_append.mp m with m | m
        · exact (List.nodup_cons.mp ndi).1 m
        · exact fresh a m i hppF
      have sx : SlRs X.K G' H' vs xs Fx := SlRs.mono x.gg xs vs Fx (fun a m => by
        obtain ⟨o, z⟩ := SlRs.dom xs vs Fx g2 a m
        rw [z]; exact x.hh _ _ z) g2
      have new : SlR X.K G' (L2.upd H' pp (.lst (vs ++ [w]))) (.ref pp) (.ol (xs ++ [y])) (pp :: (Fx ++ l)) := by
        refine .ol upd_same (SlRs.mono (Same.refl _) _ _ _ (fun a m => upd_ne (hne a m)) (sx.append rw'))
      refine k G' _ s _ (r1.upd h1 ag new ?_ fun a m => ?_) (CR.upd q1 ag fun a m => ?_)
      · refine List.nodup_cons.mpr ⟨fun m => hne pp m rfl, List.nodup_append.mpr ⟨(List.nodup_cons.mp ndi).2, nd, fun a m b m' z => ?_⟩⟩
        subst z
        exact fresh a m' i (dx a m)
      · rcases List.mem_cons.mp m with rfl | m
        · exact .inl hppF
        · rcases List.mem_append.mp m with m | m
          · exact .inl (dx a m)
          · exact .inr ⟨(fr a m).2, fresh a m⟩
      · rcases List.mem_cons.mp m with rfl | m
        · exact .inl hppF
        · rcases List.mem_append.mp m with m | m
          · exact .inl (dx a m)
          · exact .inr (q.new (fr a m).1)
end
end VL

set_option Elab.async false
set_option linter.all false
set_option maxRecDepth 100000
/-! VL7: loops, stores by place, defs and their calls. -/
namespace VL
open PySem PySem.Spec PyProof.Rows L2
/-! ### for -/
def forD (ft : D → VL.Env → Option VL.Env) (fb : VL.Env → Option Out) : List D → VL.Env → Option Out
  | [], env => some (.nx env)
  | d :: ds, env => (ft d env).bind fun e1 => (fb e1).bind fun o => match o with
    | .nx e2 => forD ft fb ds e2
    | .ct e2 => forD ft fb ds e2
    | .bk e2 => some (.nx e2)
    | .rt s e2 => some (.rt s e2)
@[simp] def sFor (fi : VL.Env → Option (List D)) (ft : D → VL.Env → Option VL.Env) (fb : VL.Env → Option Out) : VL.Env → Option Out := fun env => (fi env).bind fun xs => forD ft fb xs env
section
variable {X : Cx} {pos : Pos} {tg iter : Expr} {body : List Stmt} {ts : List Nat} {fi : VL.Env → Option (List D)} {ft : D → VL.Env → Option VL.Env} {fb : VL.Env → Option Out}
theorem s_for (hp : PassesOwn (model X.prog X.w) X.A X.env X.xe) (hc : X.calm = true) (hi : IV X tg iter fi) (hg : TG1 X tg ts ft) (hb : BV X body fb)
    (hs : ∀ x, foldedSetIterable iter X.env x = pure x := by intro _; rfl) : SV X (.For tg iter body [] pos) (sFor fi ft fb) := by
  obtain ⟨wi, pi, oi⟩ := hi.ex
  obtain ⟨g, pg, og⟩ := hg.ex
  obtain ⟨tb, pb, ob⟩ := hb.ex
  refine ⟨_, ps_for hp hc pi pg pb hs, fun c G H s env F E u r q e k => ?_⟩
  obtain ⟨xs, e1, e2⟩ := Option.bind_eq_some_iff.mp e
  refine oi G H s env F _ xs r e1 fun J G1 H1 x1 y => ?_
  refine ⟨fun i m s' Hc => m = xs.length - i ∧ i ≤ xs.length ∧ ∃ Gc env' F' o, ER X.K Gc Hc s' env' F' ∧ CR c Gc Hc F' ∧ Same G1 Gc ∧ forD ft fb (xs.drop i) env' = some o ∧ Post X.K c E o,
    ⟨xs.length, rfl, Nat.zero_le _, G1, env, F, u, r.ext x1, q.ext x1, Same.refl _, e2, k⟩, ?_⟩
  rintro i m s' Hc ⟨em, hi', Gc, env', F', o, r', q', sg, ec, kc⟩
  by_cases hlt : i < xs.length
  · have ed : xs.drop i = xs[i] :: xs.drop (i + 1) := List.drop_eq_getElem_cons hlt
    rw [ed] at ec
    obtain ⟨ea, t1, ec⟩ := Option.bind_eq_some_iff.mp (show (ft xs[i] env').bind _ = some o from ec)
    obtain ⟨ob', t2, ec⟩ := Option.bind_eq_some_iff.mp ec
    obtain ⟨go, hy⟩ := y.step i Gc Hc sg (sg.trans r'.sub) r'.sub xs[i] (List.getElem?_eq_getElem hlt)
    refine .inr ⟨go, _, fun s2 H' h' => ⟨xs.length - (i + 1), by omega, rfl, hlt, h'⟩, fun v H3 hv => ?_⟩
    obtain ⟨G3, x3, rv⟩ := hy v H3 hv
    refine og G3 H3 s' env' F' v xs[i] ea _ (r'.ext x3) rv t1 fun st2 F2 r2 sb _ => ?_
    have q2 := (q'.ext x3).sub sb
    refine ob (VL.re G3 H3 F2) G3 H3 st2 ea F2 _ ob' r2 .re t2 ?_
    have nxt : ∀ e2', forD ft fb (xs.drop (i + 1)) e2' = some o → ∀ (G H : Hp) (st : L2.St) (F : Nat → List Addr), ER X.K G H st e2' F → CR (VL.re G3 H3 F2) G H F → i + 1 ≤ xs.length ∧ ∃ Gc env' F' o, ER X.K Gc H st env' F' ∧ CR c Gc H F' ∧ Same G1 Gc ∧ forD ft fb (xs.drop (i + 1)) env' = some o ∧ Post X.K c E o :=
      fun e2' ez G' H' st3 F3 r3 q3 => ⟨hlt, G', e2', F3, o, r3, q2.trans q3, (sg.trans x3.gg).trans q3.g0, ez, kc⟩
    cases ob' with
    | nx e2' => exact fun G' H' st3 F3 r3 q3 => (nxt e2' ec G' H' st3 F3 r3 q3).2
    | ct e2' => exact fun G' H' st3 F3 r3 q3 => (nxt e2' ec G' H' st3 F3 r3 q3).2
    | bk e2' =>
      cases ec
      exact fun G' H' st3 F3 r3 q3 => kc G' H' st3 F3 r3 (q2.trans q3)
    | rt z e2' =>
      cases ec
      exact Post.re (o := .rt z e2') q2 kc
  · have ei : i = xs.length := by omega
    refine .inl ⟨y.stop i Gc Hc sg (sg.trans r'.sub) r'.sub ei, ?_⟩
    rw [List.drop_eq_nil_of_le (by omega)] at ec
    cases ec
    exact kc Gc Hc s' F' r' q'
/-! ### while -/
def whD (fc : VL.Env → Option Bool) (fb : VL.Env → Option Out) : Nat → VL.Env → Option Out
  | 0, _ => none
  | n + 1, env => (fc env).bind fun b => if b then (fb env).bind fun o => match o with
      | .nx e2 => whD fc fb n e2
      | .ct e2 => whD fc fb n e2
      | .bk e2 => some (.nx e2)
      | .rt s e2 => some (.rt s e2)
    else some (.nx env)
variable {cnd : Expr} {fc : VL.Env → Option Bool}
/-- n: how many turns are allowed -/
theorem s_while (n : VL.Env → Nat) (hp : PassesOwn (model X.prog X.w) X.A X.env X.xe) (hc : TB X cnd fc) (hb : BV X body fb) : SV X (.While cnd body [] pos) (fun env => whD fc fb (n env) env) := by
  obtain ⟨tc, pc, oc⟩ := hc.ex
  obtain ⟨tb, pb, ob⟩ := hb.ex
  refine ⟨_, ps_while hp pc pb, fun c G H s env F E u r q e k => ?_⟩
  refine ⟨fun m s' Hc => ∃ Gc env' F' o, ER X.K Gc Hc s' env' F' ∧ CR c Gc Hc F' ∧ whD fc fb m env' = some o ∧ Post X.K c E o, ⟨n env, G, env, F, u, r, q, e, k⟩, ?_⟩
  rintro m s' Hc ⟨Gc, env', F', o, r', q', ec, kc⟩
  cases m with
  | zero => cases ec
  | succ m =>
    obtain ⟨b, t1, ec⟩ := Option.bind_eq_some_iff.mp (show (fc env').bind _ = some o from ec)
    refine oc Gc Hc s' env' F' _ b r' t1 fun G2 H2 x2 => ?_
    cases b with
    | true =>
      obtain ⟨ob', t2, ec⟩ := Option.bind_eq_some_iff.mp (show (fb env').bind _ = some o from ec)
      refine iteT ⟨_, fun s2 H' h' => ⟨m, Nat.lt_succ_self m, h'⟩, ob c G2 H2 s' env' F' _ ob' (r'.ext x2) (q'.ext x2) t2 ?_⟩
      cases ob' with
      | nx e2' => exact fun G' H' st3 F3 r3 q3 => ⟨G', e2', F3, o, r3, q3, ec, kc⟩
      | ct e2' => exact fun G' H' st3 F3 r3 q3 => ⟨G', e2', F3, o, r3, q3, ec, kc⟩
      | bk e2' =>
        cases ec
        exact fun G' H' st3 F3 r3 q3 => kc G' H' st3 F3 r3 q3
      | rt z e2' =>
        cases ec
        exact kc
    | false =>
      cases ec
      exact iteF (kc G2 H2 s' F' (r'.ext x2) (q'.ext x2))
end

/-! ### defs -/
def spS (K : PySem.W.Frag) (Fs : List D → Option S) : Sp := fun vs H Q _ => ∃ G ds s, Same G H ∧ RpL K G vs ds ∧ Fs ds = some s ∧
  ∀ v G' H' l, Ex G H G' H' → SlR K G' H' v s l → l.Nodup → (∀ a ∈ l, H a = none ∧ G' a = none) → Q v H'
def startE (n : Nat) (ds : List D) : VL.Env := ds.map (fun d => some (S.fz d)) ++ List.replicate (n - ds.length) none
def retS : Out → Option S
  | .rt s _ => some s
  | .nx _ => some (.fz .non)
  | _ => none
@[simp] theorem retS_rt (s : S) (env : VL.Env) : retS (.rt s env) = some s := rfl
@[simp] theorem retS_nx (env : VL.Env) : retS (.nx env) = some (.fz .non) := rfl
def fnS (np n : Nat) (fb : VL.Env → Option Out) (ds : List D) : Option S := if ds.length = np then (fb (startE n ds)).bind retS else none
theorem ER.start {K : PySem.W.Frag} {G H : Hp} (sub : Same G H) {vs : List V} {ds : List D} (l : RpL K G vs ds) (N : List Str) : ER K G H (L2.start N vs) (startE N.length ds) (fun _ => []) := by
  refine ⟨sub, ?_, fun i s e => ?_, fun i _ => rfl, fun i a m => (by cases m), fun i => .nil, fun i j a m => (by cases m)⟩
  · unfold startE L2.start
    rw [List.length_append, List.length_append, List.length_map, List.length_map, List.length_replicate, List.length_replicate, l.length]
  · unfold startE at e
    by_cases hi : i < ds.length
    · rw [List.getElem?_append_left (by rw [List.length_map]; exact hi), List.getElem?_map] at e
      obtain ⟨d, e1, e2⟩ := Option.map_eq_some_iff.mp e
      cases e2
      obtain ⟨v, h1, h2⟩ := l.get e1
      refine ⟨v, ?_, .fz h2⟩
      unfold L2.start
      rw [List.getElem?_append_left (by rw [List.length_map, l.length]; exact hi), List.getElem?_map, h1]; rfl
    · rw [List.getElem?_append_right (by rw [List.length_map]; omega)] at e
      have := List.mem_of_getElem? e
      rw [List.mem_replicate] at this
      cases this.2
section
variable {P : Program} {w : World} {K : PySem.W.Frag} {mg : Str → Option Value} {base : Heap}
theorem fn_ok {x qual : Str} {st : Stmt} {f : Addr} {fd : FuncData} {N ps : List Str} {k : Nat} {fb : VL.Env → Option Out} (F : Fun K x qual st f fd) (Sc : FnScope N ps (defScope st))
    (hb : ∀ (cdv : Value) (A : Around) (outer : List PySem.Env) (s : Shared) (H : Hp) (E : XK), Room k (A.deeper (envOfC qual (defScope st) s.heap.objs.size f cdv)) →
      BV (cxOf CX0 P w K mg base N qual (defScope st) f cdv A outer s H E).nox (defBody st) fb) : FnOk P w K mg base CX0 (k + 1) f fd ps (spS K (fnS ps.length N.length fb)) := by
  refine F.ok Sc (fun vs H Q E ⟨G, ds, z, _, l, e, _⟩ => ?_) (fun cdv A outer s H vs Q E hr ⟨G, ds, z, sub, l, e, kk⟩ => ?_)
  · unfold fnS at e
    split at e
    · rename_i h; rw [l.length]; exact h
    · cases e
  · obtain ⟨t, p, o⟩ := (hb cdv A outer s H E hr).ex
    unfold fnS at e
    split at e
    · obtain ⟨u, e1, e2⟩ := Option.bind_eq_some_iff.mp e
      refine ⟨t, p, o ⟨G, H, fun _ => False⟩ G H _ _ _ _ u (ER.start sub l N) ⟨Same.refl _, fun b e => .inl e, fun b o e _ => e, fun i a m => by cases m⟩ e1 ?_⟩
      have ex : ∀ {G' H' : Hp} {F' : Nat → List Addr}, Same G' H' → CR ⟨G, H, fun _ => False⟩ G' H' F' → Ex G H G' H' := fun s c =>
        ⟨fun b o e => c.keep b o e (fun z => z), c.g0, s, fun b e => (c.gnew b e).imp _root_.id fun z => z.elim _root_.id False.elim⟩
      cases u with
      | nx env =>
        cases e2
        exact fun G' H' st F' r q => kk .non G' H' [] (ex r.sub q) (.fz .non) .nil (fun a m => by cases m)
      | rt s env =>
        cases e2
        exact fun v G' H' st F' l' r q sl nd fr dj => kk v G' H' l' (ex r.sub q) sl nd (fun a m => ⟨((fr a m).2).elim _root_.id False.elim, (fr a m).1⟩)
      | bk env => cases e2
      | ct env => cases e2
    · cases e
end
section
variable {X : Cx} {pos : Pos} {k : Nat} {f : Addr} {fd : FuncData} {ps : List Str} {Fn : List D → Option S} {x : Str} {p : Pos} {e : Expr} {es : List Expr} {fs : VL.Env → Option (List D)}
theorem o_call (F : FnOk X.prog X.w X.K X.mg X.base CX0 k f fd ps (spS X.K Fn)) (hr : Room k X.A) (hg : Gl X x) (hm : X.mg x = some (.ref f)) (hk : PySem.W.keepIn X.K (.ref f) = true) (hb : Binds X.K fd ps [])
    (ha : AV X (e :: es) fs) (hdb : (x == ("__debug__" : Str)) = false := by decide) (he : starEach (e :: es) X.env = (false, eval e X.env) :: starEach es X.env := by rfl) (hpl : (backTo pos (starEach es X.env)).any (·.1) = false := by rfl) :
    PO X (.Call (.Name x p) (e :: es) [] pos) (fun env => (fs env).bind Fn) := by
  obtain ⟨t, pa, o⟩ := ha.ex
  refine ⟨_, pe_call F hr hg hm hk hb .nil pass0 pa hdb he hpl, fun G H st env F' Q d r e k => ?_⟩
  obtain ⟨ds, e1, e2⟩ := Option.bind_eq_some_iff.mp e
  refine o G H st env F' _ _ r e1 fun vs G1 H1 x1 rv => ⟨G1, ds, d, x1.gh, by rw [List.append_nil]; exact rv, e2, fun v G' H' l x2 sl nd fr => k v G' H' l (x1.trans x2) sl nd fun a m => ⟨x1.hh.free (fr a m).1, (fr a m).2⟩⟩
@[simp] def cF (fs : VL.Env → Option (List D)) (Fn : List D → Option S) : VL.Env → Option D := fun env => ((fs env).bind Fn).bind frS
theorem v_call (F : FnOk X.prog X.w X.K X.mg X.base CX0 k f fd ps (spS X.K Fn)) (hr : Room k X.A) (hg : Gl X x) (hm : X.mg x = some (.ref f)) (hk : PySem.W.keepIn X.K (.ref f) = true) (hb : Binds X.K fd ps [])
    (ha : AV X (e :: es) fs) (hdb : (x == ("__debug__" : Str)) = false := by decide) (he : starEach (e :: es) X.env = (false, eval e X.env) :: starEach es X.env := by rfl) (hpl : (backTo pos (starEach es X.env)).any (·.1) = false := by rfl) :
    PV X (.Call (.Name x p) (e :: es) [] pos) (cF fs Fn) := (o_call F hr hg hm hk hb ha hdb he hpl).v
/-- .. called with what is owned: for a plain answer -/
def scS (s : S) : Option D := match s with
  | .fz d => scal d
  | _ => none
@[simp] def cW (fs : VL.Env → Option (List D)) (Fn : List D → Option S) : VL.Env → Option D := fun env => ((fs env).bind Fn).bind scS
theorem v_callW (F : FnOk X.prog X.w X.K X.mg X.base CX0 k f fd ps (spS X.K Fn)) (hr : Room k X.A) (hg : Gl X x) (hm : X.mg x = some (.ref f)) (hk : PySem.W.keepIn X.K (.ref f) = true) (hb : Binds X.K fd ps [])
    (ha : AW X (e :: es) fs) (hdb : (x == ("__debug__" : Str)) = false := by decide) (he : starEach (e :: es) X.env = (false, eval e X.env) :: starEach es X.env := by rfl) (hpl : (backTo pos (starEach es X.env)).any (·.1) = false := by rfl) :
    PV X (.Call (.Name x p) (e :: es) [] pos) (cW fs Fn) := by
  obtain ⟨t, pa, o⟩ := ha.ex
  refine ⟨_, pe_call F hr hg hm hk hb .nil pass0 pa hdb he hpl, fun G H st env F' Q d r e k => ?_⟩
  obtain ⟨d', e', e3⟩ := Option.bind_eq_some_iff.mp e
  obtain ⟨ds, e1, e2⟩ := Option.bind_eq_some_iff.mp e'
  cases d' <;> try (cases e3; done)
  rename_i d'
  refine o G H st env F' _ _ r e1 fun vs G1 H1 x1 rv => ⟨H1, ds, _, Same.refl _, by rw [List.append_nil]; exact rv, e2, fun v G' H' l x2 sl nd fr => ?_⟩
  refine k v G1 H' (x1.trans ⟨x2.hh, Same.refl _, x1.gh.trans x2.hh, fun b z => .inl z⟩) ?_
  cases sl with
  | fz r2 => cases r2 <;> first | (cases e3; constructor) | cases e3
end

/-! ### stores by place -/
def setL : S → D → S → Option S
  | .ol xs, .int k, s => (ixN xs.length k).map fun j => .ol (xs.set j s)
  | _, _, _ => none
theorem setL_some {z s u : S} {d : D} (h : setL z d s = some u) : ∃ xs k j, z = .ol xs ∧ d = .int k ∧ ixN xs.length k = some j ∧ u = .ol (xs.set j s) := by
  cases z <;> try (cases h; done)
  cases d <;> try (cases h; done)
  obtain ⟨j, h1, h2⟩ := Option.map_eq_some_iff.mp (show (ixN _ _).map _ = some u from h)
  exact ⟨_, _, j, rfl, rfl, h1, h2.symm⟩
theorem rpl_set {K : PySem.W.Frag} {H : Hp} {v : V} {d : D} : ∀ {vs : List V} {ds : List D} (j : Nat), RpL K H vs ds → Rp K H v d → RpL K H (vs.set j v) (ds.set j d)
  | _, _, _, .nil, _ => .nil
  | _, _, 0, .cons _ t, r => .cons r t
  | _, _, j + 1, .cons h t, r => .cons h (rpl_set j t r)
section
variable {X : Cx} {pos : Pos} {e : Expr} {fe : VL.Env → Option D} {fk : VL.Env → Option D}
/-- x[k] = e of an owned list whose items are frozen -/
@[simp] def sPutL (i : Nat) (fk fe : VL.Env → Option D) : VL.Env → Option Out := fun env => (fe env).bind fun d => (getS env i).bind fun z => (olOf z).bind fun ds => (fk env).bind fun kd => (intOf kd).bind fun n => (ixN ds.length n).map fun j => .nx (env.set i (some (.ol ((ds.set j d).map S.fz))))
theorem s_putL (i : Nat) {x : Str} {xpos tpos : Pos} {ke : Expr} (he : PV X e fe) (hk : PW X ke fk) (hN : X.N[i]? = some x := by rfl) (hv : Vis X.env.scope x := by first | exact Or.inl rfl | exact Or.inr (Or.inl rfl) | exact Or.inr (Or.inr rfl))
    (hd : (x == ("__debug__" : Str)) = false := by decide) (hcd : (x == ("__classdict__" : Str)) = false := by decide)
    (ha : ∀ v, assign (.Subscript (.Name x xpos) ke tpos) X.env v = (do
      let ov ← holding [v] (eval (.Name x xpos) X.env)
      let iv ← holding [v, ov] (eval ke X.env)
      standAt tpos
      holding [v, ov, iv] (setItem ov iv v)
      release [v, ov, iv] []) := by intro _; rfl)
    (hs : swapsWithSole [.Subscript (.Name x xpos) ke tpos] e pos.line X.env = pure false := by rfl) (hw : swappedStores [.Subscript (.Name x xpos) ke tpos] e X.env = pure none := by rfl)
    (h1 : (assignEach [.Subscript (.Name x xpos) ke tpos] X.env).map (·.2) = [assign (.Subscript (.Name x xpos) ke tpos) X.env] := by rfl) :
    SV X (.Assign [.Subscript (.Name x xpos) ke tpos] e pos) (sPutL i fk fe) := by
  obtain ⟨t, p, o⟩ := he.ex
  obtain ⟨tk, pk, ok⟩ := hk.ex
  refine ⟨_, ps_asg p (pg_sub (pe_var hN hv hd hcd) pk set_list ha) hs hw h1, fun c G H s env F E u r q e k => ?_⟩
  obtain ⟨d, e1, e⟩ := Option.bind_eq_some_iff.mp e
  obtain ⟨z, e2, e⟩ := Option.bind_eq_some_iff.mp e
  obtain ⟨ds, e3, e⟩ := Option.bind_eq_some_iff.mp e
  obtain ⟨kd, e4, e⟩ := Option.bind_eq_some_iff.mp e
  obtain ⟨n, e5, e⟩ := Option.bind_eq_some_iff.mp e
  obtain ⟨j, e6, e7⟩ := Option.map_eq_some_iff.mp e
  subst e7
  obtain rfl := olOf_some e3
  obtain rfl := intOf_some e5
  obtain ⟨v, g1, g2⟩ := r.slot i _ (getS_some e2)
  refine o G H s env F _ d r e1 fun w G1 H1 x1 rw' => ⟨v, g1, ok G1 H1 s env F _ _ (r.ext x1) e4 fun kv G2 H2 x2 rk => ?_⟩
  cases rk
  have x12 := x1.trans x2
  have r2 := r.ext x12
  obtain ⟨v', g1', g3⟩ := r2.slot i _ (getS_some e2)
  rw [g1] at g1'
  cases g1'
  generalize hFi : F i = Fi at g3
  cases g3 with
  | @ol pp vs _ Fx g4 g5 =>
    obtain ⟨l1, rfl⟩ := slRs_rp g5
    have hppF : pp ∈ F i := by rw [hFi]; exact List.mem_cons_self
    have ag : ∀ b, b ∉ F i → (L2.upd H2 pp (.lst (vs.set j w))) b = H2 b ∨ H2 b = none := fun b hb => .inl (upd_ne fun z => hb (by rw [z]; exact hppF))
    refine ⟨pp, vs, n, j, rfl, rfl, g4, by rw [l1.length]; exact e6, k G2 _ s _ (r2.upd (l := [pp]) g1 ag (.ol upd_same (slRs_fz (rpl_set j l1 (rw'.up x2.gg)))) (by simp) fun a m => ?_) (CR.upd (q.ext x12) ag fun a m => ?_)⟩
    · cases List.mem_singleton.mp m; exact .inl hppF
    · cases List.mem_singleton.mp m; exact .inl hppF
end
end VL

set_option Elab.async false
set_option linter.all false
set_option maxRecDepth 100000
/-! VL8: expressions that change an owned slot on the way (draws): the same rules with the slots handed on. -/
namespace VL
open PySem PySem.Spec PyProof.Rows L2
abbrev Mo (α : Type) := VL.Env → Option (α × VL.Env)
structure MV (X : Cx) (e : Expr) (f : Mo D) : Prop where
  ex : ∃ t, PE X e t ∧ ∀ (c : C0) (G H : Hp) (st : L2.St) (env : VL.Env) (F : Nat → List Addr) (Q : VK) (d : D) (env' : VL.Env), ER X.K G H st env F → CR c G H F → f env = some (d, env') →
    (∀ v G' H' F', ER X.K G' H' st env' F' → CR c G' H' F' → Same G G' → Rp X.K G' v d → Q v H') → t st H Q
structure MA (X : Cx) (es : List Expr) (f : Mo (List D)) : Prop where
  ex : ∃ t, PA X es t ∧ ∀ (c : C0) (G H : Hp) (st : L2.St) (env : VL.Env) (F : Nat → List Addr) (Q : List V → Hp → Prop) (ds : List D) (env' : VL.Env), ER X.K G H st env F → CR c G H F → f env = some (ds, env') →
    (∀ vs G' H' F', ER X.K G' H' st env' F' → CR c G' H' F' → Same G G' → RpL X.K G' vs ds → Q vs H') → t st H Q
structure MT (X : Cx) (e : Expr) (f : Mo Bool) : Prop where
  ex : ∃ t, PT X e t ∧ ∀ (c : C0) (G H : Hp) (st : L2.St) (env : VL.Env) (F : Nat → List Addr) (Q : Bool → Hp → Prop) (b : Bool) (env' : VL.Env), ER X.K G H st env F → CR c G H F → f env = some (b, env') →
    (∀ G' H' F', ER X.K G' H' st env' F' → CR c G' H' F' → Same G G' → Q b H') → t st H Q
structure MTs (X : Cx) (es : List Expr) (f : Mo Bool) : Prop where
  ex : ∃ t, PTs X es t ∧ ∀ (c : C0) (G H : Hp) (st : L2.St) (env : VL.Env) (F : Nat → List Addr) (Q : Bool → Hp → Prop) (b : Bool) (env' : VL.Env), ER X.K G H st env F → CR c G H F → f env = some (b, env') →
    (∀ G' H' F', ER X.K G' H' st env' F' → CR c G' H' F' → Same G G' → Q b H') → t st H Q
structure MW (X : Cx) (e : Expr) (f : Mo Bool) : Prop where
  ex : ∃ t, L2.PW X e t ∧ ∀ (c : C0) (G H : Hp) (st : L2.St) (env : VL.Env) (F : Nat → List Addr) (Q : Bool → Hp → Prop) (b : Bool) (env' : VL.Env), ER X.K G H st env F → CR c G H F → f env = some (b, env') →
    (∀ G' H' F', ER X.K G' H' st env' F' → CR c G' H' F' → Same G G' → Q b H') → t st H Q
/-- walks -/
structure MI (X : Cx) (tg iter : Expr) (f : Mo (List D)) : Prop where
  ex : ∃ wi, PI X tg iter wi ∧ ∀ (c : C0) (G H : Hp) (st : L2.St) (env : VL.Env) (F : Nat → List Addr) (R : It → Hp → Prop) (xs : List D) (env' : VL.Env), ER X.K G H st env F → CR c G H F → f env = some (xs, env') →
    (∀ J G1 H1 F1, ER X.K G1 H1 st env' F1 → CR c G1 H1 F1 → Same G G1 → Yl X.K G1 G1 J xs → R J H1) → wi st H R
section
variable {X : Cx} {a b e : Expr} {es : List Expr} {pos : Pos} {fa fb : Mo D} {fs : Mo (List D)} {ft fu : Mo Bool}
@[simp] def pur {α : Type} (f : VL.Env → Option α) : Mo α := fun env => (f env).map fun x => (x, env)
theorem pur_some {α : Type} {f : VL.Env → Option α} {env env' : VL.Env} {x : α} (h : pur f env = some (x, env')) : f env = some x ∧ env = env' := by
  obtain ⟨y, h1, h2⟩ := Option.map_eq_some_iff.mp (show (f env).map _ = _ from h)
  cases h2
  exact ⟨h1, rfl⟩
theorem PV.m {f : VL.Env → Option D} (h : PV X e f) : MV X e (pur f) := by
  obtain ⟨t, p, o⟩ := h.ex
  refine ⟨t, p, fun c G H st env F Q d env' r q e k => ?_⟩
  obtain ⟨e1, rfl⟩ := pur_some e
  exact o G H st env F Q d r e1 fun v G' H' x rv => k v G' H' F (r.ext x) (q.ext x) x.gg rv
theorem TB.m {f : VL.Env → Option Bool} (h : TB X e f) : MT X e (pur f) := by
  obtain ⟨t, p, o⟩ := h.ex
  refine ⟨t, p, fun c G H st env F Q d env' r q e k => ?_⟩
  obtain ⟨e1, rfl⟩ := pur_some e
  exact o G H st env F Q d r e1 fun G' H' x => k G' H' F (r.ext x) (q.ext x) x.gg
theorem AV.m {f : VL.Env → Option (List D)} (h : AV X es f) : MA X es (pur f) := by
  obtain ⟨t, p, o⟩ := h.ex
  refine ⟨t, p, fun c G H st env F Q d env' r q e k => ?_⟩
  obtain ⟨e1, rfl⟩ := pur_some e
  exact o G H st env F Q d r e1 fun v G' H' x rv => k v G' H' F (r.ext x) (q.ext x) x.gg rv
theorem IV.m {tg : Expr} {f : VL.Env → Option (List D)} (h : IV X tg e f) : MI X tg e (pur f) := by
  obtain ⟨t, p, o⟩ := h.ex
  refine ⟨t, p, fun c G H st env F Q d env' r q e k => ?_⟩
  obtain ⟨e1, rfl⟩ := pur_some e
  exact o G H st env F Q d r e1 fun J G' H' x y => k J G' H' F (r.ext x) (q.ext x) x.gg y
theorem MT.one (h : MT X e ft) : MTs X [e] ft := by
  obtain ⟨t, p, o⟩ := h.ex
  exact ⟨t, pts_one p, o⟩
theorem mts_nil : MTs X [] (pur fun _ => some true) := ⟨tYes, pts_nil, fun c G H st env F Q b env' r q e k => by cases e; exact k G H F r q (Same.refl _)⟩
@[simp] def m2 (fa fb : Mo D) (g : D → D → Option D) : Mo D := fun env => (fa env).bind fun x => (fb x.2).bind fun y => (g x.1 y.1).map fun z => (z, y.2)
theorem m2_some {g : D → D → Option D} {env env' : VL.Env} {z : D} (h : m2 fa fb g env = some (z, env')) : ∃ x e1 y, fa env = some (x, e1) ∧ fb e1 = some (y, env') ∧ g x y = some z := by
  obtain ⟨⟨x, e1⟩, h1, h⟩ := Option.bind_eq_some_iff.mp (show (fa env).bind _ = _ from h)
  obtain ⟨⟨y, e2⟩, h2, h⟩ := Option.bind_eq_some_iff.mp h
  obtain ⟨w, h3, h4⟩ := Option.map_eq_some_iff.mp h
  cases h4
  exact ⟨x, e1, y, h1, h2, h3⟩
theorem twoM {g : D → D → Option D} {r : R2} (ha : MV X a fa) (hb : MV X b fb)
    (o : ∀ (G H : Hp) (x y : V) (d e z : D) (Q : VK), Same G H → Rp X.K G x d → Rp X.K G y e → g d e = some z → (∀ v G' H', Ex G H G' H' → Rp X.K G' v z → Q v H') → r x y H Q) :
    ∃ ta tb, PE X a ta ∧ PE X b tb ∧ ∀ (c : C0) (G H : Hp) (st : L2.St) (env : VL.Env) (F : Nat → List Addr) (Q : VK) (d : D) (env' : VL.Env), ER X.K G H st env F → CR c G H F → m2 fa fb g env = some (d, env') →
      (∀ v G' H' F', ER X.K G' H' st env' F' → CR c G' H' F' → Same G G' → Rp X.K G' v d → Q v H') → tOp r ta tb st H Q := by
  obtain ⟨ta, pa, oa⟩ := ha.ex
  obtain ⟨tb, pb, ob⟩ := hb.ex
  refine ⟨ta, tb, pa, pb, fun c G H st env F Q d env' r q e k => ?_⟩
  obtain ⟨x, e1, y, h1, h2, h3⟩ := m2_some e
  refine oa c G H st env F _ x e1 r q h1 fun v1 G1 H1 F1 r1 q1 s1 rv1 => ob c G1 H1 st e1 F1 _ y env' r1 q1 h2 fun v2 G2 H2 F2 r2 q2 s2 rv2 => ?_
  exact o G2 H2 v1 v2 x y d Q r2.sub (rv1.up s2) rv2 h3 fun v G' H' x3 r3 => k v G' H' F2 (r2.ext x3) (q2.ext x3) ((s1.trans s2).trans x3.gg) r3
theorem m_op {op : Operator} {g : D → D → Option D} (ho : OpF X (binaryOp op) g) (ha : MV X a fa) (hb : MV X b fb) : MV X (.BinOp a op b pos) (m2 fa fb g) := by
  obtain ⟨r, p, o⟩ := ho
  obtain ⟨ta, tb, pa, pb, q⟩ := twoM ha hb o
  exact ⟨_, pe_op p pa pb, q⟩
theorem m_cmp {op : CmpOp} {g : D → D → Option D} (ho : OpW X (compareOp op) g) (ha : MV X a fa) (hb : MV X b fb) (hm : behindInMarks op b = false) : MV X (.Compare a [op] [b] pos) (m2 fa fb g) := by
  obtain ⟨r, p, o⟩ := ho.f
  obtain ⟨ta, tb, pa, pb, q⟩ := twoM ha hb o
  exact ⟨_, pe_cmpR p pa pb hm, q⟩
@[simp] def mtb (f : Mo D) : Mo Bool := fun env => (f env).bind fun x => (bOf x.1).map fun b => (b, x.2)
theorem mtb_some {env env' : VL.Env} {b : Bool} (h : mtb fa env = some (b, env')) : fa env = some (.bl b, env') := by
  obtain ⟨⟨x, e1⟩, h1, h⟩ := Option.bind_eq_some_iff.mp (show (fa env).bind _ = _ from h)
  obtain ⟨w, h3, h4⟩ := Option.map_eq_some_iff.mp h
  cases h4
  rw [h1, bOf_some (show bOf x = some b from h3)]
theorem mt_cmp {op : CmpOp} {g : D → D → Option D} (ho : OpW X (compareOp op) g) (ha : MV X a fa) (hb : MV X b fb) (hm : behindInMarks op b = false) : MT X (.Compare a [op] [b] pos) (mtb (m2 fa fb g)) := by
  obtain ⟨r, p, o⟩ := ho.f
  obtain ⟨ta, tb, pa, pb, q⟩ := twoM ha hb o
  refine ⟨_, pt_cmpR p pa pb hm, fun c G H st env F Q d env' r q' e k => ?_⟩
  refine q c G H st env F _ _ env' r q' (mtb_some e) fun v G' H' F' r' q2 s rv => ?_
  cases rv
  exact ⟨d, rfl, k G' H' F' r' q2 s⟩
theorem mt_val (ha : MV X a fa) (he : ∀ whole, isTrue a X.env whole = (do let v ← whole; standAt a.pos; holding [v] (truthy v)) := by intro _; rfl) : MT X a (mtb fa) := by
  obtain ⟨t, p, o⟩ := ha.ex
  refine ⟨_, pt_val p he, fun c G H st env F Q d env' r q e k => ?_⟩
  refine o c G H st env F _ _ env' r q (mtb_some e) fun v G' H' F' r' q2 s rv => ?_
  cases rv
  exact ⟨d, rfl, k G' H' F' r' q2 s⟩
theorem m_ix {k : Nat} (hr : Room k X.A) (ha : MV X a fa) (hb : MV X b fb) (hs : PlainIx b := by intro _ _; rfl) : MV X (.Subscript a b pos) (m2 fa fb dIx) := by
  obtain ⟨ta, tb, pa, pb, q⟩ := twoM (r := fun x y H Q => rIxL X.K x y H Q ∨ rIxT X.K x y H Q ∨ ∃ a v, x = .ref a ∧ DGet H a y (some v) ∧ Q v H) (g := dIx) ha hb
    fun G H x y d e z Q s rx ry q kk => ix_ok s rx (ry.up s) (fun _ _ _ => ry) q fun v r => kk v G H (Ex.refl s) r
  exact ⟨_, pe_sub (hu_of hr) pa pb hs, q⟩
/-! and, or, not, if -/
@[simp] def mAnd (f g : Mo Bool) : Mo Bool := fun env => (f env).bind fun x => if x.1 then g x.2 else some (false, x.2)
@[simp] def mOr (f g : Mo Bool) : Mo Bool := fun env => (f env).bind fun x => if x.1 then some (true, x.2) else g x.2
@[simp] def mNot (f : Mo Bool) : Mo Bool := fun env => (f env).map fun x => (!x.1, x.2)
theorem MW.t (h : MW X e ft) : MT X e ft := by
  obtain ⟨t, p, o⟩ := h.ex
  exact ⟨t, p.pt, o⟩
variable {rest : List Expr}
theorem mw_and1 (h : MT X a ft) : MW X (.BoolOp .And [a] pos) ft := by
  obtain ⟨t, p, o⟩ := h.ex
  exact ⟨t, pw_and1 p, o⟩
theorem mw_or1 (h : MT X a ft) : MW X (.BoolOp .Or [a] pos) ft := by
  obtain ⟨t, p, o⟩ := h.ex
  exact ⟨t, pw_or1 p, o⟩
theorem mw_and (h : MT X a ft) (h' : MW X (.BoolOp .And (b :: rest) pos) fu) : MW X (.BoolOp .And (a :: b :: rest) pos) (mAnd ft fu) := by
  obtain ⟨t, p, o⟩ := h.ex
  obtain ⟨t', p', o'⟩ := h'.ex
  refine ⟨_, pw_and p p', fun c G H st env F Q d env' r q e k => ?_⟩
  obtain ⟨⟨x, e1⟩, h1, h2⟩ := Option.bind_eq_some_iff.mp (show (ft env).bind _ = _ from e)
  refine o c G H st env F _ x e1 r q h1 fun G1 H1 F1 r1 q1 s1 => ?_
  cases x with
  | true => exact iteT (o' c G1 H1 st e1 F1 _ d env' r1 q1 h2 fun G2 H2 F2 r2 q2 s2 => k G2 H2 F2 r2 q2 (s1.trans s2))
  | false => cases h2; exact iteF (k G1 H1 F1 r1 q1 s1)
theorem mw_or (h : MT X a ft) (h' : MW X (.BoolOp .Or (b :: rest) pos) fu) : MW X (.BoolOp .Or (a :: b :: rest) pos) (mOr ft fu) := by
  obtain ⟨t, p, o⟩ := h.ex
  obtain ⟨t', p', o'⟩ := h'.ex
  refine ⟨_, pw_or p p', fun c G H st env F Q d env' r q e k => ?_⟩
  obtain ⟨⟨x, e1⟩, h1, h2⟩ := Option.bind_eq_some_iff.mp (show (ft env).bind _ = _ from e)
  refine o c G H st env F _ x e1 r q h1 fun G1 H1 F1 r1 q1 s1 => ?_
  cases x with
  | true => cases h2; exact iteT (k G1 H1 F1 r1 q1 s1)
  | false => exact iteF (o' c G1 H1 st e1 F1 _ d env' r1 q1 h2 fun G2 H2 F2 r2 q2 s2 => k G2 H2 F2 r2 q2 (s1.trans s2))
theorem mt_not (h : MT X a ft) : MT X (.UnaryOp .Not a pos) (mNot ft) := by
  obtain ⟨t, p, o⟩ := h.ex
  refine ⟨_, pt_not p, fun c G H st env F Q d env' r q e k => ?_⟩
  obtain ⟨⟨x, e1⟩, h1, h2⟩ := Option.map_eq_some_iff.mp (show (ft env).map _ = _ from e)
  cases h2
  exact o c G H st env F _ x e1 r q h1 fun G1 H1 F1 r1 q1 s1 => k G1 H1 F1 r1 q1 s1
@[simp] def mIf (c : Mo Bool) (f g : Mo D) : Mo D := fun env => (c env).bind fun x => if x.1 then f x.2 else g x.2
theorem m_if {cnd : Expr} (hc : MT X cnd ft) (ha : MV X a fa) (hb : MV X b fb) : MV X (.IfExp cnd a b pos) (mIf ft fa fb) := by
  obtain ⟨tc, pc, oc⟩ := hc.ex
  obtain ⟨t, p, o⟩ := ha.ex
  obtain ⟨t', p', o'⟩ := hb.ex
  refine ⟨_, pe_ifExp pc p p', fun c G H st env F Q d env' r q e k => ?_⟩
  obtain ⟨⟨x, e1⟩, h1, h2⟩ := Option.bind_eq_some_iff.mp (show (ft env).bind _ = _ from e)
  refine oc c G H st env F _ x e1 r q h1 fun G1 H1 F1 r1 q1 s1 => ?_
  cases x with
  | true => exact iteT (o c G1 H1 st e1 F1 _ d env' r1 q1 h2 fun v G2 H2 F2 r2 q2 s2 rv => k v G2 H2 F2 r2 q2 (s1.trans s2) rv)
  | false => exact iteF (o' c G1 H1 st e1 F1 _ d env' r1 q1 h2 fun v G2 H2 F2 r2 q2 s2 rv => k v G2 H2 F2 r2 q2 (s1.trans s2) rv)
/-! arguments, displays -/
@[simp] def maC (f : Mo D) (g : Mo (List D)) : Mo (List D) := fun env => (f env).bind fun x => (g x.2).map fun y => (x.1 :: y.1, y.2)
theorem ma_nil : MA X [] (pur fun _ => some []) := (a_nil (X := X)).m
theorem ma_cons (h : MV X e fa) (hr : MA X es fs) (hs : starEach (e :: es) X.env = (false, eval e X.env) :: starEach es X.env := by rfl) : MA X (e :: es) (maC fa fs) := by
  obtain ⟨t, p, o⟩ := h.ex
  obtain ⟨t', p', o'⟩ := hr.ex
  refine ⟨_, pa_cons p p' hs, fun c G H st env F Q ds env' r q e k => ?_⟩
  obtain ⟨⟨x, e1⟩, h1, h2⟩ := Option.bind_eq_some_iff.mp (show (fa env).bind _ = _ from e)
  obtain ⟨⟨y, e2⟩, h3, h4⟩ := Option.map_eq_some_iff.mp h2
  cases h4
  exact o c G H st env F _ x e1 r q h1 fun v G1 H1 F1 r1 q1 s1 rv => o' c G1 H1 st e1 F1 _ y e2 r1 q1 h3 fun vs G2 H2 F2 r2 q2 s2 rvs => k _ G2 H2 F2 r2 q2 (s1.trans s2) (.cons (rv.up s2) rvs)
@[simp] def mLst (f : Mo (List D)) : Mo D := fun env => (f env).bind fun x => if x.1.length < 1000 then some (.lst x.1, x.2) else none
@[simp] def mTup (f : Mo (List D)) : Mo D := fun env => (f env).bind fun x => if x.1.length < 1000 then some (.tup x.1, x.2) else none
theorem m_lst (h : MA X es fs) : MV X (.List es pos) (mLst fs) := by
  obtain ⟨t, p, o⟩ := h.ex
  refine ⟨_, pe_lst p, fun c G H st env F Q d env' r q e k => ?_⟩
  obtain ⟨⟨x, e1⟩, h1, h2⟩ := Option.bind_eq_some_iff.mp (show (fs env).bind _ = _ from e)
  dsimp only at h2
  split at h2
  · rename_i hl
    cases h2
    refine o c G H st env F _ x env' r q h1 fun vs G1 H1 F1 r1 q1 s1 rv => ⟨small_line (by rw [rv.length]; exact hl), fun p np => ?_⟩
    have x2 := Ex.frz (o := .lst vs) r1.sub np
    exact k _ _ _ F1 (r1.ext x2) (q1.ext x2) (s1.trans x2.gg) (.lst upd_same (rv.up x2.gg))
  · cases h2
theorem m_tup {x1} (h : MA X es fs) : MV X (.Tuple es x1 pos) (mTup fs) := by
  obtain ⟨t, p, o⟩ := h.ex
  refine ⟨_, pe_tup p, fun c G H st env F Q d env' r q e k => ?_⟩
  obtain ⟨⟨x, e1⟩, h1, h2⟩ := Option.bind_eq_some_iff.mp (show (fs env).bind _ = _ from e)
  dsimp only at h2
  split at h2
  · rename_i hl
    cases h2
    refine o c G H st env F _ x env' r q h1 fun vs G1 H1 F1 r1 q1 s1 rv => ⟨small_line (by rw [rv.length]; exact hl), fun p np => ?_⟩
    have x2 := Ex.frz (o := .tup vs) r1.sub np
    exact k _ _ _ F1 (r1.ext x2) (q1.ext x2) (s1.trans x2.gg) (.tup upd_same (rv.up x2.gg))
  · cases h2
/-! calls -/
variable {x : Str} {p : Pos} {id : String}
@[simp] def mB {β : Type} (fs : Mo (List D)) (g : List D → Option β) : Mo β := fun env => (fs env).bind fun x => (g x.1).map fun z => (z, x.2)
theorem mB_some {β : Type} {g : List D → Option β} {env env' : VL.Env} {z : β} (h : mB fs g env = some (z, env')) : ∃ ds, fs env = some (ds, env') ∧ g ds = some z := by
  obtain ⟨⟨x, e1⟩, h1, h⟩ := Option.bind_eq_some_iff.mp (show (fs env).bind _ = _ from h)
  obtain ⟨w, h3, h4⟩ := Option.map_eq_some_iff.mp h
  cases h4
  exact ⟨x, h1, h3⟩
theorem m_callB {g : List D → Option D} (hc : CallW X (.builtin id) g) (hg : Gl X x) (hm : X.mg x = none) (hv : bootBuiltins x = some (.builtin id)) (ha : MA X (e :: es) fs) (hn : x ≠ "__name__" := by decide) (hdb : (x == ("__debug__" : Str)) = false := by decide)
    (he : starEach (e :: es) X.env = (false, eval e X.env) :: starEach es X.env := by rfl) (hpl : (backTo pos (starEach es X.env)).any (·.1) = false := by rfl) : MV X (.Call (.Name x p) (e :: es) [] pos) (mB fs g) := by
  obtain ⟨r, hr, o⟩ := hc
  obtain ⟨t, pa, oa⟩ := ha.ex
  refine ⟨_, pe_callB hr hg hm hv pa hn hdb he hpl, fun c G H st env F Q d env' r q e k => ?_⟩
  obtain ⟨ds, e1, e2⟩ := mB_some e
  exact oa c G H st env F _ _ env' r q e1 fun vs G1 H1 F1 r1 q1 s1 rv => o G1 H1 vs ds d Q r1.sub (rv.up r1.sub) e2 fun v G' H' x2 r2 => k v G' H' F1 (r1.ext x2) (q1.ext x2) (s1.trans x2.gg) r2
theorem m_callT {g : List D → Option D} (hc : CallW X (.type id) g) (hg : Gl X x) (hm : X.mg x = none) (hv : bootBuiltins x = some (.type id)) (ha : MA X (e :: es) fs) (hn : x ≠ "__name__" := by decide) (hdb : (x == ("__debug__" : Str)) = false := by decide)
    (he : starEach (e :: es) X.env = (false, eval e X.env) :: starEach es X.env := by rfl) (hpl : (backTo pos (starEach es X.env)).any (·.1) = false := by rfl) : MV X (.Call (.Name x p) (e :: es) [] pos) (mB fs g) := by
  obtain ⟨r, hr, o⟩ := hc
  obtain ⟨t, pa, oa⟩ := ha.ex
  refine ⟨_, pe_callTy hr hg hm hv pa hn hdb he hpl, fun c G H st env F Q d env' r q e k => ?_⟩
  obtain ⟨ds, e1, e2⟩ := mB_some e
  exact oa c G H st env F _ _ env' r q e1 fun vs G1 H1 F1 r1 q1 s1 rv => o G1 H1 vs ds d Q r1.sub (rv.up r1.sub) e2 fun v G' H' x2 r2 => k v G' H' F1 (r1.ext x2) (q1.ext x2) (s1.trans x2.gg) r2
variable {kk : Nat} {f : Addr} {fd : FuncData} {ps : List Str} {Fn : List D → Option S}
theorem m_call (F : FnOk X.prog X.w X.K X.mg X.base CX0 kk f fd ps (spS X.K Fn)) (hr : Room kk X.A) (hg : Gl X x) (hm : X.mg x = some (.ref f)) (hk : PySem.W.keepIn X.K (.ref f) = true) (hb : Binds X.K fd ps [])
    (ha : MA X (e :: es) fs) (hdb : (x == ("__debug__" : Str)) = false := by decide) (he : starEach (e :: es) X.env = (false, eval e X.env) :: starEach es X.env := by rfl) (hpl : (backTo pos (starEach es X.env)).any (·.1) = false := by rfl) :
    MV X (.Call (.Name x p) (e :: es) [] pos) (mB fs fun ds => (Fn ds).bind frS) := by
  obtain ⟨t, pa, o⟩ := ha.ex
  refine ⟨_, pe_call F hr hg hm hk hb .nil pass0 pa hdb he hpl, fun c G H st env F' Q d env' r q e k => ?_⟩
  obtain ⟨ds, e1, e'⟩ := mB_some e
  obtain ⟨s, e2, e3⟩ := Option.bind_eq_some_iff.mp e'
  obtain ⟨n, rfl⟩ := frS_some e3
  refine o c G H st env F' _ _ env' r q e1 fun vs G1 H1 F1 r1 q1 s1 rv => ⟨G1, ds, s, r1.sub, by rw [List.append_nil]; exact rv, e2, fun v G' H' l x2 sl nd fr => ?_⟩
  have x3 := frzG_ex x2 fr
  exact k v _ H' F1 (r1.ext x3) (q1.ext x3) (s1.trans x3.gg) (frzG_rp sl n fun a m => (fr a m).2)
/-- what stands at an owned slot is handed in and changed: its address is told -/
def spI (K : PySem.W.Frag) (Fi : Addr → S → List D → Option (D × S)) : Sp := fun vs H Q _ => ∃ G p ws s0 l0 ds d s1, Same G H ∧ vs = .ref p :: ws ∧ SlR K G H (.ref p) s0 l0 ∧ l0.Nodup ∧ (∀ a ∈ l0, G a = none) ∧ RpL K G ws ds ∧ Fi p s0 ds = some (d, s1) ∧
  ∀ v G' H' l1, Same G G' → Same G' H' → (∀ b o, H b = some o → b ∉ l0 → H' b = some o) → (∀ b, G' b ≠ none → G b ≠ none ∨ H b = none ∨ b ∈ l0) → SlR K G' H' (.ref p) s1 l1 → l1.Nodup → (∀ a ∈ l1, G' a = none ∧ (a ∈ l0 ∨ H a = none)) → Rp K G' v d → Q v H'
def atOf : S → Option (Addr × S)
  | .at a s => some (a, s)
  | _ => none
@[simp] theorem atOf_at (a : Addr) (s : S) : atOf (.at a s) = some (a, s) := rfl
theorem atOf_some {z s : S} {a : Addr} (h : atOf z = some (a, s)) : z = .at a s := by
  cases z <;> first | (cases h; rfl) | cases h
@[simp] def mI (i : Nat) (fs : Mo (List D)) (Fi : Addr → S → List D → Option (D × S)) : Mo D := fun env => (getS env i).bind fun _ => (fs env).bind fun x => (getS x.2 i).bind fun z => (atOf z).bind fun s => (Fi s.1 s.2 x.1).map fun z => (z.1, x.2.set i (some (.at s.1 z.2)))
theorem ER.after {K : PySem.W.Frag} {G H G' H' : Hp} {st : L2.St} {env : VL.Env} {F : Nat → List Addr} {i : Nat} {v : V} {s : S} {l : List Addr} (r : ER K G H st env F) (hv : st[i]? = some (some v)) (gg : Same G G') (gh : Same G' H')
    (kp : ∀ b o, H b = some o → b ∉ F i → H' b = some o) (gn : ∀ b, G' b ≠ none → G b ≠ none ∨ H b = none ∨ b ∈ F i) (h : SlR K G' H' v s l) (nd : l.Nodup) (hl : ∀ a ∈ l, G' a = none ∧ (a ∈ F i ∨ H a = none)) :
    ER K G' H' st (env.set i (some s)) (putFp F i l) := by
  have hi : i < env.length := by rw [r.len]; exact (List.getElem?_eq_some_iff.mp hv).1
  have dis : ∀ j, j ≠ i → ∀ a ∈ l, a ∉ F j := fun j ne a m m' => by
    rcases (hl a m).2 with z | z
    · exact ne (r.dj j i a m' z)
    · obtain ⟨o, q⟩ := r.dom m'
      rw [z] at q; cases q
  have g0 : ∀ j, j ≠ i → ∀ a ∈ F j, G' a = none := fun j ne a m => by
    cases z : G' a with
    | none => rfl
    | some o =>
      rcases gn a (by rw [z]; exact fun q => nomatch q) with q | q | q
      · exact absurd (r.off j a m) q
      · obtain ⟨u, q'⟩ := r.dom m
        rw [q] at q'; cases q'
      · exact absurd (r.dj j i a m q) ne
  refine ⟨gh, by rw [List.length_set]; exact r.len, fun j t e => ?_, fun j hj => ?_, fun j a m => ?_, fun j => ?_, fun j k a m m' => ?_⟩
  · rcases get_set e with ⟨rfl, _, e⟩ | ⟨ne, e⟩
    · cases e
      refine ⟨v, hv, ?_⟩
      unfold putFp; rw [if_pos rfl]; exact h
    · obtain ⟨w, h1, h2⟩ := r.slot j t e
      refine ⟨w, h1, ?_⟩
      unfold putFp; rw [if_neg ne]
      refine SlR.mono gg t w _ (fun a m => ?_) h2
      obtain ⟨o, z⟩ := r.dom m
      rw [z]; exact kp a o z fun q => ne (r.dj j i a m q)
  · unfold putFp
    by_cases c : j = i
    · subst c; exact absurd (List.getElem?_set_self hi) (hj s)
    · rw [if_neg c]
      exact r.out j fun t e => hj t (by rw [List.getElem?_set_ne (Ne.symm c)]; exact e)
  · unfold putFp at m
    split at m
    · exact (hl a m).1
    · rename_i c; exact g0 j c a m
  · unfold putFp
    split
    · exact nd
    · exact r.nd j
  · unfold putFp at m m'
    split at m <;> split at m'
    · rename_i c c'; rw [c, c']
    · rename_i c c'; exact absurd m' (dis k c' a m)
    · rename_i c c'; exact absurd m (dis j c a m')
    · exact r.dj j k a m m'
theorem CR.after {c : C0} {G H G' H' : Hp} {F : Nat → List Addr} {i : Nat} {l : List Addr} (q : CR c G H F) (gg : Same G G') (kp : ∀ b o, H b = some o → b ∉ F i → H' b = some o)
    (gn : ∀ b, G' b ≠ none → G b ≠ none ∨ H b = none ∨ b ∈ F i) (hl : ∀ a ∈ l, a ∈ F i ∨ H a = none) : CR c G' H' (putFp F i l) := by
  refine ⟨q.g0.trans gg, fun b e => ?_, fun b o e z => ?_, fun j a m => ?_⟩
  · rcases gn b e with h | h | h
    · exact q.gnew b h
    · exact .inr (q.new h)
    · exact .inr (q.own i b h)
  · refine kp b o (q.keep b o e z) fun m => ?_
    rcases q.own i b m with h | h
    · rw [h] at e; cases e
    · exact z h
  · unfold putFp at m
    split at m
    · rcases hl a m with h | h
      · exact q.own i a h
      · exact q.new h
    · exact q.own j a m
theorem m_inout {Fi : Addr → S → List D → Option (D × S)} (i : Nat) {y : Str} {ypos : Pos} (F : FnOk X.prog X.w X.K X.mg X.base CX0 kk f fd ps (spI X.K Fi)) (hr : Room kk X.A) (hg : Gl X x) (hm : X.mg x = some (.ref f)) (hk : PySem.W.keepIn X.K (.ref f) = true) (hb : Binds X.K fd ps [])
    (ha : MA X es fs) (hN : X.N[i]? = some y := by rfl) (hv : Vis X.env.scope y := by first | exact Or.inl rfl | exact Or.inr (Or.inl rfl) | exact Or.inr (Or.inr rfl))
    (hd : (y == ("__debug__" : Str)) = false := by decide) (hcd : (y == ("__classdict__" : Str)) = false := by decide)
    (hdb : (x == ("__debug__" : Str)) = false := by decide) (he : starEach (.Name y ypos :: es) X.env = (false, eval (.Name y ypos) X.env) :: starEach es X.env := by rfl) (hpl : (backTo pos (starEach es X.env)).any (·.1) = false := by rfl) :
    MV X (.Call (.Name x p) (.Name y ypos :: es) [] pos) (mI i fs Fi) := by
  obtain ⟨t, pa, o⟩ := ha.ex
  refine ⟨_, pe_call F hr hg hm hk hb .nil pass0 (pa_cons (pe_var hN hv hd hcd) pa he) hdb he hpl, fun c G H st env F' Q d env' r q e k => ?_⟩
  obtain ⟨s', h0, e⟩ := Option.bind_eq_some_iff.mp (show (getS env i).bind _ = _ from e)
  obtain ⟨⟨ds, e1⟩, h1, e⟩ := Option.bind_eq_some_iff.mp e
  obtain ⟨zz, h2, e⟩ := Option.bind_eq_some_iff.mp e
  obtain ⟨⟨pp, s⟩, h2', e⟩ := Option.bind_eq_some_iff.mp e
  obtain rfl := atOf_some h2'
  obtain ⟨⟨z, s1⟩, h3, h4⟩ := Option.map_eq_some_iff.mp e
  cases h4
  obtain ⟨v, hv', _⟩ := r.slot i s' (getS_some h0)
  refine ⟨v, hv', o c G H st env F' _ ds e1 r q h1 fun vs G1 H1 F1 r1 q1 s1' rv => ?_⟩
  obtain ⟨v', h5, h6⟩ := r1.slot i _ (getS_some h2)
  rw [hv'] at h5
  cases h5
  have nd1 := r1.nd i
  have of1 := r1.off i
  have hsub : ∀ a, a ∈ F1 i → a ∈ F1 i := fun _ m => m
  generalize hFi : F1 i = Fi1 at h6 nd1 of1
  cases h6 with
  | «at» h6 =>
    subst hFi
    refine ⟨G1, pp, vs, s, F1 i, ds, z, s1, r1.sub, by rw [List.append_nil], h6, nd1, of1, rv, h3, fun w G' H' l1 gg gh kp gn sl nd hl rw' => ?_⟩
    exact k w G' H' _ (r1.after hv' gg gh kp gn (.at sl) nd hl) (q1.after gg kp gn fun a m => (hl a m).2) (s1'.trans gg) rw'
end
end VL

set_option Elab.async false
set_option linter.all false
set_option maxRecDepth 100000
/-! VL9: comprehensions and statements with draws; dicts; extend. -/
namespace VL
open PySem PySem.Spec PyProof.Rows L2
def cEM (K : PySem.W.Frag) (f : Mo D) : TE := fun st H Q => ∃ c G env F d env', ER K G H st env F ∧ CR c G H F ∧ f env = some (d, env') ∧
  ∀ v G' H' F', ER K G' H' st env' F' → CR c G' H' F' → Same G G' → Rp K G' v d → Q v H'
def cTM (K : PySem.W.Frag) (f : Mo Bool) : TT := fun st H Q => ∃ c G env F d env', ER K G H st env F ∧ CR c G H F ∧ f env = some (d, env') ∧
  ∀ G' H' F', ER K G' H' st env' F' → CR c G' H' F' → Same G G' → Q d H'
section
variable {K : PySem.W.Frag} {c : C0} {G H : Hp} {st : L2.St} {env : VL.Env} {F : Nat → List Addr} {p : Addr} {o : HO}
theorem ER.other (r : ER K G H st env F) (g : G p = none) (n : ∀ i, p ∉ F i) : ER K G (L2.upd H p o) st env F := by
  refine ⟨fun b u e => by rw [upd_ne (ne_of_none e g)]; exact r.sub _ _ e, r.len, fun i s e => ?_, r.out, r.off, r.nd, r.dj⟩
  obtain ⟨v, h1, h2⟩ := r.slot i s e
  exact ⟨v, h1, SlR.mono (Same.refl _) s v _ (fun a m => upd_ne fun z => n i (by rw [← z]; exact m)) h2⟩
theorem CR.other (q : CR c G H F) (h : c.H p = none ∨ c.O p) : CR c G (L2.upd H p o) F := by
  refine ⟨q.g0, q.gnew, fun b u e z => ?_, q.own⟩
  have : b ≠ p := fun w => by
    subst w
    rcases h with h | h
    · rw [h] at e; cases e
    · exact z h
  rw [upd_ne this]
  exact q.keep b u e z
theorem ER.frz1 (r : ER K G H st env F) (g : G p = none) (n : ∀ i, p ∉ F i) : ER K (frzG G H [p]) H st env F := by
  have up := frzG_up (G := G) (H := H) (l := [p]) fun a m => by cases List.mem_singleton.mp m; exact g
  refine ⟨frzG_in r.sub, r.len, fun i s e => ?_, r.out, fun i a m => ?_, r.nd, r.dj⟩
  · obtain ⟨v, h1, h2⟩ := r.slot i s e
    exact ⟨v, h1, SlR.mono up s v _ (fun _ _ => rfl) h2⟩
  · unfold frzG
    rw [if_neg fun z => n i (by rw [← List.mem_singleton.mp z]; exact m)]
    exact r.off i a m
theorem CR.frz1 (q : CR c G H F) (h : c.H p = none ∨ c.O p) (g : G p = none) : CR c (frzG G H [p]) H F := by
  refine ⟨q.g0.trans (frzG_up fun a m => by cases List.mem_singleton.mp m; exact g), fun b e => ?_, q.keep, q.own⟩
  unfold frzG at e
  split at e
  · rename_i m; cases List.mem_singleton.mp m; exact .inr h
  · exact q.gnew b e
theorem ER.unwipe {vs : List Nat} (r : ER K G H (L2.wipe st vs) env F) : ER K G H st env F := by
  refine ⟨r.sub, by rw [r.len, wipe_length], fun i s e => ?_, r.out, r.off, r.nd, r.dj⟩
  obtain ⟨v, h1, h2⟩ := r.slot i s e
  exact ⟨v, (wipe_some h1).1, h2⟩
theorem CR.out (q : CR (VL.re G H F) G' H' F') (n : ∀ i, p ∉ F i) (h : H p = some o) (g : G p = none) : H' p = some o ∧ G' p = none ∧ ∀ i, p ∉ F' i := by
  refine ⟨q.keep p o h fun ⟨i, m⟩ => n i m, ?_, fun i m => ?_⟩
  · cases z : G' p with
    | none => rfl
    | some u =>
      rcases q.gnew p (by rw [z]; exact fun w => nomatch w) with w | w | ⟨i, m⟩
      · exact absurd g w
      · exact absurd (h.symm.trans w) (fun z => nomatch z)
      · exact absurd m (n i)
  · rcases q.own i p m with w | ⟨j, m'⟩
    · exact absurd (h.symm.trans w) (fun z => nomatch z)
    · exact n j m'
end
section
variable {X : Cx} {pos : Pos}
theorem MV.c {e : Expr} {f : Mo D} (h : MV X e f) : PE X e (cEM X.K f) := by
  obtain ⟨t, p, o⟩ := h.ex
  exact ⟨fun pins s st H Q I ⟨c, G, env, F, d, env', r, q, e, k⟩ => p.run pins s st H Q I (o c G H st env F Q d env' r q e k)⟩
theorem MTs.c {e : List Expr} {f : Mo Bool} (h : MTs X e f) : PTs X e (cTM X.K f) := by
  obtain ⟨t, p, o⟩ := h.ex
  exact ⟨fun pins s st H Q I ⟨c, G, env, F, d, env', r, q, e, k⟩ => p.run pins s st H Q I (o c G H st env F Q d env' r q e k)⟩
def compM (vs : List Nat) (ft : D → VL.Env → Option VL.Env) (fc : Mo Bool) (fe : Mo D) : List D → VL.Env → Option (List D × VL.Env)
  | [], env => some ([], env)
  | d :: ds, env => (ft d env).bind fun e1 => (fc e1).bind fun b => if b.1 then (fe b.2).bind fun y => (compM vs ft fc fe ds (wipeE y.2 vs)).map fun z => (y.1 :: z.1, z.2) else compM vs ft fc fe ds (wipeE b.2 vs)
def OkLM (K : PySem.W.Frag) (f : Mo (List D)) (t : TE) : Prop := ∀ (c : C0) (G H : Hp) (st : L2.St) (env : VL.Env) (F : Nat → List Addr) (Q : VK) (ds : List D) (env' : VL.Env), ER K G H st env F → CR c G H F → f env = some (ds, env') →
  (∀ p vs G' H' F', ER K G' H' st env' F' → CR c G' H' F' → Same G G' → (∀ i, p ∉ F' i) → G' p = none → (c.H p = none ∨ c.O p) → H' p = some (.lst vs) → RpL K G' vs ds → Q (.ref p) H') → t st H Q
theorem lcm_ok {K : PySem.W.Frag} {wi : TI} {fi : Mo (List D)} {ts vs : List Nat} {ft : D → VL.Env → Option VL.Env} {fc : Mo Bool} {fe : Mo D}
    (hi : ∀ (c : C0) (G H : Hp) (st : L2.St) (env : VL.Env) (F : Nat → List Addr) (R : It → Hp → Prop) (xs : List D) (env' : VL.Env), ER K G H st env F → CR c G H F → fi env = some (xs, env') →
      (∀ J G1 H1 F1, ER K G1 H1 st env' F1 → CR c G1 H1 F1 → Same G G1 → Yl K G1 G1 J xs → R J H1) → wi st H R)
    (hts : ∀ i ∈ ts, i ∈ vs) : OkLM K (fun env => (fi env).bind fun x => compM vs ft fc fe x.1 (wipeE x.2 vs)) (tLc wi (cG K ts ft) (cTM K fc) (cEM K fe) vs) := by
  intro c G H st env F Q ys env' r q e k
  obtain ⟨⟨xs, env1⟩, e1, e2⟩ := Option.bind_eq_some_iff.mp (show (fi env).bind _ = _ from e)
  refine hi c G H st env F _ xs env1 r q e1 fun J G1 H1 F1 r1 q1 s1 y => fun Dp hD => ?_
  have cD := q1.new hD
  have xD := Ex.own (o := .lst []) r1.sub hD
  obtain ⟨Fw, rw', sw⟩ := ER.wipe (r1.ext xD) vs
  refine ⟨fun i m Hc => m = xs.length - i ∧ i ≤ xs.length ∧ ∃ Gc Fc envc acc accD rest, ER K Gc Hc (L2.wipe st vs) envc Fc ∧ CR c Gc Hc Fc ∧ Same G1 Gc ∧ Gc Dp = none ∧ Hc Dp = some (.lst acc) ∧ (∀ i, Dp ∉ Fc i) ∧ RpL K Gc acc accD ∧ acc.length ≤ i ∧
    compM vs ft fc fe (xs.drop i) envc = some (rest, env') ∧ accD ++ rest = ys, ⟨xs.length, rfl, Nat.zero_le _, G1, Fw, wipeE env1 vs, [], [], ys, rw', (q1.ext xD).sub sw, Same.refl _, r1.sub.free hD, upd_same, fun i m => ?_, .nil, Nat.le_refl _, e2, rfl⟩, ?_⟩
  · obtain ⟨o, z⟩ := r1.dom (sw i _ m)
    rw [hD] at z; cases z
  rintro i m Hc ⟨em, hi', Gc, Fc, envc, acc, accD, rest, rc, qc, sc, gD, hDc, nD, lc, la, ec, ea⟩
  by_cases hlt : i < xs.length
  · have ed : xs.drop i = xs[i] :: xs.drop (i + 1) := List.drop_eq_getElem_cons hlt
    rw [ed] at ec
    obtain ⟨e1', t1, ec⟩ := Option.bind_eq_some_iff.mp (show (ft xs[i] envc).bind _ = _ from ec)
    obtain ⟨⟨b, e2'⟩, t2, ec⟩ := Option.bind_eq_some_iff.mp ec
    obtain ⟨go, hy⟩ := y.step i Gc Hc sc (sc.trans rc.sub) rc.sub xs[i] (List.getElem?_eq_getElem hlt)
    refine .inr ⟨go, _, fun H' h' => ⟨xs.length - (i + 1), by omega, rfl, hlt, h'⟩, fun v H3 hv => ?_⟩
    obtain ⟨G3, x3, rv⟩ := hy v H3 hv
    have r3 := rc.ext x3
    have q3 := qc.ext x3
    refine ⟨G3, envc, Fc, xs[i], e1', r3, rv, t1, fun st' F' r' sb w' => ?_⟩
    have ws : L2.wipe st' vs = L2.wipe st vs := by rw [w' vs hts, wipe_idem]
    have g3 : G3 Dp = none := ex_none x3 gD hDc
    have h3 : H3 Dp = some (.lst acc) := x3.hh _ _ hDc
    have n3 : ∀ i, Dp ∉ F' i := fun i m => nD i (sb i _ m)
    have q3' := q3.sub sb
    refine ⟨ws, VL.re G3 H3 F', G3, e1', F', b, e2', r', .re, t2, fun G4 H4 F4 r4 q4 s4 => ?_⟩
    obtain ⟨h4, g4, n4⟩ := q4.out n3 h3 g3
    have qq4 := q3'.trans q4
    cases b with
    | true =>
      obtain ⟨⟨yv, e3'⟩, t3, ec⟩ := Option.bind_eq_some_iff.mp (show (fe e2').bind _ = _ from ec)
      obtain ⟨⟨rest', env''⟩, t4, t5⟩ := Option.map_eq_some_iff.mp ec
      cases t5
      refine iteT ⟨VL.re G4 H4 F4, G4, e2', F4, yv, e3', r4, .re, t3, fun u G5 H5 F5 r5 q5 s5 ru => ?_⟩
      obtain ⟨h5, g5, n5⟩ := q5.out n4 h4 g4
      have qq5 := qq4.trans q5
      obtain ⟨F6, r6, s6⟩ := ER.wipe r5 vs
      rw [ws] at r6
      have n6 : ∀ i, Dp ∉ F6 i := fun i m => n5 i (s6 i _ m)
      refine ⟨acc, h5, Nat.lt_of_le_of_lt la (Nat.lt_of_lt_of_le hlt y.len), G5, F6, wipeE e3' vs, acc ++ [u], accD ++ [yv], rest', r6.other g5 n6, (qq5.sub s6).other cD, ((sc.trans x3.gg).trans s4).trans s5, g5, upd_same, n6, (lc.up ((x3.gg.trans s4).trans s5)).append (.cons ru .nil), ?_, t4, ?_⟩
      · rw [List.length_append, List.length_singleton]; omega
      · rw [List.append_assoc]; exact ea
    | false =>
      obtain ⟨F6, r6, s6⟩ := ER.wipe r4 vs
      rw [ws] at r6
      exact iteF ⟨G4, F6, wipeE e2' vs, acc, accD, rest, r6, qq4.sub s6, (sc.trans x3.gg).trans s4, g4, h4, fun i m => n4 i (s6 i _ m), lc.up (x3.gg.trans s4), by omega, ec, ea⟩
  · have ei : i = xs.length := by omega
    refine .inl ⟨y.stop i Gc Hc sc (sc.trans rc.sub) rc.sub ei, ?_⟩
    rw [List.drop_eq_nil_of_le (by omega)] at ec
    cases ec
    rw [List.append_nil] at ea
    subst ea
    exact k Dp acc Gc Hc Fc rc.unwipe qc (s1.trans sc) nD gD cD hDc lc
theorem okLM_v {K : PySem.W.Frag} {f : Mo (List D)} {t : TE} (h : OkLM K f t) : ∀ (c : C0) (G H : Hp) (st : L2.St) (env : VL.Env) (F : Nat → List Addr) (Q : VK) (d : D) (env' : VL.Env), ER K G H st env F → CR c G H F → ((f env).map fun x => (D.lst x.1, x.2)) = some (d, env') →
    (∀ v G' H' F', ER K G' H' st env' F' → CR c G' H' F' → Same G G' → Rp K G' v d → Q v H') → t st H Q := fun c G H st env F Q d env' r q e k => by
  obtain ⟨⟨ds, e1⟩, h1, h2⟩ := Option.map_eq_some_iff.mp e
  cases h2
  refine h c G H st env F Q ds _ r q h1 fun p vs G' H' F' r' q' s n g cp hp l => ?_
  have up := frzG_up (G := G') (H := H') (l := [p]) fun a m => by cases List.mem_singleton.mp m; exact g
  exact k _ _ _ F' (r'.frz1 g n) (q'.frz1 cp g) (s.trans up) (.lst (by unfold frzG; rw [if_pos (List.mem_singleton.mpr rfl)]; exact hp) (l.up up))
variable {elt tg iter : Expr} {ifs : List Expr} {scope : Scope} {own : List (Str × Nat)} {fi : Mo (List D)} {ts : List Nat} {ft : D → VL.Env → Option VL.Env} {fc : Mo Bool} {fe : Mo D}
@[simp] def mComp (vs : List Nat) (fi : Mo (List D)) (ft : D → VL.Env → Option VL.Env) (fc : Mo Bool) (fe : Mo D) : Mo D := fun env => ((fi env).bind fun x => compM vs ft fc fe x.1 (wipeE x.2 vs)).map fun x => (D.lst x.1, x.2)
theorem m_comp (hc : X.calm = true) (hN : X.N.Nodup) (hi : MI X tg iter fi) (ok : BlkOk X.N X.env.scope scope own) (hts : ∀ i ∈ ts, i ∈ own.map (·.2))
    (hg : ∀ (s : Shared) (H : Hp) (C : Addr) (cl : List (Str × Addr)) (fp : List Addr), TG1 (X.blk s H scope (compEnvC scope cl C X.env) fp) tg ts ft)
    (ht : ∀ (s : Shared) (H : Hp) (C : Addr) (cl : List (Str × Addr)) (fp : List Addr), MTs (X.blk s H scope (compEnvC scope cl C X.env) fp) ifs fc)
    (he : ∀ (s : Shared) (H : Hp) (C : Addr) (cl : List (Str × Addr)) (fp : List Addr), MV (X.blk s H scope (compEnvC scope cl C X.env) fp) elt fe) (hs : ∀ x, foldedSetIterable iter X.env x = pure x := by intro _; rfl) :
    MV X (.ListComp elt [⟨tg, iter, ifs, 0⟩] scope pos) (mComp (own.map (·.2)) fi ft fc fe) := by
  obtain ⟨wi, p, o⟩ := hi.ex
  exact ⟨_, pe_lc hc hN p ok (fun s H C cl fp => (hg s H C cl fp).c) (fun s H C cl fp => (ht s H C cl fp).c) (fun s H C cl fp => (he s H C cl fp).c) hs, okLM_v (lcm_ok o hts)⟩
/-! ranges with draws -/
theorem mi_range1 {a : Expr} {p : Pos} {fs : Mo (List D)} (hg : Gl X "range") (hm : X.mg "range" = none) (ha : MA X [a] fs) (hs : starEach [a] X.env = [(false, eval a X.env)] := by rfl) : MI X tg (.Call (.Name "range" p) [a] [] pos) (mB fs rng1) := by
  obtain ⟨t, pa, o⟩ := ha.ex
  refine ⟨_, pi_range1 hg hm pa hs, fun c G H st env F R xs env' r q e k => ?_⟩
  obtain ⟨ds, e1, e2⟩ := mB_some e
  unfold rng1 at e2
  split at e2
  · rename_i n
    split at e2
    · rename_i hn
      cases e2
      refine o c G H st env F _ _ env' r q e1 fun vs G1 H1 F1 r1 q1 s1 rv => ?_
      cases rv with
      | cons r2 r3 =>
        cases r3; cases r2
        have := line62
        exact ⟨n, rfl, by omega, by omega, k _ G1 H1 F1 r1 q1 s1 (yl_range (by omega))⟩
    · cases e2
  · cases e2
theorem mi_seq {l : Expr} {fa : Mo D} (h : MV X l fa) : MI X tg l (fun env => (fa env).bind fun x => (seqOf x.1).map fun z => (z, x.2)) := by
  obtain ⟨t, p, o⟩ := h.ex
  refine ⟨_, pi_or (pi_list (pe_hlen p)) (pi_tup (pe_hlen p)), fun c G H st env F R xs env' r q e k => ?_⟩
  obtain ⟨⟨d, e'⟩, e1, e2⟩ := Option.bind_eq_some_iff.mp e
  obtain ⟨z, e3, e4⟩ := Option.map_eq_some_iff.mp e2
  cases e4
  cases d <;> try (cases e3; done)
  · cases e3
    refine .inl (o c G H st env F _ _ _ r q e1 fun v G' H' F' r' q' s rv hz => ?_)
    cases rv with
    | lst h l => exact ⟨_, rfl, ⟨_, SqL.of (r'.sub _ _ h)⟩, k _ G' H' F' r' q' s (yl_list h l (hz.1 _ _ (r'.sub _ _ h)))⟩
  · cases e3
    refine .inr (o c G H st env F _ _ _ r q e1 fun v G' H' F' r' q' s rv hz => ?_)
    cases rv with
    | tup h l => exact ⟨_, rfl, ⟨_, SqT.of (r'.sub _ _ h)⟩, k _ G' H' F' r' q' s (yl_tup h l (hz.2 _ _ (r'.sub _ _ h)))⟩

/-! ### statements -/
@[simp] def sSetM (i : Nat) (fe : Mo D) : VL.Env → Option Out := fun env => (fe env).map fun x => .nx (x.2.set i (some (.fz x.1)))
theorem okSetM {K : PySem.W.Frag} {te : TE} {i : Nat} (o : ∀ (c : C0) (G H : Hp) (st : L2.St) (env : VL.Env) (F : Nat → List Addr) (Q : VK) (d : D) (env' : VL.Env), ER K G H st env F → CR c G H F → fe env = some (d, env') →
    (∀ v G' H' F', ER K G' H' st env' F' → CR c G' H' F' → Same G G' → Rp K G' v d → Q v H') → te st H Q) : OkT K (sSetM i fe) (tAsg te (gName i)) := fun c G H s env F E u r q e k => by
  obtain ⟨⟨d, e'⟩, e1, e2⟩ := Option.map_eq_some_iff.mp e
  subst e2
  exact o c G H s env F _ d e' r q e1 fun v G' H' F' r' q' s' rv => k G' H' _ _ (r'.setF i rv) (q'.sub fun j a m => putFp_sub m)
variable {e : Expr} {st : Stmt} {sts : List Stmt}
theorem s_setM (i : Nat) {x : Str} {pos' : Pos} (hN : X.N.Nodup) (he : MV X e fe) (hi : X.N[i]? = some x := by rfl) (hx : Loc X.env.scope x := by first | exact Or.inl rfl | exact Or.inr rfl) (hs : swapsWith e (some (.Name x pos')) pos.line X.env = pure false := by rfl)
    (hf : X.fn x = true ∨ X.env.scope.names.lookup x = some .local := by first | exact .inl rfl | exact .inr rfl) : SV X (.Assign [.Name x pos'] e pos) (sSetM i fe) := by
  obtain ⟨t, p, o⟩ := he.ex
  exact ⟨_, ps_set hN hi hx p hs hf, okSetM o⟩
theorem s_setCM (i : Nat) {y : Str} {py spos : Pos} (hc : X.calm = true) (hN : X.N.Nodup) (hi : MI X tg iter fi) (ok : BlkOk X.N X.env.scope scope own) (hts : ∀ i ∈ ts, i ∈ own.map (·.2))
    (hg : ∀ (s : Shared) (H : Hp) (C : Addr) (cl : List (Str × Addr)) (fp : List Addr), TG1 (X.blk s H scope (compEnvC scope cl C X.env) fp) tg ts ft)
    (ht : ∀ (s : Shared) (H : Hp) (C : Addr) (cl : List (Str × Addr)) (fp : List Addr), MTs (X.blk s H scope (compEnvC scope cl C X.env) fp) ifs fc)
    (he : ∀ (s : Shared) (H : Hp) (C : Addr) (cl : List (Str × Addr)) (fp : List Addr), MV (X.blk s H scope (compEnvC scope cl C X.env) fp) elt fe)
    (hsw : swapsWith (.ListComp elt [⟨tg, iter, ifs, 0⟩] scope pos) (some (.Name y py)) spos.line X.env = pure true) (hy : X.N[i]? = some y := by rfl) (hyl : X.env.scope.names.lookup y = some .local := by rfl)
    (hs : ∀ x, foldedSetIterable iter X.env x = pure x := by intro _; rfl) :
    SV X (.Assign [.Name y py] (.ListComp elt [⟨tg, iter, ifs, 0⟩] scope pos) spos) (sSetM i (mComp (own.map (·.2)) fi ft fc fe)) := by
  obtain ⟨wi, p, o⟩ := hi.ex
  exact ⟨_, ps_setLc hc hN hy hyl hsw p ok (fun s H C cl fp => (hg s H C cl fp).c) (fun s H C cl fp => (ht s H C cl fp).c) (fun s H C cl fp => (he s H C cl fp).c) hs, okSetM (okLM_v (lcm_ok o hts))⟩
@[simp] def sTgM (ft : D → VL.Env → Option VL.Env) (fe : Mo D) : VL.Env → Option Out := fun env => (fe env).bind fun d => (ft d.1 d.2).map .nx
theorem s_tgM (he : MV X e fe) (hg : TG1 X tg ts ft) (hs : swapsWithSole [tg] e pos.line X.env = pure false := by rfl) (hw : swappedStores [tg] e X.env = pure none := by rfl)
    (h1 : (assignEach [tg] X.env).map (·.2) = [assign tg X.env] := by rfl) : SV X (.Assign [tg] e pos) (sTgM ft fe) := by
  obtain ⟨t, p, o⟩ := he.ex
  obtain ⟨g, pg, og⟩ := hg.ex
  refine ⟨_, ps_asg p pg hs hw h1, fun c G H s env F E u r q e k => ?_⟩
  obtain ⟨⟨d, e'⟩, e1, e2⟩ := Option.bind_eq_some_iff.mp (show (fe env).bind _ = _ from e)
  obtain ⟨env', e3, e4⟩ := Option.map_eq_some_iff.mp e2
  subst e4
  exact o c G H s env F _ d e' r q e1 fun v G' H' F' r' q' s' rv => og G' H' s e' F' v d env' _ r' rv e3 fun st' F2 r2 sb _ => k G' H' st' F2 r2 (q'.sub sb)
@[simp] def sParM (i j : Nat) (fs : Mo (List D)) : VL.Env → Option Out := fun env => (fs env).bind fun ds => match ds.1 with
  | [d, e] => some (.nx ((ds.2.set i (some (.fz d))).set j (some (.fz e))))
  | _ => none
theorem s_parM {i j : Nat} {x y : Str} {a b : Expr} {fs : Mo (List D)} {px py pt : Pos} {kt k2 pt2} (hc : X.calm = true) (hN : X.N.Nodup) (ha : MA X [a, b] fs) (hij : i ≠ j) (hi : X.N[i]? = some x := by rfl) (hj : X.N[j]? = some y := by rfl)
    (hx : X.env.scope.names.lookup x = some .local := by rfl) (hy : X.env.scope.names.lookup y = some .local := by rfl)
    (hw : swappedStores [.Tuple [.Name x px, .Name y py] kt pt] (.Tuple [a, b] k2 pt2) X.env = pure (some [x, y]) := by rfl)
    (hs : swapsWithSole [.Tuple [.Name x px, .Name y py] kt pt] (.Tuple [a, b] k2 pt2) pos.line X.env = pure false := by rfl) :
    SV X (.Assign [.Tuple [.Name x px, .Name y py] kt pt] (.Tuple [a, b] k2 pt2) pos) (sParM i j fs) := by
  obtain ⟨t, p, o⟩ := ha.ex
  refine ⟨_, ps_par hc hN hi hj hij hx hy p hw hs, fun c G H s env F E u r q e k => ?_⟩
  obtain ⟨⟨ds, e'⟩, e1, e2⟩ := Option.bind_eq_some_iff.mp (show (fs env).bind _ = _ from e)
  dsimp only at e2
  split at e2
  · cases e2
    refine o c G H s env F _ _ _ r q e1 fun vs G' H' F' r' q' s' rv => ?_
    cases rv with
    | cons r1 r2 =>
      cases r2 with
      | cons r2 r3 =>
        cases r3
        exact ⟨_, _, rfl, k G' H' _ _ ((r'.setF i r1).setF j r2) (q'.sub fun j a m => putFp_sub (putFp_sub m))⟩
  · cases e2
@[simp] def sIfM (c : Mo Bool) (f g : VL.Env → Option Out) : VL.Env → Option Out := fun env => (c env).bind fun b => if b.1 then f b.2 else g b.2
theorem s_ifM {cnd : Expr} {a b : List Stmt} {f g : VL.Env → Option Out} (hc : MT X cnd fc) (ha : BV X a f) (hb : BV X b g) : SV X (.If cnd a b pos) (sIfM fc f g) := by
  obtain ⟨tc, pc, oc⟩ := hc.ex
  obtain ⟨t, p, o⟩ := ha.ex
  obtain ⟨t', p', o'⟩ := hb.ex
  refine ⟨_, ps_if pc p p', fun c G H s env F E u r q e k => ?_⟩
  obtain ⟨⟨x, e'⟩, e1, e2⟩ := Option.bind_eq_some_iff.mp (show (fc env).bind _ = _ from e)
  refine oc c G H s env F _ x e' r q e1 fun G' H' F' r' q' s' => ?_
  cases x with
  | true => exact iteT (o c G' H' s e' F' E u r' q' e2 k)
  | false => exact iteF (o' c G' H' s e' F' E u r' q' e2 k)
@[simp] def sRetM (fe : Mo D) : VL.Env → Option Out := fun env => (fe env).map fun d => .rt (.fz d.1) d.2
theorem s_retM (he : MV X e fe) : SV X (.Return (some e) pos) (sRetM fe) := by
  obtain ⟨t, p, o⟩ := he.ex
  refine ⟨_, ps_ret p, fun c G H s env F E u r q e k => ?_⟩
  obtain ⟨⟨d, e'⟩, e1, e2⟩ := Option.map_eq_some_iff.mp e
  subst e2
  exact o c G H s env F _ d e' r q e1 fun v G' H' F' r' q' s' rv => k v G' H' s F' [] r' q' (.fz rv) .nil (fun a m => by cases m) (fun i a m => by cases m)
@[simp] def sForM (fi : Mo (List D)) (ft : D → VL.Env → Option VL.Env) (fb : VL.Env → Option Out) : VL.Env → Option Out := fun env => (fi env).bind fun xs => forD ft fb xs.1 xs.2
theorem s_forM {body : List Stmt} {fb : VL.Env → Option Out} (hp : PassesOwn (model X.prog X.w) X.A X.env X.xe) (hc : X.calm = true) (hi : MI X tg iter fi) (hg : TG1 X tg ts ft) (hb : BV X body fb)
    (hs : ∀ x, foldedSetIterable iter X.env x = pure x := by intro _; rfl) : SV X (.For tg iter body [] pos) (sForM fi ft fb) := by
  obtain ⟨wi, pi, oi⟩ := hi.ex
  obtain ⟨g, pg, og⟩ := hg.ex
  obtain ⟨tb, pb, ob⟩ := hb.ex
  refine ⟨_, ps_for hp hc pi pg pb hs, fun c G H s env F E u r q e k => ?_⟩
  obtain ⟨⟨xs, env1⟩, e1, e2⟩ := Option.bind_eq_some_iff.mp (show (fi env).bind _ = _ from e)
  refine oi c G H s env F _ xs env1 r q e1 fun J G1 H1 F1 r1 q1 s1 y => ?_
  refine ⟨fun i m s' Hc => m = xs.length - i ∧ i ≤ xs.length ∧ ∃ Gc env' F' o, ER X.K Gc Hc s' env' F' ∧ CR c Gc Hc F' ∧ Same G1 Gc ∧ forD ft fb (xs.drop i) env' = some o ∧ Post X.K c E o,
    ⟨xs.length, rfl, Nat.zero_le _, G1, env1, F1, u, r1, q1, Same.refl _, e2, k⟩, ?_⟩
  rintro i m s' Hc ⟨em, hi', Gc, env', F', o, r', q', sg, ec, kc⟩
  by_cases hlt : i < xs.length
  · have ed : xs.drop i = xs[i] :: xs.drop (i + 1) := List.drop_eq_getElem_cons hlt
    rw [ed] at ec
    obtain ⟨ea, t1, ec⟩ := Option.bind_eq_some_iff.mp (show (ft xs[i] env').bind _ = some o from ec)
    obtain ⟨ob', t2, ec⟩ := Option.bind_eq_some_iff.mp ec
    obtain ⟨go, hy⟩ := y.step i Gc Hc sg (sg.trans r'.sub) r'.sub xs[i] (List.getElem?_eq_getElem hlt)
    refine .inr ⟨go, _, fun s2 H' h' => ⟨xs.length - (i + 1), by omega, rfl, hlt, h'⟩, fun v H3 hv => ?_⟩
    obtain ⟨G3, x3, rv⟩ := hy v H3 hv
    refine og G3 H3 s' env' F' v xs[i] ea _ (r'.ext x3) rv t1 fun st2 F2 r2 sb _ => ?_
    have q2 := (q'.ext x3).sub sb
    refine ob (VL.re G3 H3 F2) G3 H3 st2 ea F2 _ ob' r2 .re t2 ?_
    have nxt : ∀ e2', forD ft fb (xs.drop (i + 1)) e2' = some o → ∀ (G H : Hp) (st : L2.St) (F : Nat → List Addr), ER X.K G H st e2' F → CR (VL.re G3 H3 F2) G H F → i + 1 ≤ xs.length ∧ ∃ Gc env' F' o, ER X.K Gc H st env' F' ∧ CR c Gc H F' ∧ Same G1 Gc ∧ forD ft fb (xs.drop (i + 1)) env' = some o ∧ Post X.K c E o :=
      fun e2' ez G' H' st3 F3 r3 q3 => ⟨hlt, G', e2', F3, o, r3, q2.trans q3, (sg.trans x3.gg).trans q3.g0, ez, kc⟩
    cases ob' with
    | nx e2' => exact fun G' H' st3 F3 r3 q3 => (nxt e2' ec G' H' st3 F3 r3 q3).2
    | ct e2' => exact fun G' H' st3 F3 r3 q3 => (nxt e2' ec G' H' st3 F3 r3 q3).2
    | bk e2' =>
      cases ec
      exact fun G' H' st3 F3 r3 q3 => kc G' H' st3 F3 r3 (q2.trans q3)
    | rt z e2' =>
      cases ec
      exact Post.re (o := .rt z e2') q2 kc
  · have ei : i = xs.length := by omega
    refine .inl ⟨y.stop i Gc Hc sg (sg.trans r'.sub) r'.sub ei, ?_⟩
    rw [List.drop_eq_nil_of_le (by omega)] at ec
    cases ec
    exact kc Gc Hc s' F' r' q'
end
end VL

set_option Elab.async false
set_option linter.all false
set_option maxRecDepth 100000
/-! VL10: dicts, extend; defs that change their first argument; the law itself. -/
namespace VL
open PySem PySem.Spec PyProof.Rows L2

/-! ### dicts of the def's own, whose values are frozen -/
def frzK : List (D × S) → Option (List (D × D))
  | [] => some []
  | (k, .fz d) :: xs => (frzK xs).map ((k, d) :: ·)
  | _ => none
def fzK (kvs : List (D × D)) : List (D × S) := kvs.map fun p => (p.1, S.fz p.2)
@[simp] theorem frzK_map : ∀ kvs : List (D × D), frzK (fzK kvs) = some kvs
  | [] => rfl
  | (k, d) :: kvs => by
    show (frzK (fzK kvs)).map _ = _
    rw [frzK_map kvs]; rfl
theorem frzK_some : ∀ {xs : List (D × S)} {kvs : List (D × D)}, frzK xs = some kvs → xs = fzK kvs
  | [], _, h => by cases h; rfl
  | (k, .fz d) :: xs, _, h => by
    obtain ⟨ds, h1, h2⟩ := Option.map_eq_some_iff.mp (show (frzK xs).map _ = _ from h)
    subst h2
    rw [frzK_some h1]; rfl
  | (_, .ol _) :: _, _, h => by cases h
  | (_, .od _ _) :: _, _, h => by cases h
  | (_, .ot _) :: _, _, h => by cases h
  | (_, .ob _ _) :: _, _, h => by cases h
  | (_, .at _ _) :: _, _, h => by cases h
def odOf : S → Option (Bool × List (D × D))
  | .od t kvs => (frzK kvs).map fun x => (t, x)
  | _ => none
@[simp] theorem odOf_od (t : Bool) (kvs : List (D × D)) : odOf (.od t (fzK kvs)) = some (t, kvs) := by
  show (frzK (fzK kvs)).map _ = _
  rw [frzK_map]; rfl
theorem odOf_some {s : S} {t : Bool} {kvs : List (D × D)} (h : odOf s = some (t, kvs)) : s = .od t (fzK kvs) := by
  cases s <;> try (cases h; done)
  obtain ⟨x, h1, h2⟩ := Option.map_eq_some_iff.mp (show (frzK _).map _ = _ from h)
  cases h2
  rw [frzK_some h1]
section
variable {K : PySem.W.Frag} {G H : Hp}
theorem slRK_rp : ∀ {kvs : List (D × D)} {vs : List (Key × V)} {F : List Addr}, SlRK K G H vs (fzK kvs) F → RpK K G vs kvs ∧ F = []
  | [], _, _, h => by cases h; exact ⟨.nil, rfl⟩
  | (k, d) :: kvs, _, _, h => by
    cases h with
    | cons h1 h2 =>
      cases h1 with
      | fz r =>
        obtain ⟨a, b⟩ := slRK_rp h2
        exact ⟨.cons r a, by rw [b]; rfl⟩
theorem slRT_rp : ∀ {kvs : List (D × D)} {vs : List (List Key × V)} {F : List Addr}, SlRT K G H vs (fzK kvs) F → RpT K G vs kvs ∧ F = []
  | [], _, _, h => by cases h; exact ⟨.nil, rfl⟩
  | (k, d) :: kvs, _, _, h => by
    cases h with
    | cons h1 h2 =>
      cases h1 with
      | fz r =>
        obtain ⟨a, b⟩ := slRT_rp h2
        exact ⟨.cons r a, by rw [b]; rfl⟩
theorem slRK_of : ∀ {vs : List (Key × V)} {kvs : List (D × D)}, RpK K G vs kvs → SlRK K G H vs (fzK kvs) []
  | _, _, .nil => .nil
  | _, _, .cons h t => SlRK.cons (F := []) (.fz h) (slRK_of t)
theorem slRT_of : ∀ {vs : List (List Key × V)} {kvs : List (D × D)}, RpT K G vs kvs → SlRT K G H vs (fzK kvs) []
  | _, _, .nil => .nil
  | _, _, .cons h t => SlRT.cons (F := []) (.fz h) (slRT_of t)
def putKD (k : Key) (d : D) (kvs : List (D × D)) : List (D × D) :=
  if (kvs.any fun p => decide (keyD p.1 = some k)) = true then kvs.map fun p => if keyD p.1 = some k then (p.1, d) else p else kvs ++ [(kD k, d)]
def putTD (k : List Key) (d : D) (kvs : List (D × D)) : List (D × D) :=
  if (kvs.any fun p => decide (tkeyD p.1 = some k)) = true then kvs.map fun p => if tkeyD p.1 = some k then (p.1, d) else p else kvs ++ [(.tup (k.map kD), d)]
theorem RpK.length : ∀ {vs : List (Key × V)} {ds : List (D × D)}, RpK K G vs ds → vs.length = ds.length
  | _, _, .nil => rfl
  | _, _, .cons _ t => by rw [List.length_cons, List.length_cons, RpK.length t]
theorem RpT.length : ∀ {vs : List (List Key × V)} {ds : List (D × D)}, RpT K G vs ds → vs.length = ds.length
  | _, _, .nil => rfl
  | _, _, .cons _ t => by rw [List.length_cons, List.length_cons, RpT.length t]
theorem dec_key (a b : Key) : decide (a = b) = decide (keyD (kD a) = some b) := by
  rw [keyD_kD]
  by_cases c : a = b
  · subst c; simp
  · rw [decide_eq_false c, decide_eq_false fun z => c (Option.some.inj z)]
theorem dec_tkey (a b : List Key) : decide (a = b) = decide (tkeyD (.tup (a.map kD)) = some b) := by
  show _ = decide (keysD (a.map kD) = some b)
  rw [keysD_map]
  by_cases c : a = b
  · subst c; simp
  · rw [decide_eq_false c, decide_eq_false fun z => c (Option.some.inj z)]
theorem RpK.any (k : Key) : ∀ {vs : List (Key × V)} {ds : List (D × D)}, RpK K G vs ds → (vs.any fun p => decide (p.1 = k)) = ds.any fun p => decide (keyD p.1 = some k)
  | _, _, .nil => rfl
  | _, _, .cons _ t => by rw [List.any_cons, List.any_cons, RpK.any k t, dec_key]
theorem RpT.any (k : List Key) : ∀ {vs : List (List Key × V)} {ds : List (D × D)}, RpT K G vs ds → (vs.any fun p => decide (p.1 = k)) = ds.any fun p => decide (tkeyD p.1 = some k)
  | _, _, .nil => rfl
  | _, _, .cons _ t => by rw [List.any_cons, List.any_cons, RpT.any k t, dec_tkey]
theorem RpK.app : ∀ {vs ws : List (Key × V)} {ds es : List (D × D)}, RpK K G vs ds → RpK K G ws es → RpK K G (vs ++ ws) (ds ++ es)
  | _, _, _, _, .nil, h => h
  | _, _, _, _, .cons r t, h => .cons r (RpK.app t h)
theorem RpT.app : ∀ {vs ws : List (List Key × V)} {ds es : List (D × D)}, RpT K G vs ds → RpT K G ws es → RpT K G (vs ++ ws) (ds ++ es)
  | _, _, _, _, .nil, h => h
  | _, _, _, _, .cons r t, h => .cons r (RpT.app t h)
theorem RpK.setAll (k : Key) {v : V} {d : D} (r : Rp K G v d) : ∀ {vs : List (Key × V)} {ds : List (D × D)}, RpK K G vs ds →
    RpK K G (vs.map fun kv => if kv.1 = k then (kv.1, v) else kv) (ds.map fun p => if keyD p.1 = some k then (p.1, d) else p)
  | _, _, .nil => .nil
  | _, _, .cons (k := k') (v := v') (d := d') h t => by
    have ih := RpK.setAll k r t
    rw [List.map_cons, List.map_cons]
    show RpK K G ((if k' = k then (k', v) else (k', v')) :: _) ((if keyD (kD k') = some k then (kD k', d) else (kD k', d')) :: _)
    rw [keyD_kD]
    by_cases c : k' = k
    · rw [if_pos c, if_pos (by rw [c])]; exact .cons r ih
    · rw [if_neg c, if_neg fun z => c (Option.some.inj z)]; exact .cons h ih
theorem RpT.setAll (k : List Key) {v : V} {d : D} (r : Rp K G v d) : ∀ {vs : List (List Key × V)} {ds : List (D × D)}, RpT K G vs ds →
    RpT K G (vs.map fun kv => if kv.1 = k then (kv.1, v) else kv) (ds.map fun p => if tkeyD p.1 = some k then (p.1, d) else p)
  | _, _, .nil => .nil
  | _, _, .cons (k := k') (v := v') (d := d') h t => by
    have ih := RpT.setAll k r t
    rw [List.map_cons, List.map_cons]
    show RpT K G ((if k' = k then (k', v) else (k', v')) :: _) ((if keysD (k'.map kD) = some k then (.tup (k'.map kD), d) else (.tup (k'.map kD), d')) :: _)
    rw [keysD_map]
    by_cases c : k' = k
    · rw [if_pos c, if_pos (by rw [c])]; exact .cons r ih
    · rw [if_neg c, if_neg fun z => c (Option.some.inj z)]; exact .cons h ih
theorem RpK.put {k : Key} {v : V} {d : D} {vs : List (Key × V)} {ds : List (D × D)} (h : RpK K G vs ds) (r : Rp K G v d) : RpK K G (putK vs k v) (putKD k d ds) := by
  unfold putK putKD
  rw [h.any k]
  split
  · exact h.setAll k r
  · exact h.app (.cons r .nil)
theorem RpT.put {k : List Key} {v : V} {d : D} {vs : List (List Key × V)} {ds : List (D × D)} (h : RpT K G vs ds) (r : Rp K G v d) : RpT K G (putK vs k v) (putTD k d ds) := by
  unfold putK putTD
  rw [h.any k]
  split
  · exact h.setAll k r
  · exact h.app (.cons r .nil)
end
def dPut : Bool × List (D × D) → D → D → Option (List (D × D))
  | (false, kvs), k, d => if kvs.length < sizeLine then (keyD k).map fun k => putKD k d kvs else none
  | (true, kvs), k, d => if kvs.length < sizeLine then (tkeyD k).map fun k => putTD k d kvs else none
section
variable {X : Cx} {pos : Pos} {e : Expr} {fe fk : VL.Env → Option D}
/-- {} -/
theorem o_dnew (t : Bool) : PO X (.Dict [] [] pos) (fun _ => some (.od t [])) := by
  cases t with
  | false => exact ⟨_, pe_dnewK, fun G H st env F Q s r e k => by cases e; exact fun p np => k _ G _ [p] (Ex.own r.sub np) (.odK upd_same .nil) (by simp) fun a m => by cases List.mem_singleton.mp m; exact ⟨np, r.sub.free np⟩⟩
  | true => exact ⟨_, pe_dnewT, fun G H st env F Q s r e k => by cases e; exact fun p np => k _ G _ [p] (Ex.own r.sub np) (.odT upd_same .nil) (by simp) fun a m => by cases List.mem_singleton.mp m; exact ⟨np, r.sub.free np⟩⟩
/-- d[k] = e of an owned dict -/
@[simp] def sPutD (i : Nat) (fk fe : VL.Env → Option D) : VL.Env → Option Out := fun env => (fe env).bind fun d => (getS env i).bind fun z => (odOf z).bind fun o => (fk env).bind fun k => (dPut o k d).map fun kvs => .nx (env.set i (some (.od o.1 (fzK kvs))))
theorem s_putD (i : Nat) {k : Nat} {x : Str} {xpos tpos : Pos} {ke : Expr} (hr : Room k X.A) (he : PV X e fe) (hk : PV X ke fk) (hN : X.N[i]? = some x := by rfl) (hv : Vis X.env.scope x := by first | exact Or.inl rfl | exact Or.inr (Or.inl rfl) | exact Or.inr (Or.inr rfl))
    (hd : (x == ("__debug__" : Str)) = false := by decide) (hcd : (x == ("__classdict__" : Str)) = false := by decide)
    (hs : swapsWith e (some (.Subscript (.Name x xpos) ke tpos)) pos.line X.env = pure false := by rfl) :
    SV X (.Assign [.Subscript (.Name x xpos) ke tpos] e pos) (sPutD i fk fe) := by
  obtain ⟨t, p, o⟩ := he.ex
  obtain ⟨tk, pk, ok⟩ := hk.ex
  refine ⟨_, ps_dput (hu_of hr) (pe_var hN hv hd hcd) pk p hs, fun c G H s env F E u r q e k => ?_⟩
  obtain ⟨d, e1, e⟩ := Option.bind_eq_some_iff.mp e
  obtain ⟨z, e2, e⟩ := Option.bind_eq_some_iff.mp e
  obtain ⟨⟨tt, kvs⟩, e3, e⟩ := Option.bind_eq_some_iff.mp e
  obtain ⟨kd, e4, e⟩ := Option.bind_eq_some_iff.mp e
  obtain ⟨kvs', e6, e7⟩ := Option.map_eq_some_iff.mp e
  subst e7
  obtain rfl := odOf_some e3
  obtain ⟨v, g1, g2⟩ := r.slot i _ (getS_some e2)
  refine o G H s env F _ d r e1 fun w G1 H1 x1 rw' => ⟨v, g1, ok G1 H1 s env F _ _ (r.ext x1) e4 fun kv G2 H2 x2 rk => ?_⟩
  have x12 := x1.trans x2
  have r2 := r.ext x12
  obtain ⟨v', g1', g3⟩ := r2.slot i _ (getS_some e2)
  rw [g1] at g1'
  cases g1'
  have rw2 := rw'.up x2.gg
  generalize hFi : F i = Fi at g3
  cases g3 with
  | @odK pp vs _ Fx g4 g5 =>
    obtain ⟨l1, rfl⟩ := slRK_rp g5
    have hppF : pp ∈ F i := by rw [hFi]; exact List.mem_cons_self
    have e6' : (if kvs.length < sizeLine then (keyD kd).map fun k => putKD k d kvs else none) = some kvs' := e6
    split at e6'
    · rename_i hl
      obtain ⟨kk, e8, e9⟩ := Option.map_eq_some_iff.mp e6'
      subst e9
      obtain rfl := kD_of e8
      have ag : ∀ b, b ∉ F i → (L2.upd H2 pp (.dK (putK vs kk w))) b = H2 b ∨ H2 b = none := fun b hb => .inl (upd_ne fun z => hb (by rw [z]; exact hppF))
      refine ⟨pp, _, rfl, .inl ⟨vs, kk, g4, rk.key, by rw [l1.length]; exact hl, rfl⟩, k G2 _ s _ (r2.upd (l := [pp]) g1 ag (.odK upd_same (slRK_of (l1.put rw2))) (by simp) fun a m => ?_) (CR.upd (q.ext x12) ag fun a m => ?_)⟩
      · cases List.mem_singleton.mp m; exact .inl hppF
      · cases List.mem_singleton.mp m; exact .inl hppF
    · cases e6'
  | @odT pp vs _ Fx g4 g5 =>
    obtain ⟨l1, rfl⟩ := slRT_rp g5
    have hppF : pp ∈ F i := by rw [hFi]; exact List.mem_cons_self
    have e6' : (if kvs.length < sizeLine then (tkeyD kd).map fun k => putTD k d kvs else none) = some kvs' := e6
    split at e6'
    · rename_i hl
      obtain ⟨kk, e8, e9⟩ := Option.map_eq_some_iff.mp e6'
      subst e9
      cases rk with
      | tup k1 k2 =>
        obtain rfl := kDs_of (show keysD _ = some kk from e8)
        rw [k2.keys] at k1
        have ag : ∀ b, b ∉ F i → (L2.upd H2 pp (.dT (putK vs kk w))) b = H2 b ∨ H2 b = none := fun b hb => .inl (upd_ne fun z => hb (by rw [z]; exact hppF))
        refine ⟨pp, _, rfl, .inr ⟨vs, kk, _, g4, rfl, x12.gh _ _ k1, by rw [l1.length]; exact hl, rfl⟩, k G2 _ s _ (r2.upd (l := [pp]) g1 ag (.odT upd_same (slRT_of (l1.put rw2))) (by simp) fun a m => ?_) (CR.upd (q.ext x12) ag fun a m => ?_)⟩
        · cases List.mem_singleton.mp m; exact .inl hppF
        · cases List.mem_singleton.mp m; exact .inl hppF
      | _ => cases e8
    · cases e6'
/-- x.extend(e) at an owned list with frozen items -/
@[simp] def sExt (i : Nat) (fe : VL.Env → Option D) : VL.Env → Option Out := fun env => (getS env i).bind fun z => (olOf z).bind fun ds => (fe env).bind fun d => (lstOf d).bind fun es => if ds.length + es.length ≤ sizeLine then some (.nx (env.set i (some (.ol ((ds ++ es).map S.fz))))) else none
theorem s_ext (i : Nat) {x : Str} {xpos apos cpos : Pos} (he : PV X e fe) (hN : X.N[i]? = some x := by rfl) (hv : Vis X.env.scope x := by first | exact Or.inl rfl | exact Or.inr (Or.inl rfl) | exact Or.inr (Or.inr rfl))
    (hd : (x == ("__debug__" : Str)) = false := by decide) (hcd : (x == ("__classdict__" : Str)) = false := by decide)
    (hbase : attributeBase (.Name x xpos) "extend" X.env (eval (.Name x xpos) X.env) = eval (.Name x xpos) X.env := by rfl)
    (hfew : ((backTo cpos (starEach [e] X.env)).all (fun x => !x.1) && (backToKw cpos (keywordEach [] X.env)).all (fun x => x.1.isSome)
      && decide ([e].length + ([] : List Keyword).length + (if ([] : List Keyword).isEmpty then 0 else 1) < 30)) = true := by rfl)
    (hline : (apos.endLine == cpos.line) = true := by rfl) (hs : starEach [e] X.env = (false, eval e X.env) :: starEach [] X.env := by rfl)
    (hsw : swapsWith (.Call (.Attribute (.Name x xpos) "extend" apos) [e] [] cpos) none pos.line X.env = pure false := by rfl) :
    SV X (.Expr (.Call (.Attribute (.Name x xpos) "extend" apos) [e] [] cpos) pos) (sExt i fe) := by
  obtain ⟨t, p, o⟩ := he.ex
  refine ⟨_, ps_expr (pe_bm PySem.F.plainAttrs_list PySem.F.slot_list_extend PySem.F.type_list_extend mt_extend (pe_var hN hv hd hcd) (pa_cons p pa_nil hs) hbase hfew hline hs rfl) hsw, fun c G H s env F E u r q e k => ?_⟩
  obtain ⟨z, e1, e⟩ := Option.bind_eq_some_iff.mp e
  obtain ⟨ds, e2, e⟩ := Option.bind_eq_some_iff.mp e
  obtain ⟨d, e3, e⟩ := Option.bind_eq_some_iff.mp e
  obtain ⟨es, e4, e⟩ := Option.bind_eq_some_iff.mp e
  split at e
  · rename_i hl
    cases e
    obtain rfl := olOf_some e2
    obtain rfl := lstOf_some e4
    obtain ⟨v, h1, h2⟩ := r.slot i _ (getS_some e1)
    have ho := o G H s env F
    have dom := fun a => r.dom (i := i) (a := a)
    generalize hFi : F i = Fi at h2
    cases h2 with
    | @ol pp vs _ Fx g1 g2 =>
      obtain ⟨l1, rfl⟩ := slRs_rp g2
      refine ⟨.ref pp, h1, .inl ⟨rfl, _, SqL.of g1⟩, o G H s env F _ _ r e3 fun w G' H' x rw' => ?_⟩
      cases rw' with
      | @lst bb ws _ w1 w2 =>
        have hppF : pp ∈ F i := by rw [hFi]; exact List.mem_cons_self
        have ag : ∀ b, b ∉ F i → (L2.upd H' pp (.lst (vs ++ ws))) b = H' b ∨ H' b = none := fun b hb => .inl (upd_ne fun z => hb (by rw [z]; exact hppF))
        refine ⟨pp, bb, vs, ws, rfl, rfl, x.hh _ _ g1, x.gh _ _ w1, by rw [l1.length, w2.length]; exact hl, ?_⟩
        refine k G' _ s _ ((r.ext x).upd (l := [pp]) h1 ag (.ol upd_same (slRs_fz ((l1.up x.gg).append w2))) (by simp) fun a m => ?_) (CR.upd (q.ext x) ag fun a m => ?_)
        · cases List.mem_singleton.mp m; exact .inl hppF
        · cases List.mem_singleton.mp m; exact .inl hppF
  · cases e
end

/-! ### a def that changes what its first argument is -/
def slotAt (env : VL.Env) (p : Addr) : Option S := (getS env 0).bind fun z => (atOf z).bind fun s => if s.1 = p then some s.2 else none
theorem slotAt_some {env : VL.Env} {p : Addr} {s : S} (h : slotAt env p = some s) : env[0]? = some (some (.at p s)) := by
  obtain ⟨z, h1, h⟩ := Option.bind_eq_some_iff.mp (show (getS env 0).bind _ = _ from h)
  obtain ⟨⟨a, s'⟩, h2, h⟩ := Option.bind_eq_some_iff.mp h
  have h3 : (if a = p then some s' else none) = some s := h
  obtain rfl := atOf_some h2
  split at h3
  · rename_i c; cases h3; subst c; exact getS_some h1
  · cases h3
def retI (p : Addr) : Out → Option (D × S)
  | .rt (.fz d) env => (slotAt env p).map fun s => (d, s)
  | .nx env => (slotAt env p).map fun s => (.non, s)
  | _ => none
def fnI (np n : Nat) (fb : VL.Env → Option Out) (p : Addr) (s : S) (ds : List D) : Option (D × S) :=
  if ds.length + 1 = np ∧ np ≤ n then (fb (some (.at p s) :: (ds.map (fun d => some (S.fz d)) ++ List.replicate (n - np) none))).bind (retI p) else none
section
variable {P : Program} {w : World} {K : PySem.W.Frag} {mg : Str → Option Value} {base : Heap}
theorem fn_okI {x qual : Str} {st : Stmt} {f : Addr} {fd : FuncData} {N ps : List Str} {k : Nat} {fb : VL.Env → Option Out} (F : Fun K x qual st f fd) (Sc : FnScope N ps (defScope st))
    (hb : ∀ (cdv : Value) (A : Around) (outer : List PySem.Env) (s : Shared) (H : Hp) (E : XK), Room k (A.deeper (envOfC qual (defScope st) s.heap.objs.size f cdv)) →
      BV (cxOf CX0 P w K mg base N qual (defScope st) f cdv A outer s H E).nox (defBody st) fb) : FnOk P w K mg base CX0 (k + 1) f fd ps (spI K (fnI ps.length N.length fb)) := by
  refine F.ok Sc (fun vs H Q E ⟨G, p, ws, s0, l0, ds, d, s1, _, ev, _, _, _, l, e, _⟩ => ?_) (fun cdv A outer s H vs Q E hr ⟨G, p, ws, s0, l0, ds, d, s1, sub, ev, sl, nd, off, l, e, kk⟩ => ?_)
  · unfold fnI at e
    split at e
    · rename_i h; rw [ev, List.length_cons, l.length]; exact h.1
    · cases e
  · obtain ⟨t, pp, o⟩ := (hb cdv A outer s H E hr).ex
    unfold fnI at e
    split at e
    · rename_i hn
      obtain ⟨u, e1, e2⟩ := Option.bind_eq_some_iff.mp e
      subst ev
      have r0 : ER K G H (L2.start N (V.ref p :: ws)) (some (.at p s0) :: (ds.map (fun d => some (S.fz d)) ++ List.replicate (N.length - ps.length) none)) (fun i => if i = 0 then l0 else []) := by
        have es : L2.start N (V.ref p :: ws) = some (V.ref p) :: (ws.map some ++ List.replicate (N.length - ps.length) none) := by
          unfold L2.start
          rw [List.map_cons, List.cons_append, List.length_cons, l.length, hn.1]
        rw [es]
        refine ⟨sub, by simp [l.length], fun i z ez => ?_, fun i hi => ?_, fun i a m => ?_, fun i => ?_, fun i j a m m' => ?_⟩
        · cases i with
          | zero => cases ez; exact ⟨_, rfl, .at sl⟩
          | succ i =>
            rw [List.getElem?_cons_succ] at ez ⊢
            by_cases hi : i < ds.length
            · rw [List.getElem?_append_left (by rw [List.length_map]; exact hi), List.getElem?_map] at ez
              obtain ⟨d', z1, z2⟩ := Option.map_eq_some_iff.mp ez
              cases z2
              obtain ⟨v, h1, h2⟩ := l.get z1
              refine ⟨v, ?_, .fz h2⟩
              rw [List.getElem?_append_left (by rw [List.length_map, l.length]; exact hi), List.getElem?_map, h1]; rfl
            · rw [List.getElem?_append_right (by rw [List.length_map]; omega)] at ez
              have := List.mem_of_getElem? ez
              rw [List.mem_replicate] at this
              cases this.2
        · by_cases c : i = 0
          · subst c; exact absurd rfl (hi (.at p s0))
          · exact if_neg c
        · split at m
          · exact off a m
          · cases m
        · show (if i = 0 then l0 else []).Nodup
          split
          · exact nd
          · exact .nil
        · split at m <;> split at m'
          · rename_i c c'; rw [c, c']
          · cases m'
          · cases m
          · cases m
      have fin : ∀ (v : V) (env : VL.Env) (z : D) (s2 : S) (G' H' : Hp) (st' : L2.St) (F' : Nat → List Addr), slotAt env p = some s2 → (z, s2) = (d, s1) → ER K G' H' st' env F' → CR ⟨G, H, fun a => a ∈ l0⟩ G' H' F' → Rp K G' v z → Q v H' := fun v env z s2 G' H' st' F' h0 ez r q rv => by
        cases ez
        obtain ⟨v', h1, h2⟩ := r.slot 0 _ (slotAt_some h0)
        have nd1 := r.nd 0
        have of1 := r.off 0
        have ow := q.own 0
        generalize F' 0 = F0 at h2 nd1 of1 ow
        cases h2 with
        | «at» h2 => exact kk v G' H' F0 q.g0 r.sub (fun b o e n => q.keep b o e n) (fun b e => q.gnew b e) h2 nd1 (fun a m => ⟨of1 a m, (ow a m).symm⟩) rv
      refine ⟨t, pp, o ⟨G, H, fun a => a ∈ l0⟩ G H _ _ _ _ u r0 ⟨Same.refl _, fun b e => .inl e, fun b o e _ => e, fun i a m => ?_⟩ e1 ?_⟩
      · split at m
        · exact .inr m
        · cases m
      · cases u with
        | nx env =>
          obtain ⟨s2, h1, h2⟩ := Option.map_eq_some_iff.mp (show (slotAt env p).map _ = _ from e2)
          exact fun G' H' st' F' r q => fin .non env .non s2 G' H' st' F' h1 h2 r q .non
        | rt z env =>
          cases z with
          | fz z =>
            obtain ⟨s2, h1, h2⟩ := Option.map_eq_some_iff.mp (show (slotAt env p).map _ = _ from e2)
            exact fun v G' H' st' F' l' r q sl' _ _ _ => by
              cases sl' with
              | fz rv => exact fin v env z s2 G' H' st' F' h1 h2 r q rv
          | _ => cases e2
        | bk env => cases e2
        | ct env => cases e2
    · cases e
end

/-! ### the law's own state -/
def stS (n : Int) (cs : List Int) : S := .ol [.fz (.int n), .ol ((cs.map D.int).map S.fz)]
/-- a draw -/
def takeF (n : Int) (cs : List Int) (m : Int) : Int × Int × List Int :=
  let at_ := n % (cs.length : Int)
  let cell := cs.getD at_.toNat 0
  if 1000000000000000000 ≤ cell then (cell % m, n, cs.set at_.toNat (cell / m))
  else
    let m1 := (cell * 48271 + (n + 1) * 69621) % 2147483647
    let m2 := (m1 * 16807 + (n + 1) * 7919) % 1000000007
    (m2 / 7 % m, n + 1, cs)
theorem takeF_lt {n : Int} {cs : List Int} {m : Int} (h : 0 < m) : 0 ≤ (takeF n cs m).1 ∧ (takeF n cs m).1 < m := by
  unfold takeF
  dsimp only
  split
  · exact ⟨Int.emod_nonneg _ (by omega), Int.emod_lt_of_pos _ h⟩
  · exact ⟨Int.emod_nonneg _ (by omega), Int.emod_lt_of_pos _ h⟩
theorem takeF_ne {n : Int} {cs : List Int} {m : Int} (h : cs ≠ []) : (takeF n cs m).2.2 ≠ [] := by
  unfold takeF
  dsimp only
  split
  · intro e
    apply h
    have := congrArg List.length e
    rw [List.length_set] at this
    exact List.length_eq_zero_iff.mp this
  · exact h
def takeS (_ : Addr) : S → List D → Option (D × S)
  | .ol [.fz (.int n), .ol cs], [.int m] => (frzL cs).bind fun c1 => (intsOf c1).bind fun c2 => if 0 < m ∧ m.natAbs.log2 < 9000 ∧ c2 ≠ [] then some (.int (takeF n c2 m).1, stS (takeF n c2 m).2.1 (takeF n c2 m).2.2) else none
  | _, _ => none
theorem takeS_some {a : Addr} {s : S} {ds : List D} {z : D × S} (h : takeS a s ds = some z) : ∃ n cs m, s = stS n cs ∧ ds = [.int m] ∧ 0 < m ∧ m.natAbs.log2 < 9000 ∧ cs ≠ [] ∧ z = (.int (takeF n cs m).1, stS (takeF n cs m).2.1 (takeF n cs m).2.2) := by
  unfold takeS at h
  split at h
  · rename_i n cs m
    obtain ⟨c1, h1, h⟩ := Option.bind_eq_some_iff.mp h
    obtain ⟨c2, h2, h⟩ := Option.bind_eq_some_iff.mp h
    split at h
    · rename_i c
      cases h
      refine ⟨n, c2, m, ?_, rfl, c.1, c.2.1, c.2.2, rfl⟩
      rw [frzL_some h1, intsOf_some h2]; rfl
    · cases h
  · cases h
theorem takeS_eq {a : Addr} {n : Int} {cs : List Int} {m : Int} (h : 0 < m) (hm : m.natAbs < 2 ^ 64) (hc : cs ≠ []) : takeS a (stS n cs) [.int m] = some (.int (takeF n cs m).1, stS (takeF n cs m).2.1 (takeF n cs m).2.2) := by
  have h2 := log2_small hm (by decide)
  show (frzL _).bind _ = _
  rw [frzL_map]
  show (intsOf _).bind _ = _
  rw [intsOf_map]
  show (if _ then _ else _) = _
  rw [if_pos ⟨h, by omega, hc⟩]
end VL

set_option Elab.async false
set_option linter.all false
set_option maxRecDepth 100000
/-! VL11: short names for what the printed walks say; the law's own body. -/
namespace VL
open PySem PySem.Spec PyProof.Rows L2
@[simp] abbrev dN (i : Nat) : VL.Env → Option D := fun env => getF env i
@[simp] abbrev dW (i : Nat) : VL.Env → Option D := fun env => getW env i
@[simp] abbrev dK (d : D) : VL.Env → Option D := fun _ => some d
@[simp] abbrev a0 : VL.Env → Option (List D) := fun _ => some []
@[simp] abbrev dTup (fs : VL.Env → Option (List D)) : VL.Env → Option D := fun env => (fs env).bind fun ds => if ds.length < 1000 then some (.tup ds) else none
@[simp] abbrev dLst (fs : VL.Env → Option (List D)) : VL.Env → Option (List D) := fun env => (fs env).bind fun ds => if ds.length < 1000 then some ds else none
@[simp] abbrev fL (f : VL.Env → Option (List D)) : VL.Env → Option D := fun env => (f env).map D.lst
@[simp] abbrev oL (f : VL.Env → Option (List D)) : VL.Env → Option S := fun env => (f env).map fun ds => S.ol (ds.map S.fz)
@[simp] abbrev dSc (f : VL.Env → Option D) : VL.Env → Option D := fun env => (f env).bind scal
@[simp] abbrev dTr (f : VL.Env → Option D) : VL.Env → Option Bool := fun env => (f env).bind truE
@[simp] abbrev dNeg1 (f : VL.Env → Option D) : VL.Env → Option D := fun env => (f env).bind dNeg
@[simp] abbrev iSq (f : VL.Env → Option D) : VL.Env → Option (List D) := fun env => (f env).bind seqOf
@[simp] abbrev iOw (i : Nat) : VL.Env → Option (List D) := fun env => (getS env i).bind olOf
@[simp] abbrev iR1 (f : VL.Env → Option (List D)) : VL.Env → Option (List D) := fun env => (f env).bind rng1
@[simp] abbrev iR2 (f : VL.Env → Option (List D)) : VL.Env → Option (List D) := fun env => (f env).bind rng2
@[simp] abbrev iEn (f : VL.Env → Option D) : VL.Env → Option (List D) := fun env => (f env).bind fun d => (lstOf d).map enumD
@[simp] abbrev dComp (vs : List Nat) (fi : VL.Env → Option (List D)) (ft : D → VL.Env → Option VL.Env) (fc : VL.Env → Option Bool) (fe : VL.Env → Option D) : VL.Env → Option (List D) := fun env => (fi env).bind (compD ft fc fe (wipeE env vs))
@[simp] abbrev cY : VL.Env → Option Bool := fun _ => some true
@[simp] abbrev mY : Mo Bool := pur fun _ => some true
@[simp] abbrev mA0 : Mo (List D) := pur fun _ => some []
@[simp] abbrev dFz (i : Nat) (f : VL.Env → Option Out) : VL.Env → Option Out := fun env => (frzE i env).bind f
@[simp] abbrev sl0 : VL.Env → Option (Option Int) := fun _ => some none
@[simp] abbrev sl1 (f : VL.Env → Option D) : VL.Env → Option (Option Int) := fun env => ((f env).bind intOf).map some
@[simp] abbrev dCut (f : VL.Env → Option D) (l h : VL.Env → Option (Option Int)) : VL.Env → Option (List D) := fun env => (f env).bind fun d => (lstOf d).bind fun xs => (l env).bind fun l => (h env).bind fun h => some (cutD xs l h)
@[simp] abbrev oCall (fs : VL.Env → Option (List D)) (Fn : List D → Option S) : VL.Env → Option S := fun env => (fs env).bind Fn
@[simp] abbrev oFz (f : VL.Env → Option D) : VL.Env → Option S := fun env => (f env).map S.fz
@[simp] abbrev mSq (f : Mo D) : Mo (List D) := fun env => (f env).bind fun x => (seqOf x.1).map fun z => (z, x.2)
@[simp] abbrev mCall (fs : Mo (List D)) (Fn : List D → Option S) : Mo D := mB fs fun ds => (Fn ds).bind frS
@[simp] abbrev sBk : VL.Env → Option Out := fun env => some (.bk env)
@[simp] abbrev sCt : VL.Env → Option Out := fun env => some (.ct env)
@[simp] abbrev sRet0 : VL.Env → Option Out := fun env => some (.rt (.fz .non) env)

/-! ### tuple(x) -/
def CallF (X : Cx) (f : Value) (g : List D → Option D) : Prop :=
  ∃ r : List V → Hp → VK → Prop, CallR X f r ∧ ∀ (G H : Hp) (vs : List V) (ds : List D) (z : D) (Q : VK), Same G H → RpL X.K G vs ds → g ds = some z → (∀ v G' H', Ex G H G' H' → Rp X.K G' v z → Q v H') → r vs H Q
section
variable {X : Cx} {x : Str} {p pos : Pos} {id : String} {e : Expr} {es : List Expr} {fs : VL.Env → Option (List D)}
theorem v_callTF {g : List D → Option D} (hc : CallF X (.type id) g) (hg : Gl X x) (hm : X.mg x = none) (hv : bootBuiltins x = some (.type id)) (ha : AV X (e :: es) fs) (hn : x ≠ "__name__" := by decide) (hdb : (x == ("__debug__" : Str)) = false := by decide)
    (he : starEach (e :: es) X.env = (false, eval e X.env) :: starEach es X.env := by rfl) (hpl : (backTo pos (starEach es X.env)).any (·.1) = false := by rfl) : PV X (.Call (.Name x p) (e :: es) [] pos) (cB fs g) := by
  obtain ⟨r, hr, o⟩ := hc
  obtain ⟨t, pa, oa⟩ := ha.ex
  refine ⟨_, pe_callTy hr hg hm hv pa hn hdb he hpl, fun G H st env F Q d re e k => ?_⟩
  obtain ⟨ds, e1, e2⟩ := Option.bind_eq_some_iff.mp e
  exact oa G H st env F _ _ re e1 fun vs G1 H1 x1 r1 => o G1 H1 vs ds d Q x1.gh r1 e2 fun v G' H' x2 r2 => k v G' H' (x1.trans x2) r2
def dTuple : List D → Option D
  | [.lst xs] => some (.tup xs)
  | [.tup xs] => some (.tup xs)
  | _ => none
theorem c_tuple : CallF X (.type "tuple") dTuple := by
  refine ⟨_, call_tuple_of, fun G H vs ds z Q s r q k => ?_⟩
  unfold dTuple at q
  split at q
  · cases q
    cases r with
    | cons r1 r2 =>
      cases r2
      cases r1 with
      | lst h l => exact ⟨_, _, rfl, .inl ⟨SqL.of (s _ _ h), fun p np => k _ _ _ (Ex.frz s np) (.tup upd_same (l.up (same_upd (s.free np))))⟩⟩
  · cases q
    cases r with
    | cons r1 r2 =>
      cases r2
      cases r1 with
      | tup h l => exact ⟨_, _, rfl, .inr ⟨SqT.of (s _ _ h), k _ _ _ (Ex.refl s) (.tup h l)⟩⟩
  · cases q
theorem m_callTF {g : List D → Option D} {fs : Mo (List D)} (hc : CallF X (.type id) g) (hg : Gl X x) (hm : X.mg x = none) (hv : bootBuiltins x = some (.type id)) (ha : MA X (e :: es) fs) (hn : x ≠ "__name__" := by decide) (hdb : (x == ("__debug__" : Str)) = false := by decide)
    (he : starEach (e :: es) X.env = (false, eval e X.env) :: starEach es X.env := by rfl) (hpl : (backTo pos (starEach es X.env)).any (·.1) = false := by rfl) : MV X (.Call (.Name x p) (e :: es) [] pos) (mB fs g) := by
  obtain ⟨r, hr, o⟩ := hc
  obtain ⟨t, pa, oa⟩ := ha.ex
  refine ⟨_, pe_callTy hr hg hm hv pa hn hdb he hpl, fun c G H st env F Q d env' r q e k => ?_⟩
  obtain ⟨ds, e1, e2⟩ := mB_some e
  exact oa c G H st env F _ _ env' r q e1 fun vs G1 H1 F1 r1 q1 s1 rv => o G1 H1 vs ds d Q r1.sub rv e2 fun v G' H' x2 r2 => k v G' H' F1 (r1.ext x2) (q1.ext x2) (s1.trans x2.gg) r2
/-! ### isinstance(x, tuple), of what is frozen -/
def tyD : D → Option String
  | .non => some "NoneType"
  | .bl _ => some "bool"
  | .int _ => some "int"
  | .str _ => some "str"
  | .lst _ => some "list"
  | .tup _ => some "tuple"
  | .dic _ _ => some "dict"
theorem tyOf_rp {K : PySem.W.Frag} {H : Hp} {v : V} {d : D} (r : Rp K H v d) (n : ∀ t kvs, d ≠ .dic t kvs) : ∃ T, tyD d = some T ∧ TyOf K H v (.type T) := by
  cases r with
  | non => exact ⟨_, rfl, .non⟩
  | bl b => exact ⟨_, rfl, .bl b⟩
  | int i => exact ⟨_, rfl, .int i⟩
  | str x => exact ⟨_, rfl, .str x⟩
  | lst h l => exact ⟨_, rfl, .lst h⟩
  | tup h l => exact ⟨_, rfl, .tup h⟩
  | dK h l => exact absurd rfl (n _ _)
  | dT h l => exact absurd rfl (n _ _)
end
/-! ### the law -/
structure Df (K : PySem.W.Frag) (mg : Str → Option Value) (x : Str) (st : Stmt) (ps : List Str) (f : Addr) (fd : FuncData) : Prop where
  F : Fun K x x st f fd
  g : mg x = some (.ref f)
  b : Binds K fd ps []
def spState (K : PySem.W.Frag) : Sp := fun vs H Q _ => ∃ (a : Addr) (ns : List Int), vs = [.ref a] ∧ SqL K H a (ns.map V.int) ∧ ns.length ≤ 63 ∧
  ∀ (p q : Addr) (cs : List Int) (H' : Hp), Same H H' → H p = none → H q = none → p ≠ q → H' p = some (.lst [.int 0, .ref q]) → H' q = some (.lst (cs.map V.int)) → cs ≠ [] → Q (.ref p) H'
def spLaw (K : PySem.W.Frag) : Sp := fun vs H Q _ => ∃ (a : Addr) (ns : List Int), vs = [.ref a] ∧ SqL K H a (ns.map V.int) ∧ ns.length ≤ 63 ∧ ∀ H', Q (.bl true) H'
/-- the slots behind the law's first statement -/
def lawE (n : Nat) (p : Addr) (cs : List Int) : VL.Env := none :: some (.at p (stS 0 cs)) :: List.replicate (n - 2) none
def LawTrue (n : Nat) (fb : VL.Env → Option Out) : Prop := ∀ (p : Addr) (cs : List Int), cs ≠ [] → ∃ env', fb (lawE n p cs) = some (.rt (.fz (.bl true)) env')
section
variable {P : Program} {w : World} {K : PySem.W.Frag} {mg : Str → Option Value} {base : Heap}
theorem law_ok {st st0 : Stmt} {f : Addr} {fd : FuncData} {N : List Str} {k : Nat} {rest : List Stmt} {fb : VL.Env → Option Out} (F : Fun K "law" "law" st f fd) (Sc : FnScope N ["script"] (defScope st)) (hn : N.length = N.length - 2 + 2) (e0 : defBody st = st0 :: rest)
    (hb : ∀ (cdv : Value) (A : Around) (outer : List PySem.Env) (s : Shared) (H : Hp) (E : XK), Room (k + 1) (A.deeper (envOfC "law" (defScope st) s.heap.objs.size f cdv)) →
      BV (cxOf CX0 P w K mg base N "law" (defScope st) f cdv A outer s H E).nox rest fb)
    (hs : ∀ (cdv : Value) (A : Around) (outer : List PySem.Env) (s : Shared) (H : Hp) (E : XK), Room (k + 1) (A.deeper (envOfC "law" (defScope st) s.heap.objs.size f cdv)) →
      PS (cxOf CX0 P w K mg base N "law" (defScope st) f cdv A outer s H E).nox st0 (tAsg (tCall (spState K) [] E0 (tCons (tVar 0) tNil)) (gName 1)))
    (ht : LawTrue N.length fb) : FnOk P w K mg base CX0 (k + 2) f fd ["script"] (spLaw K) := by
  refine F.ok Sc (fun vs H Q E ⟨a, ns, ev, _⟩ => by rw [ev]; rfl) (fun cdv A outer s H vs Q E hr ⟨a, ns, ev, hS, hl, kk⟩ => ?_)
  subst ev
  obtain ⟨t, p, o⟩ := (hb cdv A outer s H E hr).ex
  have ps0 := hs cdv A outer s H E hr
  rw [e0]
  have es : L2.start N [V.ref a] = some (V.ref a) :: List.replicate (N.length - 1) none := rfl
  refine ⟨_, pss_cons ps0 p, ⟨_, by rw [es]; rfl, a, ns, rfl, hS, hl, fun pp qq cs H1 sm np nq npq hp hq hc => ?_⟩⟩
  obtain ⟨env', he⟩ := ht pp cs hc
  have en : N.length - 1 = (N.length - 2) + 1 := by omega
  have e1 : (L2.start N [V.ref a]).set 1 (some (V.ref pp)) = some (V.ref a) :: some (V.ref pp) :: List.replicate (N.length - 2) none := by
    rw [es, en, List.replicate_succ]; rfl
  show t _ ((L2.start N [V.ref a]).set 1 (some (V.ref pp))) H1
  rw [e1]
  have ndpq : [pp, qq].Nodup := by simp [npq]
  refine o ⟨fun _ => none, H1, fun a => a = pp ∨ a = qq⟩ (fun _ => none) H1 _ (lawE N.length pp cs) (fun i => if i = 1 then [pp, qq] else []) _ _ ⟨fun b o e => (by cases e), ?_, fun i z ez => ?_, fun i hi => ?_, fun i a m => rfl, fun i => ?_, fun i j a m m' => ?_⟩ ⟨fun b o e => (by cases e), fun b e => absurd rfl e, fun b o e _ => e, fun i a m => ?_⟩ he ?_
  · unfold lawE; simp
  · unfold lawE at ez
    match i, ez with
    | 1, ez =>
      cases ez
      refine ⟨_, rfl, .at ?_⟩
      exact SlR.ol (F := [qq]) hp (SlRs.cons (F := []) (F' := [qq]) (.fz (.int _)) (SlRs.cons (F := [qq]) (F' := []) (SlR.ol (F := []) hq (slRs_fz (RpL.of_ints _))) .nil))
    | i + 2, ez =>
      have := List.mem_of_getElem? (show (List.replicate (N.length - 2) (none : Option S))[i]? = some (some z) from ez)
      rw [List.mem_replicate] at this
      cases this.2
  · by_cases c : i = 1
    · subst c; exact absurd rfl (hi _)
    · exact if_neg c
  · show (if i = 1 then [pp, qq] else []).Nodup
    split
    · exact ndpq
    · exact .nil
  · split at m <;> split at m'
    · rename_i c c'; rw [c, c']
    · cases m'
    · cases m
    · cases m
  · split at m
    · exact .inr (by simpa using m)
    · cases m
  · exact fun v G' H' st' F' l r q sl _ _ _ => by
      cases sl with
      | fz rv => cases rv; exact kk H'
end
end VL

set_option Elab.async false
set_option linter.all false
set_option maxRecDepth 100000
/-! VL12: isinstance(x, tuple); stores with draws. -/
namespace VL
open PySem PySem.Spec PyProof.Rows L2
def isTup : D → Option D
  | .tup _ => some (.bl true)
  | .lst _ => some (.bl false)
  | .int _ => some (.bl false)
  | .str _ => some (.bl false)
  | .non => some (.bl false)
  | _ => none
@[simp] abbrev dIsi (_ : String) (f : VL.Env → Option D) : VL.Env → Option D := fun env => (f env).bind isTup
section
variable {X : Cx} {x : Str} {p p2 pos : Pos} {e : Expr} {es : List Expr} {fe : VL.Env → Option D}
theorem v_isi (hg : Gl X "isinstance") (hm : X.mg "isinstance" = none) (hg2 : Gl X "tuple") (hm2 : X.mg "tuple" = none) (he : PW X e fe)
    (hst : starEach (e :: [.Name "tuple" p2]) X.env = (false, eval e X.env) :: starEach [.Name "tuple" p2] X.env := by rfl) (hst2 : starEach [Expr.Name "tuple" p2] X.env = (false, eval (.Name "tuple" p2) X.env) :: starEach [] X.env := by rfl)
    (hpl : (backTo pos (starEach [Expr.Name "tuple" p2] X.env)).any (·.1) = false := by rfl) : PV X (.Call (.Name "isinstance" p) [e, .Name "tuple" p2] [] pos) (dIsi "tuple" fe) := by
  obtain ⟨t, pe, o⟩ := he.ex
  refine ⟨_, pe_callB call_isi hg hm (by decide +kernel) (pa_cons pe (pa_cons (pe_bltn (v := .ty "tuple") hg2 hm2 (by decide +kernel) rfl) pa_nil hst2) hst) (by decide) (by decide) hst hpl, fun G H st env F Q d r e k => ?_⟩
  obtain ⟨z, e1, e2⟩ := Option.bind_eq_some_iff.mp e
  refine o G H st env F _ _ r e1 fun v G' H' x1 rv => ?_
  cases z with
  | tup xs =>
    cases e2
    cases rv with
    | tup h l => exact ⟨_, _, _, _, true, rfl, .ty "tuple", .base (.tup h), kit_ty (by decide +kernel), k _ G' H' x1 (.bl _)⟩
  | lst xs =>
    cases e2
    cases rv with
    | lst h l => exact ⟨_, _, _, _, false, rfl, .ty "tuple", .base (.lst h), kit_ty (by decide +kernel), k _ G' H' x1 (.bl _)⟩
  | int i =>
    cases e2
    cases rv
    exact ⟨_, _, _, _, false, rfl, .ty "tuple", .base (.int _), kit_ty (by decide +kernel), k _ G' H' x1 (.bl _)⟩
  | str i =>
    cases e2
    cases rv
    exact ⟨_, _, _, _, false, rfl, .ty "tuple", .base (.str _), kit_ty (by decide +kernel), k _ G' H' x1 (.bl _)⟩
  | non =>
    cases e2
    cases rv
    exact ⟨_, _, _, _, false, rfl, .ty "tuple", .base .non, kit_ty (by decide +kernel), k _ G' H' x1 (.bl _)⟩
  | bl b => cases e2
  | dic b c => cases e2

/-! x.append(e), e with draws -/
@[simp] def sAppM (i : Nat) (fe : Mo D) : VL.Env → Option Out := fun env => (getS env i).bind fun z0 => (olOf z0).bind fun _ => (fe env).bind fun x => (getS x.2 i).bind fun z => (olOf z).bind fun ds => if ds.length < sizeLine then some (.nx (x.2.set i (some (.ol ((ds ++ [x.1]).map S.fz))))) else none
variable {fm : Mo D}
theorem s_appM (i : Nat) {xpos apos cpos : Pos} (he : MV X e fm) (hN : X.N[i]? = some x := by rfl) (hv : Vis X.env.scope x := by first | exact Or.inl rfl | exact Or.inr (Or.inl rfl) | exact Or.inr (Or.inr rfl))
    (hd : (x == ("__debug__" : Str)) = false := by decide) (hcd : (x == ("__classdict__" : Str)) = false := by decide)
    (hbase : attributeBase (.Name x xpos) "append" X.env (eval (.Name x xpos) X.env) = eval (.Name x xpos) X.env := by rfl)
    (hfew : ((backTo cpos (starEach [e] X.env)).all (fun x => !x.1) && (backToKw cpos (keywordEach [] X.env)).all (fun x => x.1.isSome)
      && decide ([e].length + ([] : List Keyword).length + (if ([] : List Keyword).isEmpty then 0 else 1) < 30)) = true := by rfl)
    (hline : (apos.endLine == cpos.line) = true := by rfl) (hs : starEach [e] X.env = (false, eval e X.env) :: starEach [] X.env := by rfl)
    (hsw : swapsWith (.Call (.Attribute (.Name x xpos) "append" apos) [e] [] cpos) none pos.line X.env = pure false := by rfl) :
    SV X (.Expr (.Call (.Attribute (.Name x xpos) "append" apos) [e] [] cpos) pos) (sAppM i fm) := by
  obtain ⟨t, p, o⟩ := he.ex
  refine ⟨_, ps_expr (pe_bm PySem.F.plainAttrs_list PySem.F.slot_list_append PySem.F.type_list_append mt_append (pe_var hN hv hd hcd) (pa_cons p pa_nil hs) hbase hfew hline hs rfl) hsw, fun c G H s env F E u r q e k => ?_⟩
  obtain ⟨z0, e0, e⟩ := Option.bind_eq_some_iff.mp (show (getS env i).bind _ = _ from e)
  obtain ⟨ds0, e00, e⟩ := Option.bind_eq_some_iff.mp e
  obtain ⟨⟨d, env'⟩, e1, e⟩ := Option.bind_eq_some_iff.mp e
  obtain ⟨z, e2, e⟩ := Option.bind_eq_some_iff.mp e
  obtain ⟨ds, e3, e⟩ := Option.bind_eq_some_iff.mp e
  split at e
  · rename_i hl
    cases e
    obtain rfl := olOf_some e3
    obtain rfl := olOf_some e00
    obtain ⟨v, h1, h0⟩ := r.slot i _ (getS_some e0)
    generalize F i = F0 at h0
    cases h0 with
    | @ol pp vs0 _ Fx0 g0 _ =>
      refine ⟨_, h1, .inl ⟨rfl, _, SqL.of g0⟩, o c G H s env F _ d env' r q e1 fun w G' H' F' r' q' s' rw' => ?_⟩
      obtain ⟨v', h2, h3⟩ := r'.slot i _ (getS_some e2)
      rw [h1] at h2
      cases h2
      generalize hFi : F' i = Fi at h3
      cases h3 with
      | @ol p2 vs _ Fx g1 g2 =>
        obtain ⟨l1, rfl⟩ := slRs_rp g2
        have hppF : pp ∈ F' i := by rw [hFi]; exact List.mem_cons_self
        have ag : ∀ b, b ∉ F' i → (L2.upd H' pp (.lst (vs ++ [w]))) b = H' b ∨ H' b = none := fun b hb => .inl (upd_ne fun z => hb (by rw [z]; exact hppF))
        refine ⟨pp, vs, w, rfl, rfl, g1, by rw [l1.length]; exact hl, ?_⟩
        refine k G' _ s _ (r'.upd (l := [pp]) h1 ag (.ol upd_same (slRs_fz (l1.append (.cons rw' .nil)))) (by simp) fun a m => ?_) (CR.upd q' ag fun a m => ?_)
        · cases List.mem_singleton.mp m; exact .inl hppF
        · cases List.mem_singleton.mp m; exact .inl hppF
  · cases e
/-! x[k] = e, e with draws -/
@[simp] def sPutLM (i : Nat) (fk : VL.Env → Option D) (fe : Mo D) : VL.Env → Option Out := fun env => (fe env).bind fun d => (getS d.2 i).bind fun z => (olOf z).bind fun ds => (fk d.2).bind fun kd => (intOf kd).bind fun n => (ixN ds.length n).map fun j => .nx (d.2.set i (some (.ol ((ds.set j d.1).map S.fz))))
variable {fk : VL.Env → Option D}
theorem s_putLM (i : Nat) {xpos tpos : Pos} {ke : Expr} (he : MV X e fm) (hk : PW X ke fk) (hN : X.N[i]? = some x := by rfl) (hv : Vis X.env.scope x := by first | exact Or.inl rfl | exact Or.inr (Or.inl rfl) | exact Or.inr (Or.inr rfl))
    (hd : (x == ("__debug__" : Str)) = false := by decide) (hcd : (x == ("__classdict__" : Str)) = false := by decide)
    (ha : ∀ v, assign (.Subscript (.Name x xpos) ke tpos) X.env v = (do
      let ov ← holding [v] (eval (.Name x xpos) X.env)
      let iv ← holding [v, ov] (eval ke X.env)
      standAt tpos
      holding [v, ov, iv] (setItem ov iv v)
      release [v, ov, iv] []) := by intro _; rfl)
    (hs : swapsWithSole [.Subscript (.Name x xpos) ke tpos] e pos.line X.env = pure false := by rfl) (hw : swappedStores [.Subscript (.Name x xpos) ke tpos] e X.env = pure none := by rfl)
    (h1 : (assignEach [.Subscript (.Name x xpos) ke tpos] X.env).map (·.2) = [assign (.Subscript (.Name x xpos) ke tpos) X.env] := by rfl) :
    SV X (.Assign [.Subscript (.Name x xpos) ke tpos] e pos) (sPutLM i fk fm) := by
  obtain ⟨t, p, o⟩ := he.ex
  obtain ⟨tk, pk, ok⟩ := hk.ex
  refine ⟨_, ps_asg p (pg_sub (pe_var hN hv hd hcd) pk set_list ha) hs hw h1, fun c G H s env F E u r q e k => ?_⟩
  obtain ⟨⟨d, env'⟩, e1, e⟩ := Option.bind_eq_some_iff.mp (show (fm env).bind _ = _ from e)
  obtain ⟨z, e2, e⟩ := Option.bind_eq_some_iff.mp e
  obtain ⟨ds, e3, e⟩ := Option.bind_eq_some_iff.mp e
  obtain ⟨kd, e4, e⟩ := Option.bind_eq_some_iff.mp e
  obtain ⟨n, e5, e⟩ := Option.bind_eq_some_iff.mp e
  obtain ⟨j, e6, e7⟩ := Option.map_eq_some_iff.mp e
  subst e7
  obtain rfl := olOf_some e3
  obtain rfl := intOf_some e5
  refine o c G H s env F _ d env' r q e1 fun w G1 H1 F1 r1 q1 s1 rw' => ?_
  obtain ⟨v, g1, g2⟩ := r1.slot i _ (getS_some e2)
  refine ⟨v, g1, ok G1 H1 s env' F1 _ _ r1 e4 fun kv G2 H2 x2 rk => ?_⟩
  cases rk
  have r2 := r1.ext x2
  obtain ⟨v', g1', g3⟩ := r2.slot i _ (getS_some e2)
  rw [g1] at g1'
  cases g1'
  generalize hFi : F1 i = Fi at g3
  cases g3 with
  | @ol pp vs _ Fx g4 g5 =>
    obtain ⟨l1, rfl⟩ := slRs_rp g5
    have hppF : pp ∈ F1 i := by rw [hFi]; exact List.mem_cons_self
    have ag : ∀ b, b ∉ F1 i → (L2.upd H2 pp (.lst (vs.set j w))) b = H2 b ∨ H2 b = none := fun b hb => .inl (upd_ne fun z => hb (by rw [z]; exact hppF))
    refine ⟨pp, vs, n, j, rfl, rfl, g4, by rw [l1.length]; exact e6, k G2 _ s _ (r2.upd (l := [pp]) g1 ag (.ol upd_same (slRs_fz (rpl_set j l1 (rw'.up x2.gg)))) (by simp) fun a m => ?_) (CR.upd (q1.ext x2) ag fun a m => ?_)⟩
    · cases List.mem_singleton.mp m; exact .inl hppF
    · cases List.mem_singleton.mp m; exact .inl hppF
end
@[simp] abbrev sWh (n : VL.Env → Nat) (fc : VL.Env → Option Bool) (fb : VL.Env → Option Out) : VL.Env → Option Out := fun env => whD fc fb (n env) env
end VL

set_option Elab.async false
set_option linter.all false
set_option maxRecDepth 100000
/-! VL13: the comprehensions' rules with their own slots told. -/
namespace VL
open PySem PySem.Spec PyProof.Rows L2
section
variable {X : Cx} {pos : Pos} {elt tg iter : Expr} {ifs : List Expr} {scope : Scope} {ts : List Nat} {ft : D → VL.Env → Option VL.Env}
theorem xl_comp {fi : VL.Env → Option (List D)} {fc : VL.Env → Option Bool} {fe : VL.Env → Option D} (own : List (Str × Nat)) (vs : List Nat) (hvs : own.map (·.2) = vs) (hc : X.calm = true) (hN : X.N.Nodup) (hi : IC X tg iter fi) (ok : BlkOk X.N X.env.scope scope own)
    (hg : ∀ (s : Shared) (H : Hp) (C : Addr) (cl : List (Str × Addr)) (fp : List Addr), TG1 (X.blk s H scope (compEnvC scope cl C X.env) fp) tg ts ft) (hts : ∀ i ∈ ts, i ∈ vs)
    (ht : ∀ (s : Shared) (H : Hp) (C : Addr) (cl : List (Str × Addr)) (fp : List Addr), TBs (X.blk s H scope (compEnvC scope cl C X.env) fp) ifs fc)
    (he : ∀ (s : Shared) (H : Hp) (C : Addr) (cl : List (Str × Addr)) (fp : List Addr), PV (X.blk s H scope (compEnvC scope cl C X.env) fp) elt fe) (hs : ∀ x, foldedSetIterable iter X.env x = pure x := by intro _; rfl) :
    PL X (.ListComp elt [⟨tg, iter, ifs, 0⟩] scope pos) (dComp vs fi ft fc fe) := by
  subst hvs
  exact l_comp hc hN hi ok hts hg ht he hs
theorem xs_setC (i : Nat) {y : Str} {py spos : Pos} {fi : VL.Env → Option (List D)} {fc : VL.Env → Option Bool} {fe : VL.Env → Option D} (own : List (Str × Nat)) (vs : List Nat) (hvs : own.map (·.2) = vs) (hc : X.calm = true) (hN : X.N.Nodup) (hi : IC X tg iter fi) (ok : BlkOk X.N X.env.scope scope own)
    (hg : ∀ (s : Shared) (H : Hp) (C : Addr) (cl : List (Str × Addr)) (fp : List Addr), TG1 (X.blk s H scope (compEnvC scope cl C X.env) fp) tg ts ft) (hts : ∀ i ∈ ts, i ∈ vs)
    (ht : ∀ (s : Shared) (H : Hp) (C : Addr) (cl : List (Str × Addr)) (fp : List Addr), TBs (X.blk s H scope (compEnvC scope cl C X.env) fp) ifs fc)
    (he : ∀ (s : Shared) (H : Hp) (C : Addr) (cl : List (Str × Addr)) (fp : List Addr), PV (X.blk s H scope (compEnvC scope cl C X.env) fp) elt fe)
    (hsw : swapsWith (.ListComp elt [⟨tg, iter, ifs, 0⟩] scope pos) (some (.Name y py)) spos.line X.env = pure true) (hy : X.N[i]? = some y := by rfl) (hyl : X.env.scope.names.lookup y = some .local := by rfl)
    (hs : ∀ x, foldedSetIterable iter X.env x = pure x := by intro _; rfl) :
    SV X (.Assign [.Name y py] (.ListComp elt [⟨tg, iter, ifs, 0⟩] scope pos) spos) (sSet i (fL (dComp vs fi ft fc fe))) := by
  subst hvs
  exact s_setC i hc hN hi ok hts hg ht he hsw hy hyl hs
theorem xs_setCO (i : Nat) {y : Str} {py spos : Pos} {fi : VL.Env → Option (List D)} {fc : VL.Env → Option Bool} {fe : VL.Env → Option D} (own : List (Str × Nat)) (vs : List Nat) (hvs : own.map (·.2) = vs) (hc : X.calm = true) (hN : X.N.Nodup) (hi : IC X tg iter fi) (ok : BlkOk X.N X.env.scope scope own)
    (hg : ∀ (s : Shared) (H : Hp) (C : Addr) (cl : List (Str × Addr)) (fp : List Addr), TG1 (X.blk s H scope (compEnvC scope cl C X.env) fp) tg ts ft) (hts : ∀ i ∈ ts, i ∈ vs)
    (ht : ∀ (s : Shared) (H : Hp) (C : Addr) (cl : List (Str × Addr)) (fp : List Addr), TBs (X.blk s H scope (compEnvC scope cl C X.env) fp) ifs fc)
    (he : ∀ (s : Shared) (H : Hp) (C : Addr) (cl : List (Str × Addr)) (fp : List Addr), PV (X.blk s H scope (compEnvC scope cl C X.env) fp) elt fe)
    (hsw : swapsWith (.ListComp elt [⟨tg, iter, ifs, 0⟩] scope pos) (some (.Name y py)) spos.line X.env = pure true) (hy : X.N[i]? = some y := by rfl) (hyl : X.env.scope.names.lookup y = some .local := by rfl)
    (hs : ∀ x, foldedSetIterable iter X.env x = pure x := by intro _; rfl) :
    SV X (.Assign [.Name y py] (.ListComp elt [⟨tg, iter, ifs, 0⟩] scope pos) spos) (sSetO i (oL (dComp vs fi ft fc fe))) := by
  subst hvs
  exact s_setCO i hc hN hi ok hts hg ht he hsw hy hyl hs
theorem xm_comp {fi : Mo (List D)} {fc : Mo Bool} {fe : Mo D} (own : List (Str × Nat)) (vs : List Nat) (hvs : own.map (·.2) = vs) (hc : X.calm = true) (hN : X.N.Nodup) (hi : MI X tg iter fi) (ok : BlkOk X.N X.env.scope scope own)
    (hg : ∀ (s : Shared) (H : Hp) (C : Addr) (cl : List (Str × Addr)) (fp : List Addr), TG1 (X.blk s H scope (compEnvC scope cl C X.env) fp) tg ts ft) (hts : ∀ i ∈ ts, i ∈ vs)
    (ht : ∀ (s : Shared) (H : Hp) (C : Addr) (cl : List (Str × Addr)) (fp : List Addr), MTs (X.blk s H scope (compEnvC scope cl C X.env) fp) ifs fc)
    (he : ∀ (s : Shared) (H : Hp) (C : Addr) (cl : List (Str × Addr)) (fp : List Addr), MV (X.blk s H scope (compEnvC scope cl C X.env) fp) elt fe) (hs : ∀ x, foldedSetIterable iter X.env x = pure x := by intro _; rfl) :
    MV X (.ListComp elt [⟨tg, iter, ifs, 0⟩] scope pos) (mComp vs fi ft fc fe) := by
  subst hvs
  exact m_comp hc hN hi ok hts hg ht he hs
theorem xs_setCM (i : Nat) {y : Str} {py spos : Pos} {fi : Mo (List D)} {fc : Mo Bool} {fe : Mo D} (own : List (Str × Nat)) (vs : List Nat) (hvs : own.map (·.2) = vs) (hc : X.calm = true) (hN : X.N.Nodup) (hi : MI X tg iter fi) (ok : BlkOk X.N X.env.scope scope own)
    (hg : ∀ (s : Shared) (H : Hp) (C : Addr) (cl : List (Str × Addr)) (fp : List Addr), TG1 (X.blk s H scope (compEnvC scope cl C X.env) fp) tg ts ft) (hts : ∀ i ∈ ts, i ∈ vs)
    (ht : ∀ (s : Shared) (H : Hp) (C : Addr) (cl : List (Str × Addr)) (fp : List Addr), MTs (X.blk s H scope (compEnvC scope cl C X.env) fp) ifs fc)
    (he : ∀ (s : Shared) (H : Hp) (C : Addr) (cl : List (Str × Addr)) (fp : List Addr), MV (X.blk s H scope (compEnvC scope cl C X.env) fp) elt fe)
    (hsw : swapsWith (.ListComp elt [⟨tg, iter, ifs, 0⟩] scope pos) (some (.Name y py)) spos.line X.env = pure true) (hy : X.N[i]? = some y := by rfl) (hyl : X.env.scope.names.lookup y = some .local := by rfl)
    (hs : ∀ x, foldedSetIterable iter X.env x = pure x := by intro _; rfl) :
    SV X (.Assign [.Name y py] (.ListComp elt [⟨tg, iter, ifs, 0⟩] scope pos) spos) (sSetM i (mComp vs fi ft fc fe)) := by
  subst hvs
  exact s_setCM i hc hN hi ok hts hg ht he hsw hy hyl hs
end
end VL

set_option Elab.async false
set_option linter.all false
set_option maxRecDepth 100000
/-! VL14: the plain side: data typed, loops by invariants, draws. -/
namespace VL
open PySem PySem.Spec PyProof.Rows L2
/-! ### == of data -/
mutual
/-- without bools and dicts -/
def D.nb : D → Bool
  | .lst xs => D.nbL xs
  | .tup xs => D.nbL xs
  | .dic _ _ => false
  | .bl _ => false
  | _ => true
def D.nbL : List D → Bool
  | [] => true
  | x :: xs => x.nb && D.nbL xs
end
mutual
def D.dep : D → Nat
  | .lst xs => D.depL xs + 1
  | .tup xs => D.depL xs + 1
  | _ => 0
def D.depL : List D → Nat
  | [] => 0
  | x :: xs => max x.dep (D.depL xs)
end
mutual
theorem D.nb_plain : ∀ d : D, d.nb = true → d.plain = true
  | .non, _ => rfl
  | .bl _, h => rfl
  | .int _, _ => rfl
  | .str _, _ => rfl
  | .lst xs, h => D.nbL_plain xs h
  | .tup xs, h => D.nbL_plain xs h
  | .dic _ _, h => by cases (show false = true from h)
theorem D.nbL_plain : ∀ xs : List D, D.nbL xs = true → D.plainL xs = true
  | [], _ => rfl
  | x :: xs, h => by
    have q : x.nb = true ∧ D.nbL xs = true := by simpa [D.nbL] using h
    show (x.plain && D.plainL xs) = true
    rw [D.nb_plain x q.1, D.nbL_plain xs q.2]; rfl
end
mutual
theorem D.dep_py : ∀ d : D, d.py.depth = d.dep
  | .non => rfl
  | .bl _ => rfl
  | .int _ => rfl
  | .str _ => rfl
  | .lst xs => by
    show PyData.depth (.list (D.pyL xs)) = _
    rw [PyData.depth, D.depL_py xs]; rfl
  | .tup xs => by
    show PyData.depth (.tuple (D.pyL xs)) = _
    rw [PyData.depth, D.depL_py xs]; rfl
  | .dic _ _ => rfl
theorem D.depL_py : ∀ xs : List D, PyData.depthAll (D.pyL xs) = D.depL xs
  | [] => rfl
  | x :: xs => by
    show PyData.depthAll (x.py :: D.pyL xs) = _
    rw [PyData.depthAll, D.dep_py x, D.depL_py xs]; rfl
end
mutual
theorem eqv_py : ∀ d e : D, d.nb = true → e.nb = true → (PyData.eqv d.py e.py = true ↔ d = e)
  | .non, e, _, he => by cases e <;> simp [D.py, PyData.eqv] <;> cases he
  | .bl _, _, h, _ => by cases (show false = true from h)
  | .int i, e, _, he => by cases e <;> simp [D.py, PyData.eqv] <;> cases he
  | .str x, e, _, he => by cases e <;> simp [D.py, PyData.eqv] <;> cases he
  | .lst xs, e, h, he => by
    cases e with
    | lst ys =>
      have := eqvL_py xs ys h he
      simp only [D.py, PyData.eqv, this, D.lst.injEq]
    | bl _ => cases he
    | dic _ _ => cases he
    | _ => simp [D.py, PyData.eqv]
  | .tup xs, e, h, he => by
    cases e with
    | tup ys =>
      have := eqvL_py xs ys h he
      simp only [D.py, PyData.eqv, this, D.tup.injEq]
    | bl _ => cases he
    | dic _ _ => cases he
    | _ => simp [D.py, PyData.eqv]
  | .dic _ _, _, h, _ => by cases (show false = true from h)
theorem eqvL_py : ∀ xs ys : List D, D.nbL xs = true → D.nbL ys = true → (PyData.eqvAll (D.pyL xs) (D.pyL ys) = true ↔ xs = ys)
  | [], [], _, _ => by simp [D.pyL, PyData.eqvAll]
  | [], _ :: _, _, _ => by simp [D.pyL, PyData.eqvAll]
  | _ :: _, [], _, _ => by simp [D.pyL, PyData.eqvAll]
  | x :: xs, y :: ys, h, he => by
    have q : x.nb = true ∧ D.nbL xs = true := by simpa [D.nbL] using h
    have q' : y.nb = true ∧ D.nbL ys = true := by simpa [D.nbL] using he
    simp only [D.pyL, PyData.eqvAll, Bool.and_eq_true, eqv_py x y q.1 q'.1, eqvL_py xs ys q.2 q'.2, List.cons.injEq]
end
theorem eqD_iff {d e : D} (h : d.nb = true) (h' : e.nb = true) : eqD d e = true ↔ d = e := eqv_py d e h h'
theorem eqD_self {d : D} (h : d.nb = true) : eqD d d = true := (eqD_iff h h).mpr rfl
theorem cmpOk_of {d e : D} (h : d.nb = true) (h' : e.nb = true) (k : d.dep ≤ 40) : cmpOk d e = true := by
  unfold cmpOk
  rw [D.nb_plain d h, D.nb_plain e h', D.dep_py, D.dep_py]
  simp only [Bool.and_self, Bool.true_and, decide_eq_true_eq]
  omega
theorem dEq_of {d e : D} (h : d.nb = true) (h' : e.nb = true) (k : d.dep ≤ 40) : dEq d e = some (.bl (eqD d e)) := if_pos (cmpOk_of h h' k)
theorem dNe_of {d e : D} (h : d.nb = true) (h' : e.nb = true) (k : d.dep ≤ 40) : dNe d e = some (.bl (!eqD d e)) := if_pos (cmpOk_of h h' k)
theorem dNe_self {d : D} (h : d.nb = true) (k : d.dep ≤ 40) : dNe d d = some (.bl false) := by rw [dNe_of h h k, eqD_self h]; rfl
theorem dEq_self {d : D} (h : d.nb = true) (k : d.dep ≤ 40) : dEq d d = some (.bl true) := by rw [dEq_of h h k, eqD_self h]
theorem D.nbL_iff : ∀ {xs : List D}, D.nbL xs = true ↔ ∀ x ∈ xs, x.nb = true
  | [] => by simp [D.nbL]
  | x :: xs => by simp [D.nbL, D.nbL_iff (xs := xs)]
theorem D.depL_le : ∀ {xs : List D} {n : Nat}, D.depL xs ≤ n ↔ ∀ x ∈ xs, x.dep ≤ n
  | [], n => by simp [D.depL]
  | x :: xs, n => by simp only [D.depL, List.mem_cons, forall_eq_or_imp, ← D.depL_le (xs := xs)]; omega
/-- typed data -/
class Enc (α : Type) where
  enc : α → D
  nb : ∀ a, (enc a).nb = true
  inj : ∀ {a b}, enc a = enc b → a = b
  n : Nat
  dp : ∀ a, (enc a).dep ≤ n
open Enc (enc)
instance : Enc Int := ⟨D.int, fun _ => rfl, fun h => by cases h; rfl, 0, fun _ => Nat.le_refl _⟩
instance : Enc Nat := ⟨fun n => D.int (n : Int), fun _ => rfl, fun h => by cases h; rfl, 0, fun _ => Nat.le_refl _⟩
instance {α : Type} [Enc α] : Enc (List α) where
  enc xs := .lst (xs.map enc)
  nb xs := by
    show D.nbL _ = true
    rw [D.nbL_iff]
    intro x h
    obtain ⟨a, _, rfl⟩ := List.mem_map.mp h
    exact Enc.nb a
  inj {a b} h := by
    have h := D.lst.inj h
    induction a generalizing b with
    | nil => cases b with
      | nil => rfl
      | cons _ _ => cases h
    | cons x xs ih => cases b with
      | nil => cases h
      | cons y ys =>
        simp only [List.map_cons, List.cons.injEq] at h
        rw [Enc.inj h.1, ih (congrArg D.lst h.2) h.2]
  n := Enc.n α + 1
  dp xs := by
    show D.depL _ + 1 ≤ _
    have : D.depL (xs.map enc) ≤ Enc.n α := D.depL_le.mpr fun x h => by
      obtain ⟨a, _, rfl⟩ := List.mem_map.mp h
      exact Enc.dp a
    omega
instance {α β : Type} [Enc α] [Enc β] : Enc (α × β) where
  enc p := .tup [enc p.1, enc p.2]
  nb p := by
    show ((enc p.1).nb && ((enc p.2).nb && true)) = true
    rw [Enc.nb, Enc.nb]; rfl
  inj {a b} h := by
    simp only [D.tup.injEq, List.cons.injEq, and_true] at h
    exact Prod.ext (Enc.inj h.1) (Enc.inj h.2)
  n := max (Enc.n α) (Enc.n β) + 1
  dp p := by
    show max _ (max _ 0) + 1 ≤ _
    have h1 := Enc.dp p.1
    have h2 := Enc.dp p.2
    omega
theorem dEq_enc {α : Type} [Enc α] [DecidableEq α] (a b : α) (h : Enc.n α ≤ 40) : dEq (enc a) (enc b) = some (.bl (decide (a = b))) := by
  rw [dEq_of (Enc.nb a) (Enc.nb b) (Nat.le_trans (Enc.dp a) h)]
  congr 2
  rw [Bool.eq_iff_iff, eqD_iff (Enc.nb a) (Enc.nb b), decide_eq_true_eq]
  exact ⟨Enc.inj, fun e => by rw [e]⟩
theorem dNe_enc {α : Type} [Enc α] [DecidableEq α] (a b : α) (h : Enc.n α ≤ 40) : dNe (enc a) (enc b) = some (.bl (!decide (a = b))) := by
  rw [dNe_of (Enc.nb a) (Enc.nb b) (Nat.le_trans (Enc.dp a) h)]
  congr 3
  rw [Bool.eq_iff_iff, eqD_iff (Enc.nb a) (Enc.nb b), decide_eq_true_eq]
  exact ⟨Enc.inj, fun e => by rw [e]⟩
/-! ### names, at a list of slots that is told -/
@[simp] theorem getF_0 (d : D) (env : VL.Env) : getF (some (.fz d) :: env) 0 = some d := rfl
@[simp] theorem getF_s (x : Option S) (env : VL.Env) (i : Nat) : getF (x :: env) (i + 1) = getF env i := rfl
@[simp] theorem getS_0 (s : S) (env : VL.Env) : getS (some s :: env) 0 = some s := rfl
@[simp] theorem getS_s (x : Option S) (env : VL.Env) (i : Nat) : getS (x :: env) (i + 1) = getS env i := rfl
@[simp] theorem getW_0 (d : D) (env : VL.Env) : getW (some (.fz d) :: env) 0 = some d := rfl
@[simp] theorem getW_s (x : Option S) (env : VL.Env) (i : Nat) : getW (x :: env) (i + 1) = getW env i := rfl
theorem S.noObL_fz : ∀ ds : List D, S.noObL (ds.map S.fz) = true
  | [] => rfl
  | d :: ds => by
    show (S.noOb (.fz d) && S.noObL (ds.map S.fz)) = true
    rw [S.noObL_fz ds]; rfl
theorem S.erL_fz : ∀ ds : List D, S.erL (ds.map S.fz) = ds
  | [] => rfl
  | d :: ds => by
    show d :: S.erL (ds.map S.fz) = _
    rw [S.erL_fz ds]
@[simp] theorem getW_ol (ds : List D) (env : VL.Env) : getW (some (.ol (ds.map S.fz)) :: env) 0 = some (.lst ds) := by
  show (if S.noObL (ds.map S.fz) = true then some (D.lst (S.erL (ds.map S.fz))) else none) = _
  rw [S.noObL_fz, S.erL_fz, if_pos rfl]
@[simp] theorem frS_ol (ds : List D) : frS (.ol (ds.map S.fz)) = some (.lst ds) := by
  show (if S.noObL (ds.map S.fz) = true then some (D.lst (S.erL (ds.map S.fz))) else none) = _
  rw [S.noObL_fz, S.erL_fz, if_pos rfl]
theorem S.noObK_fz : ∀ ds : List (D × D), S.noObK (fzK ds) = true
  | [] => rfl
  | (k, d) :: ds => by
    show (S.noOb (.fz d) && S.noObK (fzK ds)) = true
    rw [S.noObK_fz ds]; rfl
theorem S.erK_fz : ∀ ds : List (D × D), S.erK (fzK ds) = ds
  | [] => rfl
  | (k, d) :: ds => by
    show (k, d) :: S.erK (fzK ds) = _
    rw [S.erK_fz ds]
@[simp] theorem getW_od (t : Bool) (ds : List (D × D)) (env : VL.Env) : getW (some (.od t (fzK ds)) :: env) 0 = some (.dic t ds) := by
  show (if S.noObK (fzK ds) = true then some (D.dic t (S.erK (fzK ds))) else none) = _
  rw [S.noObK_fz, S.erK_fz, if_pos rfl]
@[simp] theorem frS_od (t : Bool) (ds : List (D × D)) : frS (.od t (fzK ds)) = some (.dic t ds) := by
  show (if S.noObK (fzK ds) = true then some (D.dic t (S.erK (fzK ds))) else none) = _
  rw [S.noObK_fz, S.erK_fz, if_pos rfl]
/-! ### loops -/
/-- a comprehension, typed -/
theorem compD_map {α : Type} {ft : D → VL.Env → Option VL.Env} {fc : VL.Env → Option Bool} {fe : VL.Env → Option D} {env : VL.Env} {en : α → D} {c : α → Bool} {g : α → D} : ∀ {xs : List α},
    (∀ x ∈ xs, ∃ e1, ft (en x) env = some e1 ∧ fc e1 = some (c x) ∧ (c x = true → fe e1 = some (g x))) → compD ft fc fe env (xs.map en) = some ((xs.filter c).map g)
  | [], _ => rfl
  | x :: xs, h => by
    obtain ⟨e1, h1, h2, h3⟩ := h x (List.mem_cons_self ..)
    have ih := compD_map (xs := xs) fun y m => h y (List.mem_cons_of_mem _ m)
    show (ft (en x) env).bind _ = _
    rw [h1]
    show (fc e1).bind _ = _
    rw [h2]
    show (if c x = true then _ else _) = _
    by_cases b : c x = true
    · rw [if_pos b, h3 b]
      show (compD ft fc fe env (xs.map en)).map _ = _
      rw [ih, List.filter_cons_of_pos b]; rfl
    · rw [if_neg b, ih, List.filter_cons_of_neg b]
theorem rangeD_eq (lo : Int) (n : Nat) : rangeD lo n = (List.range n).map fun (i : Nat) => D.int (lo + (i : Int)) := rfl
theorem rangeD_0 (n : Nat) : rangeD 0 n = (List.range n).map fun (i : Nat) => D.int (i : Int) := by
  rw [rangeD_eq]
  refine List.map_congr_left fun i _ => ?_
  rw [Int.zero_add]
/-- what comes behind a statement -/
def wp (o : Option Out) (Q : Out → Prop) : Prop := ∃ u, o = some u ∧ Q u
@[simp] theorem wp_some (u : Out) (Q : Out → Prop) : wp (some u) Q ↔ Q u := ⟨fun ⟨_, e, q⟩ => by cases e; exact q, fun q => ⟨u, rfl, q⟩⟩
theorem wp.mono {o : Option Out} {Q R : Out → Prop} (h : wp o Q) (k : ∀ u, Q u → R u) : wp o R := let ⟨u, e, q⟩ := h; ⟨u, e, k u q⟩
theorem wp_sq {f g : VL.Env → Option Out} {env : VL.Env} {Q : Out → Prop} (h : wp (f env) fun o => match o with
  | .nx e => wp (g e) Q
  | o => Q o) : wp (sq f g env) Q := by
  obtain ⟨u, e, q⟩ := h
  unfold sq
  rw [e]
  cases u with
  | nx e' => exact q
  | rt s e' => exact ⟨_, rfl, q⟩
  | bk e' => exact ⟨_, rfl, q⟩
  | ct e' => exact ⟨_, rfl, q⟩
theorem wp_for {ft : D → VL.Env → Option VL.Env} {fb : VL.Env → Option Out} {Q : Out → Prop} (I : Nat → VL.Env → Prop) : ∀ {xs : List D} {env : VL.Env} (k0 : Nat), I k0 env →
    (∀ (k : Nat) (d : D) (e : VL.Env), xs[k]? = some d → I (k0 + k) e → ∃ e1, ft d e = some e1 ∧ wp (fb e1) fun o => match o with
      | .nx e2 => I (k0 + k + 1) e2
      | .ct e2 => I (k0 + k + 1) e2
      | .bk e2 => Q (.nx e2)
      | .rt s e2 => Q (.rt s e2)) → (∀ e, I (k0 + xs.length) e → Q (.nx e)) → wp (forD ft fb xs env) Q
  | [], env, k0, h0, _, he => ⟨_, rfl, he env h0⟩
  | d :: ds, env, k0, h0, hs, he => by
    obtain ⟨e1, h1, u, h2, h3⟩ := hs 0 d env rfl h0
    have hs' : ∀ (k : Nat) (d : D) (e : VL.Env), ds[k]? = some d → I (k0 + 1 + k) e → ∃ e1, ft d e = some e1 ∧ wp (fb e1) fun o => match o with
      | .nx e2 => I (k0 + 1 + k + 1) e2
      | .ct e2 => I (k0 + 1 + k + 1) e2
      | .bk e2 => Q (.nx e2)
      | .rt s e2 => Q (.rt s e2) := fun k d e h i => by
        have := hs (k + 1) d e h (by rwa [show k0 + (k + 1) = k0 + 1 + k by omega])
        rwa [show k0 + (k + 1) + 1 = k0 + 1 + k + 1 by omega] at this
    have he' : ∀ e, I (k0 + 1 + ds.length) e → Q (.nx e) := fun e i => he e (by rw [List.length_cons]; rwa [show k0 + (ds.length + 1) = k0 + 1 + ds.length by omega])
    show wp ((ft d env).bind _) Q
    rw [h1]
    show wp ((fb e1).bind _) Q
    rw [h2]
    cases u with
    | nx e2 => exact wp_for I (k0 + 1) h3 hs' he'
    | ct e2 => exact wp_for I (k0 + 1) h3 hs' he'
    | bk e2 => exact ⟨_, rfl, h3⟩
    | rt s e2 => exact ⟨_, rfl, h3⟩
/-- for k in range(n) -/
theorem wp_range {ft : D → VL.Env → Option VL.Env} {fb : VL.Env → Option Out} {Q : Out → Prop} {n : Nat} {lo : Int} {env : VL.Env} (I : Nat → VL.Env → Prop) (h0 : I 0 env)
    (hs : ∀ (k : Nat) (e : VL.Env), k < n → I k e → ∃ e1, ft (.int (lo + (k : Int))) e = some e1 ∧ wp (fb e1) fun o => match o with
      | .nx e2 => I (k + 1) e2
      | .ct e2 => I (k + 1) e2
      | .bk e2 => Q (.nx e2)
      | .rt s e2 => Q (.rt s e2)) (he : ∀ e, I n e → Q (.nx e)) : wp (forD ft fb (rangeD lo n) env) Q := by
  have hl : (rangeD lo n).length = n := by rw [rangeD_eq, List.length_map, List.length_range]
  refine wp_for I 0 h0 (fun k d e h i => ?_) (fun e i => he e (by rwa [hl, Nat.zero_add] at i))
  have hk : k < n := by rw [← hl]; exact (List.getElem?_eq_some_iff.mp h).1
  rw [Nat.zero_add] at i ⊢
  rw [rangeD_eq, List.getElem?_map, List.getElem?_range hk] at h
  cases h
  exact hs k e hk i
/-- a def's answer -/
theorem fnS_of {np n : Nat} {fb : VL.Env → Option Out} {ds : List D} {s : S} (hl : ds.length = np) (h : wp (fb (startE n ds)) fun o => retS o = some s) : fnS np n fb ds = some s := by
  obtain ⟨u, e, q⟩ := h
  unfold fnS
  rw [if_pos hl, e]
  exact q
theorem rng1_nat {n : Nat} (h : n ≤ sizeLine) : rng1 [.int (n : Int)] = some (rangeD 0 n) := by
  show (if _ then _ else _) = _
  rw [Int.natAbs_natCast, if_pos h]; rfl
theorem rng1_int {n : Int} (h : n.natAbs ≤ sizeLine) : rng1 [.int n] = some (rangeD 0 n.toNat) := if_pos h
/-! ### draws -/
theorem mI_take {i : Nat} {env env' : VL.Env} {m : Int} {p : Addr} {n : Int} {cs : List Int} {fs : Mo (List D)} (h0 : 0 < m) (hm : m.natAbs < 2 ^ 64) (hc : cs ≠ []) (g : getS env i = some (.at p (stS n cs))) (hf : fs env = some ([.int m], env)) :
    ∃ (x : Int) (n' : Int) (cs' : List Int), 0 ≤ x ∧ x < m ∧ cs' ≠ [] ∧ mI i fs takeS env = some (.int x, env.set i (some (.at p (stS n' cs')))) := by
  refine ⟨(takeF n cs m).1, (takeF n cs m).2.1, (takeF n cs m).2.2, (takeF_lt h0).1, (takeF_lt h0).2, takeF_ne hc, ?_⟩
  simp only [mI, g, hf, Option.bind_some, atOf_at, takeS_eq h0 hm hc, Option.map_some]
end VL

set_option Elab.async false
set_option linter.all false
set_option maxRecDepth 100000
/-! VL15: places of lists, dicts, on the plain side. -/
namespace VL
open PySem PySem.Spec PyProof.Rows L2
open Enc (enc)
theorem ixN_nat (n k : Nat) : ixN n (k : Int) = if k < n then some k else none := by
  unfold ixN
  rw [if_pos (Int.natCast_nonneg k)]
  by_cases h : k < n
  · rw [if_pos (by omega), if_pos h]; rfl
  · rw [if_neg (by omega), if_neg h]
theorem atI_nat {α : Type} (xs : List α) (k : Nat) : atI xs (k : Int) = xs[k]? := by
  unfold atI
  rw [ixN_nat]
  split
  · rfl
  · rename_i h
    rw [List.getElem?_eq_none (by omega)]; rfl
@[simp] theorem atI_0 {α : Type} (x : α) (xs : List α) : atI (x :: xs) 0 = some x := atI_nat (x :: xs) 0
@[simp] theorem atI_1 {α : Type} (x y : α) (xs : List α) : atI (x :: y :: xs) 1 = some y := atI_nat (x :: y :: xs) 1
@[simp] theorem atI_2 {α : Type} (x y z : α) (xs : List α) : atI (x :: y :: z :: xs) 2 = some z := atI_nat (x :: y :: z :: xs) 2
@[simp] theorem atI_3 {α : Type} (x y z w : α) (xs : List α) : atI (x :: y :: z :: w :: xs) 3 = some w := atI_nat (x :: y :: z :: w :: xs) 3
@[simp] theorem dIx_lst (xs : List D) (i : Int) : dIx (.lst xs) (.int i) = atI xs i := rfl
@[simp] theorem dIx_tup (xs : List D) (i : Int) : dIx (.tup xs) (.int i) = atI xs i := rfl
/-- a comprehension without a condition, typed -/
theorem compD_all {α : Type} {ft : D → VL.Env → Option VL.Env} {fc : VL.Env → Option Bool} {fe : VL.Env → Option D} {env : VL.Env} {en : α → D} {g : α → D} {xs : List α}
    (h : ∀ x ∈ xs, ∃ e1, ft (en x) env = some e1 ∧ fc e1 = some true ∧ fe e1 = some (g x)) : compD ft fc fe env (xs.map en) = some (xs.map g) := by
  rw [compD_map (c := fun _ => true) (g := g), List.filter_eq_self.mpr fun _ _ => rfl]
  intro x m
  obtain ⟨e1, h1, h2, h3⟩ := h x m
  exact ⟨e1, h1, h2, fun _ => h3⟩
/-! ### dicts with tuples as keys -/
theorem lookT_put (k k' : List Key) (d : D) : ∀ kvs : List (D × D), lookT k (putTD k' d kvs) = if k' = k then some d else lookT k kvs := by
  have aux1 : ∀ kvs : List (D × D), (kvs.any fun p => decide (tkeyD p.1 = some k')) = true → lookT k (kvs.map fun p => if tkeyD p.1 = some k' then (p.1, d) else p) = if k' = k then some d else lookT k kvs := by
    intro kvs
    induction kvs with
    | nil => intro h; cases h
    | cons p kvs ih =>
      intro h
      have step : ∀ l, lookT k ((if tkeyD p.1 = some k' then (p.1, d) else p) :: l) = if tkeyD p.1 = some k then (if tkeyD p.1 = some k' then some d else some p.2) else lookT k l := by
        intro l
        by_cases c : tkeyD p.1 = some k'
        · rw [if_pos c]
          show (if tkeyD p.1 = some k then some d else _) = _
          rw [if_pos c]
        · rw [if_neg c]
          obtain ⟨a, b⟩ := p
          show (if tkeyD a = some k then some b else _) = _
          rw [if_neg c]
      rw [List.map_cons, step]
      have hp : lookT k (p :: kvs) = if tkeyD p.1 = some k then some p.2 else lookT k kvs := rfl
      rw [hp]
      by_cases c : tkeyD p.1 = some k
      · rw [if_pos c, if_pos c]
        by_cases c' : k' = k
        · subst c'; rw [if_pos c, if_pos rfl]
        · rw [if_neg (fun e => c' (Option.some.inj (e.symm.trans c))), if_neg c']
      · rw [if_neg c, if_neg c]
        by_cases z : (kvs.any fun p => decide (tkeyD p.1 = some k')) = true
        · exact ih z
        · have z' : ∀ q ∈ kvs, tkeyD q.1 ≠ some k' := by simpa using z
          have hk : tkeyD p.1 = some k' := by
            rw [List.any_cons] at h
            cases hh : decide (tkeyD p.1 = some k') with
            | true => exact of_decide_eq_true hh
            | false => rw [hh] at h; exact absurd h z
          have e : (kvs.map fun p => if tkeyD p.1 = some k' then (p.1, d) else p) = kvs := by
            conv => rhs; rw [← List.map_id kvs]
            exact List.map_congr_left fun q m => if_neg (z' q m)
          rw [e, if_neg (fun e => c (by rw [hk, e]))]
  intro kvs
  unfold putTD
  split
  · rename_i h; exact aux1 kvs h
  · rename_i h
    have h' : ∀ q ∈ kvs, tkeyD q.1 ≠ some k' := by simpa using h
    clear aux1 h
    induction kvs with
    | nil =>
      show (if keysD (k'.map kD) = some k then some d else none) = _
      rw [keysD_map]
      by_cases c : k' = k
      · rw [if_pos (by rw [c]), if_pos c]
      · rw [if_neg (fun e => c (Option.some.inj e)), if_neg c]; rfl
    | cons p kvs ih =>
      obtain ⟨a, b⟩ := p
      show (if tkeyD a = some k then some b else lookT k (kvs ++ _)) = if k' = k then some d else if tkeyD a = some k then some b else lookT k kvs
      rw [ih fun q m => h' q (List.mem_cons_of_mem _ m)]
      by_cases c : k' = k
      · subst c
        rw [if_neg (h' (a, b) (List.mem_cons_self ..)), if_pos rfl, if_pos rfl]
      · rw [if_neg c, if_neg c]
theorem putTD_len (k : List Key) (d : D) (kvs : List (D × D)) : (putTD k d kvs).length ≤ kvs.length + 1 := by
  unfold putTD
  split
  · rw [List.length_map]; omega
  · rw [List.length_append]; exact Nat.le_refl _
theorem dPutT {kvs : List (D × D)} {k : D} {ks : List Key} {d : D} (h : tkeyD k = some ks) (hl : kvs.length < sizeLine) : dPut (true, kvs) k d = some (putTD ks d kvs) := by
  show (if _ then (tkeyD k).map _ else none) = _
  rw [if_pos hl, h]; rfl
theorem dIxT {kvs : List (D × D)} {k : D} {ks : List Key} (h : tkeyD k = some ks) : dIx (.dic true kvs) k = lookT ks kvs := by
  show ((tkeyD k).map _).join = _
  rw [h]; rfl
@[simp] theorem truD_bl (b : Bool) : truD (.bl b) = some b := rfl
@[simp] theorem truE_bl (b : Bool) : truE (.bl b) = some b := rfl
@[simp] theorem scal_int (i : Int) : scal (.int i) = some (.int i) := rfl
theorem find_none {p : Nat → Bool} {n : Nat} (h : ∀ k, k < n → p k = false) : (List.range n).find? p = none := List.find?_eq_none.mpr fun x m => by simp [h x (List.mem_range.mp m)]
theorem find_some {p : Nat → Bool} {n k : Nat} (hk : k < n) (h : p k = true) (h' : ∀ j, j < k → p j = false) : (List.range n).find? p = some k := by
  rw [List.find?_range_eq_some]
  exact ⟨h, List.mem_range.mpr hk, fun j hj => by simp [h' j hj]⟩
theorem find_ok {p : Nat → Bool} {n k : Nat} (h : (List.range n).find? p = some k) : k < n ∧ p k = true ∧ ∀ j, j < k → p j = false := by
  rw [List.find?_range_eq_some] at h
  exact ⟨List.mem_range.mp h.2.1, h.1, fun j hj => by simpa using h.2.2 j hj⟩
theorem find_no {p : Nat → Bool} {n : Nat} (h : (List.range n).find? p = none) : ∀ k, k < n → p k = false := fun k hk => by
  have := List.find?_eq_none.mp h k (List.mem_range.mpr hk)
  simpa using this
/-! ### statements, one by one -/
section
variable {env : VL.Env} {Q : Out → Prop} {f g : VL.Env → Option Out}
theorem wp_set {i : Nat} {fe : VL.Env → Option D} {d : D} (h : fe env = some d) (q : Q (.nx (env.set i (some (.fz d))))) : wp (sSet i fe env) Q := ⟨_, by rw [sSet, h]; rfl, q⟩
theorem wp_if {c : VL.Env → Option Bool} {b : Bool} (h : c env = some b) (q : if b = true then wp (f env) Q else wp (g env) Q) : wp (sIf c f g env) Q := by
  unfold sIf
  rw [h]
  cases b
  · exact q
  · exact q
theorem wp_ret {fe : VL.Env → Option D} {d : D} (h : fe env = some d) (q : Q (.rt (.fz d) env)) : wp (sRet fe env) Q := ⟨_, by rw [sRet, h]; rfl, q⟩
end
end VL

set_option Elab.async false
set_option linter.all false
set_option maxRecDepth 100000
/-! VL16: draws, step by step; in, of typed data. -/
namespace VL
open PySem PySem.Spec PyProof.Rows L2
open Enc (enc)
theorem inOk_of {d : D} {ds : List D} (h : d.nb = true) (h' : D.nbL ds = true) (k : d.dep ≤ 40) : inOk d ds = true := by
  unfold inOk
  rw [D.nb_plain d h, D.nbL_plain ds h', D.dep_py, D.depL_py]
  simp only [Bool.and_self, Bool.true_and, decide_eq_true_eq]
  omega
theorem inD_iff {d : D} {ds : List D} (h : d.nb = true) (h' : D.nbL ds = true) : inD d ds = true ↔ d ∈ ds := by
  unfold inD
  rw [List.any_eq_true]
  constructor
  · rintro ⟨x, m, e⟩
    rw [(eqD_iff (D.nbL_iff.mp h' x m) h).mp e] at m
    exact m
  · intro m
    exact ⟨d, m, eqD_self h⟩
theorem nbL_enc {α : Type} [Enc α] (xs : List α) : D.nbL (xs.map enc) = true := D.nbL_iff.mpr fun x m => by
  obtain ⟨a, _, rfl⟩ := List.mem_map.mp m
  exact Enc.nb a
theorem inD_enc {α : Type} [Enc α] [DecidableEq α] (a : α) (xs : List α) : inD (enc a) (xs.map enc) = decide (a ∈ xs) := by
  rw [Bool.eq_iff_iff, inD_iff (Enc.nb a) (nbL_enc xs), decide_eq_true_eq, List.mem_map]
  constructor
  · rintro ⟨b, m, e⟩
    rw [← Enc.inj e]; exact m
  · intro m
    exact ⟨a, m, rfl⟩
theorem dIn_lst {d : D} {ds : List D} (h : d.nb = true) (h' : D.nbL ds = true) (k : d.dep ≤ 40) : dIn d (.lst ds) = some (.bl (inD d ds)) := by
  show (if _ then _ else _) = _
  rw [if_pos (inOk_of h h' k)]
theorem dNotIn_lst {d : D} {ds : List D} (h : d.nb = true) (h' : D.nbL ds = true) (k : d.dep ≤ 40) : dNotIn d (.lst ds) = some (.bl (!inD d ds)) := by
  show (if _ then _ else _) = _
  rw [if_pos (inOk_of h h' k)]
theorem dIn_enc {α : Type} [Enc α] [DecidableEq α] (a : α) (xs : List α) (h : Enc.n α ≤ 40) : dIn (enc a) (.lst (xs.map enc)) = some (.bl (decide (a ∈ xs))) := by
  rw [dIn_lst (Enc.nb a) (nbL_enc xs) (Nat.le_trans (Enc.dp a) h), inD_enc]
theorem dNotIn_enc {α : Type} [Enc α] [DecidableEq α] (a : α) (xs : List α) (h : Enc.n α ≤ 40) : dNotIn (enc a) (.lst (xs.map enc)) = some (.bl (!decide (a ∈ xs))) := by
  rw [dNotIn_lst (Enc.nb a) (nbL_enc xs) (Nat.le_trans (Enc.dp a) h), inD_enc]
/-! ### expressions that draw -/
def wm {α : Type} (o : Option (α × VL.Env)) (Q : α → VL.Env → Prop) : Prop := ∃ x e, o = some (x, e) ∧ Q x e
section
variable {env : VL.Env} {α : Type}
theorem wm_pur {f : VL.Env → Option α} {x : α} {Q : α → VL.Env → Prop} (h : f env = some x) (q : Q x env) : wm (pur f env) Q := ⟨x, env, by rw [pur, h]; rfl, q⟩
theorem wm_2 {fa fb : Mo D} {g : D → D → Option D} {Q : D → VL.Env → Prop} (h : wm (fa env) fun x e => wm (fb e) fun y e' => ∃ z, g x y = some z ∧ Q z e') : wm (m2 fa fb g env) Q := by
  obtain ⟨x, e, h1, y, e', h2, z, h3, q⟩ := h
  exact ⟨z, e', by simp only [m2, h1, h2, h3, Option.bind_some, Option.map_some], q⟩
theorem wm_take {i : Nat} {m : Int} {p : Addr} {n : Int} {cs : List Int} {fs : Mo (List D)} {Q : D → VL.Env → Prop} (hc : cs ≠ []) (h0 : 0 < m) (hm : m.natAbs < 2 ^ 64) (g : getS env i = some (.at p (stS n cs))) (hf : fs env = some ([.int m], env))
    (q : ∀ (x n' : Int) (cs' : List Int), 0 ≤ x → x < m → cs' ≠ [] → Q (.int x) (env.set i (some (.at p (stS n' cs'))))) : wm (mI i fs takeS env) Q := by
  obtain ⟨x, n', cs', h1, h2, h3, e⟩ := mI_take (env' := env) h0 hm hc g hf
  exact ⟨_, _, e, q x n' cs' h1 h2 h3⟩
theorem wm_cons {f : Mo D} {g : Mo (List D)} {Q : List D → VL.Env → Prop} (h : wm (f env) fun x e => wm (g e) fun y e' => Q (x :: y) e') : wm (maC f g env) Q := by
  obtain ⟨x, e, h1, y, e', h2, q⟩ := h
  exact ⟨_, e', by simp only [maC, h1, h2, Option.bind_some, Option.map_some], q⟩
theorem wm_nil {Q : List D → VL.Env → Prop} (q : Q [] env) : wm (mA0 env) Q := ⟨[], env, rfl, q⟩
theorem ma1 {f : VL.Env → Option D} {x : D} (h : f env = some x) : maC (pur f) mA0 env = some ([x], env) := by
  simp only [maC, pur, h, Option.map_some, Option.bind_some]
theorem wm_tup {f : Mo (List D)} {Q : D → VL.Env → Prop} (h : wm (f env) fun x e => x.length < 1000 ∧ Q (.tup x) e) : wm (mTup f env) Q := by
  obtain ⟨x, e, h1, h2, q⟩ := h
  exact ⟨_, e, by simp only [mTup, h1, Option.bind_some, if_pos h2], q⟩
theorem wm_lst {f : Mo (List D)} {Q : D → VL.Env → Prop} (h : wm (f env) fun x e => x.length < 1000 ∧ Q (.lst x) e) : wm (mLst f env) Q := by
  obtain ⟨x, e, h1, h2, q⟩ := h
  exact ⟨_, e, by simp only [mLst, h1, Option.bind_some, if_pos h2], q⟩
theorem wm_tb {f : Mo D} {Q : Bool → VL.Env → Prop} (h : wm (f env) fun x e => ∃ b, bOf x = some b ∧ Q b e) : wm (mtb f env) Q := by
  obtain ⟨x, e, h1, b, h2, q⟩ := h
  exact ⟨b, e, by simp only [mtb, h1, h2, Option.bind_some, Option.map_some], q⟩
theorem wm_and {f g : Mo Bool} {Q : Bool → VL.Env → Prop} (h : wm (f env) fun x e => if x = true then wm (g e) Q else Q false e) : wm (mAnd f g env) Q := by
  obtain ⟨x, e, h1, q⟩ := h
  cases x
  · exact ⟨false, e, by simp only [mAnd, h1, Option.bind_some]; rfl, q⟩
  · obtain ⟨y, e', h2, q⟩ := q
    exact ⟨y, e', by simp only [mAnd, h1, Option.bind_some, if_true, h2], q⟩
theorem wm_or {f g : Mo Bool} {Q : Bool → VL.Env → Prop} (h : wm (f env) fun x e => if x = true then Q true e else wm (g e) Q) : wm (mOr f g env) Q := by
  obtain ⟨x, e, h1, q⟩ := h
  cases x
  · obtain ⟨y, e', h2, q⟩ := q
    exact ⟨y, e', by simp only [mOr, h1, Option.bind_some, h2]; rfl, q⟩
  · exact ⟨true, e, by simp only [mOr, h1, Option.bind_some, if_true], q⟩
theorem wm_not {f : Mo Bool} {Q : Bool → VL.Env → Prop} (h : wm (f env) fun x e => Q (!x) e) : wm (mNot f env) Q := by
  obtain ⟨x, e, h1, q⟩ := h
  exact ⟨!x, e, by simp only [mNot, h1, Option.map_some], q⟩
theorem wm_if {c : Mo Bool} {f g : Mo D} {Q : D → VL.Env → Prop} (h : wm (c env) fun x e => if x = true then wm (f e) Q else wm (g e) Q) : wm (mIf c f g env) Q := by
  obtain ⟨x, e, h1, q⟩ := h
  cases x
  · obtain ⟨y, e', h2, q⟩ := q
    exact ⟨y, e', by simp only [mIf, h1, Option.bind_some]; exact h2, q⟩
  · obtain ⟨y, e', h2, q⟩ := q
    exact ⟨y, e', by simp only [mIf, h1, Option.bind_some, if_true]; exact h2, q⟩
variable {Q : Out → Prop}
theorem wp_setM {i : Nat} {fe : Mo D} (h : wm (fe env) fun x e => Q (.nx (e.set i (some (.fz x))))) : wp (sSetM i fe env) Q := by
  obtain ⟨x, e, h1, q⟩ := h
  exact ⟨_, by rw [sSetM, h1]; rfl, q⟩
theorem wp_ifM {c : Mo Bool} {f g : VL.Env → Option Out} (h : wm (c env) fun b e => if b = true then wp (f e) Q else wp (g e) Q) : wp (sIfM c f g env) Q := by
  obtain ⟨b, e, h1, q⟩ := h
  unfold sIfM
  rw [h1]
  cases b
  · exact q
  · exact q
theorem wp_setO {i : Nat} {fe : VL.Env → Option S} {s : S} (h : fe env = some s) (q : Q (.nx (env.set i (some s)))) : wp (sSetO i fe env) Q := ⟨_, by rw [sSetO, h]; rfl, q⟩
theorem wp_appM {i : Nat} {fe : Mo D} {ds : List D} (h0 : getS env i = some (.ol (ds.map S.fz))) (h : wm (fe env) fun x e => ∃ ds' : List D, getS e i = some (.ol (ds'.map S.fz)) ∧ ds'.length < sizeLine ∧ Q (.nx (e.set i (some (.ol ((ds' ++ [x]).map S.fz)))))) : wp (sAppM i fe env) Q := by
  obtain ⟨x, e, h1, ds', h2, h3, q⟩ := h
  exact ⟨_, by simp only [sAppM, h0, olOf_ol, Option.bind_some, h1, h2, if_pos h3], q⟩
theorem wp_putLM {i : Nat} {fk : VL.Env → Option D} {fe : Mo D} (h : wm (fe env) fun x e => ∃ (ds : List D) (k : Int) (j : Nat), getS e i = some (.ol (ds.map S.fz)) ∧ fk e = some (.int k) ∧ ixN ds.length k = some j ∧ Q (.nx (e.set i (some (.ol ((ds.set j x).map S.fz)))))) : wp (sPutLM i fk fe env) Q := by
  obtain ⟨x, e, h1, ds, k, j, h2, h3, h4, q⟩ := h
  exact ⟨_, by simp only [sPutLM, h1, h2, olOf_ol, Option.bind_some, h3, intOf, h4, Option.map_some], q⟩
theorem wp_fz {i : Nat} {f : VL.Env → Option Out} {s : S} {d : D} (h : getS env i = some s) (hd : frS s = some d) (q : wp (f (env.set i (some (.fz d)))) Q) : wp (dFz i f env) Q := by
  obtain ⟨u, e, q⟩ := q
  exact ⟨u, by simp only [dFz, frzE, h, hd, Option.bind_some, Option.map_some, e], q⟩
theorem wp_putT {i : Nat} {fk fe : VL.Env → Option D} {kvs : List (D × D)} {k d : D} {ks : List Key} (h1 : fe env = some d) (h2 : getS env i = some (.od true (fzK kvs))) (h3 : fk env = some k) (h4 : tkeyD k = some ks) (h5 : kvs.length < sizeLine)
    (q : Q (.nx (env.set i (some (.od true (fzK (putTD ks d kvs))))))) : wp (sPutD i fk fe env) Q := by
  exact ⟨_, by simp only [sPutD, h1, h2, odOf_od, h3, Option.bind_some, dPutT h4 h5, Option.map_some], q⟩
end
end VL

set_option Elab.async false
set_option linter.all false
set_option maxRecDepth 100000
/-! VL17: sorted, min, max of alike data. -/
namespace VL
open PySem PySem.Spec PyProof.Rows L2
open Enc (enc)
/-- d < e, of alike data -/
def ltD (d e : D) : Bool := PySem.W.dataLt d.py e.py
def leD (d e : D) : Bool := PySem.W.dataLe false D.py d e
theorem leD_eq (d e : D) : leD d e = !ltD e d := rfl
def sortD (ds : List D) : List D := ds.mergeSort leD
def D.key : D → Bool
  | .tup (_ :: _) => true
  | _ => false
def D.noKey : D → Bool
  | .tup _ => false
  | .non => false
  | .dic _ _ => false
  | _ => true
/-- the items can be compared with one another -/
def alikeL (ds : List D) : Bool := ds.all fun d => d.plain && decide (d.dep ≤ 40) && ds.all fun e => PySem.W.alike d.py e.py
def sortOk (ds : List D) : Bool := alikeL ds && (ds.all D.key || ds.all D.noKey) && decide (ds.length ≤ sizeLine)
theorem alikeL_ok {ds : List D} (h : alikeL ds = true) : (∀ d ∈ ds, d.plain = true ∧ d.dep ≤ 40) ∧ ∀ d ∈ ds, ∀ e ∈ ds, PySem.W.alike d.py e.py = true := by
  unfold alikeL at h
  rw [List.all_eq_true] at h
  refine ⟨fun d m => ?_, fun d m e n => ?_⟩
  · have := h d m
    simp only [Bool.and_eq_true, decide_eq_true_eq] at this
    exact this.1
  · have := h d m
    simp only [Bool.and_eq_true] at this
    exact List.all_eq_true.mp this.2 e n
theorem sortOk_ok {ds : List D} (h : sortOk ds = true) : alikeL ds = true ∧ PySem.W.AllAlike (ds.map D.py) ∧ PySem.W.Sortable (ds.map D.py) ∧ ds.length ≤ sizeLine := by
  unfold sortOk at h
  simp only [Bool.and_eq_true, Bool.or_eq_true, decide_eq_true_eq] at h
  refine ⟨h.1.1, fun d m d' m' => ?_, ?_, h.2⟩
  · obtain ⟨a, ha, rfl⟩ := List.mem_map.mp m
    obtain ⟨b, hb, rfl⟩ := List.mem_map.mp m'
    exact (alikeL_ok h.1.1).2 a ha b hb
  · rcases h.1.2 with k | k
    · refine .inl fun d m => ?_
      obtain ⟨a, ha, rfl⟩ := List.mem_map.mp m
      have := List.all_eq_true.mp k a ha
      cases a with
      | tup xs =>
        cases xs with
        | nil => cases this
        | cons x xs => exact ⟨x.py, D.pyL xs, rfl⟩
      | _ => cases this
    · refine .inr fun d m => ?_
      obtain ⟨a, ha, rfl⟩ := List.mem_map.mp m
      have := List.all_eq_true.mp k a ha
      cases a with
      | tup _ => cases this
      | non => cases this
      | dic _ _ => cases this
      | bl _ => exact ⟨(by intro h; cases h), (by intro _ h; cases h)⟩
      | int _ => exact ⟨(by intro h; cases h), (by intro _ h; cases h)⟩
      | str _ => exact ⟨(by intro h; cases h), (by intro _ h; cases h)⟩
      | lst _ => exact ⟨(by intro h; cases h), (by intro _ h; cases h)⟩
section
variable {K : PySem.W.Frag} {G H : Hp}
/-- a value stands for a datum -/
def StF (K : PySem.W.Frag) (G : Hp) (u : Value) (d : D) : Prop := ∃ x, RelV x u ∧ Rp K G x d
theorem each_of : ∀ {xs : List V} {us : List Value} {ds : List D}, Vals xs us → RpL K G xs ds → PySem.W.EachIs (StF K G) us ds
  | [], _, _, v, r => by
    cases r
    cases v
    exact .nil
  | x :: xs, _, _, v, r => by
    cases r with
    | cons r1 r2 =>
      cases v with
      | cons v1 v2 => exact .cons ⟨x, v1, r1⟩ (each_of v2 r2)
theorem of_each : ∀ {us : List Value} {ds : List D}, PySem.W.EachIs (StF K G) us ds → ∃ xs, Vals xs us ∧ RpL K G xs ds
  | _, _, .nil => ⟨[], .nil, .nil⟩
  | _, _, .cons ⟨x, v, r⟩ t => by
    obtain ⟨xs, h1, h2⟩ := of_each t
    exact ⟨x :: xs, .cons v h1, .cons r h2⟩
end
section
variable {X : Cx} {pins : List (Addr × Obj)} {s : Shared} {σ : L2.St} {G H : Hp}
theorem each_reads (I : Inv X pins σ H s) (sm : Same G H) : ∀ {xs : List V} {us : List Value} {ds : List D}, Vals xs us → RpL X.K G xs ds → (∀ d ∈ ds, d.plain = true) → PySem.W.EachIs (fun v (b : D) => ∃ as, Reads s.heap v b.py as) us ds
  | [], _, _, v, r, _ => by
    cases r
    cases v
    exact .nil
  | x :: xs, _, _, v, r, hp => by
    cases r with
    | cons r1 r2 =>
      cases v with
      | cons v1 v2 => exact .cons (Dp.reads I _ _ _ ((r1.up sm).dp _ _ (hp _ (List.mem_cons_self ..))) v1) (each_reads I sm v2 r2 fun d m => hp d (List.mem_cons_of_mem _ m))
end
def rSortedA (K : PySem.W.Frag) : List V → Hp → VK → Prop := fun vs H Q => ∃ (G : Hp) (a : Addr) (xs : List V) (ds : List D), vs = [V.ref a] ∧ SqL K H a xs ∧ Same G H ∧ RpL K G xs ds ∧ sortOk ds = true ∧
  ∀ (ys : List V) (p : Addr), RpL K G ys (sortD ds) → H p = none → Q (.ref p) (upd H p (.lst ys))
section
variable {X : Cx}
theorem cr_sortedA {k : Nat} (hr : Room k X.A) : CallR X (.builtin "sorted") (rSortedA X.K) := by
  intro pins s σ H vs us Q I r h
  obtain ⟨G, a, xs, ds, rfl, hs, sm, rp, ok, q⟩ := h
  obtain ⟨its, rv, hl, _⟩ := I.list hs
  rw [Vals.ref1 r]
  obtain ⟨ok1, ok2, ok3, ok4⟩ := sortOk_ok ok
  have ok5 := alikeL_ok ok1
  refine PySem.W.sorted_data (vs := its) (enc := D.py) (R := StF X.K G) hl.isList (each_of rv rp) (each_reads I sm rv rp fun d m => (ok5.1 d m).1) ok2 ok3 ok4 (fun d m => ?_) fun out h1 h2 => ?_
  · have := (ok5.1 d m).2
    rw [D.dep_py]
    have := hr.units
    omega
  · obtain ⟨ep, he'⟩ := PyProof.Rows.sortedAll_at s.heap its (List.toArray out)
    obtain ⟨ys, v1, v2⟩ := of_each h2
    have hlen : ys.length ≤ sizeLine := by rw [v1.length, h1]; exact ok4
    exact ⟨.ref _, upd H (s.heap.objs.size + 1) (.lst ys), I.laid (t' := s.toks) (fun _ _ => PyProof.Rows.sortedAll_old) (Nat.le_succ _) ⟨hlen, out, ep, v1, he'⟩, rfl, q ys _ v2 (I.hok.fresh (Nat.le_succ _))⟩
def dSorted : List D → Option (List D)
  | [.lst xs] => if sortOk xs then some (sortD xs) else none
  | _ => none
theorem c_sorted {k : Nat} (hr : Room k X.A) : CallL X (.builtin "sorted") dSorted := by
  refine ⟨_, cr_sortedA hr, fun G H vs ds z Q s r q k => ?_⟩
  unfold dSorted at q
  split at q
  · split at q
    · rename_i ok
      cases q
      cases r with
      | cons r1 r2 =>
        cases r2
        cases r1 with
        | lst h l => exact ⟨G, _, _, _, rfl, SqL.of (s _ _ h), s, l, ok, fun ys p rp np => k p ys G _ (Ex.own s np) np (s.free np) upd_same rp⟩
    · cases q
  · cases q
end

/-! ### the least, the greatest -/
mutual
theorem py_inj : ∀ d e : D, d.plain = true → e.plain = true → d.py = e.py → d = e
  | .non, e, _, h, q => by cases e <;> first | rfl | (cases h; done) | (exact absurd q (by simp [D.py]))
  | .bl _, e, _, h, q => by cases e <;> first | (cases q; rfl) | (cases h; done) | (exact absurd q (by simp [D.py]))
  | .int _, e, _, h, q => by cases e <;> first | (cases q; rfl) | (cases h; done) | (exact absurd q (by simp [D.py]))
  | .str _, e, _, h, q => by cases e <;> first | (cases q; rfl) | (cases h; done) | (exact absurd q (by simp [D.py]))
  | .lst xs, e, h, h', q => by
    cases e with
    | lst ys => rw [pyL_inj xs ys h h' (PyData.list.inj q)]
    | dic _ _ => cases h'
    | _ => exact absurd q (by simp [D.py])
  | .tup xs, e, h, h', q => by
    cases e with
    | tup ys => rw [pyL_inj xs ys h h' (PyData.tuple.inj q)]
    | dic _ _ => cases h'
    | _ => exact absurd q (by simp [D.py])
  | .dic _ _, _, h, _, _ => by cases (show false = true from h)
theorem pyL_inj : ∀ xs ys : List D, D.plainL xs = true → D.plainL ys = true → D.pyL xs = D.pyL ys → xs = ys
  | [], [], _, _, _ => rfl
  | [], _ :: _, _, _, q => by cases q
  | _ :: _, [], _, _, q => by cases q
  | x :: xs, y :: ys, h, h', q => by
    have k : x.plain = true ∧ D.plainL xs = true := by simpa [D.plainL] using h
    have k' : y.plain = true ∧ D.plainL ys = true := by simpa [D.plainL] using h'
    have q' : x.py = y.py ∧ D.pyL xs = D.pyL ys := by simpa [D.pyL] using q
    rw [py_inj x y k.1 k'.1 q'.1, pyL_inj xs ys k.2 k'.2 q'.2]
end
theorem pyL_map : ∀ xs : List D, D.pyL xs = xs.map D.py
  | [] => rfl
  | x :: xs => by
    show x.py :: D.pyL xs = _
    rw [pyL_map xs]; rfl
def minDD (x : D) (xs : List D) : D := xs.foldl (fun a y => if ltD y a = true then y else a) x
def maxDD (x : D) (xs : List D) : D := xs.foldl (fun a y => if ltD a y = true then y else a) x
theorem minDD_py : ∀ (xs : List D) (x : D), PySem.W.minD x.py (xs.map D.py) = (minDD x xs).py
  | [], x => rfl
  | y :: ys, x => by
    have ih := minDD_py ys (if ltD y x = true then y else x)
    show PySem.W.minD (if PySem.W.dataLt y.py x.py = true then y.py else x.py) (ys.map D.py) = _
    have e : (if PySem.W.dataLt y.py x.py = true then y.py else x.py) = (if ltD y x = true then y else x).py := by
      show (if ltD y x = true then y.py else x.py) = _
      split <;> rfl
    rw [e, ih]; rfl
theorem maxDD_py : ∀ (xs : List D) (x : D), PySem.W.maxD x.py (xs.map D.py) = (maxDD x xs).py
  | [], x => rfl
  | y :: ys, x => by
    have ih := maxDD_py ys (if ltD x y = true then y else x)
    show PySem.W.maxD (if PySem.W.dataLt x.py y.py = true then y.py else x.py) (ys.map D.py) = _
    have e : (if PySem.W.dataLt x.py y.py = true then y.py else x.py) = (if ltD x y = true then y else x).py := by
      show (if ltD x y = true then y.py else x.py) = _
      split <;> rfl
    rw [e, ih]; rfl
theorem minDD_mem : ∀ (xs : List D) (x : D), minDD x xs ∈ x :: xs
  | [], x => List.mem_cons_self ..
  | y :: ys, x => by
    have ih := minDD_mem ys (if ltD y x = true then y else x)
    show minDD (if ltD y x = true then y else x) ys ∈ _
    rcases List.mem_cons.mp ih with h | h
    · rw [h]; split <;> simp
    · simp [h]
theorem maxDD_mem : ∀ (xs : List D) (x : D), maxDD x xs ∈ x :: xs
  | [], x => List.mem_cons_self ..
  | y :: ys, x => by
    have ih := maxDD_mem ys (if ltD x y = true then y else x)
    show maxDD (if ltD x y = true then y else x) ys ∈ _
    rcases List.mem_cons.mp ih with h | h
    · rw [h]; split <;> simp
    · simp [h]
def bestOk (ds : List D) : Bool := alikeL ds && ds.all fun d => match d with
  | .non => false
  | _ => true
theorem bestOk_ok {ds : List D} (h : bestOk ds = true) : alikeL ds = true ∧ PySem.W.AlikeAll (ds.map D.py) := by
  unfold bestOk at h
  rw [Bool.and_eq_true] at h
  refine ⟨h.1, fun d m d' m' => ?_, fun d m => ?_⟩
  · obtain ⟨a, ha, rfl⟩ := List.mem_map.mp m
    obtain ⟨b, hb, rfl⟩ := List.mem_map.mp m'
    exact (alikeL_ok h.1).2 a ha b hb
  · obtain ⟨a, ha, rfl⟩ := List.mem_map.mp m
    have k := List.all_eq_true.mp h.2 a ha
    have k2 := ((alikeL_ok h.1).1 a ha).1
    cases a with
    | non => cases k
    | dic _ _ => cases k2
    | _ => intro q; cases q
theorem RpL.plains {K : PySem.W.Frag} {H : Hp} : ∀ {ds : List D} {xs : List V}, (∀ d ∈ ds, d.plain = true) → RpL K H xs ds → DpAll K H xs (ds.map D.py)
  | [], _, _, r => by cases r; exact .nil
  | d :: ds, _, h, r => by
    cases r with
    | cons r1 r2 => exact .cons (r1.dp _ _ (h _ (List.mem_cons_self ..))) (RpL.plains (fun e m => h e (List.mem_cons_of_mem _ m)) r2)
theorem rpl_get {K : PySem.W.Frag} {H : Hp} : ∀ {xs : List V} {ds : List D} {i : Nat} {x : V}, RpL K H xs ds → xs[i]? = some x → ∃ d, ds[i]? = some d ∧ Rp K H x d
  | _, _, _, _, .nil, h => by simp at h
  | _, _, 0, _, .cons r t, h => by
    cases (show some _ = some _ from h)
    exact ⟨_, rfl, r⟩
  | _, _, i + 1, _, .cons r t, h => by
    obtain ⟨d, h1, h2⟩ := rpl_get t (by simpa using h)
    exact ⟨d, by simpa using h1, h2⟩
theorem dep_max {ds : List D} (h : ∀ d ∈ ds, d.dep ≤ 40) : PyData.depthAll (ds.map D.py) ≤ 40 := by
  rw [← pyL_map, D.depL_py]
  exact D.depL_le.mpr h
section
variable {X : Cx}
/-- min, max of what stands in a list, a tuple: one of the items itself -/
def rBest (K : PySem.W.Frag) (f : D → List D → D) : List V → Hp → VK → Prop := fun vs H Q => ∃ (G : Hp) (a : Addr) (xs : List V) (d : D) (ds : List D), vs = [V.ref a] ∧ (SqL K H a xs ∨ SqT K H a xs) ∧ Same G H ∧ RpL K G xs (d :: ds) ∧ bestOk (d :: ds) = true ∧
  ∀ v, Rp K G v (f d ds) → Q v H
theorem best_end {pins : List (Addr × Obj)} {s : Shared} {σ : L2.St} {G H : Hp} {d : D} {ds : List D} {xs : List V} {its : List Value} {z : D} (I : Inv X pins σ H s) (sm : Same G H) (rv : Vals xs its) (rp : RpL X.K G xs (d :: ds)) (pl : ∀ e ∈ d :: ds, e.plain = true) (hz : z ∈ d :: ds) {i : Nat} {v : Value} {h' : Heap} {bs : List Addr}
    (h1 : its.toArray[i]? = some v) (h2 : Reads h' v z.py bs) (hk : ∀ b o, s.heap.get? b = some o → h'.get? b = some o) : ∃ x, RelV x v ∧ Rp X.K G x z := by
  have h1' : its[i]? = some v := by simpa using h1
  have hi : i < xs.length := by
    rw [rv.length]
    exact (List.getElem?_eq_some_iff.mp h1').1
  obtain ⟨x, hx⟩ : ∃ x, xs[i]? = some x := ⟨_, List.getElem?_eq_getElem hi⟩
  obtain ⟨u, hu, ru⟩ := rv.get hx
  rw [h1'] at hu
  cases hu
  obtain ⟨e, he, re⟩ := rpl_get rp hx
  have hpe := pl e (List.mem_of_getElem? he)
  obtain ⟨as, r1⟩ := Dp.reads I _ _ _ ((re.up sm).dp _ _ hpe) ru
  have r2 := PySem.W.reads_keeps hk r1
  have e2 := PySem.SeqAt.plain_unique _ _ _ _ _ (D.py_plain e) r2 h2
  have := py_inj e z hpe (pl z hz) e2
  subst this
  exact ⟨x, ru, re⟩
theorem cr_minA {k : Nat} (hr : Room k X.A) : CallR X (.builtin "min") (rBest X.K minDD) := by
  intro pins s σ H vs us Q I r h
  obtain ⟨G, a, xs, d, ds, rfl, hs, sm, rp, ok, q⟩ := h
  obtain ⟨ok1, ok2⟩ := bestOk_ok ok
  have ok3 := alikeL_ok ok1
  have hd := dep_max fun e m => (ok3.1 e m).2
  have hun := hr.un
  rw [Vals.ref1 r]
  rcases hs with hs | hs
  · obtain ⟨its, rv, hl, _⟩ := I.list hs
    obtain ⟨as, ra⟩ := Dp.readsAll I _ _ _ (RpL.plains (fun e m => (ok3.1 e m).1) (rp.up sm)) rv
    refine PySem.W.min_list_data (x := d.py) (xs := ds.map D.py) (as := as) hr.hd hl.isList ra ok2 (by rw [List.map_cons] at hd; omega) fun i v h' tk bs h1 h2 h3 => ?_
    rw [minDD_py] at h2
    obtain ⟨x, ru, re⟩ := best_end I sm rv rp (fun e m => (ok3.1 e m).1) (minDD_mem ds d) h1 h2 h3
    exact ⟨x, H, I.kept h3, ru, q x re⟩
  · obtain ⟨its, rv, hl, _⟩ := I.tuple hs
    obtain ⟨as, ra⟩ := Dp.readsAll I _ _ _ (RpL.plains (fun e m => (ok3.1 e m).1) (rp.up sm)) rv
    refine PySem.W.min_tuple_data (x := d.py) (xs := ds.map D.py) (as := as) hr.hd (show s.heap.IsTuple a its.toArray from hl) ra ok2 (by rw [List.map_cons] at hd; omega) fun i v h' tk bs h1 h2 h3 => ?_
    rw [minDD_py] at h2
    obtain ⟨x, ru, re⟩ := best_end I sm rv rp (fun e m => (ok3.1 e m).1) (minDD_mem ds d) h1 h2 h3
    exact ⟨x, H, I.kept h3, ru, q x re⟩
theorem cr_maxA {k : Nat} (hr : Room k X.A) : CallR X (.builtin "max") (rBest X.K maxDD) := by
  intro pins s σ H vs us Q I r h
  obtain ⟨G, a, xs, d, ds, rfl, hs, sm, rp, ok, q⟩ := h
  obtain ⟨ok1, ok2⟩ := bestOk_ok ok
  have ok3 := alikeL_ok ok1
  have hd := dep_max fun e m => (ok3.1 e m).2
  have hun := hr.un
  rw [Vals.ref1 r]
  rcases hs with hs | hs
  · obtain ⟨its, rv, hl, _⟩ := I.list hs
    obtain ⟨as, ra⟩ := Dp.readsAll I _ _ _ (RpL.plains (fun e m => (ok3.1 e m).1) (rp.up sm)) rv
    refine PySem.W.max_list_data (x := d.py) (xs := ds.map D.py) (as := as) hr.hd hl.isList ra ok2 (by rw [List.map_cons] at hd; omega) fun i v h' tk bs h1 h2 h3 => ?_
    rw [maxDD_py] at h2
    obtain ⟨x, ru, re⟩ := best_end I sm rv rp (fun e m => (ok3.1 e m).1) (maxDD_mem ds d) h1 h2 h3
    exact ⟨x, H, I.kept h3, ru, q x re⟩
  · obtain ⟨its, rv, hl, _⟩ := I.tuple hs
    obtain ⟨as, ra⟩ := Dp.readsAll I _ _ _ (RpL.plains (fun e m => (ok3.1 e m).1) (rp.up sm)) rv
    refine PySem.W.max_tuple_data (x := d.py) (xs := ds.map D.py) (as := as) hr.hd (show s.heap.IsTuple a its.toArray from hl) ra ok2 (by rw [List.map_cons] at hd; omega) fun i v h' tk bs h1 h2 h3 => ?_
    rw [maxDD_py] at h2
    obtain ⟨x, ru, re⟩ := best_end I sm rv rp (fun e m => (ok3.1 e m).1) (maxDD_mem ds d) h1 h2 h3
    exact ⟨x, H, I.kept h3, ru, q x re⟩
def dMinA : List D → Option D
  | [.lst (x :: xs)] => if bestOk (x :: xs) then some (minDD x xs) else none
  | [.tup (x :: xs)] => if bestOk (x :: xs) then some (minDD x xs) else none
  | [.int i, .int j] => some (.int (min i j))
  | _ => none
def dMaxA : List D → Option D
  | [.lst (x :: xs)] => if bestOk (x :: xs) then some (maxDD x xs) else none
  | [.tup (x :: xs)] => if bestOk (x :: xs) then some (maxDD x xs) else none
  | [.int i, .int j] => some (.int (max i j))
  | _ => none
/-- of frozen things: the answer is one of them -/
theorem c_minA {k : Nat} (hc : X.calm = true) (hr : Room k X.A) : CallF X (.builtin "min") dMinA := by
  refine ⟨_, (cr_minA hr).or (call_min2 hc), fun G H vs ds z Q s r q k => ?_⟩
  unfold dMinA at q
  split at q
  · split at q
    · rename_i x xs ok
      cases q
      cases r with
      | cons r1 r2 =>
        cases r2
        cases r1 with
        | lst h l => exact .inl ⟨G, _, _, x, xs, rfl, .inl (SqL.of (s _ _ h)), s, l, ok, fun v rv => k _ _ _ (Ex.refl s) rv⟩
    · cases q
  · split at q
    · rename_i x xs ok
      cases q
      cases r with
      | cons r1 r2 =>
        cases r2
        cases r1 with
        | tup h l => exact .inl ⟨G, _, _, x, xs, rfl, .inr (SqT.of (s _ _ h)), s, l, ok, fun v rv => k _ _ _ (Ex.refl s) rv⟩
    · cases q
  · cases q
    cases r with
    | cons r1 r2 =>
      cases r2 with
      | cons r2 r3 =>
        cases r3; cases r1; cases r2
        rename_i i j
        refine .inr ⟨i, j, rfl, ?_⟩
        have : (if j < i then j else i) = min i j := by split <;> omega
        rw [this]
        exact k _ _ _ (Ex.refl s) (.int _)
  · cases q
theorem c_maxA {k : Nat} (hc : X.calm = true) (hr : Room k X.A) : CallF X (.builtin "max") dMaxA := by
  refine ⟨_, (cr_maxA hr).or (call_max2 hc), fun G H vs ds z Q s r q k => ?_⟩
  unfold dMaxA at q
  split at q
  · split at q
    · rename_i x xs ok
      cases q
      cases r with
      | cons r1 r2 =>
        cases r2
        cases r1 with
        | lst h l => exact .inl ⟨G, _, _, x, xs, rfl, .inl (SqL.of (s _ _ h)), s, l, ok, fun v rv => k _ _ _ (Ex.refl s) rv⟩
    · cases q
  · split at q
    · rename_i x xs ok
      cases q
      cases r with
      | cons r1 r2 =>
        cases r2
        cases r1 with
        | tup h l => exact .inl ⟨G, _, _, x, xs, rfl, .inr (SqT.of (s _ _ h)), s, l, ok, fun v rv => k _ _ _ (Ex.refl s) rv⟩
    · cases q
  · cases q
    cases r with
    | cons r1 r2 =>
      cases r2 with
      | cons r2 r3 =>
        cases r3; cases r1; cases r2
        rename_i i j
        refine .inr ⟨i, j, rfl, ?_⟩
        have : (if j > i then j else i) = max i j := by split <;> omega
        rw [this]
        exact k _ _ _ (Ex.refl s) (.int _)
  · cases q
/-! a list of range(n), a call of a built-in that makes a list, with draws within -/
theorem v_callBF {x : Str} {p pos : Pos} {id : String} {e : Expr} {es : List Expr} {fs : VL.Env → Option (List D)} {g : List D → Option D} (hc : CallF X (.builtin id) g) (hg : Gl X x) (hm : X.mg x = none) (hv : bootBuiltins x = some (.builtin id)) (ha : AV X (e :: es) fs) (hn : x ≠ "__name__" := by decide) (hdb : (x == ("__debug__" : Str)) = false := by decide)
    (he : starEach (e :: es) X.env = (false, eval e X.env) :: starEach es X.env := by rfl) (hpl : (backTo pos (starEach es X.env)).any (·.1) = false := by rfl) : PV X (.Call (.Name x p) (e :: es) [] pos) (cB fs g) := by
  obtain ⟨r, hr, o⟩ := hc
  obtain ⟨t, pa, oa⟩ := ha.ex
  refine ⟨_, pe_callB hr hg hm hv pa hn hdb he hpl, fun G H st env F Q d re e k => ?_⟩
  obtain ⟨ds, e1, e2⟩ := Option.bind_eq_some_iff.mp e
  exact oa G H st env F _ _ re e1 fun vs G1 H1 x1 r1 => o G1 H1 vs ds d Q x1.gh r1 e2 fun v G' H' x2 r2 => k v G' H' (x1.trans x2) r2
theorem m_callBF {x : Str} {p pos : Pos} {id : String} {e : Expr} {es : List Expr} {fs : Mo (List D)} {g : List D → Option D} (hc : CallF X (.builtin id) g) (hg : Gl X x) (hm : X.mg x = none) (hv : bootBuiltins x = some (.builtin id)) (ha : MA X (e :: es) fs) (hn : x ≠ "__name__" := by decide) (hdb : (x == ("__debug__" : Str)) = false := by decide)
    (he : starEach (e :: es) X.env = (false, eval e X.env) :: starEach es X.env := by rfl) (hpl : (backTo pos (starEach es X.env)).any (·.1) = false := by rfl) : MV X (.Call (.Name x p) (e :: es) [] pos) (mB fs g) := by
  obtain ⟨r, hr, o⟩ := hc
  obtain ⟨t, pa, oa⟩ := ha.ex
  refine ⟨_, pe_callB hr hg hm hv pa hn hdb he hpl, fun c G H st env F Q d env' r q e k => ?_⟩
  obtain ⟨ds, e1, e2⟩ := mB_some e
  exact oa c G H st env F _ _ env' r q e1 fun vs G1 H1 F1 r1 q1 s1 rv => o G1 H1 vs ds d Q r1.sub rv e2 fun v G' H' x2 r2 => k v G' H' F1 (r1.ext x2) (q1.ext x2) (s1.trans x2.gg) r2
end
end VL

set_option Elab.async false
set_option linter.all false
set_option maxRecDepth 100000
/-! VL18: list(range(n)). -/
namespace VL
open PySem PySem.Spec PyProof.Rows L2
section
variable {X : Cx} {a : Expr} {fa : VL.Env → Option D} {p p2 pos pos2 : Pos}
def rgL : D → Option (List D)
  | .int n => if n.natAbs ≤ 16777216 then some (rangeD 0 n.toNat) else none
  | _ => none
theorem rgV_map (n : Int) : rgV 0 n = ((List.range n.toNat).map fun (i : Nat) => ((i : Int))).map V.int := by
  unfold rgV
  rw [List.map_map]
  rw [show (n - 0).toNat = n.toNat by omega]
  refine List.map_congr_left fun i _ => ?_
  show V.int (0 + (i : Int)) = V.int (i : Int)
  rw [Int.zero_add]
theorem rangeD_ints (n : Nat) : rangeD 0 n = ((List.range n).map fun (i : Nat) => ((i : Int))).map D.int := by
  rw [rangeD_0, List.map_map]; rfl
theorem l_rg1 (hc : X.calm = true) (hg2 : Gl X "list") (hm2 : X.mg "list" = none) (hg : Gl X "range") (hm : X.mg "range" = none) (ha : PW X a fa) (na : starEach [a] X.env = (false, eval a X.env) :: starEach [] X.env := by rfl)
    (na2 : starEach [Expr.Call (.Name "range" p2) [a] [] pos2] X.env = (false, eval (.Call (.Name "range" p2) [a] [] pos2) X.env) :: starEach [] X.env := by rfl) : PL X (.Call (.Name "list" p) [.Call (.Name "range" p2) [a] [] pos2] [] pos) (fun env => (fa env).bind rgL) := by
  obtain ⟨t, pa, oa⟩ := ha.ex
  refine ⟨_, pe_listRg hc hg2 hm2 (prg_1 hg hm pa na) na2, fun G H st env F Q ds re e k => ?_⟩
  obtain ⟨d, e1, e2⟩ := Option.bind_eq_some_iff.mp e
  refine oa G H st env F _ _ re e1 fun v G1 H1 x1 r1 => ?_
  cases d with
  | int n =>
    have e2 : (if n.natAbs ≤ 16777216 then some (rangeD 0 n.toNat) else none) = some ds := e2
    split at e2
    · rename_i hn
      cases e2
      cases r1
      refine ⟨n, rfl, ⟨by omega, by omega, by omega, by omega, by omega⟩, fun q hq => ?_⟩
      refine k q (rgV 0 n) G1 _ (x1.trans (Ex.own x1.gh hq)) (x1.hh.free hq) (x1.gh.free hq) upd_same ?_
      rw [rgV_map, rangeD_ints]
      exact RpL.of_ints _
    · cases e2
  | _ => cases e2
end

@[simp] abbrev dRgL (f : VL.Env → Option D) : VL.Env → Option (List D) := fun env => (f env).bind rgL
theorem look_free {env : PySem.Env} : ∀ {names : List (Str × NameKind)} {x : Str}, names.lookup x = some .cell ∨ names.lookup x = some .free →
    (names.map fun (n, k) => if (k == NameKind.free && env.scope.kind == .function && env.kindOf n == some .cell) then (n, NameKind.cell) else (n, k)).lookup x = some .cell ∨
    (names.map fun (n, k) => if (k == NameKind.free && env.scope.kind == .function && env.kindOf n == some .cell) then (n, NameKind.cell) else (n, k)).lookup x = some .free
  | [], x, h => by rcases h with h | h <;> cases h
  | (n, k) :: r, x, h => by
    have ih := @look_free env r x
    rw [List.map_cons]
    by_cases c : (x == n) = true
    · have e : ∀ k', List.lookup x ((n, k') :: r) = some k' := fun k' => by simp [List.lookup, c]
      rw [e k] at h
      have hk : k = .cell ∨ k = .free := by rcases h with h | h <;> cases h <;> simp
      rcases hk with rfl | rfl
      · refine .inl ?_
        show List.lookup x ((n, NameKind.cell) :: _) = _
        simp [List.lookup, c]
      · show List.lookup x ((if _ then (n, NameKind.cell) else (n, NameKind.free)) :: _) = _ ∨ List.lookup x ((if _ then (n, NameKind.cell) else (n, NameKind.free)) :: _) = _
        split
        · exact .inl (by simp [List.lookup, c])
        · exact .inr (by simp [List.lookup, c])
    · have c' : (x == n) = false := by simpa using c
      have e : ∀ k' (l : List (Str × NameKind)), List.lookup x ((n, k') :: l) = List.lookup x l := fun k' l => by simp [List.lookup, c']
      rw [e] at h
      have h' := ih h
      dsimp only
      split
      · rw [e]; exact h'
      · rw [e]; exact h'
theorem blkN {N : List Str} {scope0 scope : Scope} {own : List (Str × Nat)} {cl : List (Str × Addr)} {C : Addr} {env : PySem.Env} (h : BlkOk N scope0 scope own) : BlkOk N (compEnvC scope0 cl C env).scope scope own :=
  ⟨h.kind, h.uniq, h.ix, fun y m e => look_free (h.free y m e), h.own⟩
end VL

set_option Elab.async false
set_option linter.all false
set_option maxRecDepth 100000
/-! VL19: the order of data, typed; enumerate; cuts. -/
namespace VL
open PySem PySem.Spec PyProof.Rows L2
open Enc (enc)
theorem ltD_irrefl (d : D) : ltD d d = false := (PyProof.Rows.listOrd PyProof.Rows.itemOrd).irrefl _
theorem ltD_trans {a b c : D} (h : ltD a b = true) (k : ltD b c = true) : ltD a c = true := (PyProof.Rows.listOrd PyProof.Rows.itemOrd).trans _ _ _ h k
theorem ltD_neg {a c : D} (b : D) (h : ltD a c = true) : ltD a b = true ∨ ltD b c = true := (PyProof.Rows.listOrd PyProof.Rows.itemOrd).negTrans _ _ _ h
theorem ltD_asymm {a b : D} (h : ltD a b = true) : ltD b a = false := by
  cases k : ltD b a
  · rfl
  · have := ltD_trans h k
    rw [ltD_irrefl] at this; cases this
theorem leD_tot : PySem.W.TotalLe leD := PySem.W.sortLe_total (PyProof.Rows.listOrd PyProof.Rows.itemOrd) false _
theorem maxDD_ge : ∀ (xs : List D) (x : D), ltD (maxDD x xs) x = false ∧ ∀ y ∈ xs, ltD (maxDD x xs) y = false
  | [], x => ⟨ltD_irrefl x, fun y h => by cases h⟩
  | z :: xs, x => by
    obtain ⟨h1, h2⟩ := maxDD_ge xs (if ltD x z = true then z else x)
    have hx : ltD (maxDD (if ltD x z = true then z else x) xs) x = false := by
      by_cases c : ltD x z = true
      · rw [if_pos c] at h1 ⊢
        cases k : ltD (maxDD z xs) x
        · rfl
        · rw [ltD_trans k c] at h1; cases h1
      · rw [if_neg c] at h1 ⊢
        exact h1
    have hz : ltD (maxDD (if ltD x z = true then z else x) xs) z = false := by
      by_cases c : ltD x z = true
      · rw [if_pos c] at h1 ⊢
        exact h1
      · rw [if_neg c] at h1 ⊢
        cases k : ltD (maxDD x xs) z
        · rfl
        · rcases ltD_neg x k with q | q
          · rw [q] at h1; cases h1
          · exact absurd q c
    refine ⟨hx, fun y h => ?_⟩
    rcases List.mem_cons.mp h with rfl | h
    · exact hz
    · exact h2 y h
theorem minDD_le : ∀ (xs : List D) (x : D), ltD x (minDD x xs) = false ∧ ∀ y ∈ xs, ltD y (minDD x xs) = false
  | [], x => ⟨ltD_irrefl x, fun y h => by cases h⟩
  | z :: xs, x => by
    obtain ⟨h1, h2⟩ := minDD_le xs (if ltD z x = true then z else x)
    have hx : ltD x (minDD (if ltD z x = true then z else x) xs) = false := by
      by_cases c : ltD z x = true
      · rw [if_pos c] at h1 ⊢
        cases k : ltD x (minDD z xs)
        · rfl
        · rw [ltD_trans c k] at h1; cases h1
      · rw [if_neg c] at h1 ⊢
        exact h1
    have hz : ltD z (minDD (if ltD z x = true then z else x) xs) = false := by
      by_cases c : ltD z x = true
      · rw [if_pos c] at h1 ⊢
        exact h1
      · rw [if_neg c] at h1 ⊢
        cases k : ltD z (minDD x xs)
        · rfl
        · rcases ltD_neg x k with q | q
          · exact absurd q c
          · rw [q] at h1; cases h1
    refine ⟨hx, fun y h => ?_⟩
    rcases List.mem_cons.mp h with rfl | h
    · exact hz
    · exact h2 y h
/-- typed data with an order -/
class EncO (α : Type) extends Enc α where
  lt : α → α → Bool
  ltOk : ∀ a b, ltD (enc a) (enc b) = lt a b
  al : ∀ a b, PySem.W.alike (enc a).py (enc b).py = true
  ks : (∀ a, (enc a).key = true) ∨ (∀ a, (enc a).noKey = true)
  nn : ∀ a, enc a ≠ .non
theorem ltD_int (a b : Int) : ltD (.int a) (.int b) = decide (a < b) := PySem.W.dataLt_int a b
instance : EncO Int where
  lt a b := decide (a < b)
  ltOk a b := ltD_int a b
  al a b := by show PySem.W.alike (.int a) (.int b) = true; simp [PySem.W.alike]
  ks := .inr fun _ => rfl
  nn a h := by cases h
instance : EncO Nat where
  lt a b := decide (a < b)
  ltOk a b := by
    show ltD (.int (a : Int)) (.int (b : Int)) = _
    rw [ltD_int]
    congr 1
    simp
  al a b := by show PySem.W.alike (.int (a : Int)) (.int (b : Int)) = true; simp [PySem.W.alike]
  ks := .inr fun _ => rfl
  nn a h := by cases h
theorem alike_py {α : Type} [EncO α] (a b : α) : PySem.W.alike (enc a).py (enc b).py = true := EncO.al a b
theorem eqv_enc {α : Type} [Enc α] [DecidableEq α] (a b : α) : PyData.eqv (enc a).py (enc b).py = decide (a = b) := by
  rw [Bool.eq_iff_iff, decide_eq_true_eq]
  exact ⟨fun h => Enc.inj ((eqD_iff (Enc.nb a) (Enc.nb b)).mp h), fun h => by rw [h]; exact eqD_self (Enc.nb b)⟩
instance {α β : Type} [EncO α] [EncO β] [DecidableEq α] [DecidableEq β] : EncO (α × β) where
  lt p q := if p.1 = q.1 then EncO.lt p.2 q.2 else EncO.lt p.1 q.1
  ltOk p q := by
    show PySem.W.dataLt (.tuple [(enc p.1).py, (enc p.2).py]) (.tuple [(enc q.1).py, (enc q.2).py]) = _
    rw [PySem.W.dataLt_pair (EncO.al p.1 q.1) (EncO.al p.2 q.2), eqv_enc, eqv_enc]
    by_cases c : p.1 = q.1
    · rw [if_pos (decide_eq_true c), if_pos c]
      by_cases c' : p.2 = q.2
      · rw [if_pos (decide_eq_true c'), c', ← EncO.ltOk]
        exact (ltD_irrefl _).symm
      · rw [if_neg (by simpa using c')]
        exact EncO.ltOk _ _
    · rw [if_neg (by simpa using c), if_neg c]
      exact EncO.ltOk _ _
  al p q := by
    show PySem.W.alike (.tuple [(enc p.1).py, (enc p.2).py]) (.tuple [(enc q.1).py, (enc q.2).py]) = true
    rw [PySem.W.alike, PySem.W.alikeAll, PySem.W.alikeAll, EncO.al, EncO.al]
    simp [PySem.W.alikeAll]
  ks := .inl fun _ => rfl
  nn p h := by cases h
section
variable {α : Type} [EncO α]
def leE (a b : α) : Bool := !EncO.lt b a
theorem leE_eq (a b : α) : leD (enc a) (enc b) = leE a b := by
  rw [leD_eq, EncO.ltOk]; rfl
theorem leE_trans (a b c : α) (h : leE a b = true) (k : leE b c = true) : leE a c = true := by
  rw [← leE_eq] at h k ⊢
  exact leD_tot.trans _ _ _ h k
theorem leE_total (a b : α) : leE a b = true ∨ leE b a = true := by
  rw [← leE_eq, ← leE_eq]
  exact leD_tot.total _ _
def sortE (xs : List α) : List α := xs.mergeSort leE
theorem alikeL_enc (xs : List α) (h : Enc.n α ≤ 40) : alikeL (xs.map enc) = true := by
  unfold alikeL
  rw [List.all_eq_true]
  intro d m
  obtain ⟨a, _, rfl⟩ := List.mem_map.mp m
  simp only [Bool.and_eq_true, decide_eq_true_eq]
  refine ⟨⟨D.nb_plain _ (Enc.nb a), Nat.le_trans (Enc.dp a) h⟩, ?_⟩
  rw [List.all_eq_true]
  intro e m'
  obtain ⟨b, _, rfl⟩ := List.mem_map.mp m'
  exact EncO.al a b
theorem sortOk_enc (xs : List α) (h : Enc.n α ≤ 40) (hl : xs.length ≤ sizeLine) : sortOk (xs.map enc) = true := by
  unfold sortOk
  rw [alikeL_enc xs h, List.length_map, Bool.true_and, Bool.and_eq_true, Bool.or_eq_true]
  refine ⟨?_, decide_eq_true hl⟩
  rcases (EncO.ks : (∀ a : α, (enc a).key = true) ∨ (∀ a : α, (enc a).noKey = true)) with k | k
  · refine .inl (List.all_eq_true.mpr fun d m => ?_)
    obtain ⟨a, _, rfl⟩ := List.mem_map.mp m
    exact k a
  · refine .inr (List.all_eq_true.mpr fun d m => ?_)
    obtain ⟨a, _, rfl⟩ := List.mem_map.mp m
    exact k a
theorem sortD_enc (xs : List α) : sortD (xs.map enc) = (sortE xs).map enc := by
  unfold sortD sortE
  rw [List.map_mergeSort (s := leD)]
  intro a _ b _
  exact (leE_eq a b).symm
theorem dSorted_enc (xs : List α) (h : Enc.n α ≤ 40) (hl : xs.length ≤ sizeLine) : dSorted [.lst (xs.map enc)] = some ((sortE xs).map enc) := by
  show (if _ then _ else _) = _
  rw [if_pos (sortOk_enc xs h hl), sortD_enc]
theorem sortE_perm (xs : List α) : (sortE xs).Perm xs := List.mergeSort_perm _ _
theorem sortE_sorted (xs : List α) : (sortE xs).Pairwise fun a b => leE a b = true := List.pairwise_mergeSort leE_trans (fun a b => by rw [Bool.or_eq_true]; exact leE_total a b) xs
theorem bestOk_enc (xs : List α) (h : Enc.n α ≤ 40) : bestOk (xs.map enc) = true := by
  unfold bestOk
  rw [alikeL_enc xs h, Bool.true_and, List.all_eq_true]
  intro d m
  obtain ⟨a, _, rfl⟩ := List.mem_map.mp m
  have := EncO.nn a
  split
  · rename_i e; exact absurd e this
  · rfl
/-- min, max of typed data -/
theorem dMin_enc {x : α} {xs : List α} (h : Enc.n α ≤ 40) : ∃ m, m ∈ x :: xs ∧ (∀ y ∈ x :: xs, leE m y = true) ∧ dMinA [.lst ((x :: xs).map enc)] = some (enc m) := by
  have e : dMinA [.lst ((x :: xs).map enc)] = some (minDD (enc x) (xs.map enc)) := if_pos (bestOk_enc (x :: xs) h)
  have hm := minDD_mem (xs.map enc) (enc x)
  obtain ⟨m, m1, m2⟩ := List.mem_map.mp (show minDD (enc x) (xs.map enc) ∈ (x :: xs).map enc from hm)
  obtain ⟨k1, k2⟩ := minDD_le (xs.map enc) (enc x)
  rw [← m2] at k1 k2 e
  refine ⟨m, m1, fun y hy => ?_, e⟩
  rw [← leE_eq, leD_eq]
  rcases List.mem_cons.mp hy with rfl | hy
  · rw [k1]; rfl
  · rw [k2 _ (List.mem_map.mpr ⟨y, hy, rfl⟩)]; rfl
theorem dMax_enc {x : α} {xs : List α} (h : Enc.n α ≤ 40) : ∃ m, m ∈ x :: xs ∧ (∀ y ∈ x :: xs, leE y m = true) ∧ dMaxA [.lst ((x :: xs).map enc)] = some (enc m) := by
  have e : dMaxA [.lst ((x :: xs).map enc)] = some (maxDD (enc x) (xs.map enc)) := if_pos (bestOk_enc (x :: xs) h)
  have hm := maxDD_mem (xs.map enc) (enc x)
  obtain ⟨m, m1, m2⟩ := List.mem_map.mp (show maxDD (enc x) (xs.map enc) ∈ (x :: xs).map enc from hm)
  obtain ⟨k1, k2⟩ := maxDD_ge (xs.map enc) (enc x)
  rw [← m2] at k1 k2 e
  refine ⟨m, m1, fun y hy => ?_, e⟩
  rw [← leE_eq, leD_eq]
  rcases List.mem_cons.mp hy with rfl | hy
  · rw [k1]; rfl
  · rw [k2 _ (List.mem_map.mpr ⟨y, hy, rfl⟩)]; rfl
end
theorem leE_int (a b : Int) : leE a b = true ↔ a ≤ b := by
  show (!decide (b < a)) = true ↔ _
  simp
theorem leE_nat (a b : Nat) : leE a b = true ↔ a ≤ b := by
  show (!decide (b < a)) = true ↔ _
  simp
/-- max, min of ints -/
theorem dMax_ints {ns : List Int} (h : ns ≠ []) : dMaxA [.lst (ns.map D.int)] = some (.int (maxI ns)) := by
  cases ns with
  | nil => exact absurd rfl h
  | cons x xs =>
    obtain ⟨m, h1, h2, h3⟩ := dMax_enc (α := Int) (x := x) (xs := xs) (by decide)
    have : m = maxI (x :: xs) := Int.le_antisymm (maxI_ge h1) ((leE_int _ _).mp (h2 _ (maxI_mem (by simp))))
    subst this
    exact h3
theorem dMin_ints {ns : List Int} (h : ns ≠ []) : dMinA [.lst (ns.map D.int)] = some (.int (minI ns)) := by
  cases ns with
  | nil => exact absurd rfl h
  | cons x xs =>
    obtain ⟨m, h1, h2, h3⟩ := dMin_enc (α := Int) (x := x) (xs := xs) (by decide)
    have : m = minI (x :: xs) := Int.le_antisymm ((leE_int _ _).mp (h2 _ (minI_mem (by simp)))) (minI_le h1)
    subst this
    exact h3
@[simp] theorem dMax_2 (i j : Int) : dMaxA [.int i, .int j] = some (.int (max i j)) := rfl
@[simp] theorem dMin_2 (i j : Int) : dMinA [.int i, .int j] = some (.int (min i j)) := rfl
/-! ### enumerate, cuts -/
theorem enumD_enc {α : Type} [Enc α] (xs : List α) : enumD (xs.map enc) = xs.zipIdx.map fun p => D.tup [.int (p.2 : Int), enc p.1] := by
  unfold enumD
  rw [List.mapIdx_eq_zipIdx_map, List.zipIdx_map, List.map_map]
  rfl
theorem cutD_to {α : Type} (xs : List α) (j : Nat) : cutD xs none (some (j : Int)) = xs.take j := by
  have h : ¬ ((j : Int) < 0) := by omega
  unfold cutD HT.sIx
  simp only [if_neg h, List.drop_zero, Int.toNat_natCast, Nat.sub_zero]
  rw [List.take_eq_take_iff]
  omega
theorem cutD_from {α : Type} (xs : List α) (j : Nat) : cutD xs (some (j : Int)) none = xs.drop j := by
  have h : ¬ ((j : Int) < 0) := by omega
  unfold cutD HT.sIx
  simp only [if_neg h, Int.toNat_natCast]
  rw [List.take_of_length_le (by rw [List.length_drop]; omega)]
  by_cases c : j ≤ xs.length
  · rw [Nat.min_eq_left c]
  · rw [Nat.min_eq_right (by omega), List.drop_length, List.drop_of_length_le (by omega)]
end VL

set_option Elab.async false
set_option linter.all false
set_option maxRecDepth 100000
/-! VL20: loops item by item; some typed data. -/
namespace VL
open PySem PySem.Spec PyProof.Rows L2
open Enc (enc)
theorem wp_cons {ft : D → VL.Env → Option VL.Env} {fb : VL.Env → Option Out} {d : D} {ds : List D} {env e1 : VL.Env} {Q : Out → Prop} (h : ft d env = some e1) (q : wp (fb e1) fun o => match o with
  | .nx e2 => wp (forD ft fb ds e2) Q
  | .ct e2 => wp (forD ft fb ds e2) Q
  | .bk e2 => Q (.nx e2)
  | .rt s e2 => Q (.rt s e2)) : wp (forD ft fb (d :: ds) env) Q := by
  obtain ⟨u, h2, h3⟩ := q
  show wp ((ft d env).bind _) Q
  rw [h]
  show wp ((fb e1).bind _) Q
  rw [h2]
  cases u with
  | nx e2 => exact h3
  | ct e2 => exact h3
  | bk e2 => exact ⟨_, rfl, h3⟩
  | rt s e2 => exact ⟨_, rfl, h3⟩
theorem wp_end {ft : D → VL.Env → Option VL.Env} {fb : VL.Env → Option Out} {env : VL.Env} {Q : Out → Prop} (q : Q (.nx env)) : wp (forD ft fb [] env) Q := ⟨_, rfl, q⟩
/-- for x in xs, typed: one invariant for what is done -/
theorem wp_each {α : Type} {ft : D → VL.Env → Option VL.Env} {fb : VL.Env → Option Out} {en : α → D} {Q : Out → Prop} (I : List α → VL.Env → Prop) : ∀ {xs done : List α} {env : VL.Env}, I done env →
    (∀ (pre : List α) (x : α) (post : List α) (e : VL.Env), done ++ xs = pre ++ x :: post → I pre e → ∃ e1, ft (en x) e = some e1 ∧ wp (fb e1) fun o => match o with
      | .nx e2 => I (pre ++ [x]) e2
      | .ct e2 => I (pre ++ [x]) e2
      | .bk e2 => Q (.nx e2)
      | .rt s e2 => Q (.rt s e2)) → (∀ e, I (done ++ xs) e → Q (.nx e)) → wp (forD ft fb (xs.map en) env) Q
  | [], done, env, h0, _, he => wp_end (he env (by rwa [List.append_nil]))
  | x :: xs, done, env, h0, hs, he => by
    obtain ⟨e1, h1, u, h2, h3⟩ := hs done x xs env rfl h0
    have hs' : ∀ (pre : List α) (y : α) (post : List α) (e : VL.Env), (done ++ [x]) ++ xs = pre ++ y :: post → I pre e → ∃ e1, ft (en y) e = some e1 ∧ wp (fb e1) fun o => match o with
      | .nx e2 => I (pre ++ [y]) e2
      | .ct e2 => I (pre ++ [y]) e2
      | .bk e2 => Q (.nx e2)
      | .rt s e2 => Q (.rt s e2) := fun pre y post e h i => hs pre y post e (by rw [← h, List.append_assoc]; rfl) i
    have he' : ∀ e, I ((done ++ [x]) ++ xs) e → Q (.nx e) := fun e i => he e (by rw [List.append_assoc] at i; exact i)
    refine wp_cons h1 ⟨u, h2, ?_⟩
    cases u with
    | nx e2 => exact wp_each I h3 hs' he'
    | ct e2 => exact wp_each I h3 hs' he'
    | bk e2 => exact h3
    | rt s e2 => exact h3
theorem dMin_tup2 (a b : Int) : dMinA [.tup [.int a, .int b]] = some (.int (min a b)) := by
  have hb : bestOk [.int a, .int b] = true := bestOk_enc (α := Int) [a, b] (by decide)
  have e : dMinA [.tup [.int a, .int b]] = some (minDD (.int a) [.int b]) := by
    show (if bestOk [.int a, .int b] = true then some (minDD (.int a) [.int b]) else none) = _
    rw [if_pos hb]
  rw [e]
  show some (if ltD (.int b) (.int a) = true then D.int b else .int a) = _
  rw [ltD_int]
  by_cases c : b < a
  · rw [if_pos (decide_eq_true c), Int.min_eq_right (by omega)]
  · rw [if_neg (by simpa using c), Int.min_eq_left (by omega)]
/-- three numbers -/
structure I3 where
  x : Int
  y : Int
  z : Int
instance : Enc I3 where
  enc p := .tup [.int p.x, .int p.y, .int p.z]
  nb _ := rfl
  inj {a b} h := by
    cases a; cases b
    simp only [D.tup.injEq, List.cons.injEq, D.int.injEq, and_true] at h
    obtain ⟨rfl, rfl, rfl⟩ := h
    rfl
  n := 1
  dp _ := Nat.le_refl _
instance : EncO I3 where
  lt a b := ltD (enc a) (enc b)
  ltOk _ _ := rfl
  al a b := by
    show PySem.W.alike (.tuple [.int a.x, .int a.y, .int a.z]) (.tuple [.int b.x, .int b.y, .int b.z]) = true
    simp [PySem.W.alike, PySem.W.alikeAll]
  ks := .inl fun _ => rfl
  nn a h := by cases h
theorem lt_I3 {a b : I3} (h : a.x < b.x) : (EncO.lt a b : Bool) = true := by
  show PySem.W.dataLt (.tuple [.int a.x, .int a.y, .int a.z]) (.tuple [.int b.x, .int b.y, .int b.z]) = true
  show PyProof.Rows.lexLt PyProof.Rows.itemOrd (PySem.W.keyToksAll _) (PySem.W.keyToksAll _) = true
  rw [PySem.W.dataLt_cons (by simp [PySem.W.alike])]
  have : PyData.eqv (.int a.x) (.int b.x) = false := by simp [PyData.eqv]; omega
  rw [this, if_neg (by decide), PySem.W.dataLt_int]
  exact decide_eq_true h
theorem leE_I3 {a b : I3} (h : leE a b = true) : a.x ≤ b.x := by
  rcases (by omega : b.x < a.x ∨ a.x ≤ b.x) with c | c
  · have := lt_I3 c
    unfold leE at h
    rw [this] at h; cases h
  · exact c
@[simp] theorem truD_lst (xs : List D) : truD (.lst xs) = some (!xs.isEmpty) := by cases xs <;> rfl
/-- a number or none -/
def oZ : Option Int → D
  | none => .non
  | some v => .int v
theorem atI_map {α : Type} [Enc α] {xs : List α} {k : Nat} {x : α} (h : xs[k]? = some x) : atI (xs.map enc) (k : Int) = some (enc x) := by
  rw [atI_nat, List.getElem?_map, h]; rfl
end VL

set_option Elab.async false
set_option linter.all false
set_option maxRecDepth 100000
/-! VL21: comprehensions that draw. -/
namespace VL
open PySem PySem.Spec PyProof.Rows L2
open Enc (enc)
theorem compM_ok {β : Type} {vs : List Nat} {ft : D → VL.Env → Option VL.Env} {fc : Mo Bool} {fe : Mo D} {en : β → D} (I : List β → VL.Env → Prop) : ∀ (xs : List D) (acc : List β) (e : VL.Env), I acc e →
    (∀ acc' d e, d ∈ xs → acc'.length < acc.length + xs.length → I acc' e → ∃ e1, ft d e = some e1 ∧ wm (fc e1) fun b e2 => if b = true then wm (fe e2) fun y e3 => ∃ z : β, y = en z ∧ I (acc' ++ [z]) (wipeE e3 vs) else I acc' (wipeE e2 vs)) →
    ∃ zs e', compM vs ft fc fe xs e = some (zs.map en, e') ∧ I (acc ++ zs) e' ∧ zs.length ≤ xs.length
  | [], acc, e, h, _ => ⟨[], e, rfl, by rwa [List.append_nil], Nat.le_refl _⟩
  | d :: ds, acc, e, h, hs => by
    obtain ⟨e1, h1, b, e2, h2, h3⟩ := hs acc d e (List.mem_cons_self ..) (by simp) h
    have hs' : ∀ (acc1 : List β), acc1.length ≤ acc.length + 1 → ∀ acc' d' e, d' ∈ ds → acc'.length < acc1.length + ds.length → I acc' e → ∃ e1, ft d' e = some e1 ∧ wm (fc e1) fun b e2 => if b = true then wm (fe e2) fun y e3 => ∃ z : β, y = en z ∧ I (acc' ++ [z]) (wipeE e3 vs) else I acc' (wipeE e2 vs) :=
      fun acc1 hl acc' d' e m l i => hs acc' d' e (List.mem_cons_of_mem _ m) (by rw [List.length_cons]; omega) i
    cases b with
    | false =>
      have h3 : I acc (wipeE e2 vs) := h3
      obtain ⟨zs, e', k1, k2, k3⟩ := compM_ok I ds acc (wipeE e2 vs) h3 (hs' acc (by omega))
      refine ⟨zs, e', ?_, k2, by rw [List.length_cons]; omega⟩
      show (ft d e).bind _ = _
      rw [h1]
      show (fc e1).bind _ = _
      rw [h2]
      exact k1
    | true =>
      obtain ⟨y, e3, h4, z, rfl, h5⟩ := (show wm (fe e2) _ from h3)
      obtain ⟨zs, e', k1, k2, k3⟩ := compM_ok I ds (acc ++ [z]) (wipeE e3 vs) h5 (hs' _ (by rw [List.length_append]; simp))
      refine ⟨z :: zs, e', ?_, by rwa [List.append_assoc] at k2, by rw [List.length_cons, List.length_cons]; omega⟩
      show (ft d e).bind _ = _
      rw [h1]
      show (fc e1).bind _ = _
      rw [h2]
      show (fe e2).bind _ = _
      rw [h4]
      show (compM vs ft fc fe ds (wipeE e3 vs)).map _ = _
      rw [k1]; rfl
theorem wm_comp {β : Type} {vs : List Nat} {fi : Mo (List D)} {ft : D → VL.Env → Option VL.Env} {fc : Mo Bool} {fe : Mo D} {env : VL.Env} {Q : D → VL.Env → Prop} {en : β → D} (I : List β → VL.Env → Prop)
    (h : wm (fi env) fun xs e => I [] (wipeE e vs) ∧ (∀ acc d e, d ∈ xs → acc.length < xs.length → I acc e → ∃ e1, ft d e = some e1 ∧ wm (fc e1) fun b e2 => if b = true then wm (fe e2) fun y e3 => ∃ z : β, y = en z ∧ I (acc ++ [z]) (wipeE e3 vs) else I acc (wipeE e2 vs)) ∧
      ∀ acc e, acc.length ≤ xs.length → I acc e → Q (.lst (acc.map en)) e) : wm (mComp vs fi ft fc fe env) Q := by
  obtain ⟨xs, e, h1, h2, h3, h4⟩ := h
  obtain ⟨zs, e', k1, k2, k3⟩ := compM_ok I xs [] (wipeE e vs) h2 (fun acc d e m l i => h3 acc d e m (by simpa using l) i)
  refine ⟨.lst (zs.map en), e', ?_, h4 zs e' k3 (by simpa using k2)⟩
  simp only [mComp, h1, Option.bind_some, k1, Option.map_some]
/-- range(n), n drawn -/
theorem wm_rng1 {f : Mo (List D)} {env : VL.Env} {Q : List D → VL.Env → Prop} (h : wm (f env) fun ds e => ∃ xs, rng1 ds = some xs ∧ Q xs e) : wm (mB f rng1 env) Q := by
  obtain ⟨ds, e, h1, xs, h2, q⟩ := h
  exact ⟨xs, e, by simp only [mB, h1, Option.bind_some, h2, Option.map_some], q⟩
theorem rangeD_len (lo : Int) (n : Nat) : (rangeD lo n).length = n := by rw [rangeD_eq, List.length_map, List.length_range]
end VL

set_option maxHeartbeats 4000000
namespace Law
open PySem PyProof.Rows L2 VL
def topS (i : Nat) : Stmt := PySem.Challenge.pw_foldwright_k60_presses_by_all_orders.main.body.getD i (.Pass ⟨0, 0, 0, 0⟩)
abbrev s_ends_of : Stmt := topS 1
abbrev s_sequence : Stmt := topS 2
abbrev s_shown : Stmt := topS 3
abbrev s_best_shown : Stmt := topS 4
abbrev s_press : Stmt := topS 5
abbrev s_press_fault : Stmt := topS 6
abbrev s_idle_time : Stmt := topS 7
abbrev s_buffer_of : Stmt := topS 8
abbrev s__law_state : Stmt := topS 10
abbrev s__law_take : Stmt := topS 11
abbrev s__law_ends : Stmt := topS 12
abbrev s__law_end : Stmt := topS 13
abbrev s__law_orders : Stmt := topS 14
abbrev s__law_shown : Stmt := topS 15
abbrev s__law_fault : Stmt := topS 16
abbrev s__law_played_right : Stmt := topS 17
abbrev s_law : Stmt := topS 18
theorem sc_ends_of : FnScope ["jobs", "order", "cut", "bend", "found", "at"] ["jobs", "order"] (defScope s_ends_of) := ⟨rfl, rfl, rfl, by decide +kernel, rfl, by decide +kernel, by decide +kernel⟩
theorem sc_sequence : FnScope ["jobs", "first", "at", "job", "second", "size"] ["jobs"] (defScope s_sequence) := ⟨rfl, rfl, rfl, by decide +kernel, rfl, by decide +kernel, by decide +kernel⟩
theorem sc_shown : FnScope ["jobs", "side", "threshold", "great", "job", "rest"] ["jobs", "side", "threshold"] (defScope s_shown) := ⟨rfl, rfl, rfl, by decide +kernel, rfl, by decide +kernel, by decide +kernel⟩
theorem sc_best_shown : FnScope ["jobs", "rows", "side", "job", "end", "threshold"] ["jobs"] (defScope s_best_shown) := ⟨rfl, rfl, rfl, by decide +kernel, rfl, by decide +kernel, by decide +kernel⟩
theorem sc_press : FnScope ["jobs", "order", "end", "row", "most", "side", "threshold"] ["jobs"] (defScope s_press) := ⟨rfl, rfl, rfl, by decide +kernel, rfl, by decide +kernel, by decide +kernel⟩
theorem sc_press_fault : FnScope ["jobs", "told", "order", "end", "side", "threshold", "row", "most"] ["jobs", "told"] (defScope s_press_fault) := ⟨rfl, rfl, rfl, by decide +kernel, rfl, by decide +kernel, by decide +kernel⟩
theorem sc_idle_time : FnScope ["jobs", "order", "rows", "start", "job"] ["jobs", "order"] (defScope s_idle_time) := ⟨rfl, rfl, rfl, by decide +kernel, rfl, by decide +kernel, by decide +kernel⟩
theorem sc_buffer_of : FnScope ["jobs", "order", "rows", "most", "place", "cut", "bend", "begun", "later", "start"] ["jobs", "order"] (defScope s_buffer_of) := ⟨rfl, rfl, rfl, by decide +kernel, rfl, by decide +kernel, by decide +kernel⟩
theorem sc__law_state : FnScope ["script", "cells", "cell"] ["script"] (defScope s__law_state) := ⟨rfl, rfl, rfl, by decide +kernel, rfl, by decide +kernel, by decide +kernel⟩
theorem sc__law_take : FnScope ["state", "most", "cells", "at", "cell", "mixed"] ["state", "most"] (defScope s__law_take) := ⟨rfl, rfl, rfl, by decide +kernel, rfl, by decide +kernel, by decide +kernel⟩
theorem sc__law_ends : FnScope ["jobs", "order", "cut", "bend", "found", "k"] ["jobs", "order"] (defScope s__law_ends) := ⟨rfl, rfl, rfl, by decide +kernel, rfl, by decide +kernel, by decide +kernel⟩
theorem sc__law_end : FnScope ["jobs", "order", "row"] ["jobs", "order"] (defScope s__law_end) := ⟨rfl, rfl, rfl, by decide +kernel, rfl, by decide +kernel, by decide +kernel⟩
theorem sc__law_orders : FnScope ["many", "found", "k", "more", "row", "j"] ["many"] (defScope s__law_orders) := ⟨rfl, rfl, rfl, by decide +kernel, rfl, by decide +kernel, by decide +kernel⟩
theorem sc__law_shown : FnScope ["jobs", "side", "threshold", "great", "job"] ["jobs", "side", "threshold"] (defScope s__law_shown) := ⟨rfl, rfl, rfl, by decide +kernel, rfl, by decide +kernel, by decide +kernel⟩
theorem sc__law_fault : FnScope ["jobs", "told", "order", "end", "side", "threshold", "most"] ["jobs", "told"] (defScope s__law_fault) := ⟨rfl, rfl, rfl, by decide +kernel, rfl, by decide +kernel, by decide +kernel⟩
theorem sc__law_played_right : FnScope ["jobs", "order", "rows", "begins", "k", "waits", "counts", "j"] ["jobs", "order"] (defScope s__law_played_right) := ⟨rfl, rfl, rfl, by decide +kernel, rfl, by decide +kernel, by decide +kernel⟩
theorem sc_law : FnScope ["script", "state", "size", "jobs", "k", "kept", "told", "orders", "ends", "order", "marks", "side", "threshold", "most", "end", "kind", "other"] ["script"] (defScope s_law) := ⟨rfl, rfl, rfl, by decide +kernel, rfl, by decide +kernel, by decide +kernel⟩
def d_ends_of : VL.Env → Option Out :=
  (sq (sSet 2 (dK (.int 0)))
    (sq (sSet 3 (dK (.int 0)))
    (sq (sSetO 4 (oL (dLst a0)))
    (sq (sFor (iSq (dN 1)) (gN 5) (sq (sSet 2 (b2 (dN 2) (b2 (b2 (dN 0) (dN 5) dIx) (dK (.int 0)) dIx) dAdd))
    (sq (sSet 3 (b2 (cB (aCons (dN 3) (aCons (dN 2) a0)) dMaxA) (b2 (b2 (dN 0) (dN 5) dIx) (dK (.int 1)) dIx) dAdd))
    (sApp 4 (oFz (dTup (aCons (dN 2) (aCons (dN 3) a0))))))))
    (sRetN 4)))))
def F_ends_of : List D → Option S := fnS 2 6 d_ends_of
def d_sequence : VL.Env → Option Out :=
  (sq (sSet 1 (fL (cL (aCons (fL (dComp [2, 3] (iEn (dN 0)) (gT (gsC (gN 2) (gsC (gN 3) gs0))) (tb (b2 (b2 (dN 3) (dK (.int 0)) dIx) (b2 (dN 3) (dK (.int 1)) dIx) dLe)) (dTup (aCons (b2 (dN 3) (dK (.int 0)) dIx) (aCons (dN 2) a0))))) a0) dSorted)))
    (sq (sSet 4 (fL (cL (aCons (fL (dComp [2, 3] (iEn (dN 0)) (gT (gsC (gN 2) (gsC (gN 3) gs0))) (tb (b2 (b2 (dN 3) (dK (.int 0)) dIx) (b2 (dN 3) (dK (.int 1)) dIx) dGt)) (dTup (aCons (b2 (dK (.int 0)) (b2 (dN 3) (dK (.int 1)) dIx) dSub) (aCons (dN 2) a0))))) a0) dSorted)))
    (sRet (b2 (fL (dComp [5, 2] (iSq (dN 1)) (gT (gsC (gN 5) (gsC (gN 2) gs0))) cY (dN 2))) (fL (dComp [5, 2] (iSq (dN 4)) (gT (gsC (gN 5) (gsC (gN 2) gs0))) cY (dN 2))) dAdd))))
def F_sequence : List D → Option S := fnS 1 6 d_sequence
def d_shown : VL.Env → Option Out :=
  (sq (sSet 3 (fL (dComp [4] (iSq (dN 0)) (gN 4) (tb (b2 (b2 (dN 4) (dN 1) dIx) (dN 2) dGe)) (dN 4))))
    (sq (sIf (tNot1 (dTr (dN 3))) (sRet (dK .non)) sNx)
    (sq (sSet 5 (fL (dComp [4] (iSq (dN 0)) (gN 4) (tb (b2 (b2 (dN 4) (dN 1) dIx) (dN 2) dLt)) (cB (aCons (dN 4) a0) dMinA))))
    (sRet (b2 (b2 (dN 2) (cB (aCons (fL (dComp [4] (iSq (dN 3)) (gN 4) cY (b2 (dN 4) (b2 (dK (.int 1)) (dN 1) dSub) dIx))) a0) dSum) dAdd) (cB (aCons (dN 5) a0) dSum) dAdd)))))
def F_shown : List D → Option S := fnS 3 6 d_shown
def d_best_shown : VL.Env → Option Out :=
  (sq (sSetO 1 (oL (dLst a0)))
    (sq (sFor (iSq (dTup (aCons (dK (.int 0)) (aCons (dK (.int 1)) a0)))) (gN 2) (sFor (iSq (dN 0)) (gN 3) (sApp 1 (oFz (dTup (aCons (cF (aCons (dN 0) (aCons (dN 2) (aCons (b2 (dN 3) (dN 2) dIx) a0))) F_shown) (aCons (b2 (dK (.int 0)) (dN 2) dSub) (aCons (b2 (dK (.int 0)) (b2 (dN 3) (dN 2) dIx) dSub) a0))))))))
    (sq (sIf (tNot1 (dTr (dW 1))) (sRet (dTup (aCons (dK (.int 0)) (aCons (dK (.int 0)) (aCons (dK (.int 0)) a0))))) sNx)
    (sq (dFz 1 (sTg (gT (gsC (gN 4) (gsC (gN 2) (gsC (gN 5) gs0)))) (cB (aCons (dN 1) a0) dMaxA)))
    (sRet (dTup (aCons (dN 4) (aCons (b2 (dK (.int 0)) (dN 2) dSub) (aCons (b2 (dK (.int 0)) (dN 5) dSub) a0)))))))))
def F_best_shown : List D → Option S := fnS 1 6 d_best_shown
def d_press : VL.Env → Option Out :=
  (sq (sSet 1 (cF (aCons (dN 0) a0) F_sequence))
    (sq (sSet 2 (cB (aCons (b2 (fL (dComp [3] (iSq (cF (aCons (dN 0) (aCons (dN 1) a0)) F_ends_of)) (gN 3) cY (b2 (dN 3) (dK (.int 1)) dIx))) (fL (dLst (aCons (dK (.int 0)) a0))) dAdd) a0) dMaxA))
    (sq (sTg (gT (gsC (gN 4) (gsC (gN 5) (gsC (gN 6) gs0)))) (cF (aCons (dN 0) a0) F_best_shown))
    (sRet (dTup (aCons (dN 1) (aCons (dN 2) (aCons (dN 5) (aCons (dN 6) a0)))))))))
def F_press : List D → Option S := fnS 1 7 d_press
def d_press_fault : VL.Env → Option Out :=
  (sq (sTg (gT (gsC (gN 2) (gsC (gN 3) (gsC (gN 4) (gsC (gN 5) gs0))))) (dN 1))
    (sq (sIf (tb (b2 (fL (cL (aCons (dN 2) a0) dSorted)) (fL (dRgL (cB (aCons (dN 0) a0) dLen))) dNe)) (sRet (dTup (aCons (dK (.str "order")) a0))) sNx)
    (sq (sIf (tb (b2 (cB (aCons (b2 (fL (dComp [6] (iSq (cF (aCons (dN 0) (aCons (dN 2) a0)) F_ends_of)) (gN 6) cY (b2 (dN 6) (dK (.int 1)) dIx))) (fL (dLst (aCons (dK (.int 0)) a0))) dAdd) a0) dMaxA) (dN 3) dNe)) (sRet (dTup (aCons (dK (.str "end")) a0))) sNx)
    (sq (sIf (tOr2 (tb (b2 (dN 4) (dTup (aCons (dK (.int 0)) (aCons (dK (.int 1)) a0))) dNotIn)) (tb (b2 (dN 5) (dK (.int 0)) dLt))) (sRet (dTup (aCons (dK (.str "side")) a0))) sNx)
    (sq (sIf (tNot1 (dTr (dN 0))) (sRet (dK .non)) sNx)
    (sq (sSet 7 (cF (aCons (dN 0) (aCons (dN 4) (aCons (dN 5) a0))) F_shown))
    (sRet (vIf (tAnd2 (tb (b2 (dN 7) (dK .non) dIsNot)) (tb (b2 (dN 7) (dN 3) dGe))) (dK .non) (dTup (aCons (dK (.str "threshold")) a0))))))))))
def F_press_fault : List D → Option S := fnS 2 8 d_press_fault
def d_idle_time : VL.Env → Option Out :=
  (sq (sSet 2 (cF (aCons (dN 0) (aCons (dN 1) a0)) F_ends_of))
    (sq (sIf (tNot1 (dTr (dN 2))) (sRet (dK (.int 0))) sNx)
    (sq (sSet 3 (b2 (b2 (b2 (dN 2) (dK (.int 0)) dIx) (dK (.int 1)) dIx) (b2 (b2 (dN 0) (b2 (dN 1) (dK (.int 0)) dIx) dIx) (dK (.int 1)) dIx) dSub))
    (sRet (b2 (b2 (b2 (b2 (dN 2) (dNeg1 (dK (.int 1))) dIx) (dK (.int 1)) dIx) (dN 3) dSub) (cB (aCons (fL (dComp [4] (iSq (dN 0)) (gN 4) cY (b2 (dN 4) (dK (.int 1)) dIx))) a0) dSum) dSub)))))
def F_idle_time : List D → Option S := fnS 2 5 d_idle_time
def d_buffer_of : VL.Env → Option Out :=
  (sq (sSet 2 (cF (aCons (dN 0) (aCons (dN 1) a0)) F_ends_of))
    (sq (sSet 3 (dK (.int 0)))
    (sq (sFor (iEn (dN 2)) (gT (gsC (gN 4) (gsC (gT (gsC (gN 5) (gsC (gN 6) gs0))) gs0))) (sq (sSet 7 (fL (dComp [8] (iR1 (aCons (b2 (dN 4) (dK (.int 1)) dAdd) a0)) (gN 8) cY (b2 (b2 (b2 (dN 2) (dN 8) dIx) (dK (.int 1)) dIx) (b2 (b2 (dN 0) (b2 (dN 1) (dN 8) dIx) dIx) (dK (.int 1)) dIx) dSub))))
    (sSet 3 (cB (aCons (dN 3) (aCons (cB (aCons (fL (dComp [9] (iSq (dN 7)) (gN 9) (tb (b2 (dN 9) (dN 5) dGt)) (dN 9))) a0) dLen) a0)) dMaxA))))
    (sRet (dN 3)))))
def F_buffer_of : List D → Option S := fnS 2 10 d_buffer_of
def d__law_ends : VL.Env → Option Out :=
  (sq (sTg (gT (gsC (gN 2) (gsC (gN 3) gs0))) (dTup (aCons (dK (.int 0)) (aCons (dK (.int 0)) a0))))
    (sq (sSetO 4 (oL (dLst a0)))
    (sq (sFor (iSq (dN 1)) (gN 5) (sq (sSet 2 (b2 (dN 2) (b2 (b2 (dN 0) (dN 5) dIx) (dK (.int 0)) dIx) dAdd))
    (sq (sSet 3 (b2 (cB (aCons (dN 2) (aCons (dN 3) a0)) dMaxA) (b2 (b2 (dN 0) (dN 5) dIx) (dK (.int 1)) dIx) dAdd))
    (sApp 4 (oFz (dTup (aCons (dN 2) (aCons (dN 3) a0))))))))
    (sRetN 4))))
def F__law_ends : List D → Option S := fnS 2 6 d__law_ends
def d__law_end : VL.Env → Option Out :=
  (sRet (cB (aCons (b2 (fL (dLst (aCons (dK (.int 0)) a0))) (fL (dComp [2] (iSq (cF (aCons (dN 0) (aCons (dN 1) a0)) F__law_ends)) (gN 2) cY (b2 (dN 2) (dK (.int 1)) dIx))) dAdd) a0) dMaxA))
def F__law_end : List D → Option S := fnS 2 3 d__law_end
def d__law_orders : VL.Env → Option Out :=
  (sq (sSet 1 (fL (dLst (aCons (fL (dLst a0)) a0))))
    (sq (sFor (iR1 (aCons (dN 0) a0)) (gN 2) (sq (sSetO 3 (oL (dLst a0)))
    (sq (sFor (iSq (dN 1)) (gN 4) (sExt 3 (fL (dComp [5] (iR1 (aCons (b2 (cB (aCons (dN 4) a0) dLen) (dK (.int 1)) dAdd) a0)) (gN 5) cY (b2 (b2 (fL (dCut (dN 4) sl0 (sl1 (dN 5)))) (fL (dLst (aCons (dN 2) a0))) dAdd) (fL (dCut (dN 4) (sl1 (dN 5)) sl0)) dAdd)))))
    (dFz 3 (sSet 1 (dN 3))))))
    (sRet (dN 1))))
def F__law_orders : List D → Option S := fnS 1 6 d__law_orders
def d__law_shown : VL.Env → Option Out :=
  (sq (sSet 3 (fL (dComp [4] (iSq (dN 0)) (gN 4) (tb (b2 (b2 (dN 4) (dN 1) dIx) (dN 2) dGe)) (dN 4))))
    (sq (sIf (tb (b2 (cB (aCons (dN 3) a0) dLen) (dK (.int 0)) dEq)) (sRet (dK .non)) sNx)
    (sRet (b2 (b2 (dN 2) (cB (aCons (fL (dComp [4] (iSq (dN 3)) (gN 4) cY (b2 (dN 4) (b2 (dK (.int 1)) (dN 1) dSub) dIx))) a0) dSum) dAdd) (cB (aCons (fL (dComp [4] (iSq (dN 0)) (gN 4) (tb (b2 (b2 (dN 4) (dN 1) dIx) (dN 2) dLt)) (cB (aCons (dN 4) a0) dMinA))) a0) dSum) dAdd))))
def F__law_shown : List D → Option S := fnS 3 5 d__law_shown
def d__law_fault : VL.Env → Option Out :=
  (sq (sTg (gT (gsC (gN 2) (gsC (gN 3) (gsC (gN 4) (gsC (gN 5) gs0))))) (dN 1))
    (sq (sIf (tb (b2 (fL (cL (aCons (dN 2) a0) dSorted)) (fL (dRgL (cB (aCons (dN 0) a0) dLen))) dNe)) (sRet (dTup (aCons (dK (.str "order")) a0))) sNx)
    (sq (sIf (tb (b2 (cF (aCons (dN 0) (aCons (dN 2) a0)) F__law_end) (dN 3) dNe)) (sRet (dTup (aCons (dK (.str "end")) a0))) sNx)
    (sq (sIf (tOr2 (tb (b2 (dN 4) (fL (dLst (aCons (dK (.int 0)) (aCons (dK (.int 1)) a0)))) dNotIn)) (tb (b2 (dN 5) (dK (.int 0)) dLt))) (sRet (dTup (aCons (dK (.str "side")) a0))) sNx)
    (sq (sSet 6 (cF (aCons (dN 0) (aCons (dN 4) (aCons (dN 5) a0))) F__law_shown))
    (sRet (vIf (tOr2 (tb (b2 (cB (aCons (dN 0) a0) dLen) (dK (.int 0)) dEq)) (tAnd2 (tb (b2 (dN 6) (dK .non) dIsNot)) (tb (b2 (dN 6) (dN 3) dGe)))) (dK .non) (dTup (aCons (dK (.str "threshold")) a0)))))))))
def F__law_fault : List D → Option S := fnS 2 7 d__law_fault
def d__law_played_right : VL.Env → Option Out :=
  (sq (sSet 2 (cF (aCons (dN 0) (aCons (dN 1) a0)) F__law_ends))
    (sq (sSet 3 (fL (dComp [4] (iR1 (aCons (cB (aCons (dN 2) a0) dLen) a0)) (gN 4) cY (b2 (b2 (b2 (dN 2) (dN 4) dIx) (dK (.int 1)) dIx) (b2 (b2 (dN 0) (b2 (dN 1) (dN 4) dIx) dIx) (dK (.int 1)) dIx) dSub))))
    (sq (sSet 5 (dK (.int 0)))
    (sq (sFor (iR2 (aCons (dK (.int 1)) (aCons (cB (aCons (dN 2) a0) dLen) a0))) (gN 4) (sSet 5 (b2 (b2 (dN 5) (b2 (dN 3) (dN 4) dIx) dAdd) (b2 (b2 (dN 2) (b2 (dN 4) (dK (.int 1)) dSub) dIx) (dK (.int 1)) dIx) dSub)))
    (sq (sSet 6 (fL (dComp [4] (iR1 (aCons (cB (aCons (dN 2) a0) dLen) a0)) (gN 4) cY (cB (aCons (fL (dComp [7] (iR1 (aCons (b2 (dN 4) (dK (.int 1)) dAdd) a0)) (gN 7) (tb (b2 (b2 (dN 3) (dN 7) dIx) (b2 (b2 (dN 2) (dN 4) dIx) (dK (.int 0)) dIx) dGt)) (dN 7))) a0) dLen))))
    (sRet (vAnd2 (b2 (cF (aCons (dN 0) (aCons (dN 1) a0)) F_idle_time) (dN 5) dEq) (b2 (cF (aCons (dN 0) (aCons (dN 1) a0)) F_buffer_of) (cB (aCons (b2 (fL (dLst (aCons (dK (.int 0)) a0))) (dN 6) dAdd) a0) dMaxA) dEq))))))))
def F__law_played_right : List D → Option S := fnS 2 8 d__law_played_right
def d_law : VL.Env → Option Out :=
  (sq (sSetM 2 (m2 (pur (fL (dLst (aCons (dK (.int 3)) (aCons (dK (.int 12)) a0))))) (mI 1 (maC (pur (dK (.int 2))) mA0) takeS) dIx))
    (sq (sSetM 3 (mComp [4] (mB (maC (mI 1 (maC (pur (dK (.int 7))) mA0) takeS) mA0) rng1) (gN 4) mY (mTup (maC (mI 1 (maC (pur (dN 2)) mA0) takeS) (maC (mI 1 (maC (pur (dN 2)) mA0) takeS) mA0)))))
    (sq (sSet 5 (fL (cL (aCons (dN 3) a0) dList)))
    (sq (sSet 6 (cF (aCons (dN 3) a0) F_press))
    (sq (sSet 7 (cF (aCons (cB (aCons (dN 3) a0) dLen) a0) F__law_orders))
    (sq (sSet 8 (fL (dComp [9] (iSq (dN 7)) (gN 9) cY (cF (aCons (dN 3) (aCons (dN 9) a0)) F__law_end))))
    (sq (sIf (tOr2 (tNot1 (dTr (dIsi "tuple" (dN 6)))) (tOr2 (tb (b2 (b2 (dN 6) (dK (.int 1)) dIx) (cB (aCons (dN 8) a0) dMinA) dNe)) (tOr2 (tb (b2 (cF (aCons (dN 3) (aCons (dN 6) a0)) F__law_fault) (dK .non) dIsNot)) (tb (b2 (cF (aCons (dN 3) (aCons (dN 6) a0)) F_press_fault) (dK .non) dIsNot))))) (sRet (dK (.bl false))) sNx)
    (sq (sSetO 10 (oL (dLst a0)))
    (sq (sFor (iR1 (aCons (dK (.int 2)) a0)) (gN 11) (sFor (iR1 (aCons (b2 (dN 2) (dK (.int 1)) dAdd) a0)) (gN 12) (sq (sIf (tb (b2 (cF (aCons (dN 3) (aCons (dN 11) (aCons (dN 12) a0))) F_shown) (cF (aCons (dN 3) (aCons (dN 11) (aCons (dN 12) a0))) F__law_shown) dNe)) (sRet (dK (.bl false))) sNx)
    (sq (sSet 13 (cF (aCons (dN 3) (aCons (dN 11) (aCons (dN 12) a0))) F__law_shown))
    (sExt 10 (vIf (tb (b2 (dN 13) (dK .non) dIsNot)) (fL (dLst (aCons (dN 13) a0))) (fL (dLst a0))))))))
    (sq (sIf (tAnd2 (tb (b2 (cB (aCons (dN 3) a0) dLen) (dK (.int 0)) dGt)) (tb (b2 (cB (aCons (dW 10) a0) dMax) (cB (aCons (dN 8) a0) dMinA) dNe))) (sRet (dK (.bl false))) sNx)
    (sq (sFor (iR1 (aCons (dK (.int 3)) a0)) (gN 4) (sq (sSetM 9 (m2 (pur (dN 7)) (mI 1 (maC (pur (cB (aCons (dN 7) a0) dLen)) mA0) takeS) dIx))
    (sIf (tOr2 (tb (b2 (cF (aCons (dN 3) (aCons (dN 9) a0)) F_ends_of) (cF (aCons (dN 3) (aCons (dN 9) a0)) F__law_ends) dNe)) (tNot1 (dTr (cF (aCons (dN 3) (aCons (dN 9) a0)) F__law_played_right)))) (sRet (dK (.bl false))) sNx)))
    (sq (sFor (iR1 (aCons (cB (aCons (dK (.int 30)) (aCons (cB (aCons (dN 7) a0) dLen) a0)) dMinA) a0)) (gN 4) (sIf (tb (b2 (cF (aCons (dN 3) (aCons (dTup (aCons (b2 (dN 7) (dN 4) dIx) (aCons (b2 (dN 8) (dN 4) dIx) (aCons (b2 (dN 6) (dK (.int 2)) dIx) (aCons (b2 (dN 6) (dK (.int 3)) dIx) a0))))) a0)) F_press_fault) (cF (aCons (dN 3) (aCons (dTup (aCons (b2 (dN 7) (dN 4) dIx) (aCons (b2 (dN 8) (dN 4) dIx) (aCons (b2 (dN 6) (dK (.int 2)) dIx) (aCons (b2 (dN 6) (dK (.int 3)) dIx) a0))))) a0)) F__law_fault) dNe)) (sRet (dK (.bl false))) sNx))
    (sq (sFor (iR1 (aCons (dK (.int 8)) a0)) (gN 4) (sq (sTg (gT (gsC (gN 9) (gsC (gN 14) (gsC (gN 11) (gsC (gN 12) gs0))))) (dTup (aCons (fL (cL (aCons (b2 (dN 6) (dK (.int 0)) dIx) a0) dList)) (aCons (b2 (dN 6) (dK (.int 1)) dIx) (aCons (b2 (dN 6) (dK (.int 2)) dIx) (aCons (b2 (dN 6) (dK (.int 3)) dIx) a0))))))
    (sq (sSetM 15 (mI 1 (maC (pur (dK (.int 5))) mA0) takeS))
    (sq (sIf (tb (b2 (dN 15) (dK (.int 0)) dEq)) (sSetM 9 (mIf (mtb (m2 (mI 1 (maC (pur (dK (.int 2))) mA0) takeS) (pur (dK (.int 0))) dEq)) (pur (fL (dCut (dN 9) (sl1 (dK (.int 1))) sl0))) (pur (b2 (dN 9) (fL (dLst (aCons (dK (.int 0)) a0))) dAdd)))) (sIf (tb (b2 (dN 15) (dK (.int 1)) dEq)) (sSetM 14 (m2 (pur (dN 14)) (m2 (pur (fL (dLst (aCons (dK (.int 1)) (aCons (b2 (dK (.int 0)) (dK (.int 1)) dSub) a0))))) (mI 1 (maC (pur (dK (.int 2))) mA0) takeS) dIx) dAdd)) (sIf (tb (b2 (dN 15) (dK (.int 2)) dEq)) (sSetM 11 (m2 (pur (fL (dLst (aCons (b2 (dK (.int 1)) (dN 11) dSub) (aCons (dK (.int 2)) (aCons (b2 (dK (.int 0)) (dK (.int 1)) dSub) a0)))))) (mI 1 (maC (pur (dK (.int 3))) mA0) takeS) dIx)) (sSetM 12 (m2 (pur (fL (dLst (aCons (b2 (dN 12) (dK (.int 1)) dAdd) (aCons (b2 (dN 12) (dK (.int 1)) dSub) (aCons (dK (.int 0)) (aCons (dK (.int 99)) a0))))))) (mI 1 (maC (pur (dK (.int 4))) mA0) takeS) dIx)))))
    (sq (sSet 16 (dTup (aCons (dN 9) (aCons (dN 14) (aCons (dN 11) (aCons (dN 12) a0))))))
    (sIf (tb (b2 (cF (aCons (dN 3) (aCons (dN 16) a0)) F_press_fault) (cF (aCons (dN 3) (aCons (dN 16) a0)) F__law_fault) dNe)) (sRet (dK (.bl false))) sNx))))))
    (sRet (b2 (dN 3) (dN 5) dEq)))))))))))))))
/-- what the top has written -/
structure TX (K : PySem.W.Frag) (mg : Str → Option Value) (fa : Nat → Addr) (fda : Nat → FuncData) : Prop where
  b_max : mg "max" = none
  b_enumerate : mg "enumerate" = none
  b_sorted : mg "sorted" = none
  b_min : mg "min" = none
  b_sum : mg "sum" = none
  b_len : mg "len" = none
  b_list : mg "list" = none
  b_range : mg "range" = none
  b_isinstance : mg "isinstance" = none
  b_tuple : mg "tuple" = none
  b_abs : mg "abs" = none
  b_int : mg "int" = none
  d_ends_of : Df K mg "ends_of" s_ends_of ["jobs", "order"] (fa 0) (fda 0)
  d_sequence : Df K mg "sequence" s_sequence ["jobs"] (fa 1) (fda 1)
  d_shown : Df K mg "shown" s_shown ["jobs", "side", "threshold"] (fa 2) (fda 2)
  d_best_shown : Df K mg "best_shown" s_best_shown ["jobs"] (fa 3) (fda 3)
  d_press : Df K mg "press" s_press ["jobs"] (fa 4) (fda 4)
  d_press_fault : Df K mg "press_fault" s_press_fault ["jobs", "told"] (fa 5) (fda 5)
  d_idle_time : Df K mg "idle_time" s_idle_time ["jobs", "order"] (fa 6) (fda 6)
  d_buffer_of : Df K mg "buffer_of" s_buffer_of ["jobs", "order"] (fa 7) (fda 7)
  d__law_state : Df K mg "_law_state" s__law_state ["script"] (fa 8) (fda 8)
  d__law_take : Df K mg "_law_take" s__law_take ["state", "most"] (fa 9) (fda 9)
  d__law_ends : Df K mg "_law_ends" s__law_ends ["jobs", "order"] (fa 10) (fda 10)
  d__law_end : Df K mg "_law_end" s__law_end ["jobs", "order"] (fa 11) (fda 11)
  d__law_orders : Df K mg "_law_orders" s__law_orders ["many"] (fa 12) (fda 12)
  d__law_shown : Df K mg "_law_shown" s__law_shown ["jobs", "side", "threshold"] (fa 13) (fda 13)
  d__law_fault : Df K mg "_law_fault" s__law_fault ["jobs", "told"] (fa 14) (fda 14)
  d__law_played_right : Df K mg "_law_played_right" s__law_played_right ["jobs", "order"] (fa 15) (fda 15)
  d_law : Df K mg "law" s_law ["script"] (fa 16) (fda 16)

open Enc (enc)
/-! ### two presses in a row: plain -/
abbrev Job := Int × Int
def mkE : Int → Int → List Job → Int
  | _, d, [] => d
  | c, d, j :: js => mkE (c + j.1) (max d (c + j.1) + j.2) js
def sA (js : List Job) : Int := (js.map (·.1)).sum
def sB (js : List Job) : Int := (js.map (·.2)).sum
theorem mk_ge_d : ∀ (js : List Job) (c d : Int), d + sB js ≤ mkE c d js
  | [], c, d => by simp [sB, mkE]
  | j :: js, c, d => by
    have := mk_ge_d js (c + j.1) (max d (c + j.1) + j.2)
    show d + (j.2 + sB js) ≤ mkE (c + j.1) (max d (c + j.1) + j.2) js
    omega
theorem mk_ge_split : ∀ (pre : List Job) (j : Job) (post : List Job) (c d : Int), c + sA pre + j.1 + j.2 + sB post ≤ mkE c d (pre ++ j :: post)
  | [], j, post, c, d => by
    have := mk_ge_d post (c + j.1) (max d (c + j.1) + j.2)
    show c + 0 + j.1 + j.2 + sB post ≤ mkE (c + j.1) (max d (c + j.1) + j.2) post
    omega
  | x :: pre, j, post, c, d => by
    have := mk_ge_split pre j post (c + x.1) (max d (c + x.1) + x.2)
    show c + (x.1 + sA pre) + j.1 + j.2 + sB post ≤ mkE (c + x.1) (max d (c + x.1) + x.2) (pre ++ j :: post)
    omega
theorem mk_split : ∀ (js : List Job) (c d : Int), mkE c d js = d + sB js ∨ ∃ pre j post, js = pre ++ j :: post ∧ mkE c d js = c + sA pre + j.1 + j.2 + sB post
  | [], c, d => .inl (by simp [sB, mkE])
  | j :: js, c, d => by
    have e : mkE c d (j :: js) = mkE (c + j.1) (max d (c + j.1) + j.2) js := rfl
    rcases mk_split js (c + j.1) (max d (c + j.1) + j.2) with h | ⟨pre, k, post, h1, h2⟩
    · by_cases q : d ≤ c + j.1
      · refine .inr ⟨[], j, js, rfl, ?_⟩
        rw [e, h]
        show max d (c + j.1) + j.2 + sB js = c + 0 + j.1 + j.2 + sB js
        omega
      · refine .inl ?_
        rw [e, h]
        show max d (c + j.1) + j.2 + sB js = d + (j.2 + sB js)
        omega
    · refine .inr ⟨j :: pre, k, post, by rw [h1]; rfl, ?_⟩
      rw [e, h2]
      show c + j.1 + sA pre + k.1 + k.2 + sB post = c + (j.1 + sA pre) + k.1 + k.2 + sB post
      omega
def pk (s : Nat) (j : Job) : Int := if s = 0 then j.1 else j.2
def ctr (s : Nat) (t : Int) (j : Job) : Int := if t ≤ pk s j then pk (1 - s) j else min j.1 j.2
def shownT (J : List Job) (s : Nat) (t : Int) : Option Int := if (J.any fun j => decide (t ≤ pk s j)) = true then some (t + (J.map (ctr s t)).sum) else none
theorem perm_sum {l l' : List Int} (h : l.Perm l') : l.sum = l'.sum := by
  induction h with
  | nil => rfl
  | cons x _ ih => rw [List.sum_cons, List.sum_cons, ih]
  | swap x y l => simp only [List.sum_cons]; omega
  | trans _ _ h1 h2 => rw [h1, h2]
theorem perm_any {α : Type} {l l' : List α} (h : l.Perm l') (p : α → Bool) : l.any p = l'.any p := by
  rw [Bool.eq_iff_iff, List.any_eq_true, List.any_eq_true]
  exact ⟨fun ⟨x, m, e⟩ => ⟨x, h.mem_iff.mp m, e⟩, fun ⟨x, m, e⟩ => ⟨x, h.mem_iff.mpr m, e⟩⟩
theorem shown_perm {J js : List Job} (h : js.Perm J) (s : Nat) (t : Int) : shownT js s t = shownT J s t := by
  unfold shownT
  rw [perm_any h, perm_sum (h.map (ctr s t))]
theorem sum_le {α : Type} {f g : α → Int} : ∀ {l : List α}, (∀ x ∈ l, f x ≤ g x) → (l.map f).sum ≤ (l.map g).sum
  | [], _ => Int.le_refl _
  | x :: l, h => by
    have h1 := h x (List.mem_cons_self ..)
    have h2 := sum_le (l := l) fun y m => h y (List.mem_cons_of_mem _ m)
    simp only [List.map_cons, List.sum_cons]
    omega
theorem first_of {α : Type} {p : α → Bool} : ∀ {l : List α}, l.any p = true → ∃ pre x post, l = pre ++ x :: post ∧ p x = true ∧ ∀ y ∈ pre, p y = false
  | [], h => by cases h
  | x :: l, h => by
    cases c : p x
    · have h' : l.any p = true := by
        rw [List.any_cons, c] at h
        exact h
      obtain ⟨pre, y, post, h1, h2, h3⟩ := first_of h'
      refine ⟨x :: pre, y, post, by rw [h1]; rfl, h2, fun z m => ?_⟩
      rcases List.mem_cons.mp m with rfl | m
      · exact c
      · exact h3 z m
    · exact ⟨[], x, l, rfl, c, by simp⟩
theorem last_of {α : Type} {p : α → Bool} : ∀ {l : List α}, l.any p = true → ∃ pre x post, l = pre ++ x :: post ∧ p x = true ∧ ∀ y ∈ post, p y = false
  | [], h => by cases h
  | x :: l, h => by
    cases c : l.any p
    · have h' : p x = true := by
        rw [List.any_cons, c, Bool.or_false] at h
        exact h
      refine ⟨[], x, l, rfl, h', fun y m => ?_⟩
      cases q : p y
      · rfl
      · have := List.any_eq_true.mpr ⟨y, m, q⟩
        rw [c] at this; cases this
    · obtain ⟨pre, y, post, h1, h2, h3⟩ := last_of c
      exact ⟨x :: pre, y, post, by rw [h1]; rfl, h2, h3⟩
/-- no order is done earlier than what is shown -/
theorem shown_le {J js : List Job} (hp : js.Perm J) {s : Nat} (hs : s < 2) {t v : Int} (h : shownT J s t = some v) : v ≤ mkE 0 0 js := by
  rw [← shown_perm hp] at h
  unfold shownT at h
  split at h
  · rename_i hany
    have hv := Option.some.inj h
    have : s = 0 ∨ s = 1 := by omega
    rcases this with rfl | rfl
    · obtain ⟨pre, j, post, e, hj, hpre⟩ := first_of hany
      have := mk_ge_split pre j post 0 0
      rw [← e] at this
      refine Int.le_trans ?_ this
      rw [← hv, e, List.map_append, List.sum_append, List.map_cons, List.sum_cons]
      have hj : t ≤ j.1 := of_decide_eq_true hj
      have k1 : (pre.map (ctr 0 t)).sum ≤ sA pre := sum_le fun x m => by
        have := of_decide_eq_false (hpre x m)
        unfold ctr
        rw [if_neg this]; exact Int.min_le_left _ _
      have k2 : (post.map (ctr 0 t)).sum ≤ sB post := sum_le fun x m => by
        unfold ctr
        split
        · exact Int.le_refl _
        · exact Int.min_le_right _ _
      have k3 : ctr 0 t j = j.2 := if_pos hj
      omega
    · obtain ⟨pre, j, post, e, hj, hpost⟩ := last_of hany
      have := mk_ge_split pre j post 0 0
      rw [← e] at this
      refine Int.le_trans ?_ this
      rw [← hv, e, List.map_append, List.sum_append, List.map_cons, List.sum_cons]
      have hj : t ≤ j.2 := of_decide_eq_true hj
      have k1 : (pre.map (ctr 1 t)).sum ≤ sA pre := sum_le fun x m => by
        unfold ctr
        split
        · exact Int.le_refl _
        · exact Int.min_le_left _ _
      have k2 : (post.map (ctr 1 t)).sum ≤ sB post := sum_le fun x m => by
        have := of_decide_eq_false (hpost x m)
        unfold ctr
        rw [if_neg this]; exact Int.min_le_right _ _
      have k3 : ctr 1 t j = j.1 := if_pos hj
      omega
  · cases h
/-- how two follow one another in the sequence -/
def Jn (x y : Job) : Prop := (y.1 ≤ y.2 → x.1 ≤ x.2 ∧ x.1 ≤ y.1) ∧ (x.2 < x.1 → y.2 < y.1 ∧ y.2 ≤ x.2)
/-- .. whose end is shown -/
theorem shown_of {js : List Job} (hn : ∀ x ∈ js, 0 ≤ x.1 ∧ 0 ≤ x.2) (hj : js.Pairwise Jn) (he : js ≠ []) : ∃ s, s < 2 ∧ ∃ j ∈ js, ∃ v, shownT js s (pk s j) = some v ∧ mkE 0 0 js ≤ v := by
  obtain ⟨pre, j, post, e, hm⟩ : ∃ pre j post, js = pre ++ j :: post ∧ mkE 0 0 js = 0 + sA pre + j.1 + j.2 + sB post := by
    rcases mk_split js 0 0 with h | h
    · cases js with
      | nil => exact absurd rfl he
      | cons x js =>
        refine ⟨[], x, js, rfl, ?_⟩
        have h1 := mk_ge_split [] x js 0 0
        have h2 := hn x (List.mem_cons_self ..)
        rw [List.nil_append, h] at h1
        rw [h]
        show 0 + (x.2 + sB js) = 0 + 0 + x.1 + x.2 + sB js
        have h1 : 0 + 0 + x.1 + x.2 + sB js ≤ 0 + (x.2 + sB js) := h1
        omega
    · exact h
  have hjm : j ∈ js := by rw [e]; simp
  have hpre : ∀ x ∈ pre, Jn x j := fun x m => by
    rw [e] at hj
    exact (List.pairwise_append.mp hj).2.2 x m j (List.mem_cons_self ..)
  have hpost : ∀ y ∈ post, Jn j y := fun y m => by
    rw [e] at hj
    exact (List.pairwise_cons.mp (List.pairwise_append.mp hj).2.1).1 y m
  have hval : ∀ s, pk s j ≤ pk s j → shownT js s (pk s j) = some (pk s j + ((pre.map (ctr s (pk s j))).sum + (ctr s (pk s j) j + (post.map (ctr s (pk s j))).sum))) := by
    intro s _
    unfold shownT
    rw [if_pos (List.any_eq_true.mpr ⟨j, hjm, decide_eq_true (Int.le_refl _)⟩), e, List.map_append, List.sum_append, List.map_cons, List.sum_cons]
  by_cases c : j.1 ≤ j.2
  · refine ⟨0, by decide, j, hjm, _, hval 0 (Int.le_refl _), ?_⟩
    have k1 : sA pre ≤ (pre.map (ctr 0 (pk 0 j))).sum := sum_le fun x m => by
      obtain ⟨a1, a2⟩ := (hpre x m).1 c
      show x.1 ≤ if j.1 ≤ x.1 then x.2 else min x.1 x.2
      split <;> omega
    have k2 : sB post ≤ (post.map (ctr 0 (pk 0 j))).sum := sum_le fun y m => by
      have a1 := hpost y m
      show y.2 ≤ if j.1 ≤ y.1 then y.2 else min y.1 y.2
      split
      · exact Int.le_refl _
      · by_cases z : y.1 ≤ y.2
        · have := (a1.1 z).2; omega
        · omega
    have k3 : ctr 0 (pk 0 j) j = j.2 := if_pos (Int.le_refl _)
    rw [hm, k3]
    show 0 + sA pre + j.1 + j.2 + sB post ≤ j.1 + _
    omega
  · refine ⟨1, by decide, j, hjm, _, hval 1 (Int.le_refl _), ?_⟩
    have k1 : sA pre ≤ (pre.map (ctr 1 (pk 1 j))).sum := sum_le fun x m => by
      have a1 := hpre x m
      show x.1 ≤ if j.2 ≤ x.2 then x.1 else min x.1 x.2
      split
      · exact Int.le_refl _
      · by_cases z : x.2 < x.1
        · have := (a1.2 z).2; omega
        · omega
    have k2 : sB post ≤ (post.map (ctr 1 (pk 1 j))).sum := sum_le fun y m => by
      obtain ⟨a1, a2⟩ := (hpost y m).2 (by omega)
      show y.2 ≤ if j.2 ≤ y.2 then y.1 else min y.1 y.2
      split <;> omega
    have k3 : ctr 1 (pk 1 j) j = j.1 := if_pos (Int.le_refl _)
    rw [hm, k3]
    show 0 + sA pre + j.1 + j.2 + sB post ≤ j.2 + _
    omega
/-! ### all orders -/
def ordersT : Nat → List (List Nat)
  | 0 => [[]]
  | k + 1 => (ordersT k).flatMap fun row => (List.range (row.length + 1)).map fun j => row.take j ++ [k] ++ row.drop j
theorem orders_perm : ∀ {n : Nat} {r : List Nat}, r ∈ ordersT n → r.Perm (List.range n)
  | 0, r, h => by
    cases List.mem_singleton.mp h
    exact .refl _
  | k + 1, r, h => by
    obtain ⟨row, h1, h2⟩ := List.mem_flatMap.mp h
    obtain ⟨j, _, rfl⟩ := List.mem_map.mp h2
    have ih := orders_perm h1
    rw [List.range_succ, List.append_assoc]
    refine List.perm_middle.trans ?_
    show (k :: (row.take j ++ row.drop j)).Perm _
    rw [List.take_append_drop]
    exact (ih.cons k).trans (List.perm_append_singleton k (List.range k)).symm
theorem perm_orders : ∀ {n : Nat} {r : List Nat}, r.Perm (List.range n) → r ∈ ordersT n
  | 0, r, h => by
    rw [show List.range 0 = [] from rfl] at h
    rw [h.eq_nil]; exact List.mem_cons_self ..
  | k + 1, r, h => by
    have hk : k ∈ r := h.mem_iff.mpr (List.mem_range.mpr (Nat.lt_succ_self k))
    obtain ⟨l1, l2, rfl⟩ := List.append_of_mem hk
    have h1 : (k :: (l1 ++ l2)).Perm (k :: List.range k) := (List.perm_middle.symm.trans h).trans (by rw [List.range_succ]; exact List.perm_append_singleton k (List.range k))
    have ih := perm_orders (h1.cons_inv)
    refine List.mem_flatMap.mpr ⟨l1 ++ l2, ih, List.mem_map.mpr ⟨l1.length, List.mem_range.mpr (by rw [List.length_append]; omega), ?_⟩⟩
    rw [List.take_left, List.drop_left, List.append_assoc]; rfl

/-! ### ends -/
def jb (J : List Job) (k : Nat) : Job := J.getD k (0, 0)
def endsT (J : List Job) : Int → Int → List Nat → List (Int × Int)
  | _, _, [] => []
  | c, d, k :: ks => (c + (jb J k).1, max d (c + (jb J k).1) + (jb J k).2) :: endsT J (c + (jb J k).1) (max d (c + (jb J k).1) + (jb J k).2) ks
theorem endsT_len (J : List Job) : ∀ (ks : List Nat) (c d : Int), (endsT J c d ks).length = ks.length
  | [], _, _ => rfl
  | k :: ks, c, d => by
    show (endsT J _ _ ks).length + 1 = ks.length + 1
    rw [endsT_len J ks]
theorem jb_at {J : List Job} {k : Nat} (h : k < J.length) : atI (J.map (enc : Job → D)) (k : Int) = some (.tup [.int (jb J k).1, .int (jb J k).2]) := by
  rw [atI_map (x := jb J k)]
  · rfl
  · rw [List.getElem?_eq_getElem h, jb, List.getD_eq_getElem?_getD, List.getElem?_eq_getElem h]; rfl
theorem ends_loop {J : List Job} {o : D} {fb : VL.Env → Option Out} {Q : Out → Prop} : ∀ {ks : List Nat} {c d : Int} {acc : List (Int × Int)} {x : Option S}, (∀ k ∈ ks, k < J.length) → acc.length + ks.length < sizeLine →
    (∀ (k : Nat) (c d : Int) (acc : List (Int × Int)), k < J.length → acc.length < sizeLine → fb [some (.fz (enc J)), some (.fz o), some (.fz (.int c)), some (.fz (.int d)), some (.ol ((acc.map enc).map S.fz)), some (.fz (.int (k : Int)))]
      = some (.nx [some (.fz (enc J)), some (.fz o), some (.fz (.int (c + (jb J k).1))), some (.fz (.int (max d (c + (jb J k).1) + (jb J k).2))), some (.ol (((acc ++ [(c + (jb J k).1, max d (c + (jb J k).1) + (jb J k).2)]).map enc).map S.fz)), some (.fz (.int (k : Int)))])) →
    (∀ c' d' x', Q (.nx [some (.fz (enc J)), some (.fz o), some (.fz (.int c')), some (.fz (.int d')), some (.ol (((acc ++ endsT J c d ks).map enc).map S.fz)), x'])) →
    wp (forD (gN 5) fb (ks.map fun (k : Nat) => D.int (k : Int)) [some (.fz (enc J)), some (.fz o), some (.fz (.int c)), some (.fz (.int d)), some (.ol ((acc.map enc).map S.fz)), x]) Q
  | [], c, d, acc, x, _, _, _, q => by
    refine wp_end ?_
    have := q c d x
    rwa [show acc ++ endsT J c d [] = acc by simp [endsT]] at this
  | k :: ks, c, d, acc, x, hk, hl, hb, q => by
    refine wp_cons rfl ⟨_, hb k c d acc (hk k (List.mem_cons_self ..)) (by omega), ?_⟩
    refine ends_loop (fun j m => hk j (List.mem_cons_of_mem _ m)) (by simp only [List.length_append, List.length_cons, List.length_nil] at hl ⊢; omega) hb fun c' d' x' => ?_
    have := q c' d' x'
    rwa [List.append_assoc, List.singleton_append]
theorem ends_body1 {J : List Job} {o : D} (k : Nat) (c d : Int) (acc : List (Int × Int)) (hk : k < J.length) (ha : acc.length < sizeLine) :
    (sq (sSet 2 (b2 (dN 2) (b2 (b2 (dN 0) (dN 5) dIx) (dK (.int 0)) dIx) dAdd)) (sq (sSet 3 (b2 (cB (aCons (dN 3) (aCons (dN 2) a0)) dMaxA) (b2 (b2 (dN 0) (dN 5) dIx) (dK (.int 1)) dIx) dAdd)) (sApp 4 (oFz (dTup (aCons (dN 2) (aCons (dN 3) a0))))))) [some (.fz (enc J)), some (.fz o), some (.fz (.int c)), some (.fz (.int d)), some (.ol ((acc.map enc).map S.fz)), some (.fz (.int (k : Int)))]
      = some (.nx [some (.fz (enc J)), some (.fz o), some (.fz (.int (c + (jb J k).1))), some (.fz (.int (max d (c + (jb J k).1) + (jb J k).2))), some (.ol (((acc ++ [(c + (jb J k).1, max d (c + (jb J k).1) + (jb J k).2)]).map enc).map S.fz)), some (.fz (.int (k : Int)))]) := by
  have h := jb_at hk
  have e : (enc J : D) = .lst (J.map enc) := rfl
  simp only [sq, sSet, b2, dN, getF_s, getF_0, e, Option.bind_some, dIx_lst, h, dK, dIx_tup, atI_0, atI_1, dAdd, Option.map_some, List.set, cB, aCons, a0, dMax_2, sApp, getS_s, getS_0, oFz, dTup, List.length_cons, List.length_nil, appS, List.length_map, if_pos ha]
  simp [enc]
theorem ends_body2 {J : List Job} {o : D} (k : Nat) (c d : Int) (acc : List (Int × Int)) (hk : k < J.length) (ha : acc.length < sizeLine) :
    (sq (sSet 2 (b2 (dN 2) (b2 (b2 (dN 0) (dN 5) dIx) (dK (.int 0)) dIx) dAdd)) (sq (sSet 3 (b2 (cB (aCons (dN 2) (aCons (dN 3) a0)) dMaxA) (b2 (b2 (dN 0) (dN 5) dIx) (dK (.int 1)) dIx) dAdd)) (sApp 4 (oFz (dTup (aCons (dN 2) (aCons (dN 3) a0))))))) [some (.fz (enc J)), some (.fz o), some (.fz (.int c)), some (.fz (.int d)), some (.ol ((acc.map enc).map S.fz)), some (.fz (.int (k : Int)))]
      = some (.nx [some (.fz (enc J)), some (.fz o), some (.fz (.int (c + (jb J k).1))), some (.fz (.int (max d (c + (jb J k).1) + (jb J k).2))), some (.ol (((acc ++ [(c + (jb J k).1, max d (c + (jb J k).1) + (jb J k).2)]).map enc).map S.fz)), some (.fz (.int (k : Int)))]) := by
  have h := jb_at hk
  have e : (enc J : D) = .lst (J.map enc) := rfl
  simp only [sq, sSet, b2, dN, getF_s, getF_0, e, Option.bind_some, dIx_lst, h, dK, dIx_tup, atI_0, atI_1, dAdd, Option.map_some, List.set, cB, aCons, a0, dMax_2, sApp, getS_s, getS_0, oFz, dTup, List.length_cons, List.length_nil, appS, List.length_map, if_pos ha]
  rw [Int.max_comm (c + (jb J k).1) d]
  simp [enc]
theorem enc_nats (ks : List Nat) : (enc ks : D) = .lst (ks.map fun (k : Nat) => D.int (k : Int)) := rfl
theorem ends_eq {J : List Job} {ks : List Nat} (hk : ∀ k ∈ ks, k < J.length) (hl : ks.length < sizeLine) : F_ends_of [enc J, enc ks] = some (.ol (((endsT J 0 0 ks).map enc).map S.fz)) := by
  refine fnS_of rfl (wp_sq (wp_set (d := .int 0) rfl (wp_sq (wp_set (d := .int 0) rfl (wp_sq (wp_setO (s := .ol ((([] : List (Int × Int)).map enc).map S.fz)) rfl (wp_sq ?_)))))))
  show wp (forD (gN 5) _ (ks.map fun (k : Nat) => D.int (k : Int)) _) _
  refine ends_loop (o := enc ks) (acc := []) hk (by simpa using hl) (fun k c d acc h1 h2 => ends_body1 k c d acc h1 h2) fun c' d' x' => ?_
  exact ⟨_, rfl, rfl⟩
theorem lawends_eq {J : List Job} {ks : List Nat} (hk : ∀ k ∈ ks, k < J.length) (hl : ks.length < sizeLine) : F__law_ends [enc J, enc ks] = some (.ol (((endsT J 0 0 ks).map enc).map S.fz)) := by
  refine fnS_of rfl (wp_sq ⟨_, rfl, ?_⟩)
  dsimp only
  refine wp_sq (wp_setO (s := .ol ((([] : List (Int × Int)).map enc).map S.fz)) rfl (wp_sq ?_))
  show wp (forD (gN 5) _ (ks.map fun (k : Nat) => D.int (k : Int)) _) _
  refine ends_loop (o := enc ks) (acc := []) hk (by simpa using hl) (fun k c d acc h1 h2 => ends_body2 k c d acc h1 h2) fun c' d' x' => ?_
  exact ⟨_, rfl, rfl⟩
/-- the end of an order -/
def endE (J : List Job) (ks : List Nat) : Int := mkE 0 0 (ks.map (jb J))
theorem ends_le {J : List Job} (hJ : ∀ j ∈ J, 0 ≤ j.1 ∧ 0 ≤ j.2) : ∀ (ks : List Nat) (c d : Int), (∀ k ∈ ks, k < J.length) → (∀ x ∈ endsT J c d ks, x.2 ≤ mkE c d (ks.map (jb J))) ∧ d ≤ mkE c d (ks.map (jb J)) ∧ (ks ≠ [] → ∃ x ∈ endsT J c d ks, x.2 = mkE c d (ks.map (jb J)))
  | [], c, d, _ => ⟨(fun x h => by cases h), Int.le_refl _, fun h => absurd rfl h⟩
  | k :: ks, c, d, h => by
    obtain ⟨h1, h2, h3⟩ := ends_le hJ ks (c + (jb J k).1) (max d (c + (jb J k).1) + (jb J k).2) fun j m => h j (List.mem_cons_of_mem _ m)
    have hk := h k (List.mem_cons_self ..)
    have hj : jb J k ∈ J := by
      unfold jb
      rw [List.getD_eq_getElem?_getD, List.getElem?_eq_getElem hk]
      exact List.getElem_mem hk
    have hn := hJ _ hj
    have e : mkE c d ((k :: ks).map (jb J)) = mkE (c + (jb J k).1) (max d (c + (jb J k).1) + (jb J k).2) (ks.map (jb J)) := rfl
    rw [e]
    refine ⟨fun x m => ?_, by omega, fun _ => ?_⟩
    · rcases List.mem_cons.mp m with rfl | m
      · exact h2
      · exact h1 x m
    · by_cases c' : ks = []
      · subst c'
        exact ⟨_, List.mem_cons_self .., rfl⟩
      · obtain ⟨x, m, q⟩ := h3 c'
        exact ⟨x, List.mem_cons_of_mem _ m, q⟩
theorem maxI_of {ns : List Int} {m : Int} (h1 : m ∈ ns) (h2 : ∀ x ∈ ns, x ≤ m) : maxI ns = m := Int.le_antisymm (h2 _ (maxI_mem (List.ne_nil_of_mem h1))) (maxI_ge h1)
theorem minI_of {ns : List Int} {m : Int} (h1 : m ∈ ns) (h2 : ∀ x ∈ ns, m ≤ x) : minI ns = m := Int.le_antisymm (minI_le h1) (h2 _ (minI_mem (List.ne_nil_of_mem h1)))
theorem end_max1 {J : List Job} (hJ : ∀ j ∈ J, 0 ≤ j.1 ∧ 0 ≤ j.2) {ks : List Nat} (hk : ∀ k ∈ ks, k < J.length) : maxI ((endsT J 0 0 ks).map (·.2) ++ [0]) = endE J ks := by
  obtain ⟨h1, h2, h3⟩ := ends_le hJ ks 0 0 hk
  refine maxI_of ?_ fun x m => ?_
  · by_cases c : ks = []
    · subst c; simp [endE, mkE]
    · obtain ⟨x, m, q⟩ := h3 c
      exact List.mem_append.mpr (.inl (List.mem_map.mpr ⟨x, m, q⟩))
  · rcases List.mem_append.mp m with m | m
    · obtain ⟨y, m', rfl⟩ := List.mem_map.mp m
      exact h1 y m'
    · cases List.mem_singleton.mp m
      exact h2
theorem end_max2 {J : List Job} (hJ : ∀ j ∈ J, 0 ≤ j.1 ∧ 0 ≤ j.2) {ks : List Nat} (hk : ∀ k ∈ ks, k < J.length) : maxI ([0] ++ (endsT J 0 0 ks).map (·.2)) = endE J ks := by
  rw [← end_max1 hJ hk]
  refine maxI_of ?_ fun x m => maxI_ge ?_
  · have := maxI_mem (ns := (endsT J 0 0 ks).map (·.2) ++ [0]) (by simp)
    exact List.mem_append.mpr (List.mem_append.mp this).symm
  · exact List.mem_append.mpr (List.mem_append.mp m).symm
/-! ### shown -/
theorem sum_split {α : Type} (p : α → Bool) (f h : α → Int) : ∀ l : List α, ((l.filter p).map f).sum + ((l.filter fun x => !p x).map h).sum = (l.map fun x => if p x = true then f x else h x).sum
  | [] => rfl
  | x :: l => by
    have ih := sum_split p f h l
    cases c : p x
    · rw [List.filter_cons_of_neg (by simp [c]), List.filter_cons_of_pos (by simp [c]), List.map_cons, List.map_cons, List.sum_cons, List.sum_cons, c, if_neg (by decide)]
      omega
    · rw [List.filter_cons_of_pos c, List.filter_cons_of_neg (by simp [c]), List.map_cons, List.map_cons, List.sum_cons, List.sum_cons, c, if_pos rfl]
      omega
def grT (J : List Job) (s : Nat) (t : Int) : List Job := J.filter fun j => decide (t ≤ pk s j)
def loT (J : List Job) (s : Nat) (t : Int) : List Job := J.filter fun j => !decide (t ≤ pk s j)
theorem shownT_eq (J : List Job) (s : Nat) (t : Int) : shownT J s t = if grT J s t = [] then none else some (t + ((grT J s t).map (pk (1 - s))).sum + ((loT J s t).map fun j => min j.1 j.2).sum) := by
  unfold shownT
  by_cases c : grT J s t = []
  · rw [if_pos c, if_neg]
    intro h
    obtain ⟨x, m, e⟩ := List.any_eq_true.mp h
    have : x ∈ grT J s t := List.mem_filter.mpr ⟨m, e⟩
    rw [c] at this; cases this
  · rw [if_neg c, if_pos]
    · congr 1
      rw [Int.add_assoc, grT, loT, sum_split]
      congr 2
      refine List.map_congr_left fun x _ => ?_
      unfold ctr
      by_cases z : t ≤ pk s x
      · rw [if_pos z, if_pos (decide_eq_true z)]
      · rw [if_neg z, if_neg (by simpa using z)]
    · obtain ⟨x, m⟩ := List.exists_mem_of_ne_nil _ c
      have := List.mem_filter.mp m
      exact List.any_eq_true.mpr ⟨x, this.1, this.2⟩
theorem pk_at {s : Nat} (hs : s < 2) (j : Job) : dIx (enc j) (.int (s : Int)) = some (.int (pk s j)) := by
  have : s = 0 ∨ s = 1 := by omega
  rcases this with rfl | rfl
  · exact atI_0 _ _
  · exact atI_1 _ _ _
theorem pk_at' {s : Nat} (hs : s < 2) (j : Job) : dIx (enc j) (.int (1 - (s : Int))) = some (.int (pk (1 - s) j)) := by
  have : s = 0 ∨ s = 1 := by omega
  rcases this with rfl | rfl
  · exact atI_1 _ _ _
  · exact atI_0 _ _
theorem seqOf_J (J : List Job) : seqOf (enc J) = some (J.map enc) := rfl
theorem shown_eq {J : List Job} {s : Nat} (hs : s < 2) (t : Int) : F_shown [enc J, .int (s : Int), .int t] = some (.fz (oZ (shownT J s t))) := by
  refine fnS_of rfl (wp_sq ?_)
  have c1 : compD (gN 4) (tb (b2 (b2 (dN 4) (dN 1) dIx) (dN 2) dGe)) (dN 4) [some (.fz (enc J)), some (.fz (.int (s : Int))), some (.fz (.int t)), none, none, none] (J.map enc) = some ((grT J s t).map enc) := by
    refine compD_map fun j _ => ⟨_, rfl, ?_, fun _ => rfl⟩
    simp [pk_at hs j, dCmp]
  refine wp_set (d := .lst ((grT J s t).map enc)) ?_ ?_
  · simp only [fL, dComp, iSq, dN, startE, List.map_cons, List.map_nil, List.length_cons, List.length_nil, List.cons_append, List.nil_append, getF_0, seqOf_J, Option.bind_some, wipeE, List.set, List.replicate]
    simp only [c1, Option.map_some]
  dsimp only
  refine wp_sq (wp_if (b := (grT J s t).isEmpty) ?_ ?_)
  · simp only [tNot1, dTr, dN, startE, List.map_cons, List.map_nil, List.length_cons, List.length_nil, List.cons_append, List.nil_append, List.set, getF_s, getF_0, Option.bind_some, truE]
    cases grT J s t <;> rfl
  rw [shownT_eq]
  by_cases c : grT J s t = []
  · rw [if_pos c, c]
    exact wp_ret (d := .non) rfl rfl
  · rw [if_neg c]
    have hne : (grT J s t).isEmpty = false := by cases h : grT J s t; exact absurd h c; rfl
    rw [hne, if_neg (by decide)]
    refine ⟨_, rfl, ?_⟩
    dsimp only
    have c2 : compD (gN 4) (tb (b2 (b2 (dN 4) (dN 1) dIx) (dN 2) dLt)) (cB (aCons (dN 4) a0) dMinA) [some (.fz (enc J)), some (.fz (.int (s : Int))), some (.fz (.int t)), some (.fz (.lst ((grT J s t).map enc))), none, none] (J.map enc) = some ((((loT J s t).map fun j => min j.1 j.2)).map D.int) := by
      rw [compD_map (c := fun j => !decide (t ≤ pk s j)) (g := fun j : Job => D.int (min j.1 j.2))]
      · rw [List.map_map]; rfl
      · intro j _
        refine ⟨_, rfl, ?_, fun _ => ?_⟩
        · simp [pk_at hs j, dCmp]
          by_cases z : t ≤ pk s j
          · simp [z]
          · simp [z]; omega
        · have := dMin_tup2 j.1 j.2
          simp only [cB, aCons, a0, dN, List.set, getF_s, getF_0, Option.bind_some]
          exact this
    have c3 : compD (gN 4) cY (b2 (dN 4) (b2 (dK (.int 1)) (dN 1) dSub) dIx) [some (.fz (enc J)), some (.fz (.int (s : Int))), some (.fz (.int t)), some (.fz (.lst ((grT J s t).map enc))), none, some (.fz (.lst (((loT J s t).map fun j => min j.1 j.2).map D.int)))] ((grT J s t).map enc) = some (((grT J s t).map (pk (1 - s))).map D.int) := by
      rw [compD_all (g := fun j : Job => D.int (pk (1 - s) j))]
      · rw [List.map_map]; rfl
      · intro j _
        refine ⟨_, rfl, rfl, ?_⟩
        simp [dSub, pk_at' hs j]
    refine wp_sq (wp_set (d := .lst (((loT J s t).map fun j => min j.1 j.2).map D.int)) ?_ ?_)
    · simp only [fL, dComp, iSq, dN, startE, List.map_cons, List.map_nil, List.length_cons, List.length_nil, List.cons_append, List.nil_append, getF_0, seqOf_J, Option.bind_some, wipeE, List.set, List.replicate]
      simp only [c2, Option.map_some]
    · dsimp only
      refine wp_ret (d := .int (t + ((grT J s t).map (pk (1 - s))).sum + ((loT J s t).map fun j => min j.1 j.2).sum)) ?_ rfl
      simp only [b2, cB, aCons, a0, fL, dComp, iSq, dN, startE, List.map_cons, List.map_nil, List.length_cons, List.length_nil, List.cons_append, List.nil_append, getF_0, getF_s, Option.bind_some, seqOf, wipeE, List.set, List.replicate]
      simp only [c3, Option.map_some, Option.bind_some, dSum, intsOf_map, dAdd]

/-! ### the sequence -/
def fsL (J : List Job) : List (Int × Nat) := (J.zipIdx.filter fun p => decide (p.1.1 ≤ p.1.2)).map fun p => (p.1.1, p.2)
def ssL (J : List Job) : List (Int × Nat) := (J.zipIdx.filter fun p => !decide (p.1.1 ≤ p.1.2)).map fun p => (0 - p.1.2, p.2)
def seqT (J : List Job) : List Nat := (sortE (fsL J)).map (·.2) ++ (sortE (ssL J)).map (·.2)
theorem fsL_len (J : List Job) : (fsL J).length ≤ J.length := by
  rw [fsL, List.length_map]
  exact Nat.le_trans (List.length_filter_le _ _) (by rw [List.length_zipIdx]; exact Nat.le_refl _)
theorem ssL_len (J : List Job) : (ssL J).length ≤ J.length := by
  rw [ssL, List.length_map]
  exact Nat.le_trans (List.length_filter_le _ _) (by rw [List.length_zipIdx]; exact Nat.le_refl _)
theorem sortE_len {α : Type} [EncO α] (xs : List α) : (sortE xs).length = xs.length := (sortE_perm xs).length_eq
theorem sequence_eq {J : List Job} (hl : J.length ≤ 100) : F_sequence [enc J] = some (.fz (enc (seqT J))) := by
  have hz := fsL_len J
  have hz' := ssL_len J
  have c1 : ∀ a b c d e, compD (gT (gsC (gN 2) (gsC (gN 3) gs0))) (tb (b2 (b2 (dN 3) (dK (.int 0)) dIx) (b2 (dN 3) (dK (.int 1)) dIx) dLe)) (dTup (aCons (b2 (dN 3) (dK (.int 0)) dIx) (aCons (dN 2) a0))) [a, b, c, d, e, none] (enumD (J.map enc)) = some ((fsL J).map enc) := by
    intro a b c d e
    rw [enumD_enc, compD_map (c := fun p => decide (p.1.1 ≤ p.1.2)) (g := fun p : Job × Nat => enc (p.1.1, p.2))]
    · rw [fsL, List.map_map]; rfl
    · intro p _
      refine ⟨_, rfl, ?_, fun _ => ?_⟩
      · simp [enc, dCmp]
      · simp [enc]
  have c2 : ∀ a b c d e, compD (gT (gsC (gN 2) (gsC (gN 3) gs0))) (tb (b2 (b2 (dN 3) (dK (.int 0)) dIx) (b2 (dN 3) (dK (.int 1)) dIx) dGt)) (dTup (aCons (b2 (dK (.int 0)) (b2 (dN 3) (dK (.int 1)) dIx) dSub) (aCons (dN 2) a0))) [a, b, c, d, e, none] (enumD (J.map enc)) = some ((ssL J).map enc) := by
    intro a b c d e
    rw [enumD_enc, compD_map (c := fun p => !decide (p.1.1 ≤ p.1.2)) (g := fun p : Job × Nat => enc (0 - p.1.2, p.2))]
    · rw [ssL, List.map_map]; rfl
    · intro p _
      refine ⟨_, rfl, ?_, fun _ => ?_⟩
      · simp [enc, dCmp]
        by_cases z : p.1.1 ≤ p.1.2
        · simp [z]
        · simp [z]; omega
      · simp [enc, dSub]
  have c3 : ∀ (env : VL.Env) (xs : List (Int × Nat)), 5 < env.length → compD (gT (gsC (gN 5) (gsC (gN 2) gs0))) cY (dN 2) env (xs.map enc) = some ((xs.map (·.2)).map enc) := by
    intro env xs he
    rw [compD_all (g := fun p : Int × Nat => enc p.2)]
    · rw [List.map_map]; rfl
    · intro p _
      refine ⟨_, rfl, rfl, ?_⟩
      show getF ((env.set 5 (some (.fz (.int p.1)))).set 2 (some (.fz (.int (p.2 : Int))))) 2 = _
      unfold getF
      rw [List.getElem?_set_self (by rw [List.length_set]; omega)]
      rfl
  have l1 : lstOf (enc J) = some (J.map enc) := rfl
  have s1 : dSorted [.lst ((fsL J).map enc)] = some ((sortE (fsL J)).map enc) := dSorted_enc _ (by decide) (by unfold sizeLine; omega)
  have s2 : dSorted [.lst ((ssL J).map enc)] = some ((sortE (ssL J)).map enc) := dSorted_enc _ (by decide) (by unfold sizeLine; omega)
  refine fnS_of rfl (wp_sq (wp_set (d := .lst ((sortE (fsL J)).map enc)) ?_ ?_))
  · simp only [fL, cL, aCons, a0, dComp, iEn, dN, startE, List.map_cons, List.map_nil, List.length_cons, List.length_nil, List.cons_append, List.nil_append, getF_0, Option.bind_some, Option.map_some, wipeE, List.set, List.replicate, l1, c1, s1]
  · dsimp only
    refine wp_sq (wp_set (d := .lst ((sortE (ssL J)).map enc)) ?_ ?_)
    · simp only [fL, cL, aCons, a0, dComp, iEn, dN, startE, List.map_cons, List.map_nil, List.length_cons, List.length_nil, List.cons_append, List.nil_append, getF_0, Option.bind_some, Option.map_some, wipeE, List.set, List.replicate, l1, c2, s2]
    · dsimp only
      refine wp_ret (d := enc (seqT J)) ?_ rfl
      have e1 : ∀ env : VL.Env, 5 < env.length → getF env 1 = some (.lst ((sortE (fsL J)).map enc)) → (fL (dComp [5, 2] (iSq (dN 1)) (gT (gsC (gN 5) (gsC (gN 2) gs0))) cY (dN 2))) env = some (.lst (((sortE (fsL J)).map (·.2)).map enc)) := by
        intro env he h
        simp only [fL, dComp, iSq, dN, h, Option.bind_some, seqOf]
        rw [c3 _ _ (by unfold wipeE wipeE wipeE; rw [List.length_set, List.length_set]; exact he)]; rfl
      have e2 : ∀ env : VL.Env, 5 < env.length → getF env 4 = some (.lst ((sortE (ssL J)).map enc)) → (fL (dComp [5, 2] (iSq (dN 4)) (gT (gsC (gN 5) (gsC (gN 2) gs0))) cY (dN 2))) env = some (.lst (((sortE (ssL J)).map (·.2)).map enc)) := by
        intro env he h
        simp only [fL, dComp, iSq, dN, h, Option.bind_some, seqOf]
        rw [c3 _ _ (by unfold wipeE wipeE wipeE; rw [List.length_set, List.length_set]; exact he)]; rfl
      rw [b2, e1 _ (by simp [startE]) rfl, Option.bind_some, e2 _ (by simp [startE]) rfl, Option.bind_some]
      show (if _ then _ else _) = _
      rw [if_pos (by rw [List.length_map, List.length_map, List.length_map, List.length_map, sortE_len, sortE_len]; unfold sizeLine; omega), ← List.map_append]
      rfl
theorem filt_perm {α : Type} (p : α → Bool) : ∀ l : List α, (l.filter p ++ l.filter fun x => !p x).Perm l
  | [] => .refl _
  | x :: l => by
    have ih := filt_perm p l
    cases c : p x
    · rw [List.filter_cons_of_neg (by simp [c]), List.filter_cons_of_pos (by simp [c])]
      exact List.perm_middle.trans (ih.cons x)
    · rw [List.filter_cons_of_pos c, List.filter_cons_of_neg (by simp [c])]
      exact ih.cons x
theorem seqT_perm (J : List Job) : (seqT J).Perm (List.range J.length) := by
  have h1 : (seqT J).Perm ((fsL J).map (·.2) ++ (ssL J).map (·.2)) := ((sortE_perm _).map _).append ((sortE_perm _).map _)
  refine h1.trans ?_
  rw [fsL, ssL, List.map_map, List.map_map]
  have h2 := (filt_perm (fun p : Job × Nat => decide (p.1.1 ≤ p.1.2)) J.zipIdx).map (·.2)
  rw [List.map_append] at h2
  refine (show _ from h2).trans ?_
  have : J.zipIdx.map (·.2) = List.range J.length := by
    rw [List.zipIdx_map_snd, List.range_eq_range']
  rw [this]
theorem map_jb (J : List Job) : (List.range J.length).map (jb J) = J := by
  refine List.ext_getElem (by rw [List.length_map, List.length_range]) fun i h1 h2 => ?_
  rw [List.getElem_map, List.getElem_range, jb, List.getD_eq_getElem?_getD, List.getElem?_eq_getElem h2]; rfl
theorem mem_zip {J : List Job} {p : Job × Nat} (h : p ∈ J.zipIdx) : jb J p.2 = p.1 ∧ p.2 < J.length := by
  have := List.mem_zipIdx h
  simp only [Nat.zero_add, Nat.sub_zero] at this
  obtain ⟨_, h2, h3⟩ := this
  refine ⟨?_, h2⟩
  rw [jb, List.getD_eq_getElem?_getD, List.getElem?_eq_getElem h2, h3]; rfl
theorem le_fst {p q : Int × Nat} (h : leE p q = true) : p.1 ≤ q.1 := by
  have h : (!(if q.1 = p.1 then decide (q.2 < p.2) else decide (q.1 < p.1))) = true := h
  by_cases c : q.1 = p.1
  · omega
  · rw [if_neg c] at h
    simp at h
    exact h
theorem seqT_jn (J : List Job) : ((seqT J).map (jb J)).Pairwise Jn := by
  unfold seqT
  rw [List.map_append, List.map_map, List.map_map]
  have hf : ∀ p ∈ sortE (fsL J), (jb J p.2).1 = p.1 ∧ (jb J p.2).1 ≤ (jb J p.2).2 := fun p m => by
    have m := (sortE_perm _).mem_iff.mp m
    obtain ⟨q, m', rfl⟩ := List.mem_map.mp m
    obtain ⟨m1, m2⟩ := List.mem_filter.mp m'
    have e := (mem_zip m1).1
    dsimp only
    rw [e]
    exact ⟨rfl, of_decide_eq_true m2⟩
  have hs : ∀ p ∈ sortE (ssL J), (jb J p.2).2 = 0 - p.1 ∧ (jb J p.2).2 < (jb J p.2).1 := fun p m => by
    have m := (sortE_perm _).mem_iff.mp m
    obtain ⟨q, m', rfl⟩ := List.mem_map.mp m
    obtain ⟨m1, m2⟩ := List.mem_filter.mp m'
    have e := (mem_zip m1).1
    dsimp only
    rw [e]
    refine ⟨by omega, ?_⟩
    simp at m2
    exact m2
  rw [List.pairwise_append]
  refine ⟨?_, ?_, ?_⟩
  · rw [List.pairwise_map]
    refine (sortE_sorted (fsL J)).imp_of_mem fun {p q} mp mq h => ?_
    have a := hf p mp
    have b := hf q mq
    have c := le_fst h
    show Jn (jb J p.2) (jb J q.2)
    exact ⟨fun _ => ⟨a.2, by omega⟩, fun z => by omega⟩
  · rw [List.pairwise_map]
    refine (sortE_sorted (ssL J)).imp_of_mem fun {p q} mp mq h => ?_
    have a := hs p mp
    have b := hs q mq
    have c := le_fst h
    show Jn (jb J p.2) (jb J q.2)
    exact ⟨fun z => by omega, fun _ => ⟨b.2, by omega⟩⟩
  · intro x mx y my
    obtain ⟨p, mp, rfl⟩ := List.mem_map.mp mx
    obtain ⟨q, mq, rfl⟩ := List.mem_map.mp my
    have a := hf p mp
    have b := hs q mq
    show Jn (jb J p.2) (jb J q.2)
    exact ⟨fun z => by omega, fun z => by omega⟩
theorem seqT_lt (J : List Job) : ∀ k ∈ seqT J, k < J.length := fun k m => List.mem_range.mp ((seqT_perm J).mem_iff.mp m)
theorem perm_jb {J : List Job} {ks : List Nat} (h : ks.Perm (List.range J.length)) : (ks.map (jb J)).Perm J := by
  have := h.map (jb J)
  rwa [map_jb] at this
/-- what is shown is never more than any end; and the sequence's own end is shown -/
theorem shown_end {J : List Job} {ks : List Nat} (h : ks.Perm (List.range J.length)) {s : Nat} (hs : s < 2) {t v : Int} (e : shownT J s t = some v) : v ≤ endE J ks := shown_le (perm_jb h) hs e
theorem seq_shown {J : List Job} (hJ : ∀ j ∈ J, 0 ≤ j.1 ∧ 0 ≤ j.2) (he : J ≠ []) : ∃ s, s < 2 ∧ ∃ j ∈ J, ∃ v, shownT J s (pk s j) = some v ∧ v = endE J (seqT J) := by
  have hp := perm_jb (seqT_perm J)
  obtain ⟨s, hs, j, hj, v, h1, h2⟩ := shown_of (js := (seqT J).map (jb J)) (fun x m => hJ x (hp.mem_iff.mp m)) (seqT_jn J) (fun e => by rw [e] at hp; exact he hp.symm.eq_nil)
  rw [shown_perm hp] at h1
  exact ⟨s, hs, j, hp.mem_iff.mp hj, v, h1, Int.le_antisymm (shown_end (seqT_perm J) hs h1) h2⟩
theorem seq_least {J : List Job} (hJ : ∀ j ∈ J, 0 ≤ j.1 ∧ 0 ≤ j.2) {ks : List Nat} (h : ks.Perm (List.range J.length)) : endE J (seqT J) ≤ endE J ks := by
  by_cases he : J = []
  · subst he
    have h1 := (seqT_perm ([] : List Job)).eq_nil
    have h2 := h.eq_nil
    rw [h1, h2]; exact Int.le_refl _
  · obtain ⟨s, hs, j, hj, v, h1, h2⟩ := seq_shown hJ he
    rw [← h2]
    exact shown_end h hs h1

/-! ### the best that is shown -/
theorem own_some {J : List Job} {j : Job} (h : j ∈ J) (s : Nat) : ∃ v, shownT J s (pk s j) = some v := by
  unfold shownT
  rw [if_pos (List.any_eq_true.mpr ⟨j, h, decide_eq_true (Int.le_refl _)⟩)]
  exact ⟨_, rfl⟩
def rowT (J : List Job) (s : Nat) (j : Job) : I3 := ⟨(shownT J s (pk s j)).getD 0, 0 - (s : Int), 0 - pk s j⟩
theorem best_in {J : List Job} {x3 x4 x5 : Option S} {s : Nat} (hs : s < 2) {acc : List I3} (ha : acc.length ≤ 200) (hl : J.length ≤ 100) :
    ∀ x, wp (sFor (iSq (dN 0)) (gN 3) (sApp 1 (oFz (dTup (aCons (cF (aCons (dN 0) (aCons (dN 2) (aCons (b2 (dN 3) (dN 2) dIx) a0))) F_shown) (aCons (b2 (dK (.int 0)) (dN 2) dSub) (aCons (b2 (dK (.int 0)) (b2 (dN 3) (dN 2) dIx) dSub) a0))))))
      [some (.fz (enc J)), some (.ol ((acc.map enc).map S.fz)), some (.fz (.int (s : Int))), x, x4, x5]) fun o => ∃ x, o = .nx [some (.fz (enc J)), some (.ol (((acc ++ J.map (rowT J s)).map enc).map S.fz)), some (.fz (.int (s : Int))), x, x4, x5] := by
  intro x
  show wp (forD (gN 3) _ (J.map enc) _) _
  refine wp_each (fun done e => done.length ≤ 100 ∧ ∃ x, e = [some (.fz (enc J)), some (.ol (((acc ++ done.map (rowT J s)).map enc).map S.fz)), some (.fz (.int (s : Int))), x, x4, x5]) (done := []) ⟨by simp, x, by simp⟩ ?_ ?_
  · rintro pre j post e hd ⟨hl1, x, rfl⟩
    have hj : j ∈ J := by
      rw [List.nil_append] at hd
      rw [hd]; simp
    have hlen : pre.length + 1 ≤ J.length := by
      have := congrArg List.length hd
      simp at this; omega
    obtain ⟨v, hv⟩ := own_some hj s
    have h1 := shown_eq (J := J) hs (pk s j)
    rw [hv] at h1
    refine ⟨_, rfl, .nx [some (.fz (enc J)), some (.ol (((acc ++ (pre ++ [j]).map (rowT J s)).map enc).map S.fz)), some (.fz (.int (s : Int))), some (.fz (enc j)), x4, x5], ?_, by rw [List.length_append]; simp; omega, _, rfl⟩
    have hlz : ((acc ++ pre.map (rowT J s)).map (enc : I3 → D)).length < sizeLine := by
      rw [List.length_map, List.length_append, List.length_map]; unfold sizeLine; omega
    simp only [sApp, List.set, getS_s, getS_0, oFz, dTup, aCons, a0, cF, dN, getF_s, getF_0, Option.bind_some, b2, pk_at hs j, h1, frS_fz, oZ, dK, dSub, Option.map_some, List.length_cons, List.length_nil, appS, List.length_map, List.length_append]
    rw [if_pos (by decide)]
    simp only [Option.map_some, Option.bind_some, List.length_map, List.length_append]
    rw [if_pos (by unfold sizeLine; omega)]
    simp only [Option.map_some, List.map_append, List.map_cons, List.map_nil, List.append_assoc, rowT, hv, Option.getD_some]
    rfl
  · rintro e ⟨_, x, rfl⟩
    rw [List.nil_append]
    exact ⟨x, rfl⟩
/-- what best_shown answers -/
structure Best (J : List Job) (e : Int) (s : Nat) (t : Int) : Prop where
  nil : J = [] → e = 0 ∧ s = 0 ∧ t = 0
  lt : s < 2
  at_ : J ≠ [] → shownT J s t = some e ∧ ∃ j ∈ J, t = pk s j
  ge : ∀ s', s' < 2 → ∀ j ∈ J, ∀ v, shownT J s' (pk s' j) = some v → v ≤ e
theorem best_eq {J : List Job} (hl : J.length ≤ 100) : ∃ e s t, Best J e s t ∧ F_best_shown [enc J] = some (.fz (.tup [.int e, .int (s : Int), .int t])) := by
  suffices h : wp (d_best_shown (startE 6 [enc J])) fun o => ∃ e s t, Best J e s t ∧ retS o = some (.fz (.tup [.int e, .int (s : Int), .int t])) by
    obtain ⟨u, h1, e, s, t, h2, h3⟩ := h
    exact ⟨e, s, t, h2, fnS_of rfl ⟨u, h1, h3⟩⟩
  refine wp_sq (wp_setO (s := .ol ((([] : List I3).map enc).map S.fz)) rfl ?_)
  dsimp only
  refine wp_sq ?_
  refine wp.mono (Q := fun o => ∃ x y, o = .nx [some (.fz (enc J)), some (.ol (((J.map (rowT J 0) ++ J.map (rowT J 1)).map enc).map S.fz)), x, y, none, none]) ?_ ?_
  · show wp (forD (gN 2) _ [.int ((0 : Nat) : Int), .int ((1 : Nat) : Int)] _) _
    refine wp_cons rfl ((best_in (s := 0) (acc := []) (x3 := none) (by decide) (by simp) hl none).mono ?_)
    rintro o ⟨x, rfl⟩
    dsimp only
    refine wp_cons rfl ((best_in (s := 1) (acc := J.map (rowT J 0)) (x3 := none) (by decide) (by rw [List.length_map]; omega) hl x).mono ?_)
    rintro o ⟨x, rfl⟩
    exact wp_end ⟨_, _, rfl⟩
  · rintro o ⟨x, y, rfl⟩
    dsimp only
    have hw : getW [some (.fz (enc J)), some (.ol (((J.map (rowT J 0) ++ J.map (rowT J 1)).map enc).map S.fz)), x, y, none, none] 1 = some (.lst ((J.map (rowT J 0) ++ J.map (rowT J 1)).map enc)) := by
      simp only [getW_s]
      exact getW_ol _ _
    refine wp_sq (wp_if (b := (J.map (rowT J 0) ++ J.map (rowT J 1)).isEmpty) ?_ ?_)
    · simp only [tNot1, dTr, dW]
      rw [hw]
      cases J <;> rfl
    cases hJ : J with
    | nil =>
      refine wp_ret (d := .tup [.int 0, .int 0, .int 0]) rfl ?_
      exact ⟨0, 0, 0, ⟨fun _ => ⟨rfl, rfl, rfl⟩, by decide, fun h => absurd rfl h, fun s' _ j m => by cases m⟩, rfl⟩
    | cons j0 J0 =>
      rw [← hJ]
      have hne : (J.map (rowT J 0) ++ J.map (rowT J 1)).isEmpty = false := by rw [hJ]; rfl
      rw [hne, if_neg (by decide)]
      refine ⟨_, rfl, ?_⟩
      dsimp only
      obtain ⟨r0, rs, hrs⟩ : ∃ r0 rs, J.map (rowT J 0) ++ J.map (rowT J 1) = r0 :: rs := by
        rw [hJ]; exact ⟨_, _, rfl⟩
      obtain ⟨m, m1, m2, m3⟩ := dMax_enc (α := I3) (x := r0) (xs := rs) (by decide)
      rw [← hrs] at m1 m2 m3
      refine wp_sq (wp_fz (s := .ol (((J.map (rowT J 0) ++ J.map (rowT J 1)).map enc).map S.fz)) rfl (frS_ol _) ?_)
      refine ⟨.nx [some (.fz (enc J)), some (.fz (.lst ((J.map (rowT J 0) ++ J.map (rowT J 1)).map enc))), some (.fz (.int m.y)), y, some (.fz (.int m.x)), some (.fz (.int m.z))], ?_, ?_⟩
      · simp only [sTg, cB, aCons, a0, dN, List.set, getF_s, getF_0, Option.bind_some, m3]
        rfl
      · dsimp only
        refine wp_ret (d := .tup [.int m.x, .int (0 - m.y), .int (0 - m.z)]) rfl ?_
        have hx : ∃ s : Nat, s < 2 ∧ ∃ j ∈ J, m = rowT J s j := by
          rcases List.mem_append.mp m1 with h | h
          · obtain ⟨j, hj, rfl⟩ := List.mem_map.mp h
            exact ⟨0, by decide, j, hj, rfl⟩
          · obtain ⟨j, hj, rfl⟩ := List.mem_map.mp h
            exact ⟨1, by decide, j, hj, rfl⟩
        obtain ⟨s, hs, j, hj, rfl⟩ := hx
        obtain ⟨v, hv⟩ := own_some hj s
        refine ⟨v, s, pk s j, ⟨(fun h => by rw [hJ] at h; cases h), hs, fun _ => ⟨hv, j, hj, rfl⟩, fun s' hs' j' hj' v' hv' => ?_⟩, ?_⟩
        · have hm : rowT J s' j' ∈ J.map (rowT J 0) ++ J.map (rowT J 1) := by
            have : s' = 0 ∨ s' = 1 := by omega
            rcases this with rfl | rfl
            · exact List.mem_append.mpr (.inl (List.mem_map.mpr ⟨j', hj', rfl⟩))
            · exact List.mem_append.mpr (.inr (List.mem_map.mpr ⟨j', hj', rfl⟩))
          have := leE_I3 (m2 _ hm)
          simp only [rowT, hv, hv', Option.getD_some] at this
          exact this
        · show some (S.fz (.tup [.int (rowT J s j).x, .int (0 - (rowT J s j).y), .int (0 - (rowT J s j).z)])) = _
          simp only [rowT, hv, Option.getD_some]
          rw [show (0 : Int) - (0 - (s : Int)) = s by omega, show (0 : Int) - (0 - pk s j) = pk s j by omega]
theorem best_end {J : List Job} (hJ : ∀ j ∈ J, 0 ≤ j.1 ∧ 0 ≤ j.2) {e t : Int} {s : Nat} (B : Best J e s t) : e = endE J (seqT J) ∧ 0 ≤ t := by
  by_cases he : J = []
  · obtain ⟨rfl, rfl, rfl⟩ := B.nil he
    subst he
    rw [endE, (seqT_perm ([] : List Job)).eq_nil]
    exact ⟨rfl, Int.le_refl _⟩
  · obtain ⟨h1, j, hj, h2⟩ := B.at_ he
    obtain ⟨s', hs', j', hj', v, h3, h4⟩ := seq_shown hJ he
    have h5 := B.ge s' hs' j' hj' v h3
    have h6 := shown_end (seqT_perm J) B.lt h1
    refine ⟨by omega, ?_⟩
    have hn := hJ j hj
    rw [h2]
    unfold pk
    split <;> omega
theorem frS_ends {J : List Job} {ks : List Nat} : frS (.ol (((endsT J 0 0 ks).map (enc : Int × Int → D)).map S.fz)) = some (.lst ((endsT J 0 0 ks).map enc)) := frS_ol _
theorem ends_snd {J : List Job} {ks : List Nat} {fe : VL.Env → Option D} {i : Nat} {env : VL.Env} (hf : ∀ x : Int × Int, fe (env.set i (some (.fz (enc x)))) = some (.int x.2)) : compD (gN i) cY fe env ((endsT J 0 0 ks).map enc) = some (((endsT J 0 0 ks).map (·.2)).map D.int) := by
  rw [compD_all (g := fun x : Int × Int => D.int x.2)]
  · rw [List.map_map]; rfl
  · intro x _
    exact ⟨_, rfl, rfl, hf x⟩
theorem press_eq {J : List Job} (hJ : ∀ j ∈ J, 0 ≤ j.1 ∧ 0 ≤ j.2) (hl : J.length ≤ 100) : ∃ s t, Best J (endE J (seqT J)) s t ∧ F_press [enc J] = some (.fz (.tup [enc (seqT J), .int (endE J (seqT J)), .int (s : Int), .int t])) := by
  obtain ⟨e, s, t, B, hb⟩ := best_eq hl
  obtain ⟨rfl, ht⟩ := best_end hJ B
  refine ⟨s, t, B, fnS_of rfl ?_⟩
  have h1 := sequence_eq hl
  have hz : (seqT J).length < sizeLine := by rw [(seqT_perm J).length_eq, List.length_range]; unfold sizeLine; omega
  have h2 := ends_eq (seqT_lt J) hz
  refine wp_sq (wp_set (d := enc (seqT J)) (by simp [startE, h1]) ?_)
  dsimp only
  have hc : ∀ a b c d e f, compD (gN 3) cY (b2 (dN 3) (dK (.int 1)) dIx) [a, b, c, d, e, f] ((endsT J 0 0 (seqT J)).map enc) = some (((endsT J 0 0 (seqT J)).map (·.2)).map D.int) := fun a b c d e f => ends_snd fun x => rfl
  refine wp_sq (wp_set (d := .int (endE J (seqT J))) ?_ ?_)
  · have hc' : ∀ a b c d e f g, compD (gN 3) cY (b2 (dN 3) (dK (.int 1)) dIx) [a, b, c, d, e, f, g] ((endsT J 0 0 (seqT J)).map enc) = some (((endsT J 0 0 (seqT J)).map (·.2)).map D.int) := fun a b c d e f g => ends_snd fun x => rfl
    have hd : dAdd (.lst (((endsT J 0 0 (seqT J)).map (·.2)).map D.int)) (.lst [.int 0]) = some (.lst (((endsT J 0 0 (seqT J)).map (fun x : Int × Int => x.2) ++ [(0 : Int)]).map D.int)) := by
      show (if _ then _ else _) = _
      rw [if_pos (by rw [List.length_map, List.length_map, endsT_len]; simp; unfold sizeLine at hz ⊢; omega), List.map_append]; rfl
    simp only [cB, aCons, a0, b2, fL, dComp, iSq, cF, dN, startE, List.map_cons, List.map_nil, List.length_cons, List.length_nil, List.cons_append, List.nil_append, List.replicate, List.set, getF_s, getF_0, Option.bind_some, h2, frS_ends, seqOf, wipeE, hc', Option.map_some, dLst, dK]
    rw [if_pos (by decide)]
    simp only [Option.map_some, Option.bind_some, hd]
    rw [dMax_ints (by simp), end_max1 hJ (seqT_lt J)]
  · dsimp only
    refine wp_sq ⟨.nx [some (.fz (enc J)), some (.fz (enc (seqT J))), some (.fz (.int (endE J (seqT J)))), none, some (.fz (.int (endE J (seqT J)))), some (.fz (.int (s : Int))), some (.fz (.int t))], ?_, ?_⟩
    · simp [startE, hb]
    · dsimp only
      exact wp_ret (d := .tup [enc (seqT J), .int (endE J (seqT J)), .int (s : Int), .int t]) rfl rfl

theorem lawshown_eq {J : List Job} {s : Nat} (hs : s < 2) (t : Int) : F__law_shown [enc J, .int (s : Int), .int t] = some (.fz (oZ (shownT J s t))) := by
  refine fnS_of rfl ?_
  rw [show startE 5 [enc J, .int (s : Int), .int t] = [some (.fz (enc J)), some (.fz (.int (s : Int))), some (.fz (.int t)), none, none] from rfl]
  refine wp_sq ?_
  have c1 : compD (gN 4) (tb (b2 (b2 (dN 4) (dN 1) dIx) (dN 2) dGe)) (dN 4) [some (.fz (enc J)), some (.fz (.int (s : Int))), some (.fz (.int t)), none, none] (J.map enc) = some ((grT J s t).map enc) := by
    refine compD_map fun j _ => ⟨_, rfl, ?_, fun _ => rfl⟩
    simp [pk_at hs j, dCmp]
  refine wp_set (d := .lst ((grT J s t).map enc)) ?_ ?_
  · simp only [fL, dComp, iSq, dN, startE, List.map_cons, List.map_nil, List.length_cons, List.length_nil, List.cons_append, List.nil_append, getF_0, seqOf_J, Option.bind_some, wipeE, List.set, List.replicate]
    simp only [c1, Option.map_some]
  dsimp only
  refine wp_sq (wp_if (b := (grT J s t).isEmpty) ?_ ?_)
  · have he := dEq_enc ((grT J s t).length : Int) 0 (by decide)
    simp only [tb, b2, cB, aCons, a0, dN, startE, List.map_cons, List.map_nil, List.length_cons, List.length_nil, List.cons_append, List.nil_append, List.set, getF_s, getF_0, Option.bind_some, dLen, List.length_map, dK]
    rw [show dEq (.int ((grT J s t).length : Int)) (.int 0) = some (.bl (decide (((grT J s t).length : Int) = 0))) from he, Option.bind_some, bOf_bl]
    cases grT J s t
    · rfl
    · simp; omega
  rw [shownT_eq]
  by_cases c : grT J s t = []
  · rw [if_pos c, c]
    exact wp_ret (d := .non) rfl rfl
  · rw [if_neg c]
    have hne : (grT J s t).isEmpty = false := by cases h : grT J s t; exact absurd h c; rfl
    rw [hne, if_neg (by decide)]
    refine ⟨_, rfl, ?_⟩
    dsimp only
    have c2 : compD (gN 4) (tb (b2 (b2 (dN 4) (dN 1) dIx) (dN 2) dLt)) (cB (aCons (dN 4) a0) dMinA) [some (.fz (enc J)), some (.fz (.int (s : Int))), some (.fz (.int t)), some (.fz (.lst ((grT J s t).map enc))), none] (J.map enc) = some ((((loT J s t).map fun j => min j.1 j.2)).map D.int) := by
      rw [compD_map (c := fun j => !decide (t ≤ pk s j)) (g := fun j : Job => D.int (min j.1 j.2))]
      · rw [List.map_map]; rfl
      · intro j _
        refine ⟨_, rfl, ?_, fun _ => ?_⟩
        · simp [pk_at hs j, dCmp]
          by_cases z : t ≤ pk s j
          · simp [z]
          · simp [z]; omega
        · have := dMin_tup2 j.1 j.2
          simp only [cB, aCons, a0, dN, List.set, getF_s, getF_0, Option.bind_some]
          exact this
    have c3 : compD (gN 4) cY (b2 (dN 4) (b2 (dK (.int 1)) (dN 1) dSub) dIx) [some (.fz (enc J)), some (.fz (.int (s : Int))), some (.fz (.int t)), some (.fz (.lst ((grT J s t).map enc))), none] ((grT J s t).map enc) = some (((grT J s t).map (pk (1 - s))).map D.int) := by
      rw [compD_all (g := fun j : Job => D.int (pk (1 - s) j))]
      · rw [List.map_map]; rfl
      · intro j _
        refine ⟨_, rfl, rfl, ?_⟩
        simp [dSub, pk_at' hs j]
    refine wp_ret (d := .int (t + ((grT J s t).map (pk (1 - s))).sum + ((loT J s t).map fun j => min j.1 j.2).sum)) ?_ rfl
    simp only [b2, cB, aCons, a0, fL, dComp, iSq, dN, startE, List.map_cons, List.map_nil, List.length_cons, List.length_nil, List.cons_append, List.nil_append, getF_0, getF_s, Option.bind_some, seqOf_J, seqOf_lst, wipeE, List.set, List.replicate]
    simp only [c2, c3, Option.map_some, Option.bind_some, dSum, intsOf_map, dAdd]
theorem lawend_eq {J : List Job} (hJ : ∀ j ∈ J, 0 ≤ j.1 ∧ 0 ≤ j.2) {ks : List Nat} (hk : ∀ k ∈ ks, k < J.length) (hl : ks.length < 1000) : F__law_end [enc J, enc ks] = some (.fz (.int (endE J ks))) := by
  refine fnS_of rfl (wp_ret (d := .int (endE J ks)) ?_ rfl)
  have h2 := lawends_eq hk (show ks.length < sizeLine by unfold sizeLine; omega)
  have hc' : ∀ a b c, compD (gN 2) cY (b2 (dN 2) (dK (.int 1)) dIx) [a, b, c] ((endsT J 0 0 ks).map enc) = some (((endsT J 0 0 ks).map (·.2)).map D.int) := fun a b c => ends_snd fun x => rfl
  have hd : dAdd (.lst [.int 0]) (.lst (((endsT J 0 0 ks).map (fun x : Int × Int => x.2)).map D.int)) = some (.lst (([(0 : Int)] ++ (endsT J 0 0 ks).map (fun x : Int × Int => x.2)).map D.int)) := by
    show (if _ then _ else _) = _
    rw [if_pos (by rw [List.length_map, List.length_map, endsT_len]; simp; unfold sizeLine; omega), List.map_append]; rfl
  simp only [cB, aCons, a0, b2, fL, dComp, iSq, cF, dN, startE, List.map_cons, List.map_nil, List.length_cons, List.length_nil, List.cons_append, List.nil_append, List.replicate, List.set, getF_s, getF_0, Option.bind_some, h2, frS_ends, seqOf, wipeE, hc', Option.map_some, dLst, dK]
  rw [if_pos (by decide)]
  simp only [Option.map_some, Option.bind_some, hd]
  rw [dMax_ints (by simp), end_max2 hJ hk]
/-! ### the judges -/
theorem eq_range {J : List Job} {ks : List Nat} (h : sortE ks = List.range J.length) : ks.Perm (List.range J.length) := by
  rw [← h]; exact (sortE_perm ks).symm
def pfT (J : List Job) (ks : List Nat) (e s t : Int) : D :=
  if ¬ sortE ks = List.range J.length then .tup [.str "order"]
  else if ¬ endE J ks = e then .tup [.str "end"]
  else if ¬ (s = 0 ∨ s = 1) ∨ t < 0 then .tup [.str "side"]
  else if J = [] then .non
  else match shownT J s.toNat t with
    | some m => if e ≤ m then .non else .tup [.str "threshold"]
    | none => .tup [.str "threshold"]
theorem dNotIn_tup {d : D} {ds : List D} (h : d.nb = true) (h' : D.nbL ds = true) (k : d.dep ≤ 40) : dNotIn d (.tup ds) = some (.bl (!inD d ds)) := by
  show (if _ then _ else _) = _
  rw [if_pos (inOk_of h h' k)]
theorem in01 (s : Int) : inD (.int s) [.int 0, .int 1] = decide (s = 0 ∨ s = 1) := by
  have := inD_enc (α := Int) s [0, 1]
  rw [show inD (.int s) [.int 0, .int 1] = inD (enc s) (([0, 1] : List Int).map enc) from rfl, this]
  simp
theorem len_J (J : List Job) : dLen [enc J] = some (.int (J.length : Int)) := by
  show some (D.int ((J.map (enc : Job → D)).length : Int)) = _
  rw [List.length_map]
theorem rgL_n (n : Nat) (h : n ≤ 1000) : rgL (.int (n : Int)) = some (rangeD 0 n) := by
  show (if _ then _ else _) = _
  rw [if_pos (by omega)]; rfl
theorem ne_order {ks : List Nat} {n : Nat} (hk : ks.length < 1000) : ((dSorted [enc ks]).map D.lst).bind (fun x => dNe x (.lst (rangeD 0 n))) = some (.bl (!decide (sortE ks = List.range n))) := by
  have h1 : dSorted [enc ks] = some ((sortE ks).map enc) := dSorted_enc ks (by decide) (by unfold sizeLine; omega)
  have h2 : (.lst (rangeD 0 n) : D) = enc (List.range n) := by
    rw [rangeD_0]; rfl
  rw [h1, h2]
  exact dNe_enc (sortE ks) (List.range n) (by decide)
theorem pressfault_eq {J : List Job} (hJ : ∀ j ∈ J, 0 ≤ j.1 ∧ 0 ≤ j.2) (hl : J.length ≤ 100) {ks : List Nat} (hk : ks.length < 1000) (e s t : Int) :
    F_press_fault [enc J, .tup [enc ks, .int e, .int s, .int t]] = some (.fz (pfT J ks e s t)) := by
  refine fnS_of rfl (wp_sq ⟨.nx [some (.fz (enc J)), some (.fz (.tup [enc ks, .int e, .int s, .int t])), some (.fz (enc ks)), some (.fz (.int e)), some (.fz (.int s)), some (.fz (.int t)), none, none], rfl, ?_⟩)
  dsimp only
  unfold pfT
  refine wp_sq (wp_if (b := !decide (sortE ks = List.range J.length)) ?_ ?_)
  · have := ne_order (n := J.length) hk
    simp only [tb, b2, fL, cL, aCons, a0, dN, dRgL, cB, getF_s, getF_0, Option.bind_some, len_J, rgL_n J.length (by omega), Option.map_some] at this ⊢
    rw [this]; rfl
  by_cases c1 : sortE ks = List.range J.length
  · rw [decide_eq_true c1, if_neg (by decide), if_neg (by simpa using c1)]
    refine ⟨_, rfl, ?_⟩
    dsimp only
    have hp := eq_range c1
    have hlt : ∀ k ∈ ks, k < J.length := fun k m => List.mem_range.mp (hp.mem_iff.mp m)
    have h2 := ends_eq hlt (show ks.length < sizeLine by unfold sizeLine; omega)
    have hc' : ∀ a b c d e f g h, compD (gN 6) cY (b2 (dN 6) (dK (.int 1)) dIx) [a, b, c, d, e, f, g, h] ((endsT J 0 0 ks).map enc) = some (((endsT J 0 0 ks).map (·.2)).map D.int) := fun a b c d e f g h => ends_snd fun x => rfl
    have hd : dAdd (.lst (((endsT J 0 0 ks).map (fun x : Int × Int => x.2)).map D.int)) (.lst [.int 0]) = some (.lst (((endsT J 0 0 ks).map (fun x : Int × Int => x.2) ++ [(0 : Int)]).map D.int)) := by
      show (if _ then _ else _) = _
      rw [if_pos (by rw [List.length_map, List.length_map, endsT_len]; simp; unfold sizeLine; omega), List.map_append]; rfl
    refine wp_sq (wp_if (b := !decide (endE J ks = e)) ?_ ?_)
    · have hx : (cB (aCons (b2 (fL (dComp [6] (iSq (cF (aCons (dN 0) (aCons (dN 2) a0)) F_ends_of)) (gN 6) cY (b2 (dN 6) (dK (.int 1)) dIx))) (fL (dLst (aCons (dK (.int 0)) a0))) dAdd) a0) dMaxA) [some (.fz (enc J)), some (.fz (.tup [enc ks, .int e, .int s, .int t])), some (.fz (enc ks)), some (.fz (.int e)), some (.fz (.int s)), some (.fz (.int t)), none, none] = some (.int (endE J ks)) := by
        simp only [cB, aCons, a0, b2, fL, dComp, iSq, cF, dN, List.set, getF_s, getF_0, Option.bind_some, h2, frS_ends, seqOf, wipeE, hc', Option.map_some, dLst, dK, List.length_cons, List.length_nil]
        rw [if_pos (by decide)]
        simp only [Option.map_some, Option.bind_some, hd]
        rw [dMax_ints (by simp), end_max1 hJ hlt]
      rw [tb, b2, hx]
      simp only [Option.bind_some, dN, getF_s, getF_0]
      rw [show dNe (.int (endE J ks)) (.int e) = _ from dNe_enc (endE J ks) e (by decide)]; rfl
    by_cases c2 : endE J ks = e
    · rw [decide_eq_true c2, if_neg (by decide), if_neg (by simpa using c2)]
      refine ⟨_, rfl, ?_⟩
      dsimp only
      refine wp_sq (wp_if (b := decide (¬ (s = 0 ∨ s = 1) ∨ t < 0)) ?_ ?_)
      · have := dNotIn_tup (d := .int s) (ds := [.int 0, .int 1]) rfl rfl (by show 0 ≤ 40; decide)
        rw [in01] at this
        simp only [tOr2, tb, b2, dN, dTup, aCons, a0, dK, getF_s, getF_0, Option.bind_some, List.length_cons, List.length_nil]
        rw [if_pos (by decide)]
        simp only [Option.bind_some, this, bOf_bl, dCmp]
        by_cases z : s = 0 ∨ s = 1 <;> by_cases w : t < 0 <;> simp [z, w]
      by_cases c3 : ¬ (s = 0 ∨ s = 1) ∨ t < 0
      · rw [decide_eq_true c3, if_pos rfl, if_pos c3]
        exact wp_ret (d := .tup [.str "side"]) rfl rfl
      · rw [decide_eq_false c3, if_neg (by decide), if_neg c3]
        refine ⟨_, rfl, ?_⟩
        dsimp only
        refine wp_sq (wp_if (b := J.isEmpty) ?_ ?_)
        · simp only [tNot1, dTr, dN, getF_0, Option.bind_some]
          cases J <;> rfl
        by_cases c4 : J = []
        · rw [if_pos c4, c4]
          exact wp_ret (d := .non) rfl rfl
        · have hne : J.isEmpty = false := by cases h : J; exact absurd h c4; rfl
          rw [hne, if_neg (by decide), if_neg c4]
          refine ⟨_, rfl, ?_⟩
          dsimp only
          obtain ⟨s', rfl, hs'⟩ : ∃ s' : Nat, s = (s' : Int) ∧ s' < 2 := ⟨s.toNat, by omega, by omega⟩
          have h3 := shown_eq (J := J) hs' t
          rw [Int.toNat_natCast]
          refine wp_sq (wp_set (d := oZ (shownT J s' t)) (by simp [h3]) ?_)
          dsimp only
          cases shownT J s' t with
          | none => exact wp_ret (d := .tup [.str "threshold"]) rfl rfl
          | some m =>
            by_cases z : e ≤ m
            · refine wp_ret (d := .non) ?_ ?_
              · simp [oZ, dIsNot, dCmp, z]
              · show some (S.fz D.non) = some (S.fz (if e ≤ m then _ else _))
                rw [if_pos z]
            · refine wp_ret (d := .tup [.str "threshold"]) ?_ ?_
              · simp [oZ, dIsNot, dCmp, z]
              · show some (S.fz (.tup [.str "threshold"])) = some (S.fz (if e ≤ m then _ else _))
                rw [if_neg z]
    · rw [decide_eq_false c2, if_pos (show (!false) = true from rfl), if_pos c2]
      exact wp_ret (d := .tup [.str "end"]) rfl rfl
  · rw [decide_eq_false c1, if_pos (show (!false) = true from rfl), if_pos c1]
    exact wp_ret (d := .tup [.str "order"]) rfl rfl
theorem lawfault_eq {J : List Job} (hJ : ∀ j ∈ J, 0 ≤ j.1 ∧ 0 ≤ j.2) (hl : J.length ≤ 100) {ks : List Nat} (hk : ks.length < 1000) (e s t : Int) :
    F__law_fault [enc J, .tup [enc ks, .int e, .int s, .int t]] = some (.fz (pfT J ks e s t)) := by
  refine fnS_of rfl (wp_sq ⟨.nx [some (.fz (enc J)), some (.fz (.tup [enc ks, .int e, .int s, .int t])), some (.fz (enc ks)), some (.fz (.int e)), some (.fz (.int s)), some (.fz (.int t)), none], rfl, ?_⟩)
  dsimp only
  unfold pfT
  refine wp_sq (wp_if (b := !decide (sortE ks = List.range J.length)) ?_ ?_)
  · have := ne_order (n := J.length) hk
    simp only [tb, b2, fL, cL, aCons, a0, dN, dRgL, cB, getF_s, getF_0, Option.bind_some, len_J, rgL_n J.length (by omega), Option.map_some] at this ⊢
    rw [this]; rfl
  by_cases c1 : sortE ks = List.range J.length
  · rw [decide_eq_true c1, if_neg (by decide), if_neg (by simpa using c1)]
    refine ⟨_, rfl, ?_⟩
    dsimp only
    have hp := eq_range c1
    have hlt : ∀ k ∈ ks, k < J.length := fun k m => List.mem_range.mp (hp.mem_iff.mp m)
    have h2 := lawend_eq hJ hlt hk
    refine wp_sq (wp_if (b := !decide (endE J ks = e)) ?_ ?_)
    · simp only [tb, b2, cF, aCons, a0, dN, getF_s, getF_0, Option.bind_some, h2, frS_fz]
      rw [show dNe (.int (endE J ks)) (.int e) = _ from dNe_enc (endE J ks) e (by decide)]; rfl
    by_cases c2 : endE J ks = e
    · rw [decide_eq_true c2, if_neg (by decide), if_neg (by simpa using c2)]
      refine ⟨_, rfl, ?_⟩
      dsimp only
      refine wp_sq (wp_if (b := decide (¬ (s = 0 ∨ s = 1) ∨ t < 0)) ?_ ?_)
      · have := dNotIn_lst (d := .int s) (ds := [.int 0, .int 1]) rfl rfl (by show 0 ≤ 40; decide)
        rw [in01] at this
        simp only [tOr2, tb, b2, dN, fL, dLst, aCons, a0, dK, getF_s, getF_0, Option.bind_some, List.length_cons, List.length_nil]
        rw [if_pos (by decide)]
        simp only [Option.map_some, Option.bind_some, this, bOf_bl, dCmp]
        by_cases z : s = 0 ∨ s = 1 <;> by_cases w : t < 0 <;> simp [z, w]
      by_cases c3 : ¬ (s = 0 ∨ s = 1) ∨ t < 0
      · rw [decide_eq_true c3, if_pos rfl, if_pos c3]
        exact wp_ret (d := .tup [.str "side"]) rfl rfl
      · rw [decide_eq_false c3, if_neg (by decide), if_neg c3]
        refine ⟨_, rfl, ?_⟩
        dsimp only
        obtain ⟨s', rfl, hs'⟩ : ∃ s' : Nat, s = (s' : Int) ∧ s' < 2 := ⟨s.toNat, by omega, by omega⟩
        have h3 := lawshown_eq (J := J) hs' t
        rw [Int.toNat_natCast]
        refine wp_sq (wp_set (d := oZ (shownT J s' t)) (by simp [h3]) ?_)
        dsimp only
        have hz : dEq (.int (J.length : Int)) (.int 0) = some (.bl (decide ((J.length : Int) = 0))) := dEq_enc (J.length : Int) 0 (by decide)
        by_cases c4 : J = []
        · rw [if_pos c4]
          refine wp_ret (d := .non) ?_ rfl
          subst c4
          have hz0 : dEq (.int 0) (.int 0) = some (.bl true) := dEq_self rfl (by show 0 ≤ 40; decide)
          simp [len_J, hz0]
        · rw [if_neg c4]
          have hj : J.length ≠ 0 := fun h => c4 (List.length_eq_zero_iff.mp h)
          cases shownT J s' t with
          | none =>
            refine wp_ret (d := .tup [.str "threshold"]) ?_ rfl
            simp [len_J, hz, hj, oZ, dIsNot]
          | some m =>
            by_cases z : e ≤ m
            · refine wp_ret (d := .non) ?_ ?_
              · simp [len_J, hz, hj, oZ, dIsNot, dCmp, z]
              · show some (S.fz D.non) = some (S.fz (if e ≤ m then _ else _))
                rw [if_pos z]
            · refine wp_ret (d := .tup [.str "threshold"]) ?_ ?_
              · simp [len_J, hz, hj, oZ, dIsNot, dCmp, z]
              · show some (S.fz (.tup [.str "threshold"])) = some (S.fz (if e ≤ m then _ else _))
                rw [if_neg z]
    · rw [decide_eq_false c2, if_pos (show (!false) = true from rfl), if_pos c2]
      exact wp_ret (d := .tup [.str "end"]) rfl rfl
  · rw [decide_eq_false c1, if_pos (show (!false) = true from rfl), if_pos c1]
    exact wp_ret (d := .tup [.str "order"]) rfl rfl
theorem pfT_nb (J : List Job) (ks : List Nat) (e s t : Int) : (pfT J ks e s t).nb = true ∧ (pfT J ks e s t).dep ≤ 40 := by
  unfold pfT
  split
  · exact ⟨rfl, by decide⟩
  · split
    · exact ⟨rfl, by decide⟩
    · split
      · exact ⟨rfl, by decide⟩
      · split
        · exact ⟨rfl, by decide⟩
        · split
          · split <;> exact ⟨rfl, by decide⟩
          · exact ⟨rfl, by decide⟩
theorem pfT_told {J : List Job} (hJ : ∀ j ∈ J, 0 ≤ j.1 ∧ 0 ≤ j.2) {s : Nat} {t : Int} (B : Best J (endE J (seqT J)) s t) : pfT J (seqT J) (endE J (seqT J)) (s : Int) t = .non := by
  have ht := (best_end hJ B).2
  have hs := B.lt
  unfold pfT
  have h1 : sortE (seqT J) = List.range J.length := by
    have hp := (sortE_perm (seqT J)).trans (seqT_perm J)
    refine List.Perm.eq_of_pairwise (le := fun a b : Nat => a ≤ b) (fun a b _ _ h1 h2 => Nat.le_antisymm h1 h2) ((sortE_sorted _).imp fun h => (leE_nat _ _).mp h) ?_ hp
    exact List.pairwise_le_range
  rw [if_neg (by simpa using h1), if_neg (by simp), if_neg (by omega)]
  split
  · rfl
  · rename_i he
    rw [Int.toNat_natCast, (B.at_ he).1]
    show (if _ then _ else _) = _
    rw [if_pos (Int.le_refl _)]

/-! ### all orders -/
def rowsT (k : Nat) (row : List Nat) : List (List Nat) := (List.range (row.length + 1)).map fun j => row.take j ++ [k] ++ row.drop j
theorem ordersT_succ (k : Nat) : ordersT (k + 1) = (ordersT k).flatMap (rowsT k) := rfl
theorem orders_small : (List.range 7).all (fun n => decide ((ordersT n).length ≤ 720)) = true := by decide +kernel
theorem orders_le {n : Nat} (h : n ≤ 6) : (ordersT n).length ≤ 720 := of_decide_eq_true (List.all_eq_true.mp orders_small n (List.mem_range.mpr (by omega)))
theorem orders_row {n : Nat} {r : List Nat} (h : r ∈ ordersT n) : r.length = n := by rw [(orders_perm h).length_eq, List.length_range]
theorem take_enc (xs : List Nat) (j : Nat) : (xs.map (enc : Nat → D)).take j = (xs.take j).map enc := by rw [List.map_take]
theorem lst_enc {α : Type} [Enc α] (xs : List α) : D.lst (xs.map enc) = enc xs := rfl
theorem orders_eq {n : Nat} (hn : n ≤ 6) : F__law_orders [.int (n : Int)] = some (.fz (enc (ordersT n))) := by
  refine fnS_of rfl ?_
  rw [show startE 6 [.int (n : Int)] = [some (.fz (.int (n : Int))), none, none, none, none, none] from rfl]
  refine wp_sq (wp_set (d := enc (ordersT 0)) rfl ?_)
  dsimp only
  refine wp_sq ?_
  refine wp.mono (Q := fun o => ∃ x2 x3 x4, o = .nx [some (.fz (.int (n : Int))), some (.fz (enc (ordersT n))), x2, x3, x4, none]) ?_ ?_
  · have e1 : iR1 (aCons (dN 0) a0) [some (.fz (.int (n : Int))), some (.fz (enc (ordersT 0))), none, none, none, none] = some (rangeD 0 n) := by
      simp [rng1_nat (show n ≤ sizeLine by unfold sizeLine; omega)]
    show wp (((iR1 (aCons (dN 0) a0)) [some (.fz (.int (n : Int))), some (.fz (enc (ordersT 0))), none, none, none, none]).bind _) _
    rw [e1]
    refine wp_range (fun k e => ∃ x2 x3 x4, e = [some (.fz (.int (n : Int))), some (.fz (enc (ordersT k))), x2, x3, x4, none]) ⟨none, none, none, rfl⟩ ?_ ?_
    · rintro k e hk ⟨x2, x3, x4, rfl⟩
      refine ⟨_, rfl, ?_⟩
      rw [Int.zero_add]
      refine wp_sq (wp_setO (s := .ol ((([] : List (List Nat)).map enc).map S.fz)) rfl ?_)
      dsimp only
      refine wp_sq ?_
      refine wp.mono (Q := fun o => ∃ x4, o = .nx [some (.fz (.int (n : Int))), some (.fz (enc (ordersT k))), some (.fz (.int (k : Int))), some (.ol (((ordersT (k + 1)).map enc).map S.fz)), x4, none]) ?_ ?_
      · show wp (forD (gN 4) _ ((ordersT k).map enc) _) _
        refine wp_each (fun done e => ∃ x4, e = [some (.fz (.int (n : Int))), some (.fz (enc (ordersT k))), some (.fz (.int (k : Int))), some (.ol (((done.flatMap (rowsT k)).map enc).map S.fz)), x4, none]) (done := []) ⟨x4, rfl⟩ ?_ ?_
        · rintro pre row post e hd ⟨x4, rfl⟩
          rw [List.nil_append] at hd
          have hrow : row.length = k := orders_row (by rw [hd]; simp)
          refine ⟨_, rfl, ?_⟩
          have hc : compD (gN 5) cY (b2 (b2 (fL (dCut (dN 4) sl0 (sl1 (dN 5)))) (fL (dLst (aCons (dN 2) a0))) dAdd) (fL (dCut (dN 4) (sl1 (dN 5)) sl0)) dAdd)
              [some (.fz (.int (n : Int))), some (.fz (enc (ordersT k))), some (.fz (.int (k : Int))), some (.ol (((pre.flatMap (rowsT k)).map enc).map S.fz)), some (.fz (enc row)), none] (rangeD 0 (row.length + 1)) = some ((rowsT k row).map enc) := by
            rw [rangeD_0, compD_all (α := Nat) (g := fun j => enc (row.take j ++ [k] ++ row.drop j))]
            · rw [rowsT, List.map_map]; rfl
            · intro j hj
              refine ⟨_, rfl, rfl, ?_⟩
              have l1 : lstOf (enc row) = some (row.map enc) := rfl
              have d1 : dAdd (.lst ((row.take j).map enc)) (.lst [.int (k : Int)]) = some (.lst ((row.take j ++ [k]).map enc)) := by
                show (if _ then _ else _) = _
                rw [if_pos (by rw [List.length_map, List.length_take]; simp; unfold sizeLine; omega), List.map_append]; rfl
              have d2 : dAdd (.lst ((row.take j ++ [k]).map enc)) (.lst ((row.drop j).map enc)) = some (.lst ((row.take j ++ [k] ++ row.drop j).map enc)) := by
                show (if _ then _ else _) = _
                rw [if_pos (by rw [List.length_map, List.length_map, List.length_append, List.length_take, List.length_drop]; simp; unfold sizeLine; omega), ← List.map_append]
              have i1 : intOf (.int (j : Int)) = some (j : Int) := rfl
              simp only [b2, fL, dCut, dN, List.set, getF_s, getF_0, Option.bind_some, l1, sl0, sl1, i1, Option.map_some, cutD_to, cutD_from, dLst, aCons, a0, List.length_cons, List.length_nil]
              rw [if_pos (by decide), ← List.map_take, ← List.map_drop]
              simp only [Option.map_some, Option.bind_some, d1, d2]
              rfl
          have hlen : ((pre.flatMap (rowsT k)).map (enc : List Nat → D)).length + ((rowsT k row).map (enc : List Nat → D)).length ≤ sizeLine := by
            have h1 : (pre.flatMap (rowsT k) ++ (rowsT k row ++ post.flatMap (rowsT k))).length ≤ 720 := by
              have := orders_le (n := k + 1) (by omega)
              rw [ordersT_succ, hd, List.flatMap_append, List.flatMap_cons] at this
              exact this
            rw [List.length_append, List.length_append] at h1
            rw [List.length_map, List.length_map]
            unfold sizeLine; omega
          refine ⟨.nx [some (.fz (.int (n : Int))), some (.fz (enc (ordersT k))), some (.fz (.int (k : Int))), some (.ol ((((pre ++ [row]).flatMap (rowsT k)).map enc).map S.fz)), some (.fz (enc row)), none], ?_, _, rfl⟩
          have hl2 : dLen [enc row] = some (.int (row.length : Int)) := by
            show some (D.int ((row.map (enc : Nat → D)).length : Int)) = _
            rw [List.length_map]
          have hr : rng1 [.int ((row.length : Int) + 1)] = some (rangeD 0 (row.length + 1)) := by
            rw [rng1_int (by unfold sizeLine; omega)]; congr 2
          simp only [sExt, List.set, getS_s, getS_0, Option.bind_some, olOf_ol, fL, dComp, iR1, aCons, b2, cB, dN, getF_s, getF_0, a0, hl2, dK, dAdd, hr, wipeE, hc, Option.map_some, lstOf_lst, if_pos hlen]
          rw [List.flatMap_append, List.map_append]
          simp
        · rintro e ⟨x4, rfl⟩
          exact ⟨x4, by rw [List.nil_append, ordersT_succ]⟩
      · rintro o ⟨x4, rfl⟩
        dsimp only
        refine wp_fz (s := .ol (((ordersT (k + 1)).map enc).map S.fz)) rfl (frS_ol _) ?_
        exact wp_set (d := enc (ordersT (k + 1))) rfl ⟨_, _, _, rfl⟩
    · rintro e ⟨x2, x3, x4, rfl⟩
      exact ⟨x2, x3, x4, rfl⟩
  · rintro o ⟨x2, x3, x4, rfl⟩
    exact wp_ret (d := enc (ordersT n)) rfl rfl

/-! ### an order played -/
section
variable (J : List Job) (ks : List Nat)
def rT (k : Nat) : Int × Int := (endsT J 0 0 ks).getD k (0, 0)
def oT (k : Nat) : Nat := ks.getD k 0
def bT (k : Nat) : Int := (rT J ks k).2 - (jb J (oT ks k)).2
def cntT (p : Nat) : Int := (((List.range (p + 1)).filter fun j => decide ((rT J ks p).1 < bT J ks j)).length : Int)
/-- the sum of what the first m of them take on the second press -/
def pS (m : Nat) : Int := sB ((ks.take m).map (jb J))
end
section
variable {J : List Job} {ks : List Nat}
theorem rT_at {k : Nat} (h : k < ks.length) : atI ((endsT J 0 0 ks).map (enc : Int × Int → D)) (k : Int) = some (.tup [.int (rT J ks k).1, .int (rT J ks k).2]) := by
  have h' : k < (endsT J 0 0 ks).length := by rw [endsT_len]; exact h
  rw [atI_map (x := rT J ks k)]
  · rfl
  · rw [List.getElem?_eq_getElem h', rT, List.getD_eq_getElem?_getD, List.getElem?_eq_getElem h']; rfl
theorem oT_at {k : Nat} (h : k < ks.length) : atI (ks.map (enc : Nat → D)) (k : Int) = some (.int (oT ks k : Int)) := by
  rw [atI_map (x := oT ks k)]
  · rfl
  · rw [List.getElem?_eq_getElem h, oT, List.getD_eq_getElem?_getD, List.getElem?_eq_getElem h]; rfl
theorem oT_lt (hk : ∀ k ∈ ks, k < J.length) {k : Nat} (h : k < ks.length) : oT ks k < J.length := by
  rw [oT, List.getD_eq_getElem?_getD, List.getElem?_eq_getElem h]
  exact hk _ (List.getElem_mem h)
theorem pS_succ {m : Nat} (h : m < ks.length) : pS J ks (m + 1) = pS J ks m + (jb J (oT ks m)).2 := by
  unfold pS sB
  rw [List.take_succ, List.getElem?_eq_getElem h, List.map_append, List.map_append, List.sum_append, oT, List.getD_eq_getElem?_getD, List.getElem?_eq_getElem h]
  simp
theorem pS_all (hp : ks.Perm (List.range J.length)) : pS J ks ks.length = sB J := by
  unfold pS sB
  rw [List.take_length]
  exact perm_sum ((perm_jb hp).map _)
theorem atI_last {α : Type} (xs : List α) (x : α) : atI (xs ++ [x]) (-1) = some x := by
  unfold atI ixN
  rw [List.length_append, List.length_singleton, if_neg (by decide), if_pos (by omega)]
  have : ((-1 : Int) + ((xs.length + 1 : Nat) : Int)).toNat = xs.length := by omega
  rw [this]
  show (xs ++ [x])[xs.length]? = some x
  simp
theorem rT_last (h : ks ≠ []) : atI ((endsT J 0 0 ks).map (enc : Int × Int → D)) (-1) = some (.tup [.int (rT J ks (ks.length - 1)).1, .int (rT J ks (ks.length - 1)).2]) := by
  have hl : (endsT J 0 0 ks).length = ks.length := endsT_len J ks 0 0
  have hne : endsT J 0 0 ks ≠ [] := fun e => h (List.length_eq_zero_iff.mp (by rw [← hl, e]; rfl))
  obtain ⟨xs, x, e⟩ : ∃ xs x, endsT J 0 0 ks = xs ++ [x] := ⟨_, _, (List.dropLast_concat_getLast hne).symm⟩
  have hx : rT J ks (ks.length - 1) = x := by
    have : ks.length = xs.length + 1 := by rw [← hl, e, List.length_append]; rfl
    rw [rT, e, this, List.getD_eq_getElem?_getD]
    simp
  rw [hx, e, List.map_append]
  exact atI_last _ _
def idleT (J : List Job) (ks : List Nat) : Int := if ks = [] then 0 else (rT J ks (ks.length - 1)).2 - (rT J ks 0).2 + (jb J (oT ks 0)).2 - sB J
theorem sums_J (J : List Job) {i : Nat} {env : VL.Env} {fe : VL.Env → Option D} (hf : ∀ x : Job, fe (env.set i (some (.fz (enc x)))) = some (.int x.2)) : compD (gN i) cY fe env (J.map enc) = some ((J.map (·.2)).map D.int) := by
  rw [compD_all (g := fun x : Job => D.int x.2)]
  · rw [List.map_map]; rfl
  · intro x _
    exact ⟨_, rfl, rfl, hf x⟩
theorem frz_ends (hk : ∀ k ∈ ks, k < J.length) (hl : ks.length < 1000) : (F_ends_of [enc J, enc ks]).bind frS = some (.lst ((endsT J 0 0 ks).map enc)) := by
  rw [ends_eq hk (show ks.length < sizeLine by unfold sizeLine; omega), Option.bind_some, frS_ends]
theorem frz_lawends (hk : ∀ k ∈ ks, k < J.length) (hl : ks.length < 1000) : (F__law_ends [enc J, enc ks]).bind frS = some (.lst ((endsT J 0 0 ks).map enc)) := by
  rw [lawends_eq hk (show ks.length < sizeLine by unfold sizeLine; omega), Option.bind_some, frS_ends]
theorem idle_eq (hk : ∀ k ∈ ks, k < J.length) (hl : ks.length < 1000) : F_idle_time [enc J, enc ks] = some (.fz (.int (idleT J ks))) := by
  refine fnS_of rfl ?_
  rw [show startE 5 [enc J, enc ks] = [some (.fz (enc J)), some (.fz (enc ks)), none, none, none] from rfl]
  have h1 := frz_ends hk hl
  refine wp_sq (wp_set (d := .lst ((endsT J 0 0 ks).map enc)) ?_ ?_)
  · simp only [cF, aCons, a0, dN, getF_s, getF_0, Option.bind_some]
    exact h1
  dsimp only
  refine wp_sq (wp_if (b := ks.isEmpty) ?_ ?_)
  · simp only [tNot1, dTr, dN, List.set, getF_s, getF_0, Option.bind_some, truE]
    cases ks <;> rfl
  by_cases c : ks = []
  · rw [idleT, if_pos c, c]
    exact wp_ret (d := .int 0) rfl rfl
  · have hne : ks.isEmpty = false := by cases h : ks; exact absurd h c; rfl
    have hp : 0 < ks.length := List.length_pos_iff.mpr c
    rw [hne, if_neg (by decide)]
    refine ⟨_, rfl, ?_⟩
    dsimp only
    have r0 : atI ((endsT J 0 0 ks).map (enc : Int × Int → D)) 0 = _ := rT_at (J := J) hp
    have o0 : atI (ks.map (enc : Nat → D)) 0 = _ := oT_at hp
    have j0 := jb_at (oT_lt hk hp)
    have rl := rT_last (J := J) c
    have eJ : (enc J : D) = .lst (J.map enc) := rfl
    have ek : (enc ks : D) = .lst (ks.map enc) := rfl
    refine wp_sq (wp_set (d := .int ((rT J ks 0).2 - (jb J (oT ks 0)).2)) ?_ ?_)
    · simp only [b2, dN, List.set, getF_s, getF_0, Option.bind_some, dK, eJ, ek, dIx_lst]
      rw [r0, o0]
      simp only [Option.bind_some, dIx_tup, dIx_lst, j0, atI_1, dSub]
    · dsimp only
      refine wp_ret (d := .int (idleT J ks)) ?_ rfl
      have hc : ∀ a b c d e, compD (gN 4) cY (b2 (dN 4) (dK (.int 1)) dIx) [a, b, c, d, e] (J.map enc) = some ((J.map (·.2)).map D.int) := fun a b c d e => sums_J J fun x => rfl
      have n1 : dNeg (.int 1) = some (.int (-1)) := rfl
      simp only [b2, dN, List.set, getF_s, getF_0, Option.bind_some, dK, dNeg1, n1, dIx_lst, rl, dIx_tup, atI_1, dSub, cB, aCons, a0, fL, dComp, iSq, seqOf_J, wipeE, hc, Option.map_some, dSum, intsOf_map]
      rw [idleT, if_neg c]
      congr 2
      show _ = (rT J ks (ks.length - 1)).2 - (rT J ks 0).2 + (jb J (oT ks 0)).2 - (J.map (·.2)).sum
      omega
theorem begin_at (hk : ∀ k ∈ ks, k < J.length) {k : Nat} (h : k < ks.length) {fr fj fo fk : VL.Env → Option D} {env : VL.Env} (h1 : fr env = some (.lst ((endsT J 0 0 ks).map enc))) (h2 : fj env = some (enc J)) (h3 : fo env = some (enc ks)) (h4 : fk env = some (.int (k : Int))) :
    (b2 (b2 (b2 fr fk dIx) (dK (.int 1)) dIx) (b2 (b2 fj (b2 fo fk dIx) dIx) (dK (.int 1)) dIx) dSub) env = some (.int (bT J ks k)) := by
  have eJ : (enc J : D) = .lst (J.map enc) := rfl
  have ek : (enc ks : D) = .lst (ks.map enc) := rfl
  simp only [b2, h1, h2, h3, h4, Option.bind_some, dK, eJ, ek, dIx_lst, rT_at (J := J) h, oT_at h, jb_at (oT_lt hk h), dIx_tup, atI_1, dSub]
  rfl
def mostT (J : List Job) (ks : List Nat) (p : Nat) : Int := ((List.range p).map (cntT J ks)).foldl max 0
theorem mostT_succ (p : Nat) : mostT J ks (p + 1) = max (mostT J ks p) (cntT J ks p) := by
  unfold mostT
  rw [List.range_succ, List.map_append, List.foldl_append]; rfl
theorem buffer_eq (hk : ∀ k ∈ ks, k < J.length) (hl : ks.length < 1000) : F_buffer_of [enc J, enc ks] = some (.fz (.int (mostT J ks ks.length))) := by
  refine fnS_of rfl ?_
  rw [show startE 10 [enc J, enc ks] = [some (.fz (enc J)), some (.fz (enc ks)), none, none, none, none, none, none, none, none] from rfl]
  have h1 := frz_ends hk hl
  refine wp_sq (wp_set (d := .lst ((endsT J 0 0 ks).map enc)) ?_ ?_)
  · simp only [cF, aCons, a0, dN, getF_s, getF_0, Option.bind_some]
    exact h1
  dsimp only
  refine wp_sq (wp_set (d := .int (mostT J ks 0)) rfl ?_)
  dsimp only
  refine wp_sq ?_
  have hen : enumD ((endsT J 0 0 ks).map enc) = (List.range ks.length).map fun (p : Nat) => D.tup [.int (p : Int), enc (rT J ks p)] := by
    have hl := endsT_len J ks 0 0
    refine List.ext_getElem? fun i => ?_
    show (List.mapIdx (fun (i : Nat) d => D.tup [.int (i : Int), d]) ((endsT J 0 0 ks).map enc))[i]? = _
    rw [List.getElem?_mapIdx, List.getElem?_map, List.getElem?_map]
    by_cases hi : i < ks.length
    · have hi' : i < (endsT J 0 0 ks).length := by omega
      rw [List.getElem?_range hi, List.getElem?_eq_getElem hi']
      show some (D.tup [.int (i : Int), enc ((endsT J 0 0 ks)[i])]) = some (D.tup [.int (i : Int), enc (rT J ks i)])
      rw [rT, List.getD_eq_getElem?_getD, List.getElem?_eq_getElem hi']; rfl
    · rw [List.getElem?_eq_none (by omega), List.getElem?_eq_none (by rw [List.length_range]; omega)]; rfl
  refine wp.mono (Q := fun o => ∃ a b c d e f, o = .nx [some (.fz (enc J)), some (.fz (enc ks)), some (.fz (.lst ((endsT J 0 0 ks).map enc))), some (.fz (.int (mostT J ks ks.length))), a, b, c, d, e, f]) ?_ ?_
  · show wp (forD _ _ (enumD ((endsT J 0 0 ks).map enc)) _) _
    rw [hen]
    refine wp_each (fun done e => ∃ a b c d, e = [some (.fz (enc J)), some (.fz (enc ks)), some (.fz (.lst ((endsT J 0 0 ks).map enc))), some (.fz (.int (mostT J ks done.length))), a, b, c, d, none, none]) (done := []) ⟨_, _, _, _, rfl⟩ ?_ ?_
    · rintro pre p post e hd ⟨a, b, c, d, rfl⟩
      rw [List.nil_append] at hd
      have hp : p = pre.length := by
        have := congrArg (fun l => l[pre.length]?) hd
        simp only [List.getElem?_append_right (Nat.le_refl _), Nat.sub_self, List.getElem?_cons_zero] at this
        have h2 := (List.getElem?_eq_some_iff.mp this).2
        rw [List.getElem_range] at h2
        exact h2.symm
      have hlt : p < ks.length := List.mem_range.mp (by rw [hd]; simp)
      have eR : enc (rT J ks p) = D.tup [.int (rT J ks p).1, .int (rT J ks p).2] := rfl
      refine ⟨_, by simp only [gT, gsC, gN, eR, Option.bind_some, gs0]; rfl, ?_⟩
      dsimp only [List.set]
      have hc : ∀ x9, compD (gN 8) cY (b2 (b2 (b2 (dN 2) (dN 8) dIx) (dK (.int 1)) dIx) (b2 (b2 (dN 0) (b2 (dN 1) (dN 8) dIx) dIx) (dK (.int 1)) dIx) dSub) [some (.fz (enc J)), some (.fz (enc ks)), some (.fz (.lst ((endsT J 0 0 ks).map enc))), some (.fz (.int (mostT J ks pre.length))), some (.fz (.int (p : Int))), some (.fz (.int (rT J ks p).1)), some (.fz (.int (rT J ks p).2)), d, none, x9] (rangeD 0 (p + 1)) = some (((List.range (p + 1)).map (bT J ks)).map D.int) := by
        intro x9
        rw [rangeD_0, compD_all (α := Nat) (g := fun k => D.int (bT J ks k))]
        · rw [List.map_map]; rfl
        · intro k hk'
          have := List.mem_range.mp hk'
          exact ⟨_, rfl, rfl, begin_at hk (by omega) rfl rfl rfl rfl⟩
      have hr : rng1 [.int ((p : Int) + 1)] = some (rangeD 0 (p + 1)) := by
        rw [rng1_int (by unfold sizeLine; omega)]; congr 2
      refine wp_sq (wp_set (d := .lst (((List.range (p + 1)).map (bT J ks)).map D.int)) ?_ ?_)
      · simp only [fL, dComp, iR1, aCons, a0, b2, dN, getF_s, getF_0, Option.bind_some, dK, dAdd, hr, wipeE, List.set]
        exact congrArg (Option.map D.lst) (hc none)
      · dsimp only [List.set]
        have hc2 : compD (gN 9) (tb (b2 (dN 9) (dN 5) dGt)) (dN 9) [some (.fz (enc J)), some (.fz (enc ks)), some (.fz (.lst ((endsT J 0 0 ks).map enc))), some (.fz (.int (mostT J ks pre.length))), some (.fz (.int (p : Int))), some (.fz (.int (rT J ks p).1)), some (.fz (.int (rT J ks p).2)), some (.fz (.lst (((List.range (p + 1)).map (bT J ks)).map D.int))), none, none] (((List.range (p + 1)).map (bT J ks)).map D.int) = some ((((List.range (p + 1)).map (bT J ks)).filter fun b => decide ((rT J ks p).1 < b)).map D.int) := by
          exact compD_map fun x _ => ⟨_, rfl, rfl, fun _ => rfl⟩
        have hcnt : ((((List.range (p + 1)).map (bT J ks)).filter fun b => decide ((rT J ks p).1 < b)).length : Int) = cntT J ks p := by
          rw [List.filter_map, List.length_map]; rfl
        refine wp_set (d := .int (mostT J ks (pre ++ [p]).length)) ?_ ⟨_, _, _, _, rfl⟩
        rw [List.length_append, List.length_singleton, mostT_succ, ← hp]
        rw [← hp] at hc2
        simp only [cB, aCons, a0, dN, getF_s, getF_0, Option.bind_some, fL, dComp, iSq, seqOf_lst, wipeE, List.set]
        rw [hc2]
        simp only [Option.map_some, Option.bind_some, dLen, List.length_map, hcnt, dMax_2]
    · rintro e ⟨a, b, c, d, rfl⟩
      exact ⟨_, _, _, _, _, _, by rw [List.nil_append, List.length_range]⟩
  · rintro o ⟨a, b, c, d, e, f, rfl⟩
    exact wp_ret (d := .int (mostT J ks ks.length)) rfl rfl
end

theorem idle_waits {J : List Job} {ks : List Nat} (hp : ks.Perm (List.range J.length)) (h : ks ≠ []) : (rT J ks (ks.length - 1)).2 - (rT J ks 0).2 - (pS J ks ks.length - pS J ks 1) = idleT J ks := by
  have hl : 0 < ks.length := List.length_pos_iff.mpr h
  have h1 : pS J ks 1 = pS J ks 0 + (jb J (oT ks 0)).2 := pS_succ (J := J) hl
  have h0 : pS J ks 0 = 0 := rfl
  rw [idleT, if_neg h, pS_all hp]
  rw [h0] at h1
  omega
theorem played_eq {J : List Job} {ks : List Nat} (hp : ks.Perm (List.range J.length)) (hl : ks.length < 1000) : F__law_played_right [enc J, enc ks] = some (.fz (.bl true)) := by
  have hk : ∀ k ∈ ks, k < J.length := fun k m => List.mem_range.mp (hp.mem_iff.mp m)
  refine fnS_of rfl ?_
  rw [show startE 8 [enc J, enc ks] = [some (.fz (enc J)), some (.fz (enc ks)), none, none, none, none, none, none] from rfl]
  have h1 := frz_lawends hk hl
  have hlen : dLen [.lst ((endsT J 0 0 ks).map enc)] = some (.int (ks.length : Int)) := by
    show some (D.int _) = _
    rw [List.length_map, endsT_len]
  refine wp_sq (wp_set (d := .lst ((endsT J 0 0 ks).map enc)) ?_ ?_)
  · simp only [cF, aCons, a0, dN, getF_s, getF_0, Option.bind_some]
    exact h1
  dsimp only [List.set]
  have hr : rng1 [.int (ks.length : Int)] = some (rangeD 0 ks.length) := rng1_nat (by unfold sizeLine; omega)
  refine wp_sq (wp_set (d := .lst (((List.range ks.length).map (bT J ks)).map D.int)) ?_ ?_)
  · have hc : ∀ a b c d e, compD (gN 4) cY (b2 (b2 (b2 (dN 2) (dN 4) dIx) (dK (.int 1)) dIx) (b2 (b2 (dN 0) (b2 (dN 1) (dN 4) dIx) dIx) (dK (.int 1)) dIx) dSub) [some (.fz (enc J)), some (.fz (enc ks)), some (.fz (.lst ((endsT J 0 0 ks).map enc))), a, b, c, d, e] (rangeD 0 ks.length) = some (((List.range ks.length).map (bT J ks)).map D.int) := by
      intro a b c d e
      rw [rangeD_0, compD_all (α := Nat) (g := fun k => D.int (bT J ks k))]
      · rw [List.map_map]; rfl
      · intro k hk'
        have := List.mem_range.mp hk'
        exact ⟨_, rfl, rfl, begin_at hk (by omega) rfl rfl rfl rfl⟩
    simp only [fL, dComp, iR1, aCons, a0, cB, dN, getF_s, getF_0, Option.bind_some, hlen, hr, wipeE, List.set]
    rw [hc]; rfl
  dsimp only [List.set]
  refine wp_sq (wp_set (d := .int 0) rfl ?_)
  dsimp only [List.set]
  refine wp_sq ?_
  refine wp.mono (Q := fun o => ∃ a, o = .nx [some (.fz (enc J)), some (.fz (enc ks)), some (.fz (.lst ((endsT J 0 0 ks).map enc))), some (.fz (.lst (((List.range ks.length).map (bT J ks)).map D.int))), a, some (.fz (.int (idleT J ks))), none, none]) ?_ ?_
  · have e2 : iR2 (aCons (dK (.int 1)) (aCons (cB (aCons (dN 2) a0) dLen) a0)) [some (.fz (enc J)), some (.fz (enc ks)), some (.fz (.lst ((endsT J 0 0 ks).map enc))), some (.fz (.lst (((List.range ks.length).map (bT J ks)).map D.int))), none, some (.fz (.int 0)), none, none] = some (rangeD 1 (ks.length - 1)) := by
      simp only [iR2, aCons, dK, cB, a0, dN, getF_s, getF_0, Option.bind_some, hlen]
      show (if _ then _ else _) = _
      rw [if_pos (by unfold sizeLine; omega)]
      congr 2
      omega
    show wp ((iR2 (aCons (dK (.int 1)) (aCons (cB (aCons (dN 2) a0) dLen) a0)) [some (.fz (enc J)), some (.fz (enc ks)), some (.fz (.lst ((endsT J 0 0 ks).map enc))), some (.fz (.lst (((List.range ks.length).map (bT J ks)).map D.int))), none, some (.fz (.int 0)), none, none]).bind _) _
    rw [e2]
    refine wp_range (n := ks.length - 1) (lo := 1) (fun m e => ∃ a, e = [some (.fz (enc J)), some (.fz (enc ks)), some (.fz (.lst ((endsT J 0 0 ks).map enc))), some (.fz (.lst (((List.range ks.length).map (bT J ks)).map D.int))), a, some (.fz (.int ((rT J ks m).2 - (rT J ks 0).2 - (pS J ks (m + 1) - pS J ks 1)))), none, none]) ⟨none, ?_⟩ ?_ ?_
    · have e5 : (rT J ks 0).2 - (rT J ks 0).2 - (pS J ks (0 + 1) - pS J ks 1) = 0 := by
        show (rT J ks 0).2 - (rT J ks 0).2 - (pS J ks 1 - pS J ks 1) = 0
        omega
      rw [e5]
    · rintro m e hm ⟨a, rfl⟩
      refine ⟨_, rfl, ?_⟩
      have e3 : (1 : Int) + (m : Int) = ((m + 1 : Nat) : Int) := by omega
      rw [e3]
      have hb : atI (((List.range ks.length).map (bT J ks)).map D.int) ((m + 1 : Nat) : Int) = some (.int (bT J ks (m + 1))) := by
        rw [VL.atI_nat, List.getElem?_map, List.getElem?_map, List.getElem?_range (by omega)]; rfl
      have hr0 := rT_at (J := J) (ks := ks) (k := m) (by omega)
      refine wp_set (d := .int ((rT J ks (m + 1)).2 - (rT J ks 0).2 - (pS J ks (m + 1 + 1) - pS J ks 1))) ?_ ⟨_, rfl⟩
      have e4 : ((m + 1 : Nat) : Int) - 1 = (m : Int) := by omega
      simp only [b2, dN, List.set, getF_s, getF_0, Option.bind_some, dIx_lst, hb, dK, dAdd, dSub, e4, hr0, dIx_tup, atI_1]
      congr 2
      have := pS_succ (J := J) (ks := ks) (m := m + 1) (by omega)
      unfold bT
      omega
    · rintro e ⟨a, rfl⟩
      by_cases c : ks = []
      · subst c
        exact ⟨a, rfl⟩
      · have := idle_waits hp c
        have hl0 : 0 < ks.length := List.length_pos_iff.mpr c
        rw [show ks.length - 1 + 1 = ks.length by omega, this]
        exact ⟨a, rfl⟩
  · rintro o ⟨a, rfl⟩
    dsimp only
    have hc : ∀ x5 x6 x7, compD (gN 4) cY (cB (aCons (fL (dComp [7] (iR1 (aCons (b2 (dN 4) (dK (.int 1)) dAdd) a0)) (gN 7) (tb (b2 (b2 (dN 3) (dN 7) dIx) (b2 (b2 (dN 2) (dN 4) dIx) (dK (.int 0)) dIx) dGt)) (dN 7))) a0) dLen) [some (.fz (enc J)), some (.fz (enc ks)), some (.fz (.lst ((endsT J 0 0 ks).map enc))), some (.fz (.lst (((List.range ks.length).map (bT J ks)).map D.int))), none, x5, x6, x7] (rangeD 0 ks.length) = some (((List.range ks.length).map (cntT J ks)).map D.int) := by
      intro x5 x6 x7
      rw [rangeD_0, compD_all (α := Nat) (g := fun k => D.int (cntT J ks k))]
      · rw [List.map_map]; rfl
      · intro p hp'
        have hp' := List.mem_range.mp hp'
        refine ⟨_, rfl, rfl, ?_⟩
        have hr1 : rng1 [.int ((p : Int) + 1)] = some (rangeD 0 (p + 1)) := by
          rw [rng1_int (by unfold sizeLine; omega)]; congr 2
        have hr0 := rT_at (J := J) (ks := ks) (k := p) hp'
        have hc2 : compD (gN 7) (tb (b2 (b2 (dN 3) (dN 7) dIx) (b2 (b2 (dN 2) (dN 4) dIx) (dK (.int 0)) dIx) dGt)) (dN 7) [some (.fz (enc J)), some (.fz (enc ks)), some (.fz (.lst ((endsT J 0 0 ks).map enc))), some (.fz (.lst (((List.range ks.length).map (bT J ks)).map D.int))), some (.fz (.int (p : Int))), x5, x6, none] (rangeD 0 (p + 1)) = some (((List.range (p + 1)).filter fun j => decide ((rT J ks p).1 < bT J ks j)).map fun (j : Nat) => D.int (j : Int)) := by
          rw [rangeD_0]
          refine compD_map fun j hj => ⟨_, rfl, ?_, fun _ => rfl⟩
          have hj := List.mem_range.mp hj
          have hb : atI (((List.range ks.length).map (bT J ks)).map D.int) (j : Int) = some (.int (bT J ks j)) := by
            rw [VL.atI_nat, List.getElem?_map, List.getElem?_map, List.getElem?_range (by omega)]; rfl
          simp only [tb, b2, dN, List.set, getF_s, getF_0, Option.bind_some, dIx_lst, hb, hr0, dK, dIx_tup, atI_0, dCmp, bOf_bl]
        simp only [cB, aCons, a0, fL, dComp, iR1, b2, dN, List.set, getF_s, getF_0, Option.bind_some, dK, dAdd, hr1, wipeE, hc2, Option.map_some, dLen, List.length_map]
        rfl
    refine wp_sq (wp_set (d := .lst (((List.range ks.length).map (cntT J ks)).map D.int)) ?_ ?_)
    · simp only [fL, dComp, iR1, aCons, a0, cB, dN, getF_s, getF_0, Option.bind_some, hlen, hr, wipeE, List.set]
      exact congrArg (Option.map D.lst) (hc _ _ _)
    · dsimp only [List.set]
      have i1 := idle_eq hk hl
      have i2 := buffer_eq hk hl
      have hd : dAdd (.lst [.int 0]) (.lst (((List.range ks.length).map (cntT J ks)).map D.int)) = some (.lst ((0 :: (List.range ks.length).map (cntT J ks)).map D.int)) := by
        show (if _ then _ else _) = _
        rw [if_pos (by rw [List.length_map, List.length_map, List.length_range]; simp; unfold sizeLine; omega)]; rfl
      have hm : dMaxA [.lst ((0 :: (List.range ks.length).map (cntT J ks)).map D.int)] = some (.int (mostT J ks ks.length)) := dMax_ints (by simp)
      have q1 : dEq (.int (idleT J ks)) (.int (idleT J ks)) = some (.bl true) := dEq_self rfl (by show 0 ≤ 40; decide)
      have q2 : dEq (.int (mostT J ks ks.length)) (.int (mostT J ks ks.length)) = some (.bl true) := dEq_self rfl (by show 0 ≤ 40; decide)
      refine wp_ret (d := .bl true) ?_ rfl
      simp only [vAnd2, b2, cF, aCons, a0, dN, getF_s, getF_0, Option.bind_some, i1, frS_fz, q1, bOf_bl, if_true, i2, cB, fL, dLst, dK, List.length_cons, List.length_nil]
      rw [if_pos (by decide)]
      simp only [Option.map_some, Option.bind_some, hd, hm, q2]

def stA (p : Addr) (n : Int) (cs : List Int) : Option S := some (.at p (stS n cs))
def ET (J : List Job) (s : Nat) (t : Int) : D := .tup [enc (seqT J), .int (endE J (seqT J)), .int (s : Int), .int t]
def EL (st : Option S) (z : Nat) (J : List Job) (x4 : Option S) (d6 : D) (x9 x10 x11 x12 x13 x14 x15 x16 : Option S) : VL.Env :=
  [none, st, some (.fz (.int (z : Int))), some (.fz (enc J)), x4, some (.fz (enc J)), some (.fz d6), some (.fz (enc (ordersT J.length))), some (.fz (enc ((ordersT J.length).map (endE J)))), x9, x10, x11, x12, x13, x14, x15, x16]
structure Jobs (z : Nat) (J : List Job) : Prop where
  len : J.length ≤ 6
  lt : ∀ j ∈ J, 0 ≤ j.1 ∧ j.1 < z ∧ 0 ≤ j.2 ∧ j.2 < z
  z12 : z ≤ 12
theorem Jobs.nn {z : Nat} {J : List Job} (h : Jobs z J) : ∀ j ∈ J, 0 ≤ j.1 ∧ 0 ≤ j.2 := fun j m => ⟨(h.lt j m).1, (h.lt j m).2.2.1⟩
theorem jobs_ok {p : Addr} {n : Int} {cs : List Int} {z : Nat} (hc : cs ≠ []) (hz0 : 0 < z) (hz : z ≤ 12) {Q : D → VL.Env → Prop} (q : ∀ J n cs, cs ≠ [] → Jobs z J → Q (enc J) [none, stA p n cs, some (.fz (.int (z : Int))), none, none, none, none, none, none, none, none, none, none, none, none, none, none]) :
    wm (mComp [4] (mB (maC (mI 1 (maC (pur (dK (.int 7))) mA0) takeS) mA0) rng1) (gN 4) mY (mTup (maC (mI 1 (maC (pur (dN 2)) mA0) takeS) (maC (mI 1 (maC (pur (dN 2)) mA0) takeS) mA0))) [none, stA p n cs, some (.fz (.int (z : Int))), none, none, none, none, none, none, none, none, none, none, none, none, none, none]) Q := by
  refine wm_comp (β := Job) (en := enc) (fun acc e => ∃ n cs, cs ≠ [] ∧ (∀ j ∈ acc, 0 ≤ j.1 ∧ j.1 < (z : Int) ∧ 0 ≤ j.2 ∧ j.2 < (z : Int)) ∧ e = [none, stA p n cs, some (.fz (.int (z : Int))), none, none, none, none, none, none, none, none, none, none, none, none, none, none]) ?_
  refine wm_rng1 (wm_cons (wm_take (m := 7) (n := n) hc (by decide) (by decide) rfl rfl fun x n1 cs1 x0 x1 hc1 => wm_nil ⟨rangeD 0 x.toNat, rng1_int (by unfold sizeLine; omega), ⟨n1, cs1, hc1, by simp, rfl⟩, ?_, ?_⟩))
  · rintro acc d e hm hl ⟨n2, cs2, hc2, hj, rfl⟩
    refine ⟨_, rfl, wm_pur rfl ?_⟩
    rw [if_pos rfl]
    refine wm_tup (wm_cons (wm_take (m := (z : Int)) (n := n2) hc2 (by omega) (by omega) rfl rfl fun a n3 cs3 a0' a1' hc3 => wm_cons (wm_take (m := (z : Int)) (n := n3) hc3 (by omega) (by omega) rfl rfl fun b n4 cs4 b0 b1 hc4 => wm_nil ⟨by simp, (a, b), rfl, n4, cs4, hc4, ?_, rfl⟩)))
    intro j hj'
    rcases List.mem_append.mp hj' with h | h
    · exact hj j h
    · cases List.mem_singleton.mp h
      exact ⟨a0', a1', b0, b1⟩
  · rintro acc e hl ⟨n2, cs2, hc2, hj, rfl⟩
    rw [rangeD_len] at hl
    exact q acc n2 cs2 hc2 ⟨by omega, fun j m => hj j m, hz⟩
theorem enc_ints (ns : List Int) : (enc ns : D) = .lst (ns.map D.int) := rfl
section
variable {z : Nat} {J : List Job} {s : Nat} {t : Int} {p : Addr}
theorem min_ends (hJ : ∀ j ∈ J, 0 ≤ j.1 ∧ 0 ≤ j.2) : dMinA [enc ((ordersT J.length).map (endE J))] = some (.int (endE J (seqT J))) := by
  have hm : endE J (seqT J) ∈ (ordersT J.length).map (endE J) := List.mem_map.mpr ⟨_, perm_orders (seqT_perm J), rfl⟩
  rw [enc_ints, dMin_ints (List.ne_nil_of_mem hm)]
  congr 2
  refine minI_of hm fun x hx => ?_
  obtain ⟨ks, hk, rfl⟩ := List.mem_map.mp hx
  exact seq_least hJ (orders_perm hk)
theorem ord_at {k : Nat} (h : k < (ordersT J.length).length) : ∃ ks, ks ∈ ordersT J.length ∧ atI ((ordersT J.length).map (enc : List Nat → D)) (k : Int) = some (enc ks) ∧ atI (((ordersT J.length).map (endE J)).map D.int) (k : Int) = some (.int (endE J ks)) := by
  refine ⟨_, List.getElem_mem h, atI_map (List.getElem?_eq_getElem h), ?_⟩
  rw [VL.atI_nat, List.getElem?_map, List.getElem?_map, List.getElem?_eq_getElem h]; rfl
def t_marks : VL.Env → Option Out := (sq (sIf (tb (b2 (cF (aCons (dN 3) (aCons (dN 11) (aCons (dN 12) a0))) F_shown) (cF (aCons (dN 3) (aCons (dN 11) (aCons (dN 12) a0))) F__law_shown) dNe)) (sRet (dK (.bl false))) sNx)
    (sq (sSet 13 (cF (aCons (dN 3) (aCons (dN 11) (aCons (dN 12) a0))) F__law_shown))
    (sExt 10 (vIf (tb (b2 (dN 13) (dK .non) dIsNot)) (fL (dLst (aCons (dN 13) a0))) (fL (dLst a0))))))
/-- the marks found so far -/
structure Mk (J : List Job) (P : Nat → Nat → Prop) (m : Nat) (M : List Int) : Prop where
  le : ∀ v ∈ M, v ≤ endE J (seqT J)
  mem : ∀ s t v, P s t → shownT J s (t : Int) = some v → v ∈ M
  len : M.length ≤ m
theorem marks_in {P : Nat → Nat → Prop} {m : Nat} {M : List Int} {st : Option S} {x4 x9 x13 x14 x15 x16 : Option S} {d6 : D} {a b : Nat} (ha : a < 2) (hM : Mk J P m M) (hm : m < 900) :
    wp (t_marks (EL st z J x4 d6 x9 (some (.ol ((M.map D.int).map S.fz))) (some (.fz (.int (a : Int)))) (some (.fz (.int (b : Int)))) x13 x14 x15 x16)) fun o => ∃ M' x13, Mk J (fun s t => P s t ∨ s = a ∧ t = b) (m + 1) M' ∧ o = .nx (EL st z J x4 d6 x9 (some (.ol ((M'.map D.int).map S.fz))) (some (.fz (.int (a : Int)))) (some (.fz (.int (b : Int)))) x13 x14 x15 x16) := by
  have h1 := shown_eq (J := J) ha (b : Int)
  have h2 := lawshown_eq (J := J) ha (b : Int)
  have hne : dNe (oZ (shownT J a (b : Int))) (oZ (shownT J a (b : Int))) = some (.bl false) := dNe_self (by cases shownT J a (b : Int) <;> rfl) (by cases shownT J a (b : Int) <;> exact Nat.zero_le _)
  have hlen := hM.len
  refine wp_sq (wp_if (b := false) ?_ ?_)
  · simp only [tb, b2, cF, aCons, a0, dN, EL, getF_s, getF_0, Option.bind_some, h1, h2, frS_fz, hne, bOf_bl]
  refine ⟨_, rfl, ?_⟩
  dsimp only
  refine wp_sq (wp_set (d := oZ (shownT J a (b : Int))) ?_ ?_)
  · simp only [cF, aCons, a0, dN, EL, getF_s, getF_0, Option.bind_some, h2, frS_fz]
  dsimp only
  cases hv : shownT J a (b : Int) with
  | none =>
    refine ⟨.nx (EL st z J x4 d6 x9 (some (.ol ((M.map D.int).map S.fz))) (some (.fz (.int (a : Int)))) (some (.fz (.int (b : Int)))) (some (.fz .non)) x14 x15 x16), ?_, M, _, ⟨hM.le, ?_, by omega⟩, rfl⟩
    · have e1 : lstOf (.lst []) = some [] := rfl
      simp only [sExt, EL, List.set, getS_s, getS_0, Option.bind_some, olOf_ol, vIf, tb, b2, dN, getF_s, getF_0, oZ, dIsNot, dK, bOf_bl, fL, dLst, a0, List.length_nil]
      simp [e1, List.length_map]
      unfold sizeLine; omega
    · rintro s t v (h | ⟨rfl, rfl⟩) e
      · exact hM.mem s t v h e
      · rw [hv] at e; cases e
  | some v =>
    refine ⟨.nx (EL st z J x4 d6 x9 (some (.ol (((M ++ [v]).map D.int).map S.fz))) (some (.fz (.int (a : Int)))) (some (.fz (.int (b : Int)))) (some (.fz (.int v))) x14 x15 x16), ?_, M ++ [v], _, ⟨?_, ?_, by rw [List.length_append]; simp; omega⟩, rfl⟩
    · have e1 : lstOf (.lst [.int v]) = some [.int v] := rfl
      simp only [sExt, EL, List.set, getS_s, getS_0, Option.bind_some, olOf_ol, vIf, tb, b2, dN, getF_s, getF_0, oZ, dIsNot, dK, bOf_bl, fL, dLst, aCons, a0, List.length_cons, List.length_nil]
      simp [e1, List.length_map]
      unfold sizeLine; omega
    · intro w hw
      rcases List.mem_append.mp hw with h | h
      · exact hM.le w h
      · cases List.mem_singleton.mp h
        exact shown_end (seqT_perm J) ha hv
    · rintro s t w (h | ⟨rfl, rfl⟩) e
      · exact List.mem_append.mpr (.inl (hM.mem s t w h e))
      · rw [hv] at e
        cases e
        exact List.mem_append.mpr (.inr (List.mem_singleton.mpr rfl))
theorem Mk.mono {P P' : Nat → Nat → Prop} {m m' : Nat} {M : List Int} (h : Mk J P m M) (k : ∀ s t, P' s t → P s t) (l : m ≤ m') : Mk J P' m' M := ⟨h.le, fun s t v a e => h.mem s t v (k s t a) e, Nat.le_trans h.len l⟩
theorem marks_ok {st : Option S} {x4 x9 x11 x12 x13 x14 x15 x16 : Option S} {d6 : D} (hz : z ≤ 12) :
    wp (sFor (iR1 (aCons (dK (.int 2)) a0)) (gN 11) (sFor (iR1 (aCons (b2 (dN 2) (dK (.int 1)) dAdd) a0)) (gN 12) t_marks) (EL st z J x4 d6 x9 (some (.ol ((([] : List Int).map D.int).map S.fz))) x11 x12 x13 x14 x15 x16)) fun o => ∃ M x11 x12 x13, Mk J (fun s t => s < 2 ∧ t < z + 1) 100 M ∧ o = .nx (EL st z J x4 d6 x9 (some (.ol ((M.map D.int).map S.fz))) x11 x12 x13 x14 x15 x16) := by
  show wp (forD (gN 11) _ (rangeD 0 2) _) _
  refine wp_range (n := 2) (fun k e => ∃ M x11 x12 x13, Mk J (fun s t => s < k ∧ t < z + 1) (20 * k) M ∧ e = EL st z J x4 d6 x9 (some (.ol ((M.map D.int).map S.fz))) x11 x12 x13 x14 x15 x16) ⟨[], x11, x12, x13, ⟨by simp, fun s t v h => by omega, by simp⟩, rfl⟩ ?_ ?_
  · rintro a e ha ⟨M, x11, x12, x13, hM, rfl⟩
    refine ⟨_, rfl, ?_⟩
    rw [Int.zero_add]
    have hr : rng1 [.int ((z : Int) + 1)] = some (rangeD 0 (z + 1)) := by
      rw [rng1_int (by unfold sizeLine; omega)]; congr 2
    have er : iR1 (aCons (b2 (dN 2) (dK (.int 1)) dAdd) a0) (EL st z J x4 d6 x9 (some (.ol ((M.map D.int).map S.fz))) (some (.fz (.int (a : Int)))) x12 x13 x14 x15 x16) = some (rangeD 0 (z + 1)) := by
      simp only [iR1, aCons, a0, b2, dN, EL, getF_s, getF_0, Option.bind_some, dK, dAdd, hr]
    show wp ((iR1 (aCons (b2 (dN 2) (dK (.int 1)) dAdd) a0) (EL st z J x4 d6 x9 (some (.ol ((M.map D.int).map S.fz))) (some (.fz (.int (a : Int)))) x12 x13 x14 x15 x16)).bind _) _
    rw [er]
    refine wp_range (n := z + 1) (fun k e => ∃ M x12 x13, Mk J (fun s t => s < a ∧ t < z + 1 ∨ s = a ∧ t < k) (20 * a + k) M ∧ e = EL st z J x4 d6 x9 (some (.ol ((M.map D.int).map S.fz))) (some (.fz (.int (a : Int)))) x12 x13 x14 x15 x16) ⟨M, x12, x13, hM.mono (by rintro s t (h | h); exact h; omega) (by omega), rfl⟩ ?_ ?_
    · rintro b e hb ⟨M, x12, x13, hM, rfl⟩
      refine ⟨_, rfl, ?_⟩
      rw [Int.zero_add]
      refine (marks_in (z := z) (st := st) (x4 := x4) (x9 := x9) (x13 := x13) (x14 := x14) (x15 := x15) (x16 := x16) (d6 := d6) (a := a) (b := b) ha hM (by omega)).mono ?_
      rintro o ⟨M', x13', hM', rfl⟩
      refine ⟨M', _, x13', hM'.mono ?_ (by omega), rfl⟩
      rintro s t (h | h)
      · exact .inl (.inl h)
      · by_cases c : t = b
        · exact .inr ⟨h.1, c⟩
        · exact .inl (.inr ⟨h.1, by omega⟩)
    · rintro e ⟨M, x12, x13, hM, rfl⟩
      exact ⟨M, _, x12, x13, hM.mono (by rintro s t ⟨h1, h2⟩; by_cases c : s = a; exact .inr ⟨c, h2⟩; exact .inl ⟨by omega, h2⟩) (by omega), rfl⟩
  · rintro e ⟨M, x11, x12, x13, hM, rfl⟩
    exact ⟨M, x11, x12, x13, hM.mono (fun s t h => h) (by omega), rfl⟩
def t_play : VL.Env → Option Out := (sq (sSetM 9 (m2 (pur (dN 7)) (mI 1 (maC (pur (cB (aCons (dN 7) a0) dLen)) mA0) takeS) dIx))
    (sIf (tOr2 (tb (b2 (cF (aCons (dN 3) (aCons (dN 9) a0)) F_ends_of) (cF (aCons (dN 3) (aCons (dN 9) a0)) F__law_ends) dNe)) (tNot1 (dTr (cF (aCons (dN 3) (aCons (dN 9) a0)) F__law_played_right)))) (sRet (dK (.bl false))) sNx))
def t_all : VL.Env → Option Out := (sIf (tb (b2 (cF (aCons (dN 3) (aCons (dTup (aCons (b2 (dN 7) (dN 4) dIx) (aCons (b2 (dN 8) (dN 4) dIx) (aCons (b2 (dN 6) (dK (.int 2)) dIx) (aCons (b2 (dN 6) (dK (.int 3)) dIx) a0))))) a0)) F_press_fault) (cF (aCons (dN 3) (aCons (dTup (aCons (b2 (dN 7) (dN 4) dIx) (aCons (b2 (dN 8) (dN 4) dIx) (aCons (b2 (dN 6) (dK (.int 2)) dIx) (aCons (b2 (dN 6) (dK (.int 3)) dIx) a0))))) a0)) F__law_fault) dNe)) (sRet (dK (.bl false))) sNx)
def Kp (z : Nat) (J : List Job) (d6 : D) (p : Addr) (e : VL.Env) : Prop := ∃ n cs x4 x9 x10 x11 x12 x13 x14 x15 x16, cs ≠ [] ∧ e = EL (stA p n cs) z J x4 d6 x9 x10 x11 x12 x13 x14 x15 x16
theorem ord_len (h : Jobs z J) : dLen [enc (ordersT J.length)] = some (.int ((ordersT J.length).length : Int)) := by
  show some (D.int _) = _
  rw [List.length_map]
theorem ord_pos (J : List Job) : 0 < (ordersT J.length).length := List.length_pos_of_mem (perm_orders (seqT_perm J))
theorem play_ok (hJ : Jobs z J) {e : VL.Env} {d6 : D} (h : Kp z J d6 p e) : wp (t_play e) fun o => ∃ e, o = .nx e ∧ Kp z J d6 p e := by
  obtain ⟨n, cs, x4, x9, x10, x11, x12, x13, x14, x15, x16, hc, rfl⟩ := h
  have hpos := ord_pos J
  have hle := orders_le hJ.len
  refine wp_sq (wp_setM (wm_2 (wm_pur (x := enc (ordersT J.length)) rfl (wm_take (m := ((ordersT J.length).length : Int)) (n := n) hc (by omega) (by omega) rfl (ma1 ?_) fun x n1 cs1 x0 x1 hc1 => ?_))))
  · show ((some (enc (ordersT J.length))).bind fun x => (some ([] : List D)).bind fun xs => some (x :: xs)).bind dLen = _
    exact ord_len hJ
  obtain ⟨k, rfl⟩ : ∃ k : Nat, x = k := ⟨x.toNat, by omega⟩
  obtain ⟨ks, hk, h1, _⟩ := ord_at (J := J) (k := k) (by omega)
  refine ⟨enc ks, h1, ?_⟩
  dsimp only
  have hp := orders_perm hk
  have hlt : ∀ k ∈ ks, k < J.length := fun k m => List.mem_range.mp (hp.mem_iff.mp m)
  have hlen : ks.length < 1000 := by
    have := orders_row hk
    have := hJ.len
    omega
  have f1 := frz_ends hlt hlen
  have f2 := frz_lawends hlt hlen
  have f3 := played_eq hp hlen
  have hne : dNe (.lst ((endsT J 0 0 ks).map enc)) (.lst ((endsT J 0 0 ks).map enc)) = some (.bl false) := dNe_self (d := enc (endsT J 0 0 ks)) (Enc.nb _) (Nat.le_trans (Enc.dp _) (by decide))
  refine wp_if (b := false) ?_ ?_
  · simp only [tOr2, tb, b2, cF, aCons, a0, dN, EL, List.set, getF_s, getF_0, Option.bind_some, f1, f2, hne, bOf_bl, f3, frS_fz, tNot1, dTr]
    rfl
  · exact ⟨_, rfl, _, rfl, n1, cs1, _, _, _, _, _, _, _, _, _, hc1, rfl⟩
theorem faults_eq (hJ : Jobs z J) {ks : List Nat} (hk : ks.length < 1000) (e s t : Int) : ∃ w, dNe w w = some (.bl false) ∧ F_press_fault [enc J, .tup [enc ks, .int e, .int s, .int t]] = some (.fz w) ∧ F__law_fault [enc J, .tup [enc ks, .int e, .int s, .int t]] = some (.fz w) := by
  have h := pfT_nb J ks e s t
  have hl := hJ.len
  exact ⟨_, dNe_self h.1 h.2, pressfault_eq hJ.nn (by omega) hk e s t, lawfault_eq hJ.nn (by omega) hk e s t⟩
theorem all_ok (hJ : Jobs z J) {n : Int} {cs : List Int} {k : Nat} {x9 x10 x11 x12 x13 x14 x15 x16 : Option S} (hk : k < (ordersT J.length).length) (hc : cs ≠ []) : wp (t_all (EL (stA p n cs) z J (some (.fz (.int (k : Int)))) (ET J s t) x9 x10 x11 x12 x13 x14 x15 x16)) fun o => ∃ e, o = .nx e ∧ Kp z J (ET J s t) p e := by
  obtain ⟨ks, hk1, h1, h2⟩ := ord_at (J := J) hk
  have hlen : ks.length < 1000 := by
    have := orders_row hk1
    have := hJ.len
    omega
  obtain ⟨w, w1, w2, w3⟩ := faults_eq hJ hlen (endE J ks) (s : Int) t
  have e7 : (enc (ordersT J.length) : D) = .lst ((ordersT J.length).map enc) := rfl
  refine wp_if (b := false) ?_ ⟨_, rfl, _, rfl, n, cs, _, _, _, _, _, _, _, _, _, hc, rfl⟩
  simp only [tb, b2, cF, aCons, a0, dTup, dN, EL, ET, getF_s, getF_0, Option.bind_some, e7, enc_ints, dIx_lst, h1, h2, dK, dIx_tup, atI_2, atI_3, List.length_cons, List.length_nil]
  rw [if_pos (by decide)]
  simp only [Option.bind_some, w2, w3, frS_fz, w1, bOf_bl]
end

section
variable {z : Nat} {J : List Job} {s : Nat} {t : Int} {p : Addr}
def t_bend : VL.Env → Option Out := (sIf (tb (b2 (dN 15) (dK (.int 0)) dEq)) (sSetM 9 (mIf (mtb (m2 (mI 1 (maC (pur (dK (.int 2))) mA0) takeS) (pur (dK (.int 0))) dEq)) (pur (fL (dCut (dN 9) (sl1 (dK (.int 1))) sl0))) (pur (b2 (dN 9) (fL (dLst (aCons (dK (.int 0)) a0))) dAdd)))) (sIf (tb (b2 (dN 15) (dK (.int 1)) dEq)) (sSetM 14 (m2 (pur (dN 14)) (m2 (pur (fL (dLst (aCons (dK (.int 1)) (aCons (b2 (dK (.int 0)) (dK (.int 1)) dSub) a0))))) (mI 1 (maC (pur (dK (.int 2))) mA0) takeS) dIx) dAdd)) (sIf (tb (b2 (dN 15) (dK (.int 2)) dEq)) (sSetM 11 (m2 (pur (fL (dLst (aCons (b2 (dK (.int 1)) (dN 11) dSub) (aCons (dK (.int 2)) (aCons (b2 (dK (.int 0)) (dK (.int 1)) dSub) a0)))))) (mI 1 (maC (pur (dK (.int 3))) mA0) takeS) dIx)) (sSetM 12 (m2 (pur (fL (dLst (aCons (b2 (dN 12) (dK (.int 1)) dAdd) (aCons (b2 (dN 12) (dK (.int 1)) dSub) (aCons (dK (.int 0)) (aCons (dK (.int 99)) a0))))))) (mI 1 (maC (pur (dK (.int 4))) mA0) takeS) dIx)))))
def t_turn : VL.Env → Option Out := (sq (sTg (gT (gsC (gN 9) (gsC (gN 14) (gsC (gN 11) (gsC (gN 12) gs0))))) (dTup (aCons (fL (cL (aCons (b2 (dN 6) (dK (.int 0)) dIx) a0) dList)) (aCons (b2 (dN 6) (dK (.int 1)) dIx) (aCons (b2 (dN 6) (dK (.int 2)) dIx) (aCons (b2 (dN 6) (dK (.int 3)) dIx) a0))))))
    (sq (sSetM 15 (mI 1 (maC (pur (dK (.int 5))) mA0) takeS))
    (sq t_bend
    (sq (sSet 16 (dTup (aCons (dN 9) (aCons (dN 14) (aCons (dN 11) (aCons (dN 12) a0))))))
    (sIf (tb (b2 (cF (aCons (dN 3) (aCons (dN 16) a0)) F_press_fault) (cF (aCons (dN 3) (aCons (dN 16) a0)) F__law_fault) dNe)) (sRet (dK (.bl false))) sNx)))))
def EX (st : Option S) (z : Nat) (J : List Job) (x4 : Option S) (d6 : D) (ks : List Nat) (e s t : Int) (x10 x13 x15 x16 : Option S) : VL.Env :=
  EL st z J x4 d6 (some (.fz (enc ks))) x10 (some (.fz (.int s))) (some (.fz (.int t))) x13 (some (.fz (.int e))) x15 x16
theorem eq_i (a b : Int) : dEq (.int a) (.int b) = some (.bl (decide (a = b))) := dEq_enc a b (by decide)
theorem bend_ok {n : Int} {cs : List Int} {x4 x10 x13 x16 : Option S} {d6 : D} {ks : List Nat} {e s t kd : Int} (hk : ks.length < 900) (hc : cs ≠ []) :
    wp (t_bend (EX (stA p n cs) z J x4 d6 ks e s t x10 x13 (some (.fz (.int kd))) x16)) fun o => ∃ n cs ks e s t, cs ≠ [] ∧ ks.length < 1000 ∧ o = .nx (EX (stA p n cs) z J x4 d6 ks e s t x10 x13 (some (.fz (.int kd))) x16) := by
  have hkd : ∀ c : Int, tb (b2 (dN 15) (dK (.int c)) dEq) (EX (stA p n cs) z J x4 d6 ks e s t x10 x13 (some (.fz (.int kd))) x16) = some (decide (kd = c)) := by
    intro c
    simp only [tb, b2, dN, EX, EL, getF_s, getF_0, Option.bind_some, dK, eq_i, bOf_bl]
  refine wp_if (hkd 0) ?_
  by_cases c0 : kd = 0
  · rw [if_pos (decide_eq_true c0)]
    refine wp_setM (wm_if (wm_tb (wm_2 (wm_take (m := 2) (n := n) hc (by decide) (by decide) rfl rfl fun x n1 cs1 _ _ hc1 => wm_pur (x := .int 0) rfl ⟨.bl (decide (x = 0)), eq_i x 0, decide (x = 0), rfl, ?_⟩))))
    by_cases cx : x = 0
    · rw [if_pos (decide_eq_true cx)]
      refine wm_pur (x := enc (ks.drop 1)) ?_ ⟨n1, cs1, ks.drop 1, e, s, t, hc1, by rw [List.length_drop]; omega, rfl⟩
      show (some (.lst (cutD (ks.map enc) (some ((1 : Nat) : Int)) none)) : Option D) = _
      rw [cutD_from, ← List.map_drop]; rfl
    · rw [if_neg (by simpa using cx)]
      refine wm_pur (x := enc (ks ++ [0])) ?_ ⟨n1, cs1, ks ++ [0], e, s, t, hc1, by rw [List.length_append]; simp; omega, rfl⟩
      show (if _ then _ else _ : Option D) = _
      rw [if_pos (by rw [List.length_map]; simp; unfold sizeLine; omega)]
      show some (D.lst (ks.map enc ++ [.int 0])) = some (D.lst ((ks ++ [0]).map enc))
      rw [List.map_append]; rfl
  · rw [if_neg (by simpa using c0)]
    refine wp_if (hkd 1) ?_
    by_cases c1 : kd = 1
    · rw [if_pos (decide_eq_true c1)]
      refine wp_setM (wm_2 (wm_pur (x := .int e) rfl (wm_2 (wm_pur (x := .lst [.int 1, .int (-1)]) rfl (wm_take (m := 2) (n := n) hc (by decide) (by decide) rfl rfl fun x n1 cs1 x0 x1 hc1 => ?_)))))
      have : x = 0 ∨ x = 1 := by omega
      rcases this with rfl | rfl
      · exact ⟨_, rfl, _, rfl, n1, cs1, ks, e + 1, s, t, hc1, by omega, rfl⟩
      · exact ⟨_, rfl, _, rfl, n1, cs1, ks, e + -1, s, t, hc1, by omega, rfl⟩
    · rw [if_neg (by simpa using c1)]
      refine wp_if (hkd 2) ?_
      by_cases c2 : kd = 2
      · rw [if_pos (decide_eq_true c2)]
        refine wp_setM (wm_2 (wm_pur (x := .lst [.int (1 - s), .int 2, .int (-1)]) rfl (wm_take (m := 3) (n := n) hc (by decide) (by decide) rfl rfl fun x n1 cs1 x0 x1 hc1 => ?_)))
        have : x = 0 ∨ x = 1 ∨ x = 2 := by omega
        rcases this with rfl | rfl | rfl
        · exact ⟨_, rfl, n1, cs1, ks, e, 1 - s, t, hc1, by omega, rfl⟩
        · exact ⟨_, rfl, n1, cs1, ks, e, 2, t, hc1, by omega, rfl⟩
        · exact ⟨_, rfl, n1, cs1, ks, e, -1, t, hc1, by omega, rfl⟩
      · rw [if_neg (by simpa using c2)]
        refine wp_setM (wm_2 (wm_pur (x := .lst [.int (t + 1), .int (t - 1), .int 0, .int 99]) rfl (wm_take (m := 4) (n := n) hc (by decide) (by decide) rfl rfl fun x n1 cs1 x0 x1 hc1 => ?_)))
        have : x = 0 ∨ x = 1 ∨ x = 2 ∨ x = 3 := by omega
        rcases this with rfl | rfl | rfl | rfl
        · exact ⟨_, rfl, n1, cs1, ks, e, s, t + 1, hc1, by omega, rfl⟩
        · exact ⟨_, rfl, n1, cs1, ks, e, s, t - 1, hc1, by omega, rfl⟩
        · exact ⟨_, rfl, n1, cs1, ks, e, s, 0, hc1, by omega, rfl⟩
        · exact ⟨_, rfl, n1, cs1, ks, e, s, 99, hc1, by omega, rfl⟩
theorem turn_ok (hJ : Jobs z J) {e : VL.Env} (h : Kp z J (ET J s t) p e) : wp (t_turn e) fun o => ∃ e, o = .nx e ∧ Kp z J (ET J s t) p e := by
  obtain ⟨n, cs, x4, x9, x10, x11, x12, x13, x14, x15, x16, hc, rfl⟩ := h
  refine wp_sq ⟨.nx (EX (stA p n cs) z J x4 (ET J s t) (seqT J) (endE J (seqT J)) (s : Int) t x10 x13 x15 x16), rfl, ?_⟩
  dsimp only
  refine wp_sq (wp_setM (wm_take (m := 5) (n := n) hc (by decide) (by decide) rfl rfl fun kd n1 cs1 _ _ hc1 => ?_))
  dsimp only
  have hlen : (seqT J).length < 900 := by
    rw [(seqT_perm J).length_eq, List.length_range]
    have := hJ.len
    omega
  refine wp_sq ((bend_ok (z := z) (J := J) (p := p) (n := n1) (x4 := x4) (x10 := x10) (x13 := x13) (x16 := x16) (d6 := ET J s t) (e := endE J (seqT J)) (s := (s : Int)) (t := t) (kd := kd) hlen hc1).mono ?_)
  rintro o ⟨n2, cs2, ks, e', s', t', hc2, hk, rfl⟩
  dsimp only
  obtain ⟨w, w1, w2, w3⟩ := faults_eq hJ hk e' s' t'
  refine wp_sq (wp_set (d := .tup [enc ks, .int e', .int s', .int t']) rfl ?_)
  dsimp only
  refine wp_if (b := false) ?_ ⟨_, rfl, _, rfl, n2, cs2, _, _, _, _, _, _, _, _, _, hc2, rfl⟩
  simp only [tb, b2, cF, aCons, a0, dN, EX, EL, List.set, getF_s, getF_0, Option.bind_some, w2, w3, frS_fz, w1, bOf_bl]
end
theorem law_rest {p : Addr} {n : Int} {cs : List Int} {z : Nat} {J : List Job} (hJ : Jobs z J) (hz0 : 0 < z) (hc : cs ≠ []) {f0 : VL.Env → Option Out}
    (hf : f0 = (sq (sSet 5 (fL (cL (aCons (dN 3) a0) dList)))
    (sq (sSet 6 (cF (aCons (dN 3) a0) F_press))
    (sq (sSet 7 (cF (aCons (cB (aCons (dN 3) a0) dLen) a0) F__law_orders))
    (sq (sSet 8 (fL (dComp [9] (iSq (dN 7)) (gN 9) cY (cF (aCons (dN 3) (aCons (dN 9) a0)) F__law_end))))
    (sq (sIf (tOr2 (tNot1 (dTr (dIsi "tuple" (dN 6)))) (tOr2 (tb (b2 (b2 (dN 6) (dK (.int 1)) dIx) (cB (aCons (dN 8) a0) dMinA) dNe)) (tOr2 (tb (b2 (cF (aCons (dN 3) (aCons (dN 6) a0)) F__law_fault) (dK .non) dIsNot)) (tb (b2 (cF (aCons (dN 3) (aCons (dN 6) a0)) F_press_fault) (dK .non) dIsNot))))) (sRet (dK (.bl false))) sNx)
    (sq (sSetO 10 (oL (dLst a0)))
    (sq (sFor (iR1 (aCons (dK (.int 2)) a0)) (gN 11) (sFor (iR1 (aCons (b2 (dN 2) (dK (.int 1)) dAdd) a0)) (gN 12) t_marks))
    (sq (sIf (tAnd2 (tb (b2 (cB (aCons (dN 3) a0) dLen) (dK (.int 0)) dGt)) (tb (b2 (cB (aCons (dW 10) a0) dMax) (cB (aCons (dN 8) a0) dMinA) dNe))) (sRet (dK (.bl false))) sNx)
    (sq (sFor (iR1 (aCons (dK (.int 3)) a0)) (gN 4) t_play)
    (sq (sFor (iR1 (aCons (cB (aCons (dK (.int 30)) (aCons (cB (aCons (dN 7) a0) dLen) a0)) dMinA) a0)) (gN 4) t_all)
    (sq (sFor (iR1 (aCons (dK (.int 8)) a0)) (gN 4) t_turn)
    (sRet (b2 (dN 3) (dN 5) dEq)))))))))))))) :
    wp (f0 [none, stA p n cs, some (.fz (.int (z : Int))), some (.fz (enc J)), none, none, none, none, none, none, none, none, none, none, none, none, none]) fun o => ∃ env', o = .rt (.fz (.bl true)) env' := by
  rw [hf]
  have hl := hJ.len
  have hn := hJ.nn
  obtain ⟨s, t, B, hP⟩ := press_eq hn (by omega)
  refine wp_sq (wp_set (d := enc J) rfl ?_)
  dsimp only [List.set]
  refine wp_sq (wp_set (d := ET J s t) ?_ ?_)
  · simp only [cF, aCons, a0, dN, getF_s, getF_0, Option.bind_some, hP, frS_fz]; rfl
  dsimp only [List.set]
  have hO := orders_eq hl
  refine wp_sq (wp_set (d := enc (ordersT J.length)) ?_ ?_)
  · simp only [cF, aCons, a0, cB, dN, getF_s, getF_0, Option.bind_some, len_J, hO, frS_fz]
  dsimp only [List.set]
  refine wp_sq (wp_set (d := enc ((ordersT J.length).map (endE J))) ?_ ?_)
  · have hc9 : ∀ a b c d e f g, compD (gN 9) cY (cF (aCons (dN 3) (aCons (dN 9) a0)) F__law_end) [none, stA p n cs, some (.fz (.int (z : Int))), some (.fz (enc J)), none, some (.fz (enc J)), some (.fz (ET J s t)), some (.fz (enc (ordersT J.length))), none, none, a, b, c, d, e, f, g] ((ordersT J.length).map enc) = some (((ordersT J.length).map (endE J)).map D.int) := by
      intro a b c d e f g
      rw [compD_all (g := fun ks : List Nat => D.int (endE J ks))]
      · rw [List.map_map]; rfl
      · intro ks hk
        refine ⟨_, rfl, rfl, ?_⟩
        have hp := orders_perm hk
        have hlt : ∀ k ∈ ks, k < J.length := fun k m => List.mem_range.mp (hp.mem_iff.mp m)
        have h1 := lawend_eq hn hlt (by have := orders_row hk; omega)
        simp only [cF, aCons, a0, dN, List.set, getF_s, getF_0, Option.bind_some, h1, frS_fz]
    have e7 : seqOf (enc (ordersT J.length)) = some ((ordersT J.length).map enc) := rfl
    simp only [fL, dComp, iSq, dN, getF_s, getF_0, Option.bind_some, e7, wipeE, List.set]
    rw [hc9]; rfl
  dsimp only [List.set]
  have hmin := min_ends (J := J) hn
  have hlenT : (seqT J).length < 1000 := by rw [(seqT_perm J).length_eq, List.length_range]; omega
  have k1 := pressfault_eq hn (by omega) hlenT (endE J (seqT J)) (s : Int) t
  have k2 := lawfault_eq hn (by omega) hlenT (endE J (seqT J)) (s : Int) t
  rw [pfT_told hn B] at k1 k2
  have hne : ∀ a : Int, dNe (.int a) (.int a) = some (.bl false) := fun a => dNe_self rfl (by show 0 ≤ 40; decide)
  refine wp_sq (wp_if (b := false) ?_ ?_)
  · have ht : isTup (ET J s t) = some (.bl true) := rfl
    have hi : dIx (ET J s t) (.int 1) = some (.int (endE J (seqT J))) := rfl
    simp only [tOr2, tNot1, dTr, dIsi, tb, b2, cB, cF, aCons, a0, dN, getF_s, getF_0, Option.bind_some, Option.map_some, ht, truE_bl, Bool.not_true, Bool.false_eq_true, if_false, dK, hi, hmin, hne, bOf_bl]
    rw [show F__law_fault [enc J, ET J s t] = _ from k2, show F_press_fault [enc J, ET J s t] = _ from k1]
    rfl
  rw [if_neg (by decide)]
  refine ⟨_, rfl, ?_⟩
  dsimp only
  refine wp_sq (wp_setO (s := .ol ((([] : List Int).map D.int).map S.fz)) rfl ?_)
  dsimp only [List.set]
  refine wp_sq ((marks_ok (z := z) (J := J) (st := stA p n cs) (x4 := none) (x9 := none) (x11 := none) (x12 := none) (x13 := none) (x14 := none) (x15 := none) (x16 := none) (d6 := ET J s t) hJ.z12).mono ?_)
  rintro o ⟨M, x11, x12, x13, hM, rfl⟩
  dsimp only
  have hw : ∀ x4 x9 x14 x15 x16, getW (EL (stA p n cs) z J x4 (ET J s t) x9 (some (.ol ((M.map D.int).map S.fz))) x11 x12 x13 x14 x15 x16) 10 = some (.lst (M.map D.int)) := by
    intro x4 x9 x14 x15 x16
    simp only [EL, getW_s]
    exact getW_ol _ _
  refine wp_sq (wp_if (b := false) ?_ ?_)
  · by_cases he : J = []
    · simp only [tAnd2, tb, b2, cB, aCons, a0, dN, EL, getF_s, getF_0, Option.bind_some, len_J, dK, dCmp, bOf_bl]
      subst he
      rfl
    · have hmem : endE J (seqT J) ∈ M := by
        obtain ⟨s', hs', j, hj, v, h3, h4⟩ := seq_shown hn he
        have hb := hJ.lt j hj
        have hpk : 0 ≤ pk s' j ∧ pk s' j < z := by unfold pk; split <;> omega
        obtain ⟨u, hu⟩ : ∃ u : Nat, pk s' j = (u : Int) := ⟨(pk s' j).toNat, by omega⟩
        rw [hu] at h3 hpk
        rw [← h4]
        exact hM.mem s' u v ⟨hs', by omega⟩ h3
      have hmax : dMax [.lst (M.map D.int)] = some (.int (endE J (seqT J))) := by
        show (intsOf (M.map D.int)).bind _ = _
        rw [intsOf_map, Option.bind_some, if_neg (List.ne_nil_of_mem hmem), maxI_of hmem hM.le]
      have hj0 : decide ((0 : Int) < (J.length : Int)) = true := decide_eq_true (by
        have := List.length_pos_iff.mpr he
        omega)
      have e8 : dMinA [enc ((ordersT J.length).map (endE J))] = _ := hmin
      simp only [tAnd2, tb, b2, cB, aCons, a0, dN, dW, hw, Option.bind_some]
      simp only [EL, getF_s, getF_0, Option.bind_some, len_J, dK, dCmp, bOf_bl, hj0, if_true, hmax, e8, hne]
  rw [if_neg (by decide)]
  refine ⟨_, rfl, ?_⟩
  dsimp only
  refine wp_sq ?_
  refine wp.mono (Q := fun o => ∃ e, o = .nx e ∧ Kp z J (ET J s t) p e) ?_ ?_
  · show wp (forD (gN 4) t_play (rangeD 0 3) _) _
    refine wp_range (n := 3) (fun k e => Kp z J (ET J s t) p e) ⟨n, cs, _, _, _, _, _, _, _, _, _, hc, rfl⟩ ?_ ?_
    · rintro k e hk hK
      refine ⟨_, rfl, (play_ok (p := p) (d6 := ET J s t) hJ ?_).mono ?_⟩
      · exact (show Kp z J (ET J s t) p _ by
          obtain ⟨n, cs, x4, x9, x10, x11, x12, x13, x14, x15, x16, hc, rfl⟩ := hK
          exact ⟨n, cs, _, x9, x10, x11, x12, x13, x14, x15, x16, hc, rfl⟩)
      · rintro o ⟨e, rfl, h⟩
        exact h
    · intro e h; exact ⟨e, rfl, h⟩
  rintro o ⟨e, rfl, hK⟩
  dsimp only
  refine wp_sq ?_
  refine wp.mono (Q := fun o => ∃ e, o = .nx e ∧ Kp z J (ET J s t) p e) ?_ ?_
  · obtain ⟨n, cs, x4, x9, x10, x11, x12, x13, x14, x15, x16, hc, rfl⟩ := hK
    have hr : iR1 (aCons (cB (aCons (dK (.int 30)) (aCons (cB (aCons (dN 7) a0) dLen) a0)) dMinA) a0) (EL (stA p n cs) z J x4 (ET J s t) x9 x10 x11 x12 x13 x14 x15 x16) = some (rangeD 0 (min 30 (ordersT J.length).length)) := by
      simp only [iR1, aCons, a0, cB, dK, dN, EL, getF_s, getF_0, Option.bind_some, ord_len hJ, dMin_2]
      rw [rng1_int (by unfold sizeLine; omega)]
      congr 2
      omega
    rw [sFor, hr]
    refine wp_range (n := min 30 (ordersT J.length).length) (fun k e => Kp z J (ET J s t) p e) ⟨n, cs, _, _, _, _, _, _, _, _, _, hc, rfl⟩ ?_ ?_
    · rintro k e hk ⟨n, cs, x4, x9, x10, x11, x12, x13, x14, x15, x16, hc, rfl⟩
      refine ⟨_, rfl, ?_⟩
      rw [Int.zero_add]
      refine (all_ok (p := p) (n := n) (s := s) (t := t) (x9 := x9) (x10 := x10) (x11 := x11) (x12 := x12) (x13 := x13) (x14 := x14) (x15 := x15) (x16 := x16) hJ (show k < (ordersT J.length).length by omega) hc).mono ?_
      rintro o ⟨e, rfl, h⟩
      exact h
    · intro e h; exact ⟨e, rfl, h⟩
  rintro o ⟨e, rfl, hK⟩
  dsimp only
  refine wp_sq ?_
  refine wp.mono (Q := fun o => ∃ e, o = .nx e ∧ Kp z J (ET J s t) p e) ?_ ?_
  · show wp (forD (gN 4) t_turn (rangeD 0 8) _) _
    refine wp_range (n := 8) (fun k e => Kp z J (ET J s t) p e) hK ?_ ?_
    · rintro k e hk hK
      refine ⟨_, rfl, (turn_ok (p := p) (s := s) (t := t) hJ ?_).mono ?_⟩
      · exact (show Kp z J (ET J s t) p _ by
          obtain ⟨n, cs, x4, x9, x10, x11, x12, x13, x14, x15, x16, hc, rfl⟩ := hK
          exact ⟨n, cs, _, x9, x10, x11, x12, x13, x14, x15, x16, hc, rfl⟩)
      · rintro o ⟨e, rfl, h⟩
        exact h
    · intro e h; exact ⟨e, rfl, h⟩
  rintro o ⟨e, rfl, n, cs, x4, x9, x10, x11, x12, x13, x14, x15, x16, hc, rfl⟩
  dsimp only
  refine wp_ret (d := .bl true) ?_ ⟨_, rfl⟩
  have : dEq (enc J) (enc J) = some (.bl true) := dEq_self (Enc.nb J) (Nat.le_trans (Enc.dp J) (by decide))
  simp only [b2, dN, EL, getF_s, getF_0, Option.bind_some, this]
theorem law_true : LawTrue 17 d_law := by
  intro p cs hc
  suffices h : wp (d_law (lawE 17 p cs)) (fun o => ∃ env', o = .rt (.fz (.bl true)) env') by
    obtain ⟨u, e, env', rfl⟩ := h
    exact ⟨env', e⟩
  unfold d_law
  refine wp_sq (wp_setM (wm_2 (wm_pur (x := .lst [.int 3, .int 12]) rfl (wm_take (m := 2) (n := 0) hc (by decide) (by decide) rfl rfl fun x n1 cs1 hx0 hx1 hc1 => ?_))))
  have hx : x = 0 ∨ x = 1 := by omega
  rcases hx with rfl | rfl
  · refine ⟨_, rfl, ?_⟩
    dsimp only
    refine wp_sq (wp_setM (jobs_ok (p := p) (n := n1) (cs := cs1) (z := 3) hc1 (by decide) (by decide) fun J n2 cs2 hc2 hJ => ?_))
    exact law_rest (p := p) (n := n2) (cs := cs2) (z := 3) (J := J) hJ (by decide) hc2 rfl
  · refine ⟨_, rfl, ?_⟩
    dsimp only
    refine wp_sq (wp_setM (jobs_ok (p := p) (n := n1) (cs := cs1) (z := 12) hc1 (by decide) (by decide) fun J n2 cs2 hc2 hJ => ?_))
    exact law_rest (p := p) (n := n2) (cs := cs2) (z := 12) (J := J) hJ (by decide) hc2 rfl

section
variable {P : Program} {w : World} {K : PySem.W.Frag} {mg : Str → Option Value} {base : Heap} {fa : Nat → Addr} {fda : Nat → FuncData}
theorem okx__law_state {f : Addr} {fd : FuncData} (F : Fun K "_law_state" "_law_state" s__law_state f fd) (m_abs : mg "abs" = none) (m_len : mg "len" = none) : FnOk P w K mg base CX0 1 f fd ["script"] (spState K) := by
  refine F.ok sc__law_state (fun vs H Q E ⟨a, ns, ev, _⟩ => by rw [ev]; rfl) (fun cdv A outer s H vs Q E hr ⟨a, ns, ev, hS, hl, kk⟩ => ?_)
  subst ev
  refine ⟨_, pss_cons (ps_setLc (i := 1) (own := [("cell", 2)]) (g := gName 2) (tt := tYes) rfl sc__law_state.nd rfl rfl (sw_true rfl rfl rfl (by decide +kernel)) (pi_list (pe_slice sl_list (pv 0) po_none (po_some pe_int))) (blkOk_by (N := ["script", "cells", "cell"]) (sc := defScope s__law_state) (by decide +kernel)) (fun _ _ _ _ _ => pg_name (i := 2) sc__law_state.nd rfl (Or.inl rfl)) (fun _ _ _ _ _ => pts_nil)
      (fun _ _ _ _ _ => pe_callB call_abs (by rfl) m_abs (by decide +kernel) (pa_cons (pv 2) pa_nil)))
    (pss_cons (ps_if (pt_cmpR op_eq (pe_callB call_len_seq (by rfl) m_len PySem.boot_len (pa_cons (pv 1) pa_nil)) pe_int (nomark _)) (pss_one (ps_set (i := 1) sc__law_state.nd rfl (Or.inl rfl) (pe_lst (pa_cons pe_int pa_nil)))) pss_nil)
    (pss_one (ps_ret (pe_lst (pa_cons pe_int (pa_cons (pv 1) pa_nil)))))), ?_⟩
  obtain ⟨ms, hms⟩ : ∃ ms : List Int, cutV (ns.map V.int) none (some 63) = ms.map V.int := ⟨(ns.drop (HT.sIx ns.length 0 none)).take (HT.sIx ns.length ns.length (some 63) - HT.sIx ns.length 0 none), by
    unfold cutV; rw [List.map_take, List.map_drop, List.length_map]⟩
  refine ⟨.ref a, rfl, 63, rfl, a, _, rfl, hS, ?_⟩
  rw [hms]
  refine fun p np => ⟨p, rfl, ⟨_, SqL.of upd_same⟩, fun D nD => ?_⟩
  have hpD : p ≠ D := fun e => by rw [e, upd_same] at nD; cases nD
  have nD0 : H D = none := by rw [upd_ne hpD.symm] at nD; exact nD
  have fin : ∀ (cs : List Int) (q : Addr) (H2 : Hp) (v2 : Option V), cs ≠ [] → Same H H2 → H q = none → H2 q = some (.lst (cs.map V.int)) → ∀ l, H2 l = none → Q (.ref l) (upd H2 l (.lst [.int 0, .ref q])) := fun cs q H2 v2 hc sm hq h2 l hl => by
    have nq : q ≠ l := ne_of_none h2 hl
    exact kk l q cs _ (sm.trans (same_upd hl)) (sm.free hl) hq (fun e => nq e.symm) upd_same (by rw [upd_ne nq]; exact h2) hc
  have tail : ∀ (cs : List Int) (H1 : Hp) (v2 : Option V), Same H H1 → H1 D = some (.lst (cs.map V.int)) →
      (tSeq (tIfS (tTest (tOp rEq (tCB (fun xs H Q => ∃ p ys, xs = [.ref p] ∧ (SqL K H p ys ∨ SqT K H p ys) ∧ Q (.int ys.length) H) (tCons (tVar 1) tNil)) (tC (.int 0)))) (tAsg (tLst (tCons (tC (.int 0)) tNil)) (gName 1)) tNext) (tRet (tLst (tCons (tC (.int 0)) (tCons (tVar 1) tNil))))) { nx := fun _ H' => Q .non H', rt := Q } [some (.ref a), some (.ref D), v2] H1 := fun cs H1 v2 sm h1 => by
    refine ⟨_, rfl, D, _, rfl, .inl (SqL.of h1), rfl, _, rfl, ite2 (fun e => ?_) (fun e => ?_)⟩
    · refine ⟨by decide, fun q nq => ?_⟩
      refine ⟨_, rfl, small_line (by show 2 < 1000; decide), fun l hl => ?_⟩
      refine fin [0] q _ none (by simp) (sm.trans (same_upd nq)) (sm.free nq) upd_same l hl
    · refine ⟨_, rfl, small_line (by show 2 < 1000; decide), fun l hl => fin cs D H1 none (fun z => e ?_) sm nD0 h1 l hl⟩
      subst z
      rfl
  have hlen : ms.length ≤ 63 := by
    have := cutV_length (ns.map V.int) none (some 63)
    rw [hms, List.length_map, List.length_map] at this
    omega
  have hp0 : (upd (upd H p (.lst (ms.map V.int))) D (.lst [])) p = some (.lst (ms.map V.int)) := by rw [upd_ne hpD, upd_same]
  refine lc_list (K := K) (a := p) (xs := ms.map V.int) (fun i H1 => ∃ cs : List Int, Same H H1 ∧ H1 p = some (.lst (ms.map V.int)) ∧ H1 D = some (.lst (cs.map V.int)) ∧ cs.length ≤ i)
    ⟨[], (same_upd np).trans (same_upd nD), hp0, upd_same, Nat.le_refl _⟩ (fun i H1 _ ⟨cs, _, h, _, _⟩ => SqL.of h) ?_ ?_
  · rintro i x H1 hi ⟨cs, sm, h1, h2, hc⟩
    obtain ⟨z, rfl⟩ : ∃ z, x = V.int z := by
      rw [List.getElem?_map] at hi
      obtain ⟨z, _, rfl⟩ := Option.map_eq_some_iff.mp hi
      exact ⟨z, rfl⟩
    have hi' : i < ms.length := by
      have := (List.getElem?_eq_some_iff.mp hi).1
      rwa [List.length_map] at this
    refine ⟨rfl, ?_⟩
    unfold tYes
    dsimp only
    rw [if_pos rfl]
    refine ⟨_, rfl, _, rfl, cs.map V.int, h2, by rw [List.length_map]; exact Nat.lt_of_le_of_lt (Nat.le_trans hc (by omega : i ≤ 63)) (by decide), cs ++ [if z < 0 then -z else z], ?_, ?_, ?_, ?_⟩
    · exact fun b o e => by rw [upd_ne (ne_of_none e nD0)]; exact sm _ _ e
    · rw [upd_ne hpD]; exact h1
    · rw [upd_same, List.map_append]; rfl
    · rw [List.length_append, List.length_singleton]; omega
  · rintro H1 ⟨cs, sm, h1, h2, hc⟩
    exact tail cs H1 _ sm h2
theorem okx__law_take {f : Addr} {fd : FuncData} (F : Fun K "_law_take" "_law_take" s__law_take f fd) (m_int : mg "int" = none) (m_len : mg "len" = none) : FnOk P w K mg base CX0 1 f fd ["state", "most"] (spI K takeS) := by
  refine F.ok sc__law_take (fun vs H Q E ⟨G, p, ws, s0, l0, ds, d, s1, _, ev, _, _, _, l, e, _⟩ => ?_) (fun cdv A outer s H vs Q E hr ⟨G, p, ws, s0, l0, ds, d, s1, sub, ev, sl, nd, off, l, e, kk⟩ => ?_)
  · obtain ⟨n, cs, m, _, rfl, _⟩ := takeS_some e
    rw [ev, List.length_cons, l.length]; rfl
  · obtain ⟨n, cs, m, rfl, rfl, h0, hm, hc, ez⟩ := takeS_some e
    cases ez
    subst ev
    cases l with
    | cons l1 l2 =>
    cases l2
    cases l1
    cases sl with
    | @ol _ vs _ Fx hp sx =>
    cases sx with
    | @cons v0 _ F0 vs0 _ F1 a1 a2 =>
    cases a1 with
    | fz a1 =>
    cases a1
    cases a2 with
    | @cons v1 _ F2 vs1 _ F3 b1 b2 =>
    cases b2
    cases b1 with
    | @ol q us _ Fy hq sy =>
    obtain ⟨ry, rfl⟩ := slRs_rp sy
    obtain rfl := ry.ints
    have hpq : p ≠ q := by
      have := List.nodup_cons.mp nd
      intro z; subst z
      exact this.1 (by simp)
    have nd' : [p, q].Nodup := by simp [hpq]
    have gp : G p = none := off p (by simp)
    have gq : G q = none := off q (by simp)
    refine ⟨_, pss_cons (ps_set (i := 2) sc__law_take.nd rfl (Or.inl rfl) (pe_ix ix_list (pv 0) pe_int (fun _ _ => rfl)))
      (pss_cons (ps_set (i := 3) sc__law_take.nd rfl (Or.inl rfl) (pe_op op_mod (pe_ix ix_list (pv 0) pe_int (fun _ _ => rfl)) (pe_callB call_len_seq (by rfl) m_len PySem.boot_len (pa_cons (pv 2) pa_nil))))
      (pss_cons (ps_set (i := 4) sc__law_take.nd rfl (Or.inl rfl) (pe_ix ix_list (pv 2) (pv 3) (fun _ _ => rfl)))
      (pss_cons (ps_if (pt_cmpR op_ge (pv 4) pe_int (nomark _)) (pss_cons (ps_asg (pe_op op_fdivW (pv 4) (pv 1)) (pg_sub (pv 2) (pv 3) set_list)) (pss_one (ps_ret (pe_op op_mod (pv 4) (pv 1))))) pss_nil)
      (pss_cons (ps_asg (pe_op op_add (pe_ix ix_list (pv 0) pe_int (fun _ _ => rfl)) pe_int) (pg_sub (pv 0) pe_int set_list))
      (pss_cons (ps_set (i := 5) sc__law_take.nd rfl (Or.inl rfl) (pe_op op_mod (pe_callTy call_int1 (by rfl) m_int (by decide +kernel) (pa_cons (pe_op op_add (pe_op op_mul (pv 4) pe_int) (pe_op op_mul (pe_ix ix_list (pv 0) pe_int (fun _ _ => rfl)) pe_int)) pa_nil)) pe_int))
      (pss_cons (ps_set (i := 5) sc__law_take.nd rfl (Or.inl rfl) (pe_op op_mod (pe_callTy call_int1 (by rfl) m_int (by decide +kernel) (pa_cons (pe_op op_add (pe_op op_mul (pv 5) pe_int) (pe_op op_mul (pe_ix ix_list (pv 0) pe_int (fun _ _ => rfl)) pe_int)) pa_nil)) pe_int))
      (pss_one (ps_ret (pe_op op_mod (pe_op op_fdiv (pv 5) pe_int) (pv 1)))))))))), ?_⟩
    have hlen : 0 < cs.length := List.length_pos_iff.mpr hc
    have hat0 : 0 ≤ n % (cs.length : Int) := Int.emod_nonneg _ (by omega)
    have hat1 : n % (cs.length : Int) < cs.length := Int.emod_lt_of_pos _ (by omega)
    obtain ⟨j, hj⟩ : ∃ j : Nat, n % (cs.length : Int) = (j : Int) := ⟨(n % (cs.length : Int)).toNat, by omega⟩
    have hj' : n % ((cs.map V.int).length : Int) = (j : Int) := by rw [List.length_map]; exact hj
    have hjl : j < cs.length := by omega
    have hix : atI (cs.map V.int) (j : Int) = some (.int (cs.getD j 0)) := by
      apply L2.atI_nat
      rw [List.getElem?_map, List.getElem?_eq_getElem hjl]
      simp [List.getD, List.getElem?_eq_getElem hjl]
    have hixN : ixN (cs.map V.int).length (j : Int) = some j := by
      unfold ixN
      rw [List.length_map, if_pos (by omega), if_pos (by omega)]; rfl
    have etk : takeF n cs m = (if 1000000000000000000 ≤ cs.getD j 0 then (cs.getD j 0 % m, n, cs.set j (cs.getD j 0 / m)) else
        ((((cs.getD j 0 * 48271 + (n + 1) * 69621) % 2147483647 * 16807 + (n + 1) * 7919) % 1000000007) / 7 % m, n + 1, cs)) := by
      unfold takeF
      rw [hj]
      rfl
    rw [etk] at kk
    refine ⟨_, rfl, p, [.int n, .ref q], 1, .ref q, rfl, rfl, SqL.of hp, rfl, ?_⟩
    refine ⟨_, rfl, p, [.int n, .ref q], 0, .int n, rfl, rfl, SqL.of hp, rfl, _, rfl, q, _, rfl, .inl (SqL.of hq), n, _, rfl, rfl, by rw [List.length_map]; omega, ?_⟩
    dsimp only
    rw [hj']
    refine ⟨_, rfl, _, rfl, q, _, j, _, rfl, rfl, SqL.of hq, hix, ?_⟩
    refine ⟨_, rfl, _, _, rfl, rfl, _, rfl, ite2 (fun cd => ?_) (fun cd => ?_)⟩
    · have cd' : (1000000000000000000 : Int) ≤ cs.getD j 0 := of_decide_eq_true cd
      rw [if_pos cd'] at kk
      refine ⟨_, rfl, _, rfl, _, _, rfl, rfl, ⟨h0, hm⟩, _, rfl, _, rfl, q, _, (j : Int), j, rfl, rfl, hq, hixN, ?_⟩
      refine ⟨_, rfl, _, rfl, _, _, rfl, rfl, h0, ?_⟩
      refine kk _ G _ [p, q] (Same.refl _) (fun b o e => ?_) (fun b o e n => ?_) (fun b e => .inl e) ?_ nd' (fun a m' => ?_) (.int _)
      · rw [upd_ne (ne_of_none e gq)]; exact sub _ _ e
      · rw [upd_ne fun z => n (by rw [z]; simp)]; exact e
      · refine SlR.ol (F := [q]) (by rw [upd_ne hpq]; exact hp) (SlRs.cons (F := []) (F' := [q]) (.fz (.int _)) (SlRs.cons (F := [q]) (F' := []) (SlR.ol (F := []) (vs := (cs.set j (cs.getD j 0 / m)).map V.int) ?_ (slRs_fz (RpL.of_ints _))) .nil))
        rw [upd_same, List.map_set]
      · have m2 : a = p ∨ a = q := by simpa using m'
        rcases m2 with rfl | rfl
        · exact ⟨gp, .inl (by simp)⟩
        · exact ⟨gq, .inl (by simp)⟩
    · have cd' : ¬ (1000000000000000000 : Int) ≤ cs.getD j 0 := fun z => cd (decide_eq_true z)
      rw [if_neg cd'] at kk
      refine ⟨_, rfl, p, [.int n, .ref q], 0, .int n, rfl, rfl, SqL.of hp, rfl, n, 1, rfl, rfl, _, rfl, p, [.int n, .ref q], 0, 0, rfl, rfl, hp, rfl, ?_⟩
      have hp2 : (upd H p (.lst [.int (n + 1), .ref q])) p = some (.lst [.int (n + 1), .ref q]) := upd_same
      refine ⟨_, rfl, _, _, rfl, rfl, .inr ⟨by decide, by decide⟩, _, rfl, p, _, 0, .int (n + 1), rfl, rfl, SqL.of hp2, rfl, _, _, rfl, rfl, .inr ⟨by decide, by decide⟩, _, _, rfl, rfl, .inl ⟨_, rfl, ?_⟩⟩
      refine ⟨_, _, rfl, rfl, (by decide : (0 : Int) < 2147483647), ?_⟩
      refine ⟨_, rfl, _, _, rfl, rfl, .inr ⟨by decide, by decide⟩, _, rfl, p, _, 0, .int (n + 1), rfl, rfl, SqL.of hp2, rfl, _, _, rfl, rfl, .inr ⟨by decide, by decide⟩, _, _, rfl, rfl, .inl ⟨_, rfl, ?_⟩⟩
      refine ⟨_, _, rfl, rfl, (by decide : (0 : Int) < 1000000007), ?_⟩
      refine ⟨_, rfl, _, _, rfl, rfl, ⟨by decide, by decide⟩, _, rfl, _, _, rfl, rfl, h0, ?_⟩
      refine kk _ G _ [p, q] (Same.refl _) (fun b o e => ?_) (fun b o e n => ?_) (fun b e => .inl e) ?_ nd' (fun a m' => ?_) (.int _)
      · rw [upd_ne (ne_of_none e gp)]; exact sub _ _ e
      · rw [upd_ne fun z => n (by rw [z]; simp)]; exact e
      · exact SlR.ol (F := [q]) upd_same (SlRs.cons (F := []) (F' := [q]) (.fz (.int _)) (SlRs.cons (F := [q]) (F' := []) (SlR.ol (F := []) (vs := cs.map V.int) (by rw [upd_ne (Ne.symm hpq)]; exact hq) (slRs_fz (RpL.of_ints _))) .nil))
      · have m2 : a = p ∨ a = q := by simpa using m'
        rcases m2 with rfl | rfl
        · exact ⟨gp, .inl (by simp)⟩
        · exact ⟨gq, .inl (by simp)⟩
end
section
variable {P : Program} {w : World} {K : PySem.W.Frag} {mg : Str → Option Value} {base : Heap} {fa : Nat → Addr} {fda : Nat → FuncData}
theorem ok__law_state (T : TX K mg fa fda) : FnOk P w K mg base CX0 1 (fa 8) (fda 8) ["script"] (spState K) := okx__law_state T.d__law_state.F T.b_abs T.b_len
theorem ok__law_take (T : TX K mg fa fda) : FnOk P w K mg base CX0 1 (fa 9) (fda 9) ["state", "most"] (spI K takeS) := okx__law_take T.d__law_take.F T.b_int T.b_len
theorem ok_ends_of (T : TX K mg fa fda) : FnOk P w K mg base CX0 1 (fa 0) (fda 0) ["jobs", "order"] (spS K F_ends_of) := by
  have h := fn_ok (P := P) (w := w) (mg := mg) (base := base) (fb := d_ends_of) (k := 0) T.d_ends_of.F sc_ends_of (fun cdv A outer s H E hr =>
    (b_cons (s_set 2 sc_ends_of.nd v_int)
    (b_cons (s_set 3 sc_ends_of.nd v_int)
    (b_cons (s_setO 4 sc_ends_of.nd (PL.o (l_disp a_nil)))
    (b_cons (s_for PassesOwn.never rfl (i_seq (v_name 1)) (g_name 5 sc_ends_of.nd) (b_cons (s_set 2 sc_ends_of.nd (v_op o_add (v_name 2) (v_ix hr (v_ix hr (v_name 0) (v_name 5)) v_int)))
    (b_cons (s_set 3 sc_ends_of.nd (v_op o_add (v_callBF (c_maxA rfl hr) (by rfl) T.b_max (by decide +kernel) (a_cons (v_name 3) (a_cons (v_name 2) a_nil))) (v_ix hr (v_ix hr (v_name 0) (v_name 5)) v_int)))
    (b_one (s_app 4 (PV.o (v_tup (a_cons (v_name 2) (a_cons (v_name 3) a_nil)))))))))
    (b_one (s_retN 4)))))))
  exact h
theorem ok_sequence (T : TX K mg fa fda) : FnOk P w K mg base CX0 1 (fa 1) (fda 1) ["jobs"] (spS K F_sequence) := by
  have h := fn_ok (P := P) (w := w) (mg := mg) (base := base) (fb := d_sequence) (k := 0) T.d_sequence.F sc_sequence (fun cdv A outer s H E hr =>
    (b_cons (s_set 1 sc_sequence.nd (PL.v (l_callB (c_sorted hr) (by rfl) T.b_sorted (by decide +kernel) (a_cons (PL.v (xl_comp [("at", 2), ("job", 3)] [2, 3] rfl rfl sc_sequence.nd (IV.c (i_enum (by rfl) T.b_enumerate (v_name 0))) (blkOk_by (N := ["jobs", "first", "at", "job", "second", "size"]) (sc := defScope s_sequence) (by decide +kernel)) (fun _ _ _ _ _ => (g_tup rfl (gs_cons (g_name 2 sc_sequence.nd) (gs_cons (g_name 3 sc_sequence.nd) gs_nil)))) (by decide) (fun _ _ _ _ _ => (TB.one (t_cmp o_le (PV.w (v_ix hr (v_name 3) v_int)) (PV.w (v_ix hr (v_name 3) v_int)) (nomark _)))) (fun _ _ _ _ _ => (v_tup (a_cons (v_ix hr (v_name 3) v_int) (a_cons (v_name 2) a_nil)))))) a_nil))))
    (b_cons (s_set 4 sc_sequence.nd (PL.v (l_callB (c_sorted hr) (by rfl) T.b_sorted (by decide +kernel) (a_cons (PL.v (xl_comp [("at", 2), ("job", 3)] [2, 3] rfl rfl sc_sequence.nd (IV.c (i_enum (by rfl) T.b_enumerate (v_name 0))) (blkOk_by (N := ["jobs", "first", "at", "job", "second", "size"]) (sc := defScope s_sequence) (by decide +kernel)) (fun _ _ _ _ _ => (g_tup rfl (gs_cons (g_name 2 sc_sequence.nd) (gs_cons (g_name 3 sc_sequence.nd) gs_nil)))) (by decide) (fun _ _ _ _ _ => (TB.one (t_cmp o_gt (PV.w (v_ix hr (v_name 3) v_int)) (PV.w (v_ix hr (v_name 3) v_int)) (nomark _)))) (fun _ _ _ _ _ => (v_tup (a_cons (v_op o_sub v_int (v_ix hr (v_name 3) v_int)) (a_cons (v_name 2) a_nil)))))) a_nil))))
    (b_one (s_ret (v_op o_add (PL.v (xl_comp [("size", 5), ("at", 2)] [5, 2] rfl rfl sc_sequence.nd (IV.c (i_seq (v_name 1))) (blkOk_by (N := ["jobs", "first", "at", "job", "second", "size"]) (sc := defScope s_sequence) (by decide +kernel)) (fun _ _ _ _ _ => (g_tup rfl (gs_cons (g_name 5 sc_sequence.nd) (gs_cons (g_name 2 sc_sequence.nd) gs_nil)))) (by decide) (fun _ _ _ _ _ => tbs_nil) (fun _ _ _ _ _ => (v_name 2)))) (PL.v (xl_comp [("size", 5), ("at", 2)] [5, 2] rfl rfl sc_sequence.nd (IV.c (i_seq (v_name 4))) (blkOk_by (N := ["jobs", "first", "at", "job", "second", "size"]) (sc := defScope s_sequence) (by decide +kernel)) (fun _ _ _ _ _ => (g_tup rfl (gs_cons (g_name 5 sc_sequence.nd) (gs_cons (g_name 2 sc_sequence.nd) gs_nil)))) (by decide) (fun _ _ _ _ _ => tbs_nil) (fun _ _ _ _ _ => (v_name 2))))))))))
  exact h
theorem ok_shown (T : TX K mg fa fda) : FnOk P w K mg base CX0 1 (fa 2) (fda 2) ["jobs", "side", "threshold"] (spS K F_shown) := by
  have h := fn_ok (P := P) (w := w) (mg := mg) (base := base) (fb := d_shown) (k := 0) T.d_shown.F sc_shown (fun cdv A outer s H E hr =>
    (b_cons (xs_setC 3 [("job", 4)] [4] rfl rfl sc_shown.nd (IV.c (i_seq (v_name 0))) (blkOk_by (N := ["jobs", "side", "threshold", "great", "job", "rest"]) (sc := defScope s_shown) (by decide +kernel)) (fun _ _ _ _ _ => (g_name 4 sc_shown.nd)) (by decide) (fun _ _ _ _ _ => (TB.one (t_cmp o_ge (PV.w (v_ix hr (v_name 4) (v_name 1))) (PV.w (v_name 2)) (nomark _)))) (fun _ _ _ _ _ => (v_name 4)) (sw_true rfl rfl rfl (by decide +kernel)))
    (b_cons (s_if (t_not (t_tru (PV.w (v_name 3)))) (b_one (s_ret v_non)) b_nil)
    (b_cons (xs_setC 5 [("job", 4)] [4] rfl rfl sc_shown.nd (IV.c (i_seq (v_name 0))) (blkOk_by (N := ["jobs", "side", "threshold", "great", "job", "rest"]) (sc := defScope s_shown) (by decide +kernel)) (fun _ _ _ _ _ => (g_name 4 sc_shown.nd)) (by decide) (fun _ _ _ _ _ => (TB.one (t_cmp o_lt (PV.w (v_ix hr (v_name 4) (v_name 1))) (PV.w (v_name 2)) (nomark _)))) (fun _ _ _ _ _ => (v_callBF (c_minA rfl hr) (by rfl) T.b_min (by decide +kernel) (a_cons (v_name 4) a_nil))) (sw_true rfl rfl rfl (by decide +kernel)))
    (b_one (s_ret (v_op o_add (v_op o_add (v_name 2) (v_callB (c_sum rfl) (by rfl) T.b_sum (by decide +kernel) (aw_cons (PV.w (PL.v (xl_comp [("job", 4)] [4] rfl rfl sc_shown.nd (IV.c (i_seq (v_name 3))) (blkOk_by (N := ["jobs", "side", "threshold", "great", "job", "rest"]) (sc := defScope s_shown) (by decide +kernel)) (fun _ _ _ _ _ => (g_name 4 sc_shown.nd)) (by decide) (fun _ _ _ _ _ => tbs_nil) (fun _ _ _ _ _ => (v_ix hr (v_name 4) (v_op o_sub v_int (v_name 1))))))) aw_nil))) (v_callB (c_sum rfl) (by rfl) T.b_sum (by decide +kernel) (aw_cons (PV.w (v_name 5)) aw_nil)))))))))
  exact h
theorem ok_best_shown (T : TX K mg fa fda) : FnOk P w K mg base CX0 2 (fa 3) (fda 3) ["jobs"] (spS K F_best_shown) := by
  have h := fn_ok (P := P) (w := w) (mg := mg) (base := base) (fb := d_best_shown) (k := 1) T.d_best_shown.F sc_best_shown (fun cdv A outer s H E hr =>
    (b_cons (s_setO 1 sc_best_shown.nd (PL.o (l_disp a_nil)))
    (b_cons (s_for PassesOwn.never rfl (i_seq (v_tup (a_cons v_int (a_cons v_int a_nil)))) (g_name 2 sc_best_shown.nd) (b_one (s_for PassesOwn.never rfl (i_seq (v_name 0)) (g_name 3 sc_best_shown.nd) (b_one (s_app 1 (PV.o (v_tup (a_cons (v_call (ok_shown T) (hr.mono (by decide)) (by rfl) T.d_shown.g T.d_shown.F.kp T.d_shown.b (a_cons (v_name 0) (a_cons (v_name 2) (a_cons (v_ix hr (v_name 3) (v_name 2)) a_nil)))) (a_cons (v_op o_sub v_int (v_name 2)) (a_cons (v_op o_sub v_int (v_ix hr (v_name 3) (v_name 2))) a_nil))))))))))
    (b_cons (s_if (t_not (t_tru (w_name 1))) (b_one (s_ret (v_tup (a_cons v_int (a_cons v_int (a_cons v_int a_nil)))))) b_nil)
    (b_cons (s_freeze 1 (s_tg (v_callBF (c_maxA rfl hr) (by rfl) T.b_max (by decide +kernel) (a_cons (v_name 1) a_nil)) (g_tup rfl (gs_cons (g_name 4 sc_best_shown.nd) (gs_cons (g_name 2 sc_best_shown.nd) (gs_cons (g_name 5 sc_best_shown.nd) gs_nil))))))
    (b_one (s_ret (v_tup (a_cons (v_name 4) (a_cons (v_op o_sub v_int (v_name 2)) (a_cons (v_op o_sub v_int (v_name 5)) a_nil)))))))))))
  exact h
theorem ok_press (T : TX K mg fa fda) : FnOk P w K mg base CX0 3 (fa 4) (fda 4) ["jobs"] (spS K F_press) := by
  have h := fn_ok (P := P) (w := w) (mg := mg) (base := base) (fb := d_press) (k := 2) T.d_press.F sc_press (fun cdv A outer s H E hr =>
    (b_cons (s_set 1 sc_press.nd (v_call (ok_sequence T) (hr.mono (by decide)) (by rfl) T.d_sequence.g T.d_sequence.F.kp T.d_sequence.b (a_cons (v_name 0) a_nil)))
    (b_cons (s_set 2 sc_press.nd (v_callBF (c_maxA rfl hr) (by rfl) T.b_max (by decide +kernel) (a_cons (v_op o_add (PL.v (xl_comp [("row", 3)] [3] rfl rfl sc_press.nd (IV.c (i_seq (v_call (ok_ends_of T) (hr.mono (by decide)) (by rfl) T.d_ends_of.g T.d_ends_of.F.kp T.d_ends_of.b (a_cons (v_name 0) (a_cons (v_name 1) a_nil))))) (blkOk_by (N := ["jobs", "order", "end", "row", "most", "side", "threshold"]) (sc := defScope s_press) (by decide +kernel)) (fun _ _ _ _ _ => (g_name 3 sc_press.nd)) (by decide) (fun _ _ _ _ _ => tbs_nil) (fun _ _ _ _ _ => (v_ix hr (v_name 3) v_int)))) (PL.v (l_disp (a_cons v_int a_nil)))) a_nil)))
    (b_cons (s_tg (v_call (ok_best_shown T) (hr.mono (by decide)) (by rfl) T.d_best_shown.g T.d_best_shown.F.kp T.d_best_shown.b (a_cons (v_name 0) a_nil)) (g_tup rfl (gs_cons (g_name 4 sc_press.nd) (gs_cons (g_name 5 sc_press.nd) (gs_cons (g_name 6 sc_press.nd) gs_nil)))))
    (b_one (s_ret (v_tup (a_cons (v_name 1) (a_cons (v_name 2) (a_cons (v_name 5) (a_cons (v_name 6) a_nil)))))))))))
  exact h
theorem ok_press_fault (T : TX K mg fa fda) : FnOk P w K mg base CX0 2 (fa 5) (fda 5) ["jobs", "told"] (spS K F_press_fault) := by
  have h := fn_ok (P := P) (w := w) (mg := mg) (base := base) (fb := d_press_fault) (k := 1) T.d_press_fault.F sc_press_fault (fun cdv A outer s H E hr =>
    (b_cons (s_tg (v_name 1) (g_tup rfl (gs_cons (g_name 2 sc_press_fault.nd) (gs_cons (g_name 3 sc_press_fault.nd) (gs_cons (g_name 4 sc_press_fault.nd) (gs_cons (g_name 5 sc_press_fault.nd) gs_nil))))))
    (b_cons (s_if (t_cmp (o_ne hr) (PV.w (PL.v (l_callB (c_sorted hr) (by rfl) T.b_sorted (by decide +kernel) (a_cons (v_name 2) a_nil)))) (PV.w (PL.v (l_rg1 rfl (by rfl) T.b_list (by rfl) T.b_range (PV.w (v_callB c_len (by rfl) T.b_len (by decide +kernel) (aw_cons (PV.w (v_name 0)) aw_nil)))))) (nomark _)) (b_one (s_ret (v_tup (a_cons v_str a_nil)))) b_nil)
    (b_cons (s_if (t_cmp (o_ne hr) (PV.w (v_callBF (c_maxA rfl hr) (by rfl) T.b_max (by decide +kernel) (a_cons (v_op o_add (PL.v (xl_comp [("row", 6)] [6] rfl rfl sc_press_fault.nd (IV.c (i_seq (v_call (ok_ends_of T) (hr.mono (by decide)) (by rfl) T.d_ends_of.g T.d_ends_of.F.kp T.d_ends_of.b (a_cons (v_name 0) (a_cons (v_name 2) a_nil))))) (blkOk_by (N := ["jobs", "told", "order", "end", "side", "threshold", "row", "most"]) (sc := defScope s_press_fault) (by decide +kernel)) (fun _ _ _ _ _ => (g_name 6 sc_press_fault.nd)) (by decide) (fun _ _ _ _ _ => tbs_nil) (fun _ _ _ _ _ => (v_ix hr (v_name 6) v_int)))) (PL.v (l_disp (a_cons v_int a_nil)))) a_nil))) (PV.w (v_name 3)) (nomark _)) (b_one (s_ret (v_tup (a_cons v_str a_nil)))) b_nil)
    (b_cons (s_if (TW.t (tw_or (t_cmp (o_notin hr) (PV.w (v_name 4)) (PV.w (v_tup (a_cons v_int (a_cons v_int a_nil)))) (by rfl)) (tw_or1 (t_cmp o_lt (PV.w (v_name 5)) (PV.w v_int) (nomark _))))) (b_one (s_ret (v_tup (a_cons v_str a_nil)))) b_nil)
    (b_cons (s_if (t_not (t_tru (PV.w (v_name 0)))) (b_one (s_ret v_non)) b_nil)
    (b_cons (s_set 7 sc_press_fault.nd (v_call (ok_shown T) (hr.mono (by decide)) (by rfl) T.d_shown.g T.d_shown.F.kp T.d_shown.b (a_cons (v_name 0) (a_cons (v_name 4) (a_cons (v_name 5) a_nil)))))
    (b_one (s_ret (v_if (TW.t (tw_and (t_cmp o_isnot (PV.w (v_name 7)) (PV.w v_non) (nomark _)) (tw_and1 (t_cmp o_ge (PV.w (v_name 7)) (PV.w (v_name 3)) (nomark _))))) v_non (v_tup (a_cons v_str a_nil))))))))))))
  exact h
theorem ok_idle_time (T : TX K mg fa fda) : FnOk P w K mg base CX0 2 (fa 6) (fda 6) ["jobs", "order"] (spS K F_idle_time) := by
  have h := fn_ok (P := P) (w := w) (mg := mg) (base := base) (fb := d_idle_time) (k := 1) T.d_idle_time.F sc_idle_time (fun cdv A outer s H E hr =>
    (b_cons (s_set 2 sc_idle_time.nd (v_call (ok_ends_of T) (hr.mono (by decide)) (by rfl) T.d_ends_of.g T.d_ends_of.F.kp T.d_ends_of.b (a_cons (v_name 0) (a_cons (v_name 1) a_nil))))
    (b_cons (s_if (t_not (t_tru (PV.w (v_name 2)))) (b_one (s_ret v_int)) b_nil)
    (b_cons (s_set 3 sc_idle_time.nd (v_op o_sub (v_ix hr (v_ix hr (v_name 2) v_int) v_int) (v_ix hr (v_ix hr (v_name 0) (v_ix hr (v_name 1) v_int)) v_int)))
    (b_one (s_ret (v_op o_sub (v_op o_sub (v_ix hr (v_ix hr (v_name 2) (v_neg v_int)) v_int) (v_name 3)) (v_callB (c_sum rfl) (by rfl) T.b_sum (by decide +kernel) (aw_cons (PV.w (PL.v (xl_comp [("job", 4)] [4] rfl rfl sc_idle_time.nd (IV.c (i_seq (v_name 0))) (blkOk_by (N := ["jobs", "order", "rows", "start", "job"]) (sc := defScope s_idle_time) (by decide +kernel)) (fun _ _ _ _ _ => (g_name 4 sc_idle_time.nd)) (by decide) (fun _ _ _ _ _ => tbs_nil) (fun _ _ _ _ _ => (v_ix hr (v_name 4) v_int))))) aw_nil)))))))))
  exact h
theorem ok_buffer_of (T : TX K mg fa fda) : FnOk P w K mg base CX0 2 (fa 7) (fda 7) ["jobs", "order"] (spS K F_buffer_of) := by
  have h := fn_ok (P := P) (w := w) (mg := mg) (base := base) (fb := d_buffer_of) (k := 1) T.d_buffer_of.F sc_buffer_of (fun cdv A outer s H E hr =>
    (b_cons (s_set 2 sc_buffer_of.nd (v_call (ok_ends_of T) (hr.mono (by decide)) (by rfl) T.d_ends_of.g T.d_ends_of.F.kp T.d_ends_of.b (a_cons (v_name 0) (a_cons (v_name 1) a_nil))))
    (b_cons (s_set 3 sc_buffer_of.nd v_int)
    (b_cons (s_for PassesOwn.never rfl (i_enum (by rfl) T.b_enumerate (v_name 2)) (g_tup rfl (gs_cons (g_name 4 sc_buffer_of.nd) (gs_cons (g_tup rfl (gs_cons (g_name 5 sc_buffer_of.nd) (gs_cons (g_name 6 sc_buffer_of.nd) gs_nil))) gs_nil))) (b_cons (xs_setC 7 [("later", 8)] [8] rfl rfl sc_buffer_of.nd (IV.c (i_range1 (by rfl) T.b_range (aw_cons (PV.w (v_op o_add (v_name 4) v_int)) aw_nil))) (blkOk_by (N := ["jobs", "order", "rows", "most", "place", "cut", "bend", "begun", "later", "start"]) (sc := defScope s_buffer_of) (by decide +kernel)) (fun _ _ _ _ _ => (g_name 8 sc_buffer_of.nd)) (by decide) (fun _ _ _ _ _ => tbs_nil) (fun _ _ _ _ _ => (v_op o_sub (v_ix hr (v_ix hr (v_name 2) (v_name 8)) v_int) (v_ix hr (v_ix hr (v_name 0) (v_ix hr (v_name 1) (v_name 8))) v_int))) (sw_true rfl rfl rfl (by decide +kernel)))
    (b_one (s_set 3 sc_buffer_of.nd (v_callBF (c_maxA rfl hr) (by rfl) T.b_max (by decide +kernel) (a_cons (v_name 3) (a_cons (v_callB c_len (by rfl) T.b_len (by decide +kernel) (aw_cons (PV.w (PL.v (xl_comp [("start", 9)] [9] rfl rfl sc_buffer_of.nd (IV.c (i_seq (v_name 7))) (blkOk_by (N := ["jobs", "order", "rows", "most", "place", "cut", "bend", "begun", "later", "start"]) (sc := defScope s_buffer_of) (by decide +kernel)) (fun _ _ _ _ _ => (g_name 9 sc_buffer_of.nd)) (by decide) (fun _ _ _ _ _ => (TB.one (t_cmp o_gt (PV.w (v_name 9)) (PV.w (v_name 5)) (nomark _)))) (fun _ _ _ _ _ => (v_name 9))))) aw_nil)) a_nil)))))))
    (b_one (s_ret (v_name 3)))))))
  exact h
theorem ok__law_ends (T : TX K mg fa fda) : FnOk P w K mg base CX0 1 (fa 10) (fda 10) ["jobs", "order"] (spS K F__law_ends) := by
  have h := fn_ok (P := P) (w := w) (mg := mg) (base := base) (fb := d__law_ends) (k := 0) T.d__law_ends.F sc__law_ends (fun cdv A outer s H E hr =>
    (b_cons (s_tg (v_tup (a_cons v_int (a_cons v_int a_nil))) (g_tup rfl (gs_cons (g_name 2 sc__law_ends.nd) (gs_cons (g_name 3 sc__law_ends.nd) gs_nil))))
    (b_cons (s_setO 4 sc__law_ends.nd (PL.o (l_disp a_nil)))
    (b_cons (s_for PassesOwn.never rfl (i_seq (v_name 1)) (g_name 5 sc__law_ends.nd) (b_cons (s_set 2 sc__law_ends.nd (v_op o_add (v_name 2) (v_ix hr (v_ix hr (v_name 0) (v_name 5)) v_int)))
    (b_cons (s_set 3 sc__law_ends.nd (v_op o_add (v_callBF (c_maxA rfl hr) (by rfl) T.b_max (by decide +kernel) (a_cons (v_name 2) (a_cons (v_name 3) a_nil))) (v_ix hr (v_ix hr (v_name 0) (v_name 5)) v_int)))
    (b_one (s_app 4 (PV.o (v_tup (a_cons (v_name 2) (a_cons (v_name 3) a_nil)))))))))
    (b_one (s_retN 4))))))
  exact h
theorem ok__law_end (T : TX K mg fa fda) : FnOk P w K mg base CX0 2 (fa 11) (fda 11) ["jobs", "order"] (spS K F__law_end) := by
  have h := fn_ok (P := P) (w := w) (mg := mg) (base := base) (fb := d__law_end) (k := 1) T.d__law_end.F sc__law_end (fun cdv A outer s H E hr =>
    (b_one (s_ret (v_callBF (c_maxA rfl hr) (by rfl) T.b_max (by decide +kernel) (a_cons (v_op o_add (PL.v (l_disp (a_cons v_int a_nil))) (PL.v (xl_comp [("row", 2)] [2] rfl rfl sc__law_end.nd (IV.c (i_seq (v_call (ok__law_ends T) (hr.mono (by decide)) (by rfl) T.d__law_ends.g T.d__law_ends.F.kp T.d__law_ends.b (a_cons (v_name 0) (a_cons (v_name 1) a_nil))))) (blkOk_by (N := ["jobs", "order", "row"]) (sc := defScope s__law_end) (by decide +kernel)) (fun _ _ _ _ _ => (g_name 2 sc__law_end.nd)) (by decide) (fun _ _ _ _ _ => tbs_nil) (fun _ _ _ _ _ => (v_ix hr (v_name 2) v_int))))) a_nil)))))
  exact h
theorem ok__law_orders (T : TX K mg fa fda) : FnOk P w K mg base CX0 1 (fa 12) (fda 12) ["many"] (spS K F__law_orders) := by
  have h := fn_ok (P := P) (w := w) (mg := mg) (base := base) (fb := d__law_orders) (k := 0) T.d__law_orders.F sc__law_orders (fun cdv A outer s H E hr =>
    (b_cons (s_set 1 sc__law_orders.nd (PL.v (l_disp (a_cons (PL.v (l_disp a_nil)) a_nil))))
    (b_cons (s_for PassesOwn.never rfl (i_range1 (by rfl) T.b_range (aw_cons (PV.w (v_name 0)) aw_nil)) (g_name 2 sc__law_orders.nd) (b_cons (s_setO 3 sc__law_orders.nd (PL.o (l_disp a_nil)))
    (b_cons (s_for PassesOwn.never rfl (i_seq (v_name 1)) (g_name 4 sc__law_orders.nd) (b_one (s_ext 3 (PL.v (xl_comp [("j", 5)] [5] rfl rfl sc__law_orders.nd (IV.c (i_range1 (by rfl) T.b_range (aw_cons (PV.w (v_op o_add (v_callB c_len (by rfl) T.b_len (by decide +kernel) (aw_cons (PV.w (v_name 4)) aw_nil)) v_int)) aw_nil))) (blkOk_by (N := ["many", "found", "k", "more", "row", "j"]) (sc := defScope s__law_orders) (by decide +kernel)) (fun _ _ _ _ _ => (g_name 5 sc__law_orders.nd)) (by decide) (fun _ _ _ _ _ => tbs_nil) (fun _ _ _ _ _ => (v_op o_add (v_op o_add (PL.v (l_slice (v_name 4) s_none (s_some (PV.w (v_name 5))))) (PL.v (l_disp (a_cons (v_name 2) a_nil)))) (PL.v (l_slice (v_name 4) (s_some (PV.w (v_name 5))) s_none)))))))))
    (b_one (s_freeze 3 (s_set 1 sc__law_orders.nd (v_name 3)))))))
    (b_one (s_ret (v_name 1))))))
  exact h
theorem ok__law_shown (T : TX K mg fa fda) : FnOk P w K mg base CX0 1 (fa 13) (fda 13) ["jobs", "side", "threshold"] (spS K F__law_shown) := by
  have h := fn_ok (P := P) (w := w) (mg := mg) (base := base) (fb := d__law_shown) (k := 0) T.d__law_shown.F sc__law_shown (fun cdv A outer s H E hr =>
    (b_cons (xs_setC 3 [("job", 4)] [4] rfl rfl sc__law_shown.nd (IV.c (i_seq (v_name 0))) (blkOk_by (N := ["jobs", "side", "threshold", "great", "job"]) (sc := defScope s__law_shown) (by decide +kernel)) (fun _ _ _ _ _ => (g_name 4 sc__law_shown.nd)) (by decide) (fun _ _ _ _ _ => (TB.one (t_cmp o_ge (PV.w (v_ix hr (v_name 4) (v_name 1))) (PV.w (v_name 2)) (nomark _)))) (fun _ _ _ _ _ => (v_name 4)) (sw_true rfl rfl rfl (by decide +kernel)))
    (b_cons (s_if (t_cmp (o_eq hr) (PV.w (v_callB c_len (by rfl) T.b_len (by decide +kernel) (aw_cons (PV.w (v_name 3)) aw_nil))) (PV.w v_int) (nomark _)) (b_one (s_ret v_non)) b_nil)
    (b_one (s_ret (v_op o_add (v_op o_add (v_name 2) (v_callB (c_sum rfl) (by rfl) T.b_sum (by decide +kernel) (aw_cons (PV.w (PL.v (xl_comp [("job", 4)] [4] rfl rfl sc__law_shown.nd (IV.c (i_seq (v_name 3))) (blkOk_by (N := ["jobs", "side", "threshold", "great", "job"]) (sc := defScope s__law_shown) (by decide +kernel)) (fun _ _ _ _ _ => (g_name 4 sc__law_shown.nd)) (by decide) (fun _ _ _ _ _ => tbs_nil) (fun _ _ _ _ _ => (v_ix hr (v_name 4) (v_op o_sub v_int (v_name 1))))))) aw_nil))) (v_callB (c_sum rfl) (by rfl) T.b_sum (by decide +kernel) (aw_cons (PV.w (PL.v (xl_comp [("job", 4)] [4] rfl rfl sc__law_shown.nd (IV.c (i_seq (v_name 0))) (blkOk_by (N := ["jobs", "side", "threshold", "great", "job"]) (sc := defScope s__law_shown) (by decide +kernel)) (fun _ _ _ _ _ => (g_name 4 sc__law_shown.nd)) (by decide) (fun _ _ _ _ _ => (TB.one (t_cmp o_lt (PV.w (v_ix hr (v_name 4) (v_name 1))) (PV.w (v_name 2)) (nomark _)))) (fun _ _ _ _ _ => (v_callBF (c_minA rfl hr) (by rfl) T.b_min (by decide +kernel) (a_cons (v_name 4) a_nil)))))) aw_nil))))))))
  exact h
theorem ok__law_fault (T : TX K mg fa fda) : FnOk P w K mg base CX0 3 (fa 14) (fda 14) ["jobs", "told"] (spS K F__law_fault) := by
  have h := fn_ok (P := P) (w := w) (mg := mg) (base := base) (fb := d__law_fault) (k := 2) T.d__law_fault.F sc__law_fault (fun cdv A outer s H E hr =>
    (b_cons (s_tg (v_name 1) (g_tup rfl (gs_cons (g_name 2 sc__law_fault.nd) (gs_cons (g_name 3 sc__law_fault.nd) (gs_cons (g_name 4 sc__law_fault.nd) (gs_cons (g_name 5 sc__law_fault.nd) gs_nil))))))
    (b_cons (s_if (t_cmp (o_ne hr) (PV.w (PL.v (l_callB (c_sorted hr) (by rfl) T.b_sorted (by decide +kernel) (a_cons (v_name 2) a_nil)))) (PV.w (PL.v (l_rg1 rfl (by rfl) T.b_list (by rfl) T.b_range (PV.w (v_callB c_len (by rfl) T.b_len (by decide +kernel) (aw_cons (PV.w (v_name 0)) aw_nil)))))) (nomark _)) (b_one (s_ret (v_tup (a_cons v_str a_nil)))) b_nil)
    (b_cons (s_if (t_cmp (o_ne hr) (PV.w (v_call (ok__law_end T) (hr.mono (by decide)) (by rfl) T.d__law_end.g T.d__law_end.F.kp T.d__law_end.b (a_cons (v_name 0) (a_cons (v_name 2) a_nil)))) (PV.w (v_name 3)) (nomark _)) (b_one (s_ret (v_tup (a_cons v_str a_nil)))) b_nil)
    (b_cons (s_if (TW.t (tw_or (t_cmp (o_notin hr) (PV.w (v_name 4)) (PV.w (PL.v (l_disp (a_cons v_int (a_cons v_int a_nil))))) (by rfl)) (tw_or1 (t_cmp o_lt (PV.w (v_name 5)) (PV.w v_int) (nomark _))))) (b_one (s_ret (v_tup (a_cons v_str a_nil)))) b_nil)
    (b_cons (s_set 6 sc__law_fault.nd (v_call (ok__law_shown T) (hr.mono (by decide)) (by rfl) T.d__law_shown.g T.d__law_shown.F.kp T.d__law_shown.b (a_cons (v_name 0) (a_cons (v_name 4) (a_cons (v_name 5) a_nil)))))
    (b_one (s_ret (v_if (TW.t (tw_or (t_cmp (o_eq hr) (PV.w (v_callB c_len (by rfl) T.b_len (by decide +kernel) (aw_cons (PV.w (v_name 0)) aw_nil))) (PV.w v_int) (nomark _)) (tw_or1 (TW.t (tw_and (t_cmp o_isnot (PV.w (v_name 6)) (PV.w v_non) (nomark _)) (tw_and1 (t_cmp o_ge (PV.w (v_name 6)) (PV.w (v_name 3)) (nomark _)))))))) v_non (v_tup (a_cons v_str a_nil)))))))))))
  exact h
theorem ok__law_played_right (T : TX K mg fa fda) : FnOk P w K mg base CX0 3 (fa 15) (fda 15) ["jobs", "order"] (spS K F__law_played_right) := by
  have h := fn_ok (P := P) (w := w) (mg := mg) (base := base) (fb := d__law_played_right) (k := 2) T.d__law_played_right.F sc__law_played_right (fun cdv A outer s H E hr =>
    (b_cons (s_set 2 sc__law_played_right.nd (v_call (ok__law_ends T) (hr.mono (by decide)) (by rfl) T.d__law_ends.g T.d__law_ends.F.kp T.d__law_ends.b (a_cons (v_name 0) (a_cons (v_name 1) a_nil))))
    (b_cons (s_set 3 sc__law_played_right.nd (PL.v (xl_comp [("k", 4)] [4] rfl rfl sc__law_played_right.nd (IV.c (i_range1 (by rfl) T.b_range (aw_cons (PV.w (v_callB c_len (by rfl) T.b_len (by decide +kernel) (aw_cons (PV.w (v_name 2)) aw_nil))) aw_nil))) (blkOk_by (N := ["jobs", "order", "rows", "begins", "k", "waits", "counts", "j"]) (sc := defScope s__law_played_right) (by decide +kernel)) (fun _ _ _ _ _ => (g_name 4 sc__law_played_right.nd)) (by decide) (fun _ _ _ _ _ => tbs_nil) (fun _ _ _ _ _ => (v_op o_sub (v_ix hr (v_ix hr (v_name 2) (v_name 4)) v_int) (v_ix hr (v_ix hr (v_name 0) (v_ix hr (v_name 1) (v_name 4))) v_int))))))
    (b_cons (s_set 5 sc__law_played_right.nd v_int)
    (b_cons (s_for PassesOwn.never rfl (i_range2 (by rfl) T.b_range (aw_cons (PV.w v_int) (aw_cons (PV.w (v_callB c_len (by rfl) T.b_len (by decide +kernel) (aw_cons (PV.w (v_name 2)) aw_nil))) aw_nil))) (g_name 4 sc__law_played_right.nd) (b_one (s_set 5 sc__law_played_right.nd (v_op o_sub (v_op o_add (v_name 5) (v_ix hr (v_name 3) (v_name 4))) (v_ix hr (v_ix hr (v_name 2) (v_op o_sub (v_name 4) v_int)) v_int)))))
    (b_cons (xs_setC 6 [("k", 4)] [4] rfl rfl sc__law_played_right.nd (IV.c (i_range1 (by rfl) T.b_range (aw_cons (PV.w (v_callB c_len (by rfl) T.b_len (by decide +kernel) (aw_cons (PV.w (v_name 2)) aw_nil))) aw_nil))) (blkOk_by (N := ["jobs", "order", "rows", "begins", "k", "waits", "counts", "j"]) (sc := defScope s__law_played_right) (by decide +kernel)) (fun _ _ _ _ _ => (g_name 4 sc__law_played_right.nd)) (by decide) (fun _ _ _ _ _ => tbs_nil) (fun _ _ _ _ _ => (v_callB c_len (by rfl) T.b_len (by decide +kernel) (aw_cons (PV.w (PL.v (xl_comp [("j", 7)] [7] rfl rfl sc__law_played_right.nd (IV.c (i_range1 (by rfl) T.b_range (aw_cons (PV.w (v_op o_add (v_name 4) v_int)) aw_nil))) (blkN (blkOk_by (N := ["jobs", "order", "rows", "begins", "k", "waits", "counts", "j"]) (by decide +kernel))) (fun _ _ _ _ _ => (g_name 7 sc__law_played_right.nd)) (by decide) (fun _ _ _ _ _ => (TB.one (t_cmp o_gt (PV.w (v_ix hr (v_name 3) (v_name 7))) (PV.w (v_ix hr (v_ix hr (v_name 2) (v_name 4)) v_int)) (nomark _)))) (fun _ _ _ _ _ => (v_name 7))))) aw_nil))) (sw_true rfl rfl rfl (by decide +kernel)))
    (b_one (s_ret (v_and (v_cmp (o_eq hr) (PV.w (v_call (ok_idle_time T) (hr.mono (by decide)) (by rfl) T.d_idle_time.g T.d_idle_time.F.kp T.d_idle_time.b (a_cons (v_name 0) (a_cons (v_name 1) a_nil)))) (PV.w (v_name 5)) (nomark _)) (v_one (v_cmp (o_eq hr) (PV.w (v_call (ok_buffer_of T) (hr.mono (by decide)) (by rfl) T.d_buffer_of.g T.d_buffer_of.F.kp T.d_buffer_of.b (a_cons (v_name 0) (a_cons (v_name 1) a_nil)))) (PV.w (v_callBF (c_maxA rfl hr) (by rfl) T.b_max (by decide +kernel) (a_cons (v_op o_add (PL.v (l_disp (a_cons v_int a_nil))) (v_name 6)) a_nil))) (nomark _))))))))))))
  exact h
theorem ok_law (T : TX K mg fa fda) (ht : LawTrue 17 d_law) : FnOk P w K mg base CX0 4 (fa 16) (fda 16) ["script"] (spLaw K) := by
  have h := law_ok (P := P) (w := w) (mg := mg) (base := base) (fb := d_law) (k := 2) T.d_law.F sc_law rfl rfl (fun cdv A outer s H E hr =>
    (b_cons (s_setM 2 sc_law.nd (m_ix hr (PV.m (PL.v (l_disp (a_cons v_int (a_cons v_int a_nil))))) (m_inout 1 (ok__law_take T) (hr.mono (by decide)) (by rfl) T.d__law_take.g T.d__law_take.F.kp T.d__law_take.b (ma_cons (PV.m v_int) ma_nil))))
    (b_cons (s_setM 3 sc_law.nd (xm_comp [("k", 4)] [4] rfl rfl sc_law.nd (mi_range1 (by rfl) T.b_range (ma_cons (m_inout 1 (ok__law_take T) (hr.mono (by decide)) (by rfl) T.d__law_take.g T.d__law_take.F.kp T.d__law_take.b (ma_cons (PV.m v_int) ma_nil)) ma_nil)) (blkOk_by (N := ["script", "state", "size", "jobs", "k", "kept", "told", "orders", "ends", "order", "marks", "side", "threshold", "most", "end", "kind", "other"]) (sc := defScope s_law) (by decide +kernel)) (fun _ _ _ _ _ => (g_name 4 sc_law.nd)) (by decide) (fun _ _ _ _ _ => mts_nil) (fun _ _ _ _ _ => (m_tup (ma_cons (m_inout 1 (ok__law_take T) (hr.mono (by decide)) (by rfl) T.d__law_take.g T.d__law_take.F.kp T.d__law_take.b (ma_cons (PV.m (v_name 2)) ma_nil)) (ma_cons (m_inout 1 (ok__law_take T) (hr.mono (by decide)) (by rfl) T.d__law_take.g T.d__law_take.F.kp T.d__law_take.b (ma_cons (PV.m (v_name 2)) ma_nil)) ma_nil))))))
    (b_cons (s_set 5 sc_law.nd (PL.v (l_callT c_list (by rfl) T.b_list (by decide +kernel) (a_cons (v_name 3) a_nil))))
    (b_cons (s_set 6 sc_law.nd (v_call (ok_press T) (hr.mono (by decide)) (by rfl) T.d_press.g T.d_press.F.kp T.d_press.b (a_cons (v_name 3) a_nil)))
    (b_cons (s_set 7 sc_law.nd (v_call (ok__law_orders T) (hr.mono (by decide)) (by rfl) T.d__law_orders.g T.d__law_orders.F.kp T.d__law_orders.b (a_cons (v_callB c_len (by rfl) T.b_len (by decide +kernel) (aw_cons (PV.w (v_name 3)) aw_nil)) a_nil)))
    (b_cons (xs_setC 8 [("order", 9)] [9] rfl rfl sc_law.nd (IV.c (i_seq (v_name 7))) (blkOk_by (N := ["script", "state", "size", "jobs", "k", "kept", "told", "orders", "ends", "order", "marks", "side", "threshold", "most", "end", "kind", "other"]) (sc := defScope s_law) (by decide +kernel)) (fun _ _ _ _ _ => (g_name 9 sc_law.nd)) (by decide) (fun _ _ _ _ _ => tbs_nil) (fun _ _ _ _ _ => (v_call (ok__law_end T) (hr.mono (by decide)) (by rfl) T.d__law_end.g T.d__law_end.F.kp T.d__law_end.b (a_cons (v_name 3) (a_cons (v_name 9) a_nil)))) (sw_true rfl rfl rfl (by decide +kernel)))
    (b_cons (s_if (TW.t (tw_or (t_not (t_tru (PV.w (v_isi (by rfl) T.b_isinstance (by rfl) T.b_tuple (PV.w (v_name 6)))))) (tw_or (t_cmp (o_ne hr) (PV.w (v_ix hr (v_name 6) v_int)) (PV.w (v_callBF (c_minA rfl hr) (by rfl) T.b_min (by decide +kernel) (a_cons (v_name 8) a_nil))) (nomark _)) (tw_or (t_cmp o_isnot (PV.w (v_call (ok__law_fault T) (hr.mono (by decide)) (by rfl) T.d__law_fault.g T.d__law_fault.F.kp T.d__law_fault.b (a_cons (v_name 3) (a_cons (v_name 6) a_nil)))) (PV.w v_non) (nomark _)) (tw_or1 (t_cmp o_isnot (PV.w (v_call (ok_press_fault T) (hr.mono (by decide)) (by rfl) T.d_press_fault.g T.d_press_fault.F.kp T.d_press_fault.b (a_cons (v_name 3) (a_cons (v_name 6) a_nil)))) (PV.w v_non) (nomark _))))))) (b_one (s_ret v_bl)) b_nil)
    (b_cons (s_setO 10 sc_law.nd (PL.o (l_disp a_nil)))
    (b_cons (s_for PassesOwn.never rfl (i_range1 (by rfl) T.b_range (aw_cons (PV.w v_int) aw_nil)) (g_name 11 sc_law.nd) (b_one (s_for PassesOwn.never rfl (i_range1 (by rfl) T.b_range (aw_cons (PV.w (v_op o_add (v_name 2) v_int)) aw_nil)) (g_name 12 sc_law.nd) (b_cons (s_if (t_cmp (o_ne hr) (PV.w (v_call (ok_shown T) (hr.mono (by decide)) (by rfl) T.d_shown.g T.d_shown.F.kp T.d_shown.b (a_cons (v_name 3) (a_cons (v_name 11) (a_cons (v_name 12) a_nil))))) (PV.w (v_call (ok__law_shown T) (hr.mono (by decide)) (by rfl) T.d__law_shown.g T.d__law_shown.F.kp T.d__law_shown.b (a_cons (v_name 3) (a_cons (v_name 11) (a_cons (v_name 12) a_nil))))) (nomark _)) (b_one (s_ret v_bl)) b_nil)
    (b_cons (s_set 13 sc_law.nd (v_call (ok__law_shown T) (hr.mono (by decide)) (by rfl) T.d__law_shown.g T.d__law_shown.F.kp T.d__law_shown.b (a_cons (v_name 3) (a_cons (v_name 11) (a_cons (v_name 12) a_nil)))))
    (b_one (s_ext 10 (v_if (t_cmp o_isnot (PV.w (v_name 13)) (PV.w v_non) (nomark _)) (PL.v (l_disp (a_cons (v_name 13) a_nil))) (PL.v (l_disp a_nil))))))))))
    (b_cons (s_if (TW.t (tw_and (t_cmp o_gt (PV.w (v_callB c_len (by rfl) T.b_len (by decide +kernel) (aw_cons (PV.w (v_name 3)) aw_nil))) (PV.w v_int) (nomark _)) (tw_and1 (t_cmp (o_ne hr) (PV.w (v_callB (c_max rfl) (by rfl) T.b_max (by decide +kernel) (aw_cons (w_name 10) aw_nil))) (PV.w (v_callBF (c_minA rfl hr) (by rfl) T.b_min (by decide +kernel) (a_cons (v_name 8) a_nil))) (nomark _))))) (b_one (s_ret v_bl)) b_nil)
    (b_cons (s_for PassesOwn.never rfl (i_range1 (by rfl) T.b_range (aw_cons (PV.w v_int) aw_nil)) (g_name 4 sc_law.nd) (b_cons (s_setM 9 sc_law.nd (m_ix hr (PV.m (v_name 7)) (m_inout 1 (ok__law_take T) (hr.mono (by decide)) (by rfl) T.d__law_take.g T.d__law_take.F.kp T.d__law_take.b (ma_cons (PV.m (v_callB c_len (by rfl) T.b_len (by decide +kernel) (aw_cons (PV.w (v_name 7)) aw_nil))) ma_nil))))
    (b_one (s_if (TW.t (tw_or (t_cmp (o_ne hr) (PV.w (v_call (ok_ends_of T) (hr.mono (by decide)) (by rfl) T.d_ends_of.g T.d_ends_of.F.kp T.d_ends_of.b (a_cons (v_name 3) (a_cons (v_name 9) a_nil)))) (PV.w (v_call (ok__law_ends T) (hr.mono (by decide)) (by rfl) T.d__law_ends.g T.d__law_ends.F.kp T.d__law_ends.b (a_cons (v_name 3) (a_cons (v_name 9) a_nil)))) (nomark _)) (tw_or1 (t_not (t_tru (PV.w (v_call (ok__law_played_right T) (hr.mono (by decide)) (by rfl) T.d__law_played_right.g T.d__law_played_right.F.kp T.d__law_played_right.b (a_cons (v_name 3) (a_cons (v_name 9) a_nil))))))))) (b_one (s_ret v_bl)) b_nil))))
    (b_cons (s_for PassesOwn.never rfl (i_range1 (by rfl) T.b_range (aw_cons (PV.w (v_callBF (c_minA rfl hr) (by rfl) T.b_min (by decide +kernel) (a_cons v_int (a_cons (v_callB c_len (by rfl) T.b_len (by decide +kernel) (aw_cons (PV.w (v_name 7)) aw_nil)) a_nil)))) aw_nil)) (g_name 4 sc_law.nd) (b_one (s_if (t_cmp (o_ne hr) (PV.w (v_call (ok_press_fault T) (hr.mono (by decide)) (by rfl) T.d_press_fault.g T.d_press_fault.F.kp T.d_press_fault.b (a_cons (v_name 3) (a_cons (v_tup (a_cons (v_ix hr (v_name 7) (v_name 4)) (a_cons (v_ix hr (v_name 8) (v_name 4)) (a_cons (v_ix hr (v_name 6) v_int) (a_cons (v_ix hr (v_name 6) v_int) a_nil))))) a_nil)))) (PV.w (v_call (ok__law_fault T) (hr.mono (by decide)) (by rfl) T.d__law_fault.g T.d__law_fault.F.kp T.d__law_fault.b (a_cons (v_name 3) (a_cons (v_tup (a_cons (v_ix hr (v_name 7) (v_name 4)) (a_cons (v_ix hr (v_name 8) (v_name 4)) (a_cons (v_ix hr (v_name 6) v_int) (a_cons (v_ix hr (v_name 6) v_int) a_nil))))) a_nil)))) (nomark _)) (b_one (s_ret v_bl)) b_nil)))
    (b_cons (s_for PassesOwn.never rfl (i_range1 (by rfl) T.b_range (aw_cons (PV.w v_int) aw_nil)) (g_name 4 sc_law.nd) (b_cons (s_tg (v_tup (a_cons (PL.v (l_callT c_list (by rfl) T.b_list (by decide +kernel) (a_cons (v_ix hr (v_name 6) v_int) a_nil))) (a_cons (v_ix hr (v_name 6) v_int) (a_cons (v_ix hr (v_name 6) v_int) (a_cons (v_ix hr (v_name 6) v_int) a_nil))))) (g_tup rfl (gs_cons (g_name 9 sc_law.nd) (gs_cons (g_name 14 sc_law.nd) (gs_cons (g_name 11 sc_law.nd) (gs_cons (g_name 12 sc_law.nd) gs_nil))))))
    (b_cons (s_setM 15 sc_law.nd (m_inout 1 (ok__law_take T) (hr.mono (by decide)) (by rfl) T.d__law_take.g T.d__law_take.F.kp T.d__law_take.b (ma_cons (PV.m v_int) ma_nil)))
    (b_cons (s_if (t_cmp (o_eq hr) (PV.w (v_name 15)) (PV.w v_int) (nomark _)) (b_one (s_setM 9 sc_law.nd (m_if (mt_cmp (o_eq hr) (m_inout 1 (ok__law_take T) (hr.mono (by decide)) (by rfl) T.d__law_take.g T.d__law_take.F.kp T.d__law_take.b (ma_cons (PV.m v_int) ma_nil)) (PV.m v_int) (nomark _)) (PV.m (PL.v (l_slice (v_name 9) (s_some (PV.w v_int)) s_none))) (PV.m (v_op o_add (v_name 9) (PL.v (l_disp (a_cons v_int a_nil)))))))) (b_one (s_if (t_cmp (o_eq hr) (PV.w (v_name 15)) (PV.w v_int) (nomark _)) (b_one (s_setM 14 sc_law.nd (m_op o_add (PV.m (v_name 14)) (m_ix hr (PV.m (PL.v (l_disp (a_cons v_int (a_cons (v_op o_sub v_int v_int) a_nil))))) (m_inout 1 (ok__law_take T) (hr.mono (by decide)) (by rfl) T.d__law_take.g T.d__law_take.F.kp T.d__law_take.b (ma_cons (PV.m v_int) ma_nil)))))) (b_one (s_if (t_cmp (o_eq hr) (PV.w (v_name 15)) (PV.w v_int) (nomark _)) (b_one (s_setM 11 sc_law.nd (m_ix hr (PV.m (PL.v (l_disp (a_cons (v_op o_sub v_int (v_name 11)) (a_cons v_int (a_cons (v_op o_sub v_int v_int) a_nil)))))) (m_inout 1 (ok__law_take T) (hr.mono (by decide)) (by rfl) T.d__law_take.g T.d__law_take.F.kp T.d__law_take.b (ma_cons (PV.m v_int) ma_nil))))) (b_one (s_setM 12 sc_law.nd (m_ix hr (PV.m (PL.v (l_disp (a_cons (v_op o_add (v_name 12) v_int) (a_cons (v_op o_sub (v_name 12) v_int) (a_cons v_int (a_cons v_int a_nil))))))) (m_inout 1 (ok__law_take T) (hr.mono (by decide)) (by rfl) T.d__law_take.g T.d__law_take.F.kp T.d__law_take.b (ma_cons (PV.m v_int) ma_nil))))))))))
    (b_cons (s_set 16 sc_law.nd (v_tup (a_cons (v_name 9) (a_cons (v_name 14) (a_cons (v_name 11) (a_cons (v_name 12) a_nil))))))
    (b_one (s_if (t_cmp (o_ne hr) (PV.w (v_call (ok_press_fault T) (hr.mono (by decide)) (by rfl) T.d_press_fault.g T.d_press_fault.F.kp T.d_press_fault.b (a_cons (v_name 3) (a_cons (v_name 16) a_nil)))) (PV.w (v_call (ok__law_fault T) (hr.mono (by decide)) (by rfl) T.d__law_fault.g T.d__law_fault.F.kp T.d__law_fault.b (a_cons (v_name 3) (a_cons (v_name 16) a_nil)))) (nomark _)) (b_one (s_ret v_bl)) b_nil)))))))
    (b_one (s_ret (v_cmp (o_eq hr) (PV.w (v_name 3)) (PV.w (v_name 5)) (nomark _))))))))))))))))))
    (fun cdv A outer s H E hr => ps_set (i := 1) sc_law.nd rfl (by first | exact Or.inl rfl | exact Or.inr rfl) (pe_call (ok__law_state T) (hr.mono (by decide)) (by rfl) T.d__law_state.g T.d__law_state.F.kp T.d__law_state.b .nil pass0 (pa_cons (pv 0) pa_nil))) ht
  exact h
end
theorem all_mk {l : PySem.W.OpenLaw} {w : World} {K : PySem.W.Frag} {h : Heap} {mg : Str → Option Value} {fl : Addr} (X : K.In h) (G : h.Ns mainGlobals mg) (hfl : mg "law" = some (.ref fl))
    {f0 : Addr} {od0 an0 : Option Addr} {sl0 : Array (Option Value)} {oc0 kV0 dc0 pm0 cd0 ct0 : Value}
    {f1 : Addr} {od1 an1 : Option Addr} {sl1 : Array (Option Value)} {oc1 kV1 dc1 pm1 cd1 ct1 : Value}
    {f2 : Addr} {od2 an2 : Option Addr} {sl2 : Array (Option Value)} {oc2 kV2 dc2 pm2 cd2 ct2 : Value}
    {f3 : Addr} {od3 an3 : Option Addr} {sl3 : Array (Option Value)} {oc3 kV3 dc3 pm3 cd3 ct3 : Value}
    {f4 : Addr} {od4 an4 : Option Addr} {sl4 : Array (Option Value)} {oc4 kV4 dc4 pm4 cd4 ct4 : Value}
    {f5 : Addr} {od5 an5 : Option Addr} {sl5 : Array (Option Value)} {oc5 kV5 dc5 pm5 cd5 ct5 : Value}
    {f6 : Addr} {od6 an6 : Option Addr} {sl6 : Array (Option Value)} {oc6 kV6 dc6 pm6 cd6 ct6 : Value}
    {f7 : Addr} {od7 an7 : Option Addr} {sl7 : Array (Option Value)} {oc7 kV7 dc7 pm7 cd7 ct7 : Value}
    {f8 : Addr} {od8 an8 : Option Addr} {sl8 : Array (Option Value)} {oc8 kV8 dc8 pm8 cd8 ct8 : Value}
    {f9 : Addr} {od9 an9 : Option Addr} {sl9 : Array (Option Value)} {oc9 kV9 dc9 pm9 cd9 ct9 : Value}
    {f10 : Addr} {od10 an10 : Option Addr} {sl10 : Array (Option Value)} {oc10 kV10 dc10 pm10 cd10 ct10 : Value}
    {f11 : Addr} {od11 an11 : Option Addr} {sl11 : Array (Option Value)} {oc11 kV11 dc11 pm11 cd11 ct11 : Value}
    {f12 : Addr} {od12 an12 : Option Addr} {sl12 : Array (Option Value)} {oc12 kV12 dc12 pm12 cd12 ct12 : Value}
    {f13 : Addr} {od13 an13 : Option Addr} {sl13 : Array (Option Value)} {oc13 kV13 dc13 pm13 cd13 ct13 : Value}
    {f14 : Addr} {od14 an14 : Option Addr} {sl14 : Array (Option Value)} {oc14 kV14 dc14 pm14 cd14 ct14 : Value}
    {f15 : Addr} {od15 an15 : Option Addr} {sl15 : Array (Option Value)} {oc15 kV15 dc15 pm15 cd15 ct15 : Value}
    {f16 : Addr} {od16 an16 : Option Addr} {sl16 : Array (Option Value)} {oc16 kV16 dc16 pm16 cd16 ct16 : Value}
    (a0 : PySem.W.nsIn K mainGlobals "ends_of" = some (some (.ref f0))) (l0 : K.lookup f0 = some ⟨oc0, od0, .func (PySem.W.fnOf "ends_of" "ends_of" (defArgs s_ends_of) (defBody s_ends_of) (defScope s_ends_of) .none kV0 dc0 pm0 an0 cd0 ct0), sl0⟩) (c0 : PySem.W.codeIn K cd0 "ends_of" = true) (k0 : PySem.W.keepIn K (.ref f0) = true)
    (a1 : PySem.W.nsIn K mainGlobals "sequence" = some (some (.ref f1))) (l1 : K.lookup f1 = some ⟨oc1, od1, .func (PySem.W.fnOf "sequence" "sequence" (defArgs s_sequence) (defBody s_sequence) (defScope s_sequence) .none kV1 dc1 pm1 an1 cd1 ct1), sl1⟩) (c1 : PySem.W.codeIn K cd1 "sequence" = true) (k1 : PySem.W.keepIn K (.ref f1) = true)
    (a2 : PySem.W.nsIn K mainGlobals "shown" = some (some (.ref f2))) (l2 : K.lookup f2 = some ⟨oc2, od2, .func (PySem.W.fnOf "shown" "shown" (defArgs s_shown) (defBody s_shown) (defScope s_shown) .none kV2 dc2 pm2 an2 cd2 ct2), sl2⟩) (c2 : PySem.W.codeIn K cd2 "shown" = true) (k2 : PySem.W.keepIn K (.ref f2) = true)
    (a3 : PySem.W.nsIn K mainGlobals "best_shown" = some (some (.ref f3))) (l3 : K.lookup f3 = some ⟨oc3, od3, .func (PySem.W.fnOf "best_shown" "best_shown" (defArgs s_best_shown) (defBody s_best_shown) (defScope s_best_shown) .none kV3 dc3 pm3 an3 cd3 ct3), sl3⟩) (c3 : PySem.W.codeIn K cd3 "best_shown" = true) (k3 : PySem.W.keepIn K (.ref f3) = true)
    (a4 : PySem.W.nsIn K mainGlobals "press" = some (some (.ref f4))) (l4 : K.lookup f4 = some ⟨oc4, od4, .func (PySem.W.fnOf "press" "press" (defArgs s_press) (defBody s_press) (defScope s_press) .none kV4 dc4 pm4 an4 cd4 ct4), sl4⟩) (c4 : PySem.W.codeIn K cd4 "press" = true) (k4 : PySem.W.keepIn K (.ref f4) = true)
    (a5 : PySem.W.nsIn K mainGlobals "press_fault" = some (some (.ref f5))) (l5 : K.lookup f5 = some ⟨oc5, od5, .func (PySem.W.fnOf "press_fault" "press_fault" (defArgs s_press_fault) (defBody s_press_fault) (defScope s_press_fault) .none kV5 dc5 pm5 an5 cd5 ct5), sl5⟩) (c5 : PySem.W.codeIn K cd5 "press_fault" = true) (k5 : PySem.W.keepIn K (.ref f5) = true)
    (a6 : PySem.W.nsIn K mainGlobals "idle_time" = some (some (.ref f6))) (l6 : K.lookup f6 = some ⟨oc6, od6, .func (PySem.W.fnOf "idle_time" "idle_time" (defArgs s_idle_time) (defBody s_idle_time) (defScope s_idle_time) .none kV6 dc6 pm6 an6 cd6 ct6), sl6⟩) (c6 : PySem.W.codeIn K cd6 "idle_time" = true) (k6 : PySem.W.keepIn K (.ref f6) = true)
    (a7 : PySem.W.nsIn K mainGlobals "buffer_of" = some (some (.ref f7))) (l7 : K.lookup f7 = some ⟨oc7, od7, .func (PySem.W.fnOf "buffer_of" "buffer_of" (defArgs s_buffer_of) (defBody s_buffer_of) (defScope s_buffer_of) .none kV7 dc7 pm7 an7 cd7 ct7), sl7⟩) (c7 : PySem.W.codeIn K cd7 "buffer_of" = true) (k7 : PySem.W.keepIn K (.ref f7) = true)
    (a8 : PySem.W.nsIn K mainGlobals "_law_state" = some (some (.ref f8))) (l8 : K.lookup f8 = some ⟨oc8, od8, .func (PySem.W.fnOf "_law_state" "_law_state" (defArgs s__law_state) (defBody s__law_state) (defScope s__law_state) .none kV8 dc8 pm8 an8 cd8 ct8), sl8⟩) (c8 : PySem.W.codeIn K cd8 "_law_state" = true) (k8 : PySem.W.keepIn K (.ref f8) = true)
    (a9 : PySem.W.nsIn K mainGlobals "_law_take" = some (some (.ref f9))) (l9 : K.lookup f9 = some ⟨oc9, od9, .func (PySem.W.fnOf "_law_take" "_law_take" (defArgs s__law_take) (defBody s__law_take) (defScope s__law_take) .none kV9 dc9 pm9 an9 cd9 ct9), sl9⟩) (c9 : PySem.W.codeIn K cd9 "_law_take" = true) (k9 : PySem.W.keepIn K (.ref f9) = true)
    (a10 : PySem.W.nsIn K mainGlobals "_law_ends" = some (some (.ref f10))) (l10 : K.lookup f10 = some ⟨oc10, od10, .func (PySem.W.fnOf "_law_ends" "_law_ends" (defArgs s__law_ends) (defBody s__law_ends) (defScope s__law_ends) .none kV10 dc10 pm10 an10 cd10 ct10), sl10⟩) (c10 : PySem.W.codeIn K cd10 "_law_ends" = true) (k10 : PySem.W.keepIn K (.ref f10) = true)
    (a11 : PySem.W.nsIn K mainGlobals "_law_end" = some (some (.ref f11))) (l11 : K.lookup f11 = some ⟨oc11, od11, .func (PySem.W.fnOf "_law_end" "_law_end" (defArgs s__law_end) (defBody s__law_end) (defScope s__law_end) .none kV11 dc11 pm11 an11 cd11 ct11), sl11⟩) (c11 : PySem.W.codeIn K cd11 "_law_end" = true) (k11 : PySem.W.keepIn K (.ref f11) = true)
    (a12 : PySem.W.nsIn K mainGlobals "_law_orders" = some (some (.ref f12))) (l12 : K.lookup f12 = some ⟨oc12, od12, .func (PySem.W.fnOf "_law_orders" "_law_orders" (defArgs s__law_orders) (defBody s__law_orders) (defScope s__law_orders) .none kV12 dc12 pm12 an12 cd12 ct12), sl12⟩) (c12 : PySem.W.codeIn K cd12 "_law_orders" = true) (k12 : PySem.W.keepIn K (.ref f12) = true)
    (a13 : PySem.W.nsIn K mainGlobals "_law_shown" = some (some (.ref f13))) (l13 : K.lookup f13 = some ⟨oc13, od13, .func (PySem.W.fnOf "_law_shown" "_law_shown" (defArgs s__law_shown) (defBody s__law_shown) (defScope s__law_shown) .none kV13 dc13 pm13 an13 cd13 ct13), sl13⟩) (c13 : PySem.W.codeIn K cd13 "_law_shown" = true) (k13 : PySem.W.keepIn K (.ref f13) = true)
    (a14 : PySem.W.nsIn K mainGlobals "_law_fault" = some (some (.ref f14))) (l14 : K.lookup f14 = some ⟨oc14, od14, .func (PySem.W.fnOf "_law_fault" "_law_fault" (defArgs s__law_fault) (defBody s__law_fault) (defScope s__law_fault) .none kV14 dc14 pm14 an14 cd14 ct14), sl14⟩) (c14 : PySem.W.codeIn K cd14 "_law_fault" = true) (k14 : PySem.W.keepIn K (.ref f14) = true)
    (a15 : PySem.W.nsIn K mainGlobals "_law_played_right" = some (some (.ref f15))) (l15 : K.lookup f15 = some ⟨oc15, od15, .func (PySem.W.fnOf "_law_played_right" "_law_played_right" (defArgs s__law_played_right) (defBody s__law_played_right) (defScope s__law_played_right) .none kV15 dc15 pm15 an15 cd15 ct15), sl15⟩) (c15 : PySem.W.codeIn K cd15 "_law_played_right" = true) (k15 : PySem.W.keepIn K (.ref f15) = true)
    (a16 : PySem.W.nsIn K mainGlobals "law" = some (some (.ref f16))) (l16 : K.lookup f16 = some ⟨oc16, od16, .func (PySem.W.fnOf "law" "law" (defArgs s_law) (defBody s_law) (defScope s_law) .none kV16 dc16 pm16 an16 cd16 ct16), sl16⟩) (c16 : PySem.W.codeIn K cd16 "law" = true) (k16 : PySem.W.keepIn K (.ref f16) = true)
    (z_max : PySem.W.nsIn K mainGlobals "max" = some none)
    (z_enumerate : PySem.W.nsIn K mainGlobals "enumerate" = some none)
    (z_sorted : PySem.W.nsIn K mainGlobals "sorted" = some none)
    (z_min : PySem.W.nsIn K mainGlobals "min" = some none)
    (z_sum : PySem.W.nsIn K mainGlobals "sum" = some none)
    (z_len : PySem.W.nsIn K mainGlobals "len" = some none)
    (z_list : PySem.W.nsIn K mainGlobals "list" = some none)
    (z_range : PySem.W.nsIn K mainGlobals "range" = some none)
    (z_isinstance : PySem.W.nsIn K mainGlobals "isinstance" = some none)
    (z_tuple : PySem.W.nsIn K mainGlobals "tuple" = some none)
    (z_abs : PySem.W.nsIn K mainGlobals "abs" = some none)
    (z_int : PySem.W.nsIn K mainGlobals "int" = some none)
    (ht : LawTrue 17 d_law) :
    ∃ fd : FuncData, (∀ (s : Shared) (v : Value), BindsTo s fd ⟨[v], []⟩ [("script", v)]) ∧ ∀ base : Heap, K.In base → base.Ns mainGlobals mg → FnOk l.prog w K mg base CX0 4 fl fd ["script"] (spLaw K) := by
  have e := hfl.symm.trans (PySem.W.mg_of X G a16)
  cases e
  have F0 := fun_mk (st := s_ends_of) l0 c0 k0
  have b0 := F0.binds (ps := ["jobs", "order"]) fun _ _ _ _ _ _ us hl => match us, hl with | [_, _], _ => rfl
  have F1 := fun_mk (st := s_sequence) l1 c1 k1
  have b1 := F1.binds (ps := ["jobs"]) fun _ _ _ _ _ _ us hl => match us, hl with | [_], _ => rfl
  have F2 := fun_mk (st := s_shown) l2 c2 k2
  have b2 := F2.binds (ps := ["jobs", "side", "threshold"]) fun _ _ _ _ _ _ us hl => match us, hl with | [_, _, _], _ => rfl
  have F3 := fun_mk (st := s_best_shown) l3 c3 k3
  have b3 := F3.binds (ps := ["jobs"]) fun _ _ _ _ _ _ us hl => match us, hl with | [_], _ => rfl
  have F4 := fun_mk (st := s_press) l4 c4 k4
  have b4 := F4.binds (ps := ["jobs"]) fun _ _ _ _ _ _ us hl => match us, hl with | [_], _ => rfl
  have F5 := fun_mk (st := s_press_fault) l5 c5 k5
  have b5 := F5.binds (ps := ["jobs", "told"]) fun _ _ _ _ _ _ us hl => match us, hl with | [_, _], _ => rfl
  have F6 := fun_mk (st := s_idle_time) l6 c6 k6
  have b6 := F6.binds (ps := ["jobs", "order"]) fun _ _ _ _ _ _ us hl => match us, hl with | [_, _], _ => rfl
  have F7 := fun_mk (st := s_buffer_of) l7 c7 k7
  have b7 := F7.binds (ps := ["jobs", "order"]) fun _ _ _ _ _ _ us hl => match us, hl with | [_, _], _ => rfl
  have F8 := fun_mk (st := s__law_state) l8 c8 k8
  have b8 := F8.binds (ps := ["script"]) fun _ _ _ _ _ _ us hl => match us, hl with | [_], _ => rfl
  have F9 := fun_mk (st := s__law_take) l9 c9 k9
  have b9 := F9.binds (ps := ["state", "most"]) fun _ _ _ _ _ _ us hl => match us, hl with | [_, _], _ => rfl
  have F10 := fun_mk (st := s__law_ends) l10 c10 k10
  have b10 := F10.binds (ps := ["jobs", "order"]) fun _ _ _ _ _ _ us hl => match us, hl with | [_, _], _ => rfl
  have F11 := fun_mk (st := s__law_end) l11 c11 k11
  have b11 := F11.binds (ps := ["jobs", "order"]) fun _ _ _ _ _ _ us hl => match us, hl with | [_, _], _ => rfl
  have F12 := fun_mk (st := s__law_orders) l12 c12 k12
  have b12 := F12.binds (ps := ["many"]) fun _ _ _ _ _ _ us hl => match us, hl with | [_], _ => rfl
  have F13 := fun_mk (st := s__law_shown) l13 c13 k13
  have b13 := F13.binds (ps := ["jobs", "side", "threshold"]) fun _ _ _ _ _ _ us hl => match us, hl with | [_, _, _], _ => rfl
  have F14 := fun_mk (st := s__law_fault) l14 c14 k14
  have b14 := F14.binds (ps := ["jobs", "told"]) fun _ _ _ _ _ _ us hl => match us, hl with | [_, _], _ => rfl
  have F15 := fun_mk (st := s__law_played_right) l15 c15 k15
  have b15 := F15.binds (ps := ["jobs", "order"]) fun _ _ _ _ _ _ us hl => match us, hl with | [_, _], _ => rfl
  have F16 := fun_mk (st := s_law) l16 c16 k16
  have b16 := F16.binds (ps := ["script"]) fun _ _ _ _ _ _ us hl => match us, hl with | [_], _ => rfl
  let fa : Nat → Addr := fun i => match i with
    | 0 => f0
    | 1 => f1
    | 2 => f2
    | 3 => f3
    | 4 => f4
    | 5 => f5
    | 6 => f6
    | 7 => f7
    | 8 => f8
    | 9 => f9
    | 10 => f10
    | 11 => f11
    | 12 => f12
    | 13 => f13
    | 14 => f14
    | 15 => f15
    | 16 => fl
    | _ => 0
  let fda : Nat → FuncData := fun i => match i with
    | 0 => PySem.W.fnOf "ends_of" "ends_of" (defArgs s_ends_of) (defBody s_ends_of) (defScope s_ends_of) .none kV0 dc0 pm0 an0 cd0 ct0
    | 1 => PySem.W.fnOf "sequence" "sequence" (defArgs s_sequence) (defBody s_sequence) (defScope s_sequence) .none kV1 dc1 pm1 an1 cd1 ct1
    | 2 => PySem.W.fnOf "shown" "shown" (defArgs s_shown) (defBody s_shown) (defScope s_shown) .none kV2 dc2 pm2 an2 cd2 ct2
    | 3 => PySem.W.fnOf "best_shown" "best_shown" (defArgs s_best_shown) (defBody s_best_shown) (defScope s_best_shown) .none kV3 dc3 pm3 an3 cd3 ct3
    | 4 => PySem.W.fnOf "press" "press" (defArgs s_press) (defBody s_press) (defScope s_press) .none kV4 dc4 pm4 an4 cd4 ct4
    | 5 => PySem.W.fnOf "press_fault" "press_fault" (defArgs s_press_fault) (defBody s_press_fault) (defScope s_press_fault) .none kV5 dc5 pm5 an5 cd5 ct5
    | 6 => PySem.W.fnOf "idle_time" "idle_time" (defArgs s_idle_time) (defBody s_idle_time) (defScope s_idle_time) .none kV6 dc6 pm6 an6 cd6 ct6
    | 7 => PySem.W.fnOf "buffer_of" "buffer_of" (defArgs s_buffer_of) (defBody s_buffer_of) (defScope s_buffer_of) .none kV7 dc7 pm7 an7 cd7 ct7
    | 8 => PySem.W.fnOf "_law_state" "_law_state" (defArgs s__law_state) (defBody s__law_state) (defScope s__law_state) .none kV8 dc8 pm8 an8 cd8 ct8
    | 9 => PySem.W.fnOf "_law_take" "_law_take" (defArgs s__law_take) (defBody s__law_take) (defScope s__law_take) .none kV9 dc9 pm9 an9 cd9 ct9
    | 10 => PySem.W.fnOf "_law_ends" "_law_ends" (defArgs s__law_ends) (defBody s__law_ends) (defScope s__law_ends) .none kV10 dc10 pm10 an10 cd10 ct10
    | 11 => PySem.W.fnOf "_law_end" "_law_end" (defArgs s__law_end) (defBody s__law_end) (defScope s__law_end) .none kV11 dc11 pm11 an11 cd11 ct11
    | 12 => PySem.W.fnOf "_law_orders" "_law_orders" (defArgs s__law_orders) (defBody s__law_orders) (defScope s__law_orders) .none kV12 dc12 pm12 an12 cd12 ct12
    | 13 => PySem.W.fnOf "_law_shown" "_law_shown" (defArgs s__law_shown) (defBody s__law_shown) (defScope s__law_shown) .none kV13 dc13 pm13 an13 cd13 ct13
    | 14 => PySem.W.fnOf "_law_fault" "_law_fault" (defArgs s__law_fault) (defBody s__law_fault) (defScope s__law_fault) .none kV14 dc14 pm14 an14 cd14 ct14
    | 15 => PySem.W.fnOf "_law_played_right" "_law_played_right" (defArgs s__law_played_right) (defBody s__law_played_right) (defScope s__law_played_right) .none kV15 dc15 pm15 an15 cd15 ct15
    | 16 => PySem.W.fnOf "law" "law" (defArgs s_law) (defBody s_law) (defScope s_law) .none kV16 dc16 pm16 an16 cd16 ct16
    | _ => PySem.W.fnOf "law" "law" (defArgs s_law) (defBody s_law) (defScope s_law) .none kV16 dc16 pm16 an16 cd16 ct16
  have T : TX K mg fa fda := {
    b_max := PySem.W.mg_none_of X G z_max
    b_enumerate := PySem.W.mg_none_of X G z_enumerate
    b_sorted := PySem.W.mg_none_of X G z_sorted
    b_min := PySem.W.mg_none_of X G z_min
    b_sum := PySem.W.mg_none_of X G z_sum
    b_len := PySem.W.mg_none_of X G z_len
    b_list := PySem.W.mg_none_of X G z_list
    b_range := PySem.W.mg_none_of X G z_range
    b_isinstance := PySem.W.mg_none_of X G z_isinstance
    b_tuple := PySem.W.mg_none_of X G z_tuple
    b_abs := PySem.W.mg_none_of X G z_abs
    b_int := PySem.W.mg_none_of X G z_int
    d_ends_of := ⟨F0, PySem.W.mg_of X G a0, b0⟩
    d_sequence := ⟨F1, PySem.W.mg_of X G a1, b1⟩
    d_shown := ⟨F2, PySem.W.mg_of X G a2, b2⟩
    d_best_shown := ⟨F3, PySem.W.mg_of X G a3, b3⟩
    d_press := ⟨F4, PySem.W.mg_of X G a4, b4⟩
    d_press_fault := ⟨F5, PySem.W.mg_of X G a5, b5⟩
    d_idle_time := ⟨F6, PySem.W.mg_of X G a6, b6⟩
    d_buffer_of := ⟨F7, PySem.W.mg_of X G a7, b7⟩
    d__law_state := ⟨F8, PySem.W.mg_of X G a8, b8⟩
    d__law_take := ⟨F9, PySem.W.mg_of X G a9, b9⟩
    d__law_ends := ⟨F10, PySem.W.mg_of X G a10, b10⟩
    d__law_end := ⟨F11, PySem.W.mg_of X G a11, b11⟩
    d__law_orders := ⟨F12, PySem.W.mg_of X G a12, b12⟩
    d__law_shown := ⟨F13, PySem.W.mg_of X G a13, b13⟩
    d__law_fault := ⟨F14, PySem.W.mg_of X G a14, b14⟩
    d__law_played_right := ⟨F15, PySem.W.mg_of X G a15, b15⟩
    d_law := ⟨F16, PySem.W.mg_of X G a16, b16⟩
  }
  exact ⟨_, fun s v => .of_eq rfl, fun base _ _ => ok_law T ht⟩
end Law
open PySem PySem.W PyProof.Rows in
set_option maxRecDepth 100000 in
set_option maxHeartbeats 0 in
theorem PySem.Challenge.cw_foldwright_k60_presses_by_all_orders_holds : PySem.Challenge.rw_foldwright_k60_presses_by_all_orders.Holds := by
  w_on; o_law; k_head; (case hw => w_witness2)
  k_fill
  refine L2.walk_of (l := PySem.Challenge.rw_foldwright_k60_presses_by_all_orders) (n := 63) (k := 4) (x := "script") (CX := fun _ => L2.CX0) (sp := fun w => VL.spLaw _) rfl (by decide) rfl ⟨rfl, by decide, by decide⟩ (fun w h Y => PySem.W.kIn_of Y) ?F (fun _ _ a ns hl _ hS => ⟨a, ns, rfl, hS, hl, fun _ => rfl⟩) (fun _ _ _ _ _ h => h)
  case F =>
    intro w mg fa h KX G hmg
    refine' Law.all_mk KX G hmg ?a0 ?l0 ?c0 ?k0 ?a1 ?l1 ?c1 ?k1 ?a2 ?l2 ?c2 ?k2 ?a3 ?l3 ?c3 ?k3 ?a4 ?l4 ?c4 ?k4 ?a5 ?l5 ?c5 ?k5 ?a6 ?l6 ?c6 ?k6 ?a7 ?l7 ?c7 ?k7 ?a8 ?l8 ?c8 ?k8 ?a9 ?l9 ?c9 ?k9 ?a10 ?l10 ?c10 ?k10 ?a11 ?l11 ?c11 ?k11 ?a12 ?l12 ?c12 ?k12 ?a13 ?l13 ?c13 ?k13 ?a14 ?l14 ?c14 ?k14 ?a15 ?l15 ?c15 ?k15 ?a16 ?l16 ?c16 ?k16 ?z_max ?z_enumerate ?z_sorted ?z_min ?z_sum ?z_len ?z_list ?z_range ?z_isinstance ?z_tuple ?z_abs ?z_int Law.law_true
    (case a0 => k_is); (case l0 => k_is); (case c0 => k_is); (case k0 => k_is); (case a1 => k_is); (case l1 => k_is); (case c1 => k_is); (case k1 => k_is); (case a2 => k_is); (case l2 => k_is); (case c2 => k_is); (case k2 => k_is); (case a3 => k_is); (case l3 => k_is); (case c3 => k_is); (case k3 => k_is); (case a4 => k_is); (case l4 => k_is); (case c4 => k_is); (case k4 => k_is); (case a5 => k_is); (case l5 => k_is); (case c5 => k_is); (case k5 => k_is); (case a6 => k_is); (case l6 => k_is); (case c6 => k_is); (case k6 => k_is); (case a7 => k_is); (case l7 => k_is); (case c7 => k_is); (case k7 => k_is); (case a8 => k_is); (case l8 => k_is); (case c8 => k_is); (case k8 => k_is); (case a9 => k_is); (case l9 => k_is); (case c9 => k_is); (case k9 => k_is); (case a10 => k_is); (case l10 => k_is); (case c10 => k_is); (case k10 => k_is); (case a11 => k_is); (case l11 => k_is); (case c11 => k_is); (case k11 => k_is); (case a12 => k_is); (case l12 => k_is); (case c12 => k_is); (case k12 => k_is); (case a13 => k_is); (case l13 => k_is); (case c13 => k_is); (case k13 => k_is); (case a14 => k_is); (case l14 => k_is); (case c14 => k_is); (case k14 => k_is); (case a15 => k_is); (case l15 => k_is); (case c15 => k_is); (case k15 => k_is); (case a16 => k_is); (case l16 => k_is); (case c16 => k_is); (case k16 => k_is); (case z_max => k_is); (case z_enumerate => k_is); (case z_sorted => k_is); (case z_min => k_is); (case z_sum => k_is); (case z_len => k_is); (case z_list => k_is); (case z_range => k_is); (case z_isinstance => k_is); (case z_tuple => k_is); (case z_abs => k_is); (case z_int => k_is)

