import PyProof.Rows.All
import Wide.All
import OpenK.AllK
import Wide.FinOn
import HandS.ForMost
import HandS.Deep
import HandS.Wide
import KE.DataEq
import HandS.TupAny
import HandS.IsInst
import KE.SortData
import KE.DataMinMax
import HandS.Conv
import HandS.Rev
import PyProof.ReprRoads
import HandS.Style
import HandS.SetFor
import HandS.Strs
import HandS.TupSets
import HandS.SortKw
import PyProof.ReprLen
import PySem.Challenge.RW_foldwright_k56_sizes_by_all_sets
set_option Elab.async false
set_option linter.all false
set_option maxRecDepth 100000
/-! VL1: data read as values: what is frozen (G), what is owned (trees S), the state's relation ER. -/
namespace VL
open PySem PySem.Spec PyProof.Rows L2
/-- data as values; a dict tells whether its keys are tuples -/
inductive D where
  | non | bl (b : Bool) | int (i : Int) | str (x : Str) | lst (xs : List D) | tup (xs : List D) | dic (t : Bool) (kvs : List (D × D)) | obj (c : Str) (ns : List Str) (ds : List D) | hid
def kD : Key → D
  | .inl i => .int i
  | .inr x => .str x
/-- the class of the name -/
def Lk (K : PySem.W.Frag) (c : Str) (C : Addr) : Prop := PySem.W.nsIn K mainGlobals c = some (some (.ref C))
mutual
inductive Rp (K : PySem.W.Frag) (H : Hp) : V → D → Prop
  | non : Rp K H .non .non
  | bl (b : Bool) : Rp K H (.bl b) (.bl b)
  | int (i : Int) : Rp K H (.int i) (.int i)
  | str (x : Str) : Rp K H (.str x) (.str x)
  | lst {a : Addr} {xs : List V} {ds : List D} : H a = some (.lst xs) → RpL K H xs ds → Rp K H (.ref a) (.lst ds)
  | tup {a : Addr} {xs : List V} {ds : List D} : H a = some (.tup xs) → RpL K H xs ds → Rp K H (.ref a) (.tup ds)
  | dK {a : Addr} {kvs : List (Key × V)} {ds : List (D × D)} : Rd H a (.dK kvs) → RpK K H kvs ds → Rp K H (.ref a) (.dic false ds)
  | dT {a : Addr} {kvs : List (List Key × V)} {ds : List (D × D)} : Rd H a (.dT kvs) → RpT K H kvs ds → Rp K H (.ref a) (.dic true ds)
  | obj {a C dx : Addr} {vs : List (Str × V)} {c : Str} {ns : List Str} {ds : List D} : H a = some (.ins C dx vs) → Lk K c C → ns.Nodup → vs.map Prod.fst = ns → RpL K H (vs.map Prod.snd) ds → Rp K H (.ref a) (.obj c ns ds)
  | hid (v : V) : v ≠ .non → Rp K H v .hid
inductive RpL (K : PySem.W.Frag) (H : Hp) : List V → List D → Prop
  | nil : RpL K H [] []
  | cons {v : V} {vs : List V} {d : D} {ds : List D} : Rp K H v d → RpL K H vs ds → RpL K H (v :: vs) (d :: ds)
inductive RpK (K : PySem.W.Frag) (H : Hp) : List (Key × V) → List (D × D) → Prop
  | nil : RpK K H [] []
  | cons {k : Key} {v : V} {vs : List (Key × V)} {d : D} {ds : List (D × D)} : Rp K H v d → RpK K H vs ds → RpK K H ((k, v) :: vs) ((kD k, d) :: ds)
inductive RpT (K : PySem.W.Frag) (H : Hp) : List (List Key × V) → List (D × D) → Prop
  | nil : RpT K H [] []
  | cons {k : List Key} {v : V} {vs : List (List Key × V)} {d : D} {ds : List (D × D)} : Rp K H v d → RpT K H vs ds → RpT K H ((k, v) :: vs) ((.tup (k.map kD), d) :: ds)
end
theorem sqT_mono {K : PySem.W.Frag} {H H' : Hp} {a : Addr} {xs : List V} (e : Same H H') (h : SqT K H a xs) : SqT K H' a xs := by
  rcases h with (h | ⟨o, h⟩) | h
  · exact .inl (.inl (e _ _ h))
  · exact .inl (.inr ⟨o, e _ _ h⟩)
  · exact .inr h
theorem rd_mono {H H' : Hp} {a : Addr} {u : HO} (e : Same H H') (h : Rd H a u) : Rd H' a u := by
  rcases h with h | ⟨o, h⟩
  · exact .inl (e _ _ h)
  · exact .inr ⟨o, e _ _ h⟩
section
variable {K : PySem.W.Frag} {H H' : Hp}
mutual
theorem Rp.mono (e : Same H H') : ∀ (d : D) (v : V), Rp K H v d → Rp K H' v d
  | .non, _, h => by cases h; exact .non
  | .bl b, _, h => by cases h; exact .bl b
  | .int i, _, h => by cases h; exact .int i
  | .str x, _, h => by cases h; exact .str x
  | .lst ds, _, h => by
    cases h with
    | lst h1 h2 => exact .lst (e _ _ h1) (RpL.mono e ds _ h2)
  | .tup ds, _, h => by
    cases h with
    | tup h1 h2 => exact .tup (e _ _ h1) (RpL.mono e ds _ h2)
  | .dic false ds, _, h => by
    cases h with
    | dK h1 h2 => exact .dK (rd_mono e h1) (RpK.mono e ds _ h2)
  | .dic true ds, _, h => by
    cases h with
    | dT h1 h2 => exact .dT (rd_mono e h1) (RpT.mono e ds _ h2)
  | .obj _ ns ds, _, h => by
    cases h with
    | obj h1 h2 h3 h4 h5 => exact .obj (e _ _ h1) h2 h3 h4 (RpL.mono e ds _ h5)
  | .hid, v, h => by
    cases h with
    | hid _ n => exact .hid v n
theorem RpL.mono (e : Same H H') : ∀ (ds : List D) (vs : List V), RpL K H vs ds → RpL K H' vs ds
  | [], _, h => by cases h; exact .nil
  | d :: ds, _, h => by
    cases h with
    | cons h1 h2 => exact .cons (Rp.mono e d _ h1) (RpL.mono e ds _ h2)
theorem RpK.mono (e : Same H H') : ∀ (ds : List (D × D)) (vs : List (Key × V)), RpK K H vs ds → RpK K H' vs ds
  | [], _, h => by cases h; exact .nil
  | (_, d) :: ds, _, h => by
    cases h with
    | cons h1 h2 => exact .cons (Rp.mono e d _ h1) (RpK.mono e ds _ h2)
theorem RpT.mono (e : Same H H') : ∀ (ds : List (D × D)) (vs : List (List Key × V)), RpT K H vs ds → RpT K H' vs ds
  | [], _, h => by cases h; exact .nil
  | (_, d) :: ds, _, h => by
    cases h with
    | cons h1 h2 => exact .cons (Rp.mono e d _ h1) (RpT.mono e ds _ h2)
end
theorem Rp.up {v : V} {d : D} (h : Rp K H v d) (e : Same H H') : Rp K H' v d := Rp.mono e d v h
theorem RpL.up {v : List V} {d : List D} (h : RpL K H v d) (e : Same H H') : RpL K H' v d := RpL.mono e d v h
theorem RpL.length : ∀ {vs : List V} {ds : List D}, RpL K H vs ds → vs.length = ds.length
  | _, _, .nil => rfl
  | _, _, .cons _ t => by rw [List.length_cons, List.length_cons, RpL.length t]
theorem RpL.get : ∀ {vs : List V} {ds : List D} {i : Nat} {d : D}, RpL K H vs ds → ds[i]? = some d → ∃ v, vs[i]? = some v ∧ Rp K H v d
  | _, _, _, _, .nil, e => by simp at e
  | _, _, 0, _, .cons r _, e => by simp at e; subst e; exact ⟨_, rfl, r⟩
  | _, _, i + 1, _, .cons _ t, e => by
    obtain ⟨u, h1, h2⟩ := RpL.get (i := i) t (by simpa using e)
    exact ⟨u, by simpa using h1, h2⟩
theorem RpL.append : ∀ {xs ys : List V} {ds es : List D}, RpL K H xs ds → RpL K H ys es → RpL K H (xs ++ ys) (ds ++ es)
  | _, _, _, _, .nil, s => s
  | _, _, _, _, .cons r t, s => .cons r (RpL.append t s)
theorem RpL.take : ∀ {xs : List V} {ds : List D} (n : Nat), RpL K H xs ds → RpL K H (xs.take n) (ds.take n)
  | _, _, 0, _ => .nil
  | _, _, _ + 1, .nil => .nil
  | _, _, n + 1, .cons r t => .cons r (RpL.take n t)
theorem RpL.drop : ∀ {xs : List V} {ds : List D} (n : Nat), RpL K H xs ds → RpL K H (xs.drop n) (ds.drop n)
  | _, _, 0, r => r
  | _, _, _ + 1, .nil => .nil
  | _, _, n + 1, .cons _ t => RpL.drop n t
theorem RpL.reverse {xs : List V} {ds : List D} (h : RpL K H xs ds) : RpL K H xs.reverse ds.reverse := by
  induction xs generalizing ds with
  | nil => cases h; exact .nil
  | cons x xs ih =>
    cases h with
    | cons h1 h2 =>
      rw [List.reverse_cons, List.reverse_cons]
      exact RpL.append (ih h2) (.cons h1 .nil)
/-- ints, as they stand -/
theorem RpL.ints : ∀ {vs : List V} {ns : List Int}, RpL K H vs (ns.map D.int) → vs = ns.map V.int
  | _, [], h => by cases h; rfl
  | _, n :: ns, h => by
    cases h with
    | cons h1 h2 =>
      cases h1
      rw [RpL.ints h2]; rfl
theorem RpL.of_ints : ∀ (ns : List Int), RpL K H (ns.map V.int) (ns.map D.int)
  | [] => .nil
  | n :: ns => .cons (.int n) (RpL.of_ints ns)
theorem RpL.bls : ∀ {vs : List V} {ns : List Bool}, RpL K H vs (ns.map D.bl) → vs = ns.map V.bl
  | _, [], h => by cases h; rfl
  | _, n :: ns, h => by
    cases h with
    | cons h1 h2 =>
      cases h1
      rw [RpL.bls h2]; rfl
end
/-! data without dicts: for == and in -/
mutual
def D.py : D → PyData
  | .non => .none
  | .bl b => .bool b
  | .int i => .int i
  | .str x => .str x
  | .lst xs => .list (D.pyL xs)
  | .tup xs => .tuple (D.pyL xs)
  | .dic _ _ => .none
  | .obj _ _ _ => .none
  | .hid => .none
def D.pyL : List D → List PyData
  | [] => []
  | x :: xs => x.py :: D.pyL xs
end
mutual
def D.plain : D → Bool
  | .lst xs => D.plainL xs
  | .tup xs => D.plainL xs
  | .dic _ _ => false
  | .obj _ _ _ => false
  | .hid => false
  | _ => true
def D.plainL : List D → Bool
  | [] => true
  | x :: xs => x.plain && D.plainL xs
end
mutual
theorem D.py_plain : ∀ d : D, d.py.plain = true
  | .non => rfl
  | .bl _ => rfl
  | .int _ => rfl
  | .str _ => rfl
  | .lst xs => D.pyL_plain xs
  | .tup xs => D.pyL_plain xs
  | .dic _ _ => rfl
  | .obj _ _ _ => rfl
  | .hid => rfl
theorem D.pyL_plain : ∀ xs : List D, PyData.plainAll (D.pyL xs) = true
  | [] => rfl
  | x :: xs => by
    show (x.py.plain && PyData.plainAll (D.pyL xs)) = true
    rw [D.py_plain x, D.pyL_plain xs]; rfl
end
section
variable {K : PySem.W.Frag} {H : Hp}
mutual
theorem Rp.dp : ∀ (d : D) (v : V), d.plain = true → Rp K H v d → Dp K H v d.py
  | .non, _, _, h => by cases h; exact .non
  | .bl b, _, _, h => by cases h; exact .bl b
  | .int i, _, _, h => by cases h; exact .int i
  | .str x, _, _, h => by cases h; exact .str x
  | .lst ds, _, p, h => by
    cases h with
    | lst h1 h2 => exact .lst (SqL.of h1) (RpL.dp ds _ p h2)
  | .tup ds, _, p, h => by
    cases h with
    | tup h1 h2 => exact .tup (SqT.of h1) (RpL.dp ds _ p h2)
  | .dic _ ds, _, p, _ => by cases (show false = true from p)
  | .obj _ _ _, _, p, _ => by cases (show false = true from p)
  | .hid, _, p, _ => by cases (show false = true from p)
theorem RpL.dp : ∀ (ds : List D) (vs : List V), D.plainL ds = true → RpL K H vs ds → DpAll K H vs (D.pyL ds)
  | [], _, _, h => by cases h; exact .nil
  | d :: ds, _, p, h => by
    have q : d.plain = true ∧ D.plainL ds = true := by simpa [D.plainL] using p
    cases h with
    | cons h1 h2 => exact .cons (Rp.dp d _ q.1 h1) (RpL.dp ds _ q.2 h2)
end
end

/-- what a slot holds: frozen data; a list, a dict, a tuple, an instance of the def's own, with what is in it -/
inductive S where
  | fz (d : D)
  | ol (xs : List S)
  | od (t : Bool) (kvs : List (D × S))
  | ot (xs : List S)
  | ob (c : Str) (ns : List Str) (fs : List S)
  | at (a : Addr) (s : S)
mutual
def S.er : S → D
  | .fz d => d
  | .ol xs => .lst (S.erL xs)
  | .od t kvs => .dic t (S.erK kvs)
  | .ot xs => .tup (S.erL xs)
  | .ob c ns fs => .obj c ns (S.erL fs)
  | .at _ s => s.er
def S.erL : List S → List D
  | [] => []
  | x :: xs => x.er :: S.erL xs
def S.erK : List (D × S) → List (D × D)
  | [] => []
  | (k, x) :: xs => (k, x.er) :: S.erK xs
end
mutual
def S.noOb : S → Bool
  | .fz _ => true
  | .ol xs => S.noObL xs
  | .od _ kvs => S.noObK kvs
  | .ot xs => S.noObL xs
  | .ob _ _ fs => S.noObL fs
  | .at _ _ => false
def S.noObL : List S → Bool
  | [] => true
  | x :: xs => x.noOb && S.noObL xs
def S.noObK : List (D × S) → Bool
  | [] => true
  | (_, x) :: xs => x.noOb && S.noObK xs
end
mutual
inductive SlR (K : PySem.W.Frag) (G H : Hp) : V → S → List Addr → Prop
  | fz {v : V} {d : D} : Rp K G v d → SlR K G H v (.fz d) []
  | ol {p : Addr} {vs : List V} {xs : List S} {F : List Addr} : H p = some (.lst vs) → SlRs K G H vs xs F → SlR K G H (.ref p) (.ol xs) (p :: F)
  | ot {p : Addr} {vs : List V} {xs : List S} {F : List Addr} : H p = some (.tup vs) → SlRs K G H vs xs F → SlR K G H (.ref p) (.ot xs) (p :: F)
  | odK {p : Addr} {vs : List (Key × V)} {xs : List (D × S)} {F : List Addr} : H p = some (.dK vs) → SlRK K G H vs xs F → SlR K G H (.ref p) (.od false xs) (p :: F)
  | odT {p : Addr} {vs : List (List Key × V)} {xs : List (D × S)} {F : List Addr} : H p = some (.dT vs) → SlRT K G H vs xs F → SlR K G H (.ref p) (.od true xs) (p :: F)
  | ob {p C dx : Addr} {c : Str} {ns : List Str} {vs : List (Str × V)} {xs : List S} {F : List Addr} : H p = some (.ins C dx vs) → Lk K c C → ns.Nodup → vs.map Prod.fst = ns → SlRs K G H (vs.map Prod.snd) xs F → SlR K G H (.ref p) (.ob c ns xs) (p :: F)
  | at {a : Addr} {s : S} {F : List Addr} : SlR K G H (.ref a) s F → SlR K G H (.ref a) (.at a s) F
inductive SlRs (K : PySem.W.Frag) (G H : Hp) : List V → List S → List Addr → Prop
  | nil : SlRs K G H [] [] []
  | cons {v : V} {x : S} {F : List Addr} {vs : List V} {xs : List S} {F' : List Addr} : SlR K G H v x F → SlRs K G H vs xs F' → SlRs K G H (v :: vs) (x :: xs) (F ++ F')
inductive SlRK (K : PySem.W.Frag) (G H : Hp) : List (Key × V) → List (D × S) → List Addr → Prop
  | nil : SlRK K G H [] [] []
  | cons {k : Key} {v : V} {x : S} {F : List Addr} {vs : List (Key × V)} {xs : List (D × S)} {F' : List Addr} : SlR K G H v x F → SlRK K G H vs xs F' → SlRK K G H ((k, v) :: vs) ((kD k, x) :: xs) (F ++ F')
inductive SlRT (K : PySem.W.Frag) (G H : Hp) : List (List Key × V) → List (D × S) → List Addr → Prop
  | nil : SlRT K G H [] [] []
  | cons {k : List Key} {v : V} {x : S} {F : List Addr} {vs : List (List Key × V)} {xs : List (D × S)} {F' : List Addr} : SlR K G H v x F → SlRT K G H vs xs F' → SlRT K G H ((k, v) :: vs) ((.tup (k.map kD), x) :: xs) (F ++ F')
end
section
variable {K : PySem.W.Frag} {G H G' H' : Hp}
mutual
theorem SlR.mono (e : Same G G') : ∀ (s : S) (v : V) (F : List Addr), (∀ a ∈ F, H' a = H a) → SlR K G H v s F → SlR K G' H' v s F
  | .fz d, _, _, _, h => by
    cases h with
    | fz r => exact .fz (r.up e)
  | .ol xs, _, _, k, h => by
    cases h with
    | ol h1 h2 => exact .ol ((k _ List.mem_cons_self).trans h1) (SlRs.mono e xs _ _ (fun a m => k a (List.mem_cons_of_mem _ m)) h2)
  | .ot xs, _, _, k, h => by
    cases h with
    | ot h1 h2 => exact .ot ((k _ List.mem_cons_self).trans h1) (SlRs.mono e xs _ _ (fun a m => k a (List.mem_cons_of_mem _ m)) h2)
  | .od false xs, _, _, k, h => by
    cases h with
    | odK h1 h2 => exact .odK ((k _ List.mem_cons_self).trans h1) (SlRK.mono e xs _ _ (fun a m => k a (List.mem_cons_of_mem _ m)) h2)
  | .od true xs, _, _, k, h => by
    cases h with
    | odT h1 h2 => exact .odT ((k _ List.mem_cons_self).trans h1) (SlRT.mono e xs _ _ (fun a m => k a (List.mem_cons_of_mem _ m)) h2)
  | .ob c ns xs, _, _, k, h => by
    cases h with
    | ob h1 h2 h3 h4 h5 => exact .ob ((k _ List.mem_cons_self).trans h1) h2 h3 h4 (SlRs.mono e xs _ _ (fun a m => k a (List.mem_cons_of_mem _ m)) h5)
  | .at a s, _, _, k, h => by
    cases h with
    | «at» h => exact .at (SlR.mono e s _ _ k h)
theorem SlRs.mono (e : Same G G') : ∀ (s : List S) (v : List V) (F : List Addr), (∀ a ∈ F, H' a = H a) → SlRs K G H v s F → SlRs K G' H' v s F
  | [], _, _, _, h => by cases h; exact .nil
  | x :: xs, _, _, k, h => by
    cases h with
    | cons h1 h2 => exact .cons (SlR.mono e x _ _ (fun a m => k a (List.mem_append_left _ m)) h1) (SlRs.mono e xs _ _ (fun a m => k a (List.mem_append_right _ m)) h2)
theorem SlRK.mono (e : Same G G') : ∀ (s : List (D × S)) (v : List (Key × V)) (F : List Addr), (∀ a ∈ F, H' a = H a) → SlRK K G H v s F → SlRK K G' H' v s F
  | [], _, _, _, h => by cases h; exact .nil
  | (_, x) :: xs, _, _, k, h => by
    cases h with
    | cons h1 h2 => exact .cons (SlR.mono e x _ _ (fun a m => k a (List.mem_append_left _ m)) h1) (SlRK.mono e xs _ _ (fun a m => k a (List.mem_append_right _ m)) h2)
theorem SlRT.mono (e : Same G G') : ∀ (s : List (D × S)) (v : List (List Key × V)) (F : List Addr), (∀ a ∈ F, H' a = H a) → SlRT K G H v s F → SlRT K G' H' v s F
  | [], _, _, _, h => by cases h; exact .nil
  | (_, x) :: xs, _, _, k, h => by
    cases h with
    | cons h1 h2 => exact .cons (SlR.mono e x _ _ (fun a m => k a (List.mem_append_left _ m)) h1) (SlRT.mono e xs _ _ (fun a m => k a (List.mem_append_right _ m)) h2)
end
mutual
theorem SlR.dom : ∀ (s : S) (v : V) (F : List Addr), SlR K G H v s F → ∀ a ∈ F, ∃ o, H a = some o
  | .fz d, _, _, h, a, m => by cases h; cases m
  | .ol xs, _, _, h, a, m => by
    cases h with
    | ol h1 h2 =>
      rcases List.mem_cons.mp m with rfl | m
      · exact ⟨_, h1⟩
      · exact SlRs.dom xs _ _ h2 a m
  | .ot xs, _, _, h, a, m => by
    cases h with
    | ot h1 h2 =>
      rcases List.mem_cons.mp m with rfl | m
      · exact ⟨_, h1⟩
      · exact SlRs.dom xs _ _ h2 a m
  | .od false xs, _, _, h, a, m => by
    cases h with
    | odK h1 h2 =>
      rcases List.mem_cons.mp m with rfl | m
      · exact ⟨_, h1⟩
      · exact SlRK.dom xs _ _ h2 a m
  | .od true xs, _, _, h, a, m => by
    cases h with
    | odT h1 h2 =>
      rcases List.mem_cons.mp m with rfl | m
      · exact ⟨_, h1⟩
      · exact SlRT.dom xs _ _ h2 a m
  | .ob c ns xs, _, _, h, a, m => by
    cases h with
    | ob h1 h2 h3 h4 h5 =>
      rcases List.mem_cons.mp m with rfl | m
      · exact ⟨_, h1⟩
      · exact SlRs.dom xs _ _ h5 a m
  | .at b s, _, _, h, a, m => by
    cases h with
    | «at» h => exact SlR.dom s _ _ h a m
theorem SlRs.dom : ∀ (s : List S) (v : List V) (F : List Addr), SlRs K G H v s F → ∀ a ∈ F, ∃ o, H a = some o
  | [], _, _, h, a, m => by cases h; cases m
  | x :: xs, _, _, h, a, m => by
    cases h with
    | cons h1 h2 => exact (List.mem_append.mp m).elim (SlR.dom x _ _ h1 a) (SlRs.dom xs _ _ h2 a)
theorem SlRK.dom : ∀ (s : List (D × S)) (v : List (Key × V)) (F : List Addr), SlRK K G H v s F → ∀ a ∈ F, ∃ o, H a = some o
  | [], _, _, h, a, m => by cases h; cases m
  | (_, x) :: xs, _, _, h, a, m => by
    cases h with
    | cons h1 h2 => exact (List.mem_append.mp m).elim (SlR.dom x _ _ h1 a) (SlRK.dom xs _ _ h2 a)
theorem SlRT.dom : ∀ (s : List (D × S)) (v : List (List Key × V)) (F : List Addr), SlRT K G H v s F → ∀ a ∈ F, ∃ o, H a = some o
  | [], _, _, h, a, m => by cases h; cases m
  | (_, x) :: xs, _, _, h, a, m => by
    cases h with
    | cons h1 h2 => exact (List.mem_append.mp m).elim (SlR.dom x _ _ h1 a) (SlRT.dom xs _ _ h2 a)
end
theorem lookup_mem : ∀ {vs : List (Str × V)} {f : Str} {v : V}, (vs.map Prod.fst).Nodup → (f, v) ∈ vs → vs.lookup f = some v
  | (g, u) :: vs, f, v, nd, m => by
    rw [List.map_cons, List.nodup_cons] at nd
    rcases List.mem_cons.mp m with e | m'
    · cases e
      rw [List.lookup_cons]; simp
    · have ne : (f == g) = false := by
        rw [beq_eq_false_iff_ne]
        rintro rfl
        exact nd.1 (List.mem_map.mpr ⟨_, m', rfl⟩)
      rw [List.lookup_cons, ne]
      exact lookup_mem nd.2 m'
mutual
/-- what is owned may be read, too -/
theorem SlR.view (e : Same G H) : ∀ (s : S) (v : V) (F : List Addr), s.noOb = true → SlR K G H v s F → Rp K H v s.er
  | .fz d, _, _, _, h => by
    cases h with
    | fz r => exact r.up e
  | .ol xs, _, _, n, h => by
    cases h with
    | ol h1 h2 => exact .lst h1 (SlRs.view e xs _ _ n h2)
  | .ot xs, _, _, n, h => by
    cases h with
    | ot h1 h2 => exact .tup h1 (SlRs.view e xs _ _ n h2)
  | .od false xs, _, _, n, h => by
    cases h with
    | odK h1 h2 => exact .dK (.inl h1) (SlRK.view e xs _ _ n h2)
  | .od true xs, _, _, n, h => by
    cases h with
    | odT h1 h2 => exact .dT (.inl h1) (SlRT.view e xs _ _ n h2)
  | .ob c ns xs, _, _, n, h => by
    cases h with
    | ob h1 h2 h3 h4 h5 => exact .obj h1 h2 h3 h4 (SlRs.view e xs _ _ n h5)
  | .at a s, _, _, n, h => by cases (show false = true from n)
theorem SlRs.view (e : Same G H) : ∀ (s : List S) (v : List V) (F : List Addr), S.noObL s = true → SlRs K G H v s F → RpL K H v (S.erL s)
  | [], _, _, _, h => by cases h; exact .nil
  | x :: xs, _, _, n, h => by
    have q : x.noOb = true ∧ S.noObL xs = true := by simpa [S.noObL] using n
    cases h with
    | cons h1 h2 => exact .cons (SlR.view e x _ _ q.1 h1) (SlRs.view e xs _ _ q.2 h2)
theorem SlRK.view (e : Same G H) : ∀ (s : List (D × S)) (v : List (Key × V)) (F : List Addr), S.noObK s = true → SlRK K G H v s F → RpK K H v (S.erK s)
  | [], _, _, _, h => by cases h; exact .nil
  | (_, x) :: xs, _, _, n, h => by
    have q : x.noOb = true ∧ S.noObK xs = true := by simpa [S.noObK] using n
    cases h with
    | cons h1 h2 => exact .cons (SlR.view e x _ _ q.1 h1) (SlRK.view e xs _ _ q.2 h2)
theorem SlRT.view (e : Same G H) : ∀ (s : List (D × S)) (v : List (List Key × V)) (F : List Addr), S.noObK s = true → SlRT K G H v s F → RpT K H v (S.erK s)
  | [], _, _, _, h => by cases h; exact .nil
  | (_, x) :: xs, _, _, n, h => by
    have q : x.noOb = true ∧ S.noObK xs = true := by simpa [S.noObK] using n
    cases h with
    | cons h1 h2 => exact .cons (SlR.view e x _ _ q.1 h1) (SlRT.view e xs _ _ q.2 h2)
end
end

/-! ### the state -/
abbrev Env := List (Option S)
structure ER (K : PySem.W.Frag) (G H : Hp) (st : L2.St) (env : VL.Env) (F : Nat → List Addr) : Prop where
  sub : Same G H
  len : env.length = st.length
  slot : ∀ i s, env[i]? = some (some s) → ∃ v, st[i]? = some (some v) ∧ SlR K G H v s (F i)
  out : ∀ i, (∀ s, env[i]? ≠ some (some s)) → F i = []
  off : ∀ i a, a ∈ F i → G a = none
  nd : ∀ i, (F i).Nodup
  dj : ∀ i j a, a ∈ F i → a ∈ F j → i = j
/-- what a pure evaluation does: new things are laid, some of them frozen -/
structure Ex (G H G' H' : Hp) : Prop where
  hh : Same H H'
  gg : Same G G'
  gh : Same G' H'
  nw : ∀ b, G' b ≠ none → G b ≠ none ∨ H b = none
theorem Ex.refl {G H : Hp} (h : Same G H) : Ex G H G H := ⟨Same.refl _, Same.refl _, h, fun b e => .inl e⟩
theorem Ex.trans {G H G1 H1 G2 H2 : Hp} (a : Ex G H G1 H1) (b : Ex G1 H1 G2 H2) : Ex G H G2 H2 :=
  ⟨a.hh.trans b.hh, a.gg.trans b.gg, b.gh, fun c e => (b.nw c e).elim (a.nw c) fun z => .inr (a.hh.free z)⟩
theorem same_upd {H : Hp} {p : Addr} {o : HO} (h : H p = none) : Same H (upd H p o) := fun b x e => by
  rw [upd_ne (ne_of_none e h)]
  exact e
/-- a frozen thing is laid -/
theorem Ex.frz {G H : Hp} {p : Addr} {o : HO} (s : Same G H) (n : H p = none) : Ex G H (upd G p o) (upd H p o) := by
  refine ⟨same_upd n, same_upd (s.free n), fun b u e => ?_, fun b e => ?_⟩
  · by_cases z : b = p
    · subst z; rw [upd_same] at e ⊢; exact e
    · rw [upd_ne z] at e ⊢; exact s _ _ e
  · by_cases z : b = p
    · subst z; exact .inr n
    · rw [upd_ne z] at e; exact .inl e
/-- an owned thing is laid -/
theorem Ex.own {G H : Hp} {p : Addr} {o : HO} (s : Same G H) (n : H p = none) : Ex G H G (upd H p o) :=
  ⟨same_upd n, Same.refl _, s.trans (same_upd n), fun b e => .inl e⟩
section
variable {K : PySem.W.Frag} {G H G' H' : Hp} {st : L2.St} {env : VL.Env} {F : Nat → List Addr}
theorem ER.dom (r : ER K G H st env F) {i : Nat} {a : Addr} (m : a ∈ F i) : ∃ o, H a = some o := by
  by_cases q : ∃ s, env[i]? = some (some s)
  · obtain ⟨s, e⟩ := q
    obtain ⟨v, _, h⟩ := r.slot i s e
    exact SlR.dom s v _ h a m
  · have := r.out i fun s e => q ⟨s, e⟩
    rw [this] at m; cases m
theorem ER.ext (r : ER K G H st env F) (x : Ex G H G' H') : ER K G' H' st env F := by
  refine ⟨x.gh, r.len, fun i s e => ?_, r.out, fun i a m => ?_, r.nd, r.dj⟩
  · obtain ⟨v, h1, h2⟩ := r.slot i s e
    refine ⟨v, h1, SlR.mono x.gg s v _ (fun a m => ?_) h2⟩
    obtain ⟨o, h⟩ := r.dom m
    rw [h]; exact x.hh _ _ h
  · cases z : G' a with
    | none => rfl
    | some o =>
      obtain ⟨u, h⟩ := r.dom m
      rcases x.nw a (by rw [z]; exact fun q => nomatch q) with q | q
      · exact absurd (r.off i a m) q
      · rw [h] at q; cases q
/-- a value read off a slot -/
theorem ER.fz (r : ER K G H st env F) {i : Nat} {d : D} (e : env[i]? = some (some (.fz d))) : ∃ v, st[i]? = some (some v) ∧ Rp K G v d := by
  obtain ⟨v, h1, h2⟩ := r.slot i _ e
  generalize F i = Fi at h2
  cases h2 with
  | fz q => exact ⟨v, h1, q⟩
theorem ER.view (r : ER K G H st env F) {i : Nat} {s : S} (e : env[i]? = some (some s)) (n : s.noOb = true) : ∃ v, st[i]? = some (some v) ∧ Rp K H v s.er := by
  obtain ⟨v, h1, h2⟩ := r.slot i _ e
  exact ⟨v, h1, SlR.view r.sub s v _ n h2⟩
end
end VL

set_option Elab.async false
set_option linter.all false
set_option maxRecDepth 100000
/-! VL2: pure expressions as functions of the slots. -/
namespace VL
open PySem PySem.Spec PyProof.Rows L2

/-! ### reading data -/
abbrev ROk (K : PySem.W.Frag) (f : VL.Env → Option D) (t : TE) (view : Bool) : Prop :=
  ∀ (G H : Hp) (st : L2.St) (env : VL.Env) (F : Nat → List Addr) (Q : VK) (d : D), ER K G H st env F → f env = some d →
    (∀ v G' H', Ex G H G' H' → Rp K (if view then H' else G') v d → Q v H') → t st H Q
/-- e is worth f of the slots: frozen -/
structure PV (X : Cx) (e : Expr) (f : VL.Env → Option D) : Prop where
  ex : ∃ t, PE X e t ∧ ∀ (G H : Hp) (st : L2.St) (env : VL.Env) (F : Nat → List Addr) (Q : VK) (d : D), ER X.K G H st env F → f env = some d →
    (∀ v G' H', Ex G H G' H' → Rp X.K G' v d → Q v H') → t st H Q
/-- e reads as f of the slots: as the heap stands -/
structure PW (X : Cx) (e : Expr) (f : VL.Env → Option D) : Prop where
  ex : ∃ t, PE X e t ∧ ∀ (G H : Hp) (st : L2.St) (env : VL.Env) (F : Nat → List Addr) (Q : VK) (d : D), ER X.K G H st env F → f env = some d →
    (∀ v G' H', Ex G H G' H' → Rp X.K H' v d → Q v H') → t st H Q
/-- e is a new list of f of the slots, of nobody else's -/
structure PL (X : Cx) (e : Expr) (f : VL.Env → Option (List D)) : Prop where
  ex : ∃ t, PE X e t ∧ ∀ (G H : Hp) (st : L2.St) (env : VL.Env) (F : Nat → List Addr) (Q : VK) (ds : List D), ER X.K G H st env F → f env = some ds →
    (∀ p vs G' H', Ex G H G' H' → H p = none → G' p = none → H' p = some (.lst vs) → RpL X.K G' vs ds → Q (.ref p) H') → t st H Q
/-- e is a new thing of nobody else's -/
structure PO (X : Cx) (e : Expr) (f : VL.Env → Option S) : Prop where
  ex : ∃ t, PE X e t ∧ ∀ (G H : Hp) (st : L2.St) (env : VL.Env) (F : Nat → List Addr) (Q : VK) (s : S), ER X.K G H st env F → f env = some s →
    (∀ v G' H' Fv, Ex G H G' H' → SlR X.K G' H' v s Fv → Fv.Nodup → (∀ a ∈ Fv, H a = none ∧ G' a = none) → Q v H') → t st H Q
/-- a test -/
structure TB (X : Cx) (e : Expr) (f : VL.Env → Option Bool) : Prop where
  ex : ∃ t, PT X e t ∧ ∀ (G H : Hp) (st : L2.St) (env : VL.Env) (F : Nat → List Addr) (Q : Bool → Hp → Prop) (b : Bool), ER X.K G H st env F → f env = some b →
    (∀ G' H', Ex G H G' H' → Q b H') → t st H Q
/-- the tests of a comprehension -/
structure TBs (X : Cx) (es : List Expr) (f : VL.Env → Option Bool) : Prop where
  ex : ∃ t, PTs X es t ∧ ∀ (G H : Hp) (st : L2.St) (env : VL.Env) (F : Nat → List Addr) (Q : Bool → Hp → Prop) (b : Bool), ER X.K G H st env F → f env = some b →
    (∀ G' H', Ex G H G' H' → Q b H') → t st H Q
/-- arguments: frozen; as they stand -/
structure AV (X : Cx) (es : List Expr) (f : VL.Env → Option (List D)) : Prop where
  ex : ∃ t, PA X es t ∧ ∀ (G H : Hp) (st : L2.St) (env : VL.Env) (F : Nat → List Addr) (Q : List V → Hp → Prop) (ds : List D), ER X.K G H st env F → f env = some ds →
    (∀ vs G' H', Ex G H G' H' → RpL X.K G' vs ds → Q vs H') → t st H Q
structure AW (X : Cx) (es : List Expr) (f : VL.Env → Option (List D)) : Prop where
  ex : ∃ t, PA X es t ∧ ∀ (G H : Hp) (st : L2.St) (env : VL.Env) (F : Nat → List Addr) (Q : List V → Hp → Prop) (ds : List D), ER X.K G H st env F → f env = some ds →
    (∀ vs G' H', Ex G H G' H' → RpL X.K H' vs ds → Q vs H') → t st H Q

def getF (env : VL.Env) (i : Nat) : Option D := match env[i]? with
  | some (some (.fz d)) => some d
  | _ => none
def getS (env : VL.Env) (i : Nat) : Option S := match env[i]? with
  | some (some s) => some s
  | _ => none
def getW (env : VL.Env) (i : Nat) : Option D := match env[i]? with
  | some (some s) => if s.noOb then some s.er else none
  | _ => none
theorem getF_some {env : VL.Env} {i : Nat} {d : D} (h : getF env i = some d) : env[i]? = some (some (.fz d)) := by
  unfold getF at h
  split at h
  · rename_i e; cases h; exact e
  · cases h
theorem getS_some {env : VL.Env} {i : Nat} {s : S} (h : getS env i = some s) : env[i]? = some (some s) := by
  unfold getS at h
  split at h
  · rename_i e; cases h; exact e
  · cases h
theorem getW_some {env : VL.Env} {i : Nat} {d : D} (h : getW env i = some d) : ∃ s, env[i]? = some (some s) ∧ s.noOb = true ∧ s.er = d := by
  unfold getW at h
  split at h
  · rename_i s e
    split at h
    · rename_i n; cases h; exact ⟨s, e, n, rfl⟩
    · cases h
  · cases h

/-- the lengths of what stands -/
def HLen (H : Hp) : Prop := (∀ a xs, H a = some (.lst xs) → xs.length ≤ sizeLine) ∧ (∀ a xs, H a = some (.tup xs) → xs.length ≤ sizeLine)
section
variable {X : Cx}
theorem hlen_of {pins : List (Addr × Obj)} {st : L2.St} {H : Hp} {s : Shared} (I : Inv X pins st H s) : HLen H :=
  ⟨fun a xs e => (I.hok a _ e).1, fun a xs e => (I.hok a _ e).1⟩
theorem pe_hlen {e : Expr} {t : TE} (h : PE X e t) : PE X e (fun st H Q => t st H fun v H' => HLen H' → Q v H') := by
  refine ⟨fun pins s st H Q I hw => ?_⟩
  exact thn (h.run pins s st H _ I hw) fun u s1 ⟨v, H1, I1, r, q⟩ => ⟨v, H1, I1, r, q (hlen_of I1)⟩
theorem pi_hlen {tg e : Expr} {t : TI} (h : PI X tg e t) : PI X tg e (fun st H R => t st H fun J H' => HLen H' → R J H') := by
  refine ⟨fun pins s st H R I hw => ?_⟩
  exact thn (h.run pins s st H _ I hw) fun u s1 h1 => thn h1 fun itv s2 ⟨it, fp, tn, J, H2, e, I2, T, st2, f2, q⟩ => ⟨it, fp, tn, J, H2, e, I2, T, st2, f2, q (hlen_of I2)⟩
theorem pi_or {tg e : Expr} {t t' : TI} (h : PI X tg e t) (h' : PI X tg e t') : PI X tg e (fun st H R => t st H R ∨ t' st H R) :=
  ⟨fun pins s st H R I hw => hw.elim (h.run pins s st H R I) (h'.run pins s st H R I)⟩
theorem pe_or' {e : Expr} {t t' : TE} (h : PE X e t) (h' : PE X e t') : PE X e (fun st H Q => t st H Q ∨ t' st H Q) :=
  ⟨fun pins s st H Q I hw => hw.elim (h.run pins s st H Q I) (h'.run pins s st H Q I)⟩

/-! ### from one to the other -/
theorem PV.w {e : Expr} {f : VL.Env → Option D} (h : PV X e f) : PW X e f := by
  obtain ⟨t, p, o⟩ := h.ex
  exact ⟨t, p, fun G H st env F Q d r e k => o G H st env F Q d r e fun v G' H' x q => k v G' H' x (q.up x.gh)⟩
theorem TB.one {e : Expr} {f : VL.Env → Option Bool} (h : TB X e f) : TBs X [e] f := by
  obtain ⟨t, p, o⟩ := h.ex
  exact ⟨t, pts_one p, o⟩
theorem tbs_nil : TBs X [] (fun _ => some true) := ⟨tYes, pts_nil, fun G H st env F Q b r e k => by cases e; exact k G H (Ex.refl r.sub)⟩
theorem PL.v {e : Expr} {f : VL.Env → Option (List D)} (h : PL X e f) : PV X e (fun env => (f env).map D.lst) := by
  obtain ⟨t, p, o⟩ := h.ex
  refine ⟨t, p, fun G H st env F Q d r e k => ?_⟩
  cases q : f env with
  | none => rw [q] at e; cases e
  | some ds =>
    rw [q] at e; cases e
    refine o G H st env F Q ds r q fun p vs G' H' x hp gp e' l => ?_
    have x2 : Ex G H (upd G' p (.lst vs)) H' := by
      refine ⟨x.hh, x.gg.trans (same_upd gp), fun b u z => ?_, fun b z => ?_⟩
      · by_cases c : b = p
        · subst c; rw [upd_same] at z; cases z; exact e'
        · rw [upd_ne c] at z; exact x.gh _ _ z
      · by_cases c : b = p
        · subst c; exact .inr hp
        · rw [upd_ne c] at z; exact x.nw _ z
    exact k _ _ _ x2 (.lst upd_same (l.up (same_upd gp)))
theorem slRs_fz {K : PySem.W.Frag} {G H : Hp} : ∀ {vs : List V} {ds : List D}, RpL K G vs ds → SlRs K G H vs (ds.map S.fz) []
  | _, _, .nil => .nil
  | _, _, .cons h t => SlRs.cons (F := []) (.fz h) (slRs_fz t)
theorem PL.o {e : Expr} {f : VL.Env → Option (List D)} (h : PL X e f) : PO X e (fun env => (f env).map fun ds => S.ol (ds.map S.fz)) := by
  obtain ⟨t, p, o⟩ := h.ex
  refine ⟨t, p, fun G H st env F Q s r e k => ?_⟩
  cases q : f env with
  | none => rw [q] at e; cases e
  | some ds =>
    rw [q] at e; cases e
    refine o G H st env F Q ds r q fun p vs G' H' x hp gp e' l => ?_
    exact k _ _ _ [p] x (.ol e' (slRs_fz l)) (by simp) fun a m => by cases List.mem_singleton.mp m; exact ⟨hp, gp⟩
theorem PV.o {e : Expr} {f : VL.Env → Option D} (h : PV X e f) : PO X e (fun env => (f env).map S.fz) := by
  obtain ⟨t, p, o⟩ := h.ex
  refine ⟨t, p, fun G H st env F Q s r e k => ?_⟩
  cases q : f env with
  | none => rw [q] at e; cases e
  | some ds =>
    rw [q] at e; cases e
    exact o G H st env F Q ds r q fun v G' H' x l => k _ _ _ [] x (.fz l) .nil fun a m => by cases m

/-! ### names, constants -/
theorem v_name (i : Nat) {x : Str} {pos : Pos} (hN : X.N[i]? = some x := by rfl) (hv : Vis X.env.scope x := by first | exact Or.inl rfl | exact Or.inr (Or.inl rfl) | exact Or.inr (Or.inr rfl))
    (hd : (x == ("__debug__" : Str)) = false := by decide) (hcd : (x == ("__classdict__" : Str)) = false := by decide) : PV X (.Name x pos) (fun env => getF env i) := by
  refine ⟨tVar i, pe_var hN hv hd hcd, fun G H st env F Q d r e k => ?_⟩
  obtain ⟨v, h1, h2⟩ := r.fz (getF_some e)
  exact ⟨v, h1, k v G H (Ex.refl r.sub) h2⟩
theorem w_name (i : Nat) {x : Str} {pos : Pos} (hN : X.N[i]? = some x := by rfl) (hv : Vis X.env.scope x := by first | exact Or.inl rfl | exact Or.inr (Or.inl rfl) | exact Or.inr (Or.inr rfl))
    (hd : (x == ("__debug__" : Str)) = false := by decide) (hcd : (x == ("__classdict__" : Str)) = false := by decide) : PW X (.Name x pos) (fun env => getW env i) := by
  refine ⟨tVar i, pe_var hN hv hd hcd, fun G H st env F Q d r e k => ?_⟩
  obtain ⟨s, h1, h2, h3⟩ := getW_some e
  obtain ⟨v, h4, h5⟩ := r.view h1 h2
  subst h3
  exact ⟨v, h4, k v G H (Ex.refl r.sub) h5⟩
theorem v_int {i : Int} {j : Nat} {pos : Pos} : PV X (.Constant (.int i) j pos) (fun _ => some (.int i)) := ⟨_, pe_int, fun G H st env F Q d r e k => by cases e; exact k _ G H (Ex.refl r.sub) (.int i)⟩
theorem v_bl {i : Bool} {j : Nat} {pos : Pos} : PV X (.Constant (.bool i) j pos) (fun _ => some (.bl i)) := ⟨_, pe_bl, fun G H st env F Q d r e k => by cases e; exact k _ G H (Ex.refl r.sub) (.bl i)⟩
theorem v_non {j : Nat} {pos : Pos} : PV X (.Constant .none j pos) (fun _ => some .non) := ⟨_, pe_non, fun G H st env F Q d r e k => by cases e; exact k _ G H (Ex.refl r.sub) .non⟩
theorem v_str {i : Str} {j : Nat} {pos : Pos} : PV X (.Constant (.str i) j pos) (fun _ => some (.str i)) := ⟨_, pe_str, fun G H st env F Q d r e k => by cases e; exact k _ G H (Ex.refl r.sub) (.str i)⟩

/-! ### operators by values -/
def OpF (X : Cx) (f : Value → Value → Sem Value) (g : D → D → Option D) : Prop :=
  ∃ r : R2, OpR X f r ∧ ∀ (G H : Hp) (x y : V) (d e z : D) (Q : VK), Same G H → Rp X.K G x d → Rp X.K G y e → g d e = some z → (∀ v G' H', Ex G H G' H' → Rp X.K G' v z → Q v H') → r x y H Q
def OpW (X : Cx) (f : Value → Value → Sem Value) (g : D → D → Option D) : Prop :=
  ∃ r : R2, OpR X f r ∧ ∀ (G H : Hp) (x y : V) (d e z : D) (Q : VK), Same G H → Rp X.K H x d → Rp X.K H y e → g d e = some z → (∀ v G' H', Ex G H G' H' → Rp X.K G' v z → Q v H') → r x y H Q
theorem OpW.f {f : Value → Value → Sem Value} {g : D → D → Option D} (h : OpW X f g) : OpF X f g := by
  obtain ⟨r, p, o⟩ := h
  exact ⟨r, p, fun G H x y d e z Q s rx ry q k => o G H x y d e z Q s (rx.up s) (ry.up s) q k⟩
theorem OpF.or {f : Value → Value → Sem Value} {g g' : D → D → Option D} (h : OpF X f g) (h' : OpF X f g') : OpF X f (fun d e => match g d e with | some z => some z | none => g' d e) := by
  obtain ⟨r, p, o⟩ := h
  obtain ⟨r', p', o'⟩ := h'
  refine ⟨_, p.or p', fun G H x y d e z Q s rx ry q k => ?_⟩
  cases c : g d e with
  | some u =>
    dsimp only at q
    rw [c] at q
    exact .inl (o G H x y d e z Q s rx ry (c.trans q) k)
  | none =>
    dsimp only at q
    rw [c] at q
    exact .inr (o' G H x y d e z Q s rx ry q k)
theorem OpF.of {f : Value → Value → Sem Value} {g g' : D → D → Option D} (h : OpF X f g) (k : ∀ d e z, g' d e = some z → g d e = some z) : OpF X f g' := by
  obtain ⟨r, p, o⟩ := h
  exact ⟨r, p, fun G H x y d e z Q s rx ry q => o G H x y d e z Q s rx ry (k d e z q)⟩
theorem OpW.or {f : Value → Value → Sem Value} {g g' : D → D → Option D} (h : OpW X f g) (h' : OpW X f g') : OpW X f (fun d e => match g d e with | some z => some z | none => g' d e) := by
  obtain ⟨r, p, o⟩ := h
  obtain ⟨r', p', o'⟩ := h'
  refine ⟨_, p.or p', fun G H x y d e z Q s rx ry q k => ?_⟩
  cases c : g d e with
  | some u =>
    dsimp only at q
    rw [c] at q
    exact .inl (o G H x y d e z Q s rx ry (c.trans q) k)
  | none =>
    dsimp only at q
    rw [c] at q
    exact .inr (o' G H x y d e z Q s rx ry q k)
theorem OpW.of {f : Value → Value → Sem Value} {g g' : D → D → Option D} (h : OpW X f g) (k : ∀ d e z, g' d e = some z → g d e = some z) : OpW X f g' := by
  obtain ⟨r, p, o⟩ := h
  exact ⟨r, p, fun G H x y d e z Q s rx ry q => o G H x y d e z Q s rx ry (k d e z q)⟩
@[simp] def b2 (fa fb : VL.Env → Option D) (g : D → D → Option D) : VL.Env → Option D := fun env => (fa env).bind fun x => (fb env).bind fun y => g x y
theorem twoF {a b : Expr} {fa fb : VL.Env → Option D} {g : D → D → Option D} {r : R2} (ha : PV X a fa) (hb : PV X b fb)
    (o : ∀ (G H : Hp) (x y : V) (d e z : D) (Q : VK), Same G H → Rp X.K G x d → Rp X.K G y e → g d e = some z → (∀ v G' H', Ex G H G' H' → Rp X.K G' v z → Q v H') → r x y H Q) :
    ∃ ta tb, PE X a ta ∧ PE X b tb ∧ ∀ (G H : Hp) (st : L2.St) (env : VL.Env) (F : Nat → List Addr) (Q : VK) (d : D), ER X.K G H st env F → b2 fa fb g env = some d →
      (∀ v G' H', Ex G H G' H' → Rp X.K G' v d → Q v H') → tOp r ta tb st H Q := by
  obtain ⟨ta, pa, oa⟩ := ha.ex
  obtain ⟨tb, pb, ob⟩ := hb.ex
  refine ⟨ta, tb, pa, pb, fun G H st env F Q d re e k => ?_⟩
  simp only [b2] at e
  obtain ⟨x, e1, e⟩ := Option.bind_eq_some_iff.mp e
  obtain ⟨y, e2, e⟩ := Option.bind_eq_some_iff.mp e
  refine oa G H st env F _ x re e1 fun v1 G1 H1 x1 r1 => ob G1 H1 st env F _ y (re.ext x1) e2 fun v2 G2 H2 x2 r2 => ?_
  exact o G2 H2 v1 v2 x y d Q x2.gh (r1.up x2.gg) r2 e fun v G' H' x3 r3 => k v G' H' ((x1.trans x2).trans x3) r3
theorem twoW {a b : Expr} {fa fb : VL.Env → Option D} {g : D → D → Option D} {r : R2} (ha : PW X a fa) (hb : PW X b fb)
    (o : ∀ (G H : Hp) (x y : V) (d e z : D) (Q : VK), Same G H → Rp X.K H x d → Rp X.K H y e → g d e = some z → (∀ v G' H', Ex G H G' H' → Rp X.K G' v z → Q v H') → r x y H Q) :
    ∃ ta tb, PE X a ta ∧ PE X b tb ∧ ∀ (G H : Hp) (st : L2.St) (env : VL.Env) (F : Nat → List Addr) (Q : VK) (d : D), ER X.K G H st env F → b2 fa fb g env = some d →
      (∀ v G' H', Ex G H G' H' → Rp X.K G' v d → Q v H') → tOp r ta tb st H Q := by
  obtain ⟨ta, pa, oa⟩ := ha.ex
  obtain ⟨tb, pb, ob⟩ := hb.ex
  refine ⟨ta, tb, pa, pb, fun G H st env F Q d re e k => ?_⟩
  simp only [b2] at e
  obtain ⟨x, e1, e⟩ := Option.bind_eq_some_iff.mp e
  obtain ⟨y, e2, e⟩ := Option.bind_eq_some_iff.mp e
  refine oa G H st env F _ x re e1 fun v1 G1 H1 x1 r1 => ob G1 H1 st env F _ y (re.ext x1) e2 fun v2 G2 H2 x2 r2 => ?_
  exact o G2 H2 v1 v2 x y d Q x2.gh (r1.up x2.hh) r2 e fun v G' H' x3 r3 => k v G' H' ((x1.trans x2).trans x3) r3
theorem v_op {op : Operator} {a b : Expr} {pos : Pos} {fa fb : VL.Env → Option D} {g : D → D → Option D} (ho : OpF X (binaryOp op) g) (ha : PV X a fa) (hb : PV X b fb) : PV X (.BinOp a op b pos) (b2 fa fb g) := by
  obtain ⟨r, p, o⟩ := ho
  obtain ⟨ta, tb, pa, pb, q⟩ := twoF ha hb o
  exact ⟨_, pe_op p pa pb, q⟩
theorem v_opW {op : Operator} {a b : Expr} {pos : Pos} {fa fb : VL.Env → Option D} {g : D → D → Option D} (ho : OpW X (binaryOp op) g) (ha : PW X a fa) (hb : PW X b fb) : PV X (.BinOp a op b pos) (b2 fa fb g) := by
  obtain ⟨r, p, o⟩ := ho
  obtain ⟨ta, tb, pa, pb, q⟩ := twoW ha hb o
  exact ⟨_, pe_op p pa pb, q⟩
/-- a comparison as a value -/
theorem v_cmp {op : CmpOp} {a b : Expr} {pos : Pos} {fa fb : VL.Env → Option D} {g : D → D → Option D} (ho : OpW X (compareOp op) g) (ha : PW X a fa) (hb : PW X b fb) (hm : behindInMarks op b = false) : PV X (.Compare a [op] [b] pos) (b2 fa fb g) := by
  obtain ⟨r, p, o⟩ := ho
  obtain ⟨ta, tb, pa, pb, q⟩ := twoW ha hb o
  exact ⟨_, pe_cmpR p pa pb hm, q⟩
def bOf : D → Option Bool
  | .bl b => some b
  | _ => none
@[simp] theorem bOf_bl (b : Bool) : bOf (.bl b) = some b := rfl
theorem bOf_some {d : D} {b : Bool} (h : bOf d = some b) : d = .bl b := by
  cases d <;> first | (cases h; rfl) | cases h
@[simp] def tb (f : VL.Env → Option D) : VL.Env → Option Bool := fun env => (f env).bind bOf
/-- a comparison as a test -/
theorem t_cmp {op : CmpOp} {a b : Expr} {pos : Pos} {fa fb : VL.Env → Option D} {g : D → D → Option D} (ho : OpW X (compareOp op) g) (ha : PW X a fa) (hb : PW X b fb) (hm : behindInMarks op b = false) : TB X (.Compare a [op] [b] pos) (tb (b2 fa fb g)) := by
  obtain ⟨r, p, o⟩ := ho
  obtain ⟨ta, tb', pa, pb, q⟩ := twoW ha hb o
  refine ⟨_, pt_cmpR p pa pb hm, fun G H st env F Q b re e k => ?_⟩
  simp only [tb] at e
  obtain ⟨d, e1, e2⟩ := Option.bind_eq_some_iff.mp e
  obtain rfl := bOf_some e2
  refine q G H st env F _ _ re e1 fun v G' H' x rv => ?_
  cases rv
  exact ⟨b, rfl, k G' H' x⟩
/-- any other expression that gives a bool, as a test -/
theorem t_val {a : Expr} {fa : VL.Env → Option D} (ha : PV X a fa) (he : ∀ whole, isTrue a X.env whole = (do let v ← whole; standAt a.pos; holding [v] (truthy v)) := by intro _; rfl) : TB X a (tb fa) := by
  obtain ⟨t, p, o⟩ := ha.ex
  refine ⟨_, pt_val p he, fun G H st env F Q b re e k => ?_⟩
  simp only [tb] at e
  obtain ⟨d, e1, e2⟩ := Option.bind_eq_some_iff.mp e
  obtain rfl := bOf_some e2
  refine o G H st env F _ _ re e1 fun v G' H' x rv => ?_
  cases rv
  exact ⟨b, rfl, k G' H' x⟩
/-- .. by its truth -/
def truD : D → Option Bool
  | .non => some false
  | .bl b => some b
  | .int i => some (i != 0)
  | .lst xs => some (!xs.isEmpty)
  | .tup xs => some (!xs.isEmpty)
  | .dic false xs => some (!xs.isEmpty)
  | _ => none
theorem RpL.isEmpty {K : PySem.W.Frag} {H : Hp} {vs : List V} {ds : List D} (h : RpL K H vs ds) : vs.isEmpty = ds.isEmpty := by cases h <;> rfl
theorem RpK.isEmpty {K : PySem.W.Frag} {H : Hp} {vs : List (Key × V)} {ds : List (D × D)} (h : RpK K H vs ds) : vs.isEmpty = ds.isEmpty := by cases h <;> rfl
@[simp] def tt (f : VL.Env → Option D) : VL.Env → Option Bool := fun env => (f env).bind truD
theorem truV_of {K : PySem.W.Frag} {H : Hp} {v : V} {d : D} {b : Bool} (r : Rp K H v d) (e : truD d = some b) (hu : ∀ kvs t, d ≠ .dic t kvs) : TruV K v H b := by
  cases r with
  | non => cases e; rfl
  | bl c => cases e; rfl
  | int i => cases e; rfl
  | str x => cases e
  | lst h l => cases e; exact .inl ⟨_, SqL.of h, by rw [l.isEmpty]⟩
  | tup h l => cases e; exact .inr (.inl ⟨_, SqT.of h, by rw [l.isEmpty]⟩)
  | dK h l => exact absurd rfl (hu _ _)
  | dT h l => exact absurd rfl (hu _ _)
  | obj h l r n m => cases e
  | hid => cases e
def truE : D → Option Bool
  | .dic _ _ => none
  | d => truD d
theorem t_tru {a : Expr} {fa : VL.Env → Option D} (ha : PW X a fa) (he : ∀ whole, isTrue a X.env whole = (do let v ← whole; standAt a.pos; holding [v] (truthy v)) := by intro _; rfl) : TB X a (fun env => (fa env).bind truE) := by
  obtain ⟨t, p, o⟩ := ha.ex
  refine ⟨_, pt_truth p he, fun G H st env F Q b re e k => ?_⟩
  obtain ⟨d, e1, e2⟩ := Option.bind_eq_some_iff.mp e
  refine o G H st env F _ _ re e1 fun v G' H' x rv => ?_
  have h1 : truD d = some b ∧ ∀ kvs t, d ≠ .dic t kvs := by
    cases d <;> first | exact ⟨e2, fun _ _ z => nomatch z⟩ | cases e2
  exact ⟨b, truV_of rv h1.1 h1.2, k G' H' x⟩
/-! ### and, or, not, if -/
@[simp] def tAnd2 (f g : VL.Env → Option Bool) : VL.Env → Option Bool := fun env => (f env).bind fun b => if b then g env else some false
@[simp] def tOr2 (f g : VL.Env → Option Bool) : VL.Env → Option Bool := fun env => (f env).bind fun b => if b then some true else g env
@[simp] def tNot1 (f : VL.Env → Option Bool) : VL.Env → Option Bool := fun env => (f env).map not
/-- chains of and, or -/
structure TW (X : Cx) (e : Expr) (f : VL.Env → Option Bool) : Prop where
  ex : ∃ t, L2.PW X e t ∧ ∀ (G H : Hp) (st : L2.St) (env : VL.Env) (F : Nat → List Addr) (Q : Bool → Hp → Prop) (b : Bool), ER X.K G H st env F → f env = some b →
    (∀ G' H', Ex G H G' H' → Q b H') → t st H Q
theorem TW.t {e : Expr} {f : VL.Env → Option Bool} (h : TW X e f) : TB X e f := by
  obtain ⟨t, p, o⟩ := h.ex
  exact ⟨t, p.pt, o⟩
variable {a b c : Expr} {rest : List Expr} {pos : Pos} {f g : VL.Env → Option Bool} {fa fb : VL.Env → Option D}
theorem tw_and1 (h : TB X a f) : TW X (.BoolOp .And [a] pos) f := by
  obtain ⟨t, p, o⟩ := h.ex
  exact ⟨t, pw_and1 p, o⟩
theorem tw_or1 (h : TB X a f) : TW X (.BoolOp .Or [a] pos) f := by
  obtain ⟨t, p, o⟩ := h.ex
  exact ⟨t, pw_or1 p, o⟩
theorem tw_and (h : TB X a f) (h' : TW X (.BoolOp .And (b :: rest) pos) g) : TW X (.BoolOp .And (a :: b :: rest) pos) (tAnd2 f g) := by
  obtain ⟨t, p, o⟩ := h.ex
  obtain ⟨t', p', o'⟩ := h'.ex
  refine ⟨_, pw_and p p', fun G H st env F Q d re e k => ?_⟩
  simp only [tAnd2] at e
  obtain ⟨x, e1, e2⟩ := Option.bind_eq_some_iff.mp e
  refine o G H st env F _ _ re e1 fun G' H' x1 => ?_
  cases x with
  | true => exact iteT (o' G' H' st env F _ _ (re.ext x1) e2 fun G2 H2 x2 => k G2 H2 (x1.trans x2))
  | false => cases e2; exact iteF (k G' H' x1)
theorem tw_or (h : TB X a f) (h' : TW X (.BoolOp .Or (b :: rest) pos) g) : TW X (.BoolOp .Or (a :: b :: rest) pos) (tOr2 f g) := by
  obtain ⟨t, p, o⟩ := h.ex
  obtain ⟨t', p', o'⟩ := h'.ex
  refine ⟨_, pw_or p p', fun G H st env F Q d re e k => ?_⟩
  simp only [tOr2] at e
  obtain ⟨x, e1, e2⟩ := Option.bind_eq_some_iff.mp e
  refine o G H st env F _ _ re e1 fun G' H' x1 => ?_
  cases x with
  | true => cases e2; exact iteT (k G' H' x1)
  | false => exact iteF (o' G' H' st env F _ _ (re.ext x1) e2 fun G2 H2 x2 => k G2 H2 (x1.trans x2))
theorem t_not (h : TB X a f) : TB X (.UnaryOp .Not a pos) (tNot1 f) := by
  obtain ⟨t, p, o⟩ := h.ex
  refine ⟨_, pt_not p, fun G H st env F Q d re e k => ?_⟩
  simp only [tNot1] at e
  obtain ⟨x, e1, e2⟩ := Option.map_eq_some_iff.mp e
  subst e2
  exact o G H st env F _ _ re e1 fun G' H' x1 => k G' H' x1
/-- as values: bools -/
@[simp] def vAnd2 (f g : VL.Env → Option D) : VL.Env → Option D := fun env => (f env).bind fun d => (bOf d).bind fun b => if b then g env else some (.bl false)
@[simp] def vOr2 (f g : VL.Env → Option D) : VL.Env → Option D := fun env => (f env).bind fun d => (bOf d).bind fun b => if b then some (.bl true) else g env
theorem v_one {op : BoolOp} (h : PV X a fa) : PV X (.BoolOp op [a] pos) fa := by
  obtain ⟨t, p, o⟩ := h.ex
  exact ⟨t, pe_one p, o⟩
theorem v_and (h : PV X a fa) (h' : PV X (.BoolOp .And (b :: rest) pos) fb) : PV X (.BoolOp .And (a :: b :: rest) pos) (vAnd2 fa fb) := by
  obtain ⟨t, p, o⟩ := h.ex
  obtain ⟨t', p', o'⟩ := h'.ex
  refine ⟨_, pe_and p p', fun G H st env F Q d re e k => ?_⟩
  simp only [vAnd2] at e
  obtain ⟨x, e1, e⟩ := Option.bind_eq_some_iff.mp e
  obtain ⟨y, e2, e3⟩ := Option.bind_eq_some_iff.mp e
  obtain rfl := bOf_some e2
  refine o G H st env F _ _ re e1 fun v G' H' x1 rv => ?_
  cases rv
  refine ⟨y, rfl, ?_⟩
  cases y with
  | true => exact iteT (o' G' H' st env F _ _ (re.ext x1) e3 fun v G2 H2 x2 r2 => k v G2 H2 (x1.trans x2) r2)
  | false => cases e3; exact iteF (k _ G' H' x1 (.bl false))
theorem v_or (h : PV X a fa) (h' : PV X (.BoolOp .Or (b :: rest) pos) fb) : PV X (.BoolOp .Or (a :: b :: rest) pos) (vOr2 fa fb) := by
  obtain ⟨t, p, o⟩ := h.ex
  obtain ⟨t', p', o'⟩ := h'.ex
  refine ⟨_, pe_or p p', fun G H st env F Q d re e k => ?_⟩
  simp only [vOr2] at e
  obtain ⟨x, e1, e⟩ := Option.bind_eq_some_iff.mp e
  obtain ⟨y, e2, e3⟩ := Option.bind_eq_some_iff.mp e
  obtain rfl := bOf_some e2
  refine o G H st env F _ _ re e1 fun v G' H' x1 rv => ?_
  cases rv
  refine ⟨y, rfl, ?_⟩
  cases y with
  | true => cases e3; exact iteT (k _ G' H' x1 (.bl true))
  | false => exact iteF (o' G' H' st env F _ _ (re.ext x1) e3 fun v G2 H2 x2 r2 => k v G2 H2 (x1.trans x2) r2)
@[simp] def vNot1 (f : VL.Env → Option D) : VL.Env → Option D := fun env => (f env).bind fun d => (bOf d).map fun b => .bl (!b)
theorem v_not (h : PV X a fa) : PV X (.UnaryOp .Not a pos) (vNot1 fa) := by
  obtain ⟨t, p, o⟩ := h.ex
  refine ⟨_, pe_not p, fun G H st env F Q d re e k => ?_⟩
  simp only [vNot1] at e
  obtain ⟨x, e1, e⟩ := Option.bind_eq_some_iff.mp e
  obtain ⟨y, e2, e3⟩ := Option.map_eq_some_iff.mp e
  obtain rfl := bOf_some e2
  subst e3
  refine o G H st env F _ _ re e1 fun v G' H' x1 rv => ?_
  cases rv
  exact ⟨y, rfl, k _ G' H' x1 (.bl _)⟩
@[simp] def vIf (c : VL.Env → Option Bool) (f g : VL.Env → Option D) : VL.Env → Option D := fun env => (c env).bind fun b => if b then f env else g env
theorem v_if (hc : TB X c f) (ha : PV X a fa) (hb : PV X b fb) : PV X (.IfExp c a b pos) (vIf f fa fb) := by
  obtain ⟨tc, pc, oc⟩ := hc.ex
  obtain ⟨t, p, o⟩ := ha.ex
  obtain ⟨t', p', o'⟩ := hb.ex
  refine ⟨_, pe_ifExp pc p p', fun G H st env F Q d re e k => ?_⟩
  simp only [vIf] at e
  obtain ⟨x, e1, e2⟩ := Option.bind_eq_some_iff.mp e
  refine oc G H st env F _ _ re e1 fun G' H' x1 => ?_
  cases x with
  | true => exact iteT (o G' H' st env F _ _ (re.ext x1) e2 fun v G2 H2 x2 r2 => k v G2 H2 (x1.trans x2) r2)
  | false => exact iteF (o' G' H' st env F _ _ (re.ext x1) e2 fun v G2 H2 x2 r2 => k v G2 H2 (x1.trans x2) r2)
/-- a op b op c -/
@[simp] def vChain (fa fb fc : VL.Env → Option D) (g g' : D → D → Option D) : VL.Env → Option D := fun env => (fa env).bind fun x => (fb env).bind fun y => (g x y).bind fun z => (bOf z).bind fun k => if k then (fc env).bind fun w => g' y w else some (.bl false)
theorem chain_ok {op op' : CmpOp} {fc : VL.Env → Option D} {g g' : D → D → Option D} (ho : OpW X (compareOp op) g) (ho' : OpW X (compareOp op') g') (ha : PW X a fa) (hb : PW X b fb) (hc : PW X c fc) :
    ∃ r r' ta tb tc, OpR X (compareOp op) r ∧ OpR X (compareOp op') r' ∧ PE X a ta ∧ PE X b tb ∧ PE X c tc ∧ ∀ (G H : Hp) (st : L2.St) (env : VL.Env) (F : Nat → List Addr) (Q : VK) (d : D), ER X.K G H st env F → vChain fa fb fc g g' env = some d →
      (∀ v G' H', Ex G H G' H' → Rp X.K G' v d → Q v H') → tChain r r' ta tb tc st H Q := by
  obtain ⟨r, p, o⟩ := ho
  obtain ⟨r', p', o'⟩ := ho'
  obtain ⟨ta, pa, oa⟩ := ha.ex
  obtain ⟨tb, pb, ob⟩ := hb.ex
  obtain ⟨tc, pc, oc⟩ := hc.ex
  refine ⟨r, r', ta, tb, tc, p, p', pa, pb, pc, fun G H st env F Q d re e k => ?_⟩
  simp only [vChain] at e
  obtain ⟨x, e1, e⟩ := Option.bind_eq_some_iff.mp e
  obtain ⟨y, e2, e⟩ := Option.bind_eq_some_iff.mp e
  obtain ⟨z, e3, e⟩ := Option.bind_eq_some_iff.mp e
  obtain ⟨kk, e4, e⟩ := Option.bind_eq_some_iff.mp e
  obtain rfl := bOf_some e4
  refine oa G H st env F _ x re e1 fun v1 G1 H1 x1 r1 => ob G1 H1 st env F _ y (re.ext x1) e2 fun v2 G2 H2 x2 r2 => ?_
  refine o G2 H2 v1 v2 x y _ _ x2.gh (r1.up x2.hh) r2 e3 fun v G3 H3 x3 r3 => ?_
  cases r3
  refine ⟨kk, rfl, ?_⟩
  have x123 := (x1.trans x2).trans x3
  cases kk with
  | false => cases e; exact iteF (k _ _ _ x123 (.bl false))
  | true =>
    obtain ⟨w, e5, e6⟩ := Option.bind_eq_some_iff.mp (show (fc env).bind (fun w => g' y w) = some d from e)
    refine iteT (oc G3 H3 st env F _ w (re.ext x123) e5 fun v4 G4 H4 x4 r4 => ?_)
    exact o' G4 H4 v2 v4 y w d Q x4.gh ((r2.up x3.hh).up x4.hh) r4 e6 fun v G' H' x5 r5 => k v G' H' ((x123.trans x4).trans x5) r5
theorem v_chain {op op' : CmpOp} {fc : VL.Env → Option D} {g g' : D → D → Option D} (ho : OpW X (compareOp op) g) (ho' : OpW X (compareOp op') g') (ha : PW X a fa) (hb : PW X b fb) (hc : PW X c fc)
    (hm : lastMarks [op, op'] [b, c] = false := by with_unfolding_all rfl) : PV X (.Compare a [op, op'] [b, c] pos) (vChain fa fb fc g g') := by
  obtain ⟨r, r', ta, tb, tc, p, p', pa, pb, pc, q⟩ := chain_ok ho ho' ha hb hc
  exact ⟨_, pe_chain p p' pa pb pc hm, q⟩
theorem t_chain {op op' : CmpOp} {fc : VL.Env → Option D} {g g' : D → D → Option D} (ho : OpW X (compareOp op) g) (ho' : OpW X (compareOp op') g') (ha : PW X a fa) (hb : PW X b fb) (hc : PW X c fc)
    (hm : lastMarks [op, op'] [b, c] = false := by with_unfolding_all rfl) : TB X (.Compare a [op, op'] [b, c] pos) (tb (vChain fa fb fc g g')) := by
  obtain ⟨r, r', ta, tb', tc, p, p', pa, pb, pc, q⟩ := chain_ok ho ho' ha hb hc
  refine ⟨_, pt_chain p p' pa pb pc hm, fun G H st env F Q b re e k => ?_⟩
  simp only [tb] at e
  obtain ⟨d, e1, e2⟩ := Option.bind_eq_some_iff.mp e
  obtain rfl := bOf_some e2
  refine q G H st env F _ _ re e1 fun v G' H' x rv => ?_
  cases rv
  exact ⟨b, rfl, k G' H' x⟩

/-! ### argument lists, displays -/
@[simp] def aCons (f : VL.Env → Option D) (g : VL.Env → Option (List D)) : VL.Env → Option (List D) := fun env => (f env).bind fun x => (g env).bind fun xs => some (x :: xs)
theorem a_nil : AV X [] (fun _ => some []) := ⟨tNil, pa_nil, fun G H st env F Q ds re e k => by cases e; exact k [] G H (Ex.refl re.sub) .nil⟩
theorem a_cons {e : Expr} {es : List Expr} {fs : VL.Env → Option (List D)} (h : PV X e fa) (hr : AV X es fs) (hs : starEach (e :: es) X.env = (false, eval e X.env) :: starEach es X.env := by rfl) : AV X (e :: es) (aCons fa fs) := by
  obtain ⟨t, p, o⟩ := h.ex
  obtain ⟨t', p', o'⟩ := hr.ex
  refine ⟨_, pa_cons p p' hs, fun G H st env F Q ds re e k => ?_⟩
  simp only [aCons] at e
  obtain ⟨x, e1, e⟩ := Option.bind_eq_some_iff.mp e
  obtain ⟨xs, e2, e3⟩ := Option.bind_eq_some_iff.mp e
  cases e3
  exact o G H st env F _ _ re e1 fun v G1 H1 x1 r1 => o' G1 H1 st env F _ _ (re.ext x1) e2 fun vs G2 H2 x2 r2 => k _ G2 H2 (x1.trans x2) (.cons (r1.up x2.gg) r2)
theorem aw_nil : AW X [] (fun _ => some []) := ⟨tNil, pa_nil, fun G H st env F Q ds re e k => by cases e; exact k [] G H (Ex.refl re.sub) .nil⟩
theorem aw_cons {e : Expr} {es : List Expr} {fs : VL.Env → Option (List D)} (h : PW X e fa) (hr : AW X es fs) (hs : starEach (e :: es) X.env = (false, eval e X.env) :: starEach es X.env := by rfl) : AW X (e :: es) (aCons fa fs) := by
  obtain ⟨t, p, o⟩ := h.ex
  obtain ⟨t', p', o'⟩ := hr.ex
  refine ⟨_, pa_cons p p' hs, fun G H st env F Q ds re e k => ?_⟩
  simp only [aCons] at e
  obtain ⟨x, e1, e⟩ := Option.bind_eq_some_iff.mp e
  obtain ⟨xs, e2, e3⟩ := Option.bind_eq_some_iff.mp e
  cases e3
  exact o G H st env F _ _ re e1 fun v G1 H1 x1 r1 => o' G1 H1 st env F _ _ (re.ext x1) e2 fun vs G2 H2 x2 r2 => k _ G2 H2 (x1.trans x2) (.cons (r1.up x2.hh) r2)
theorem small_line {n : Nat} (h : n < 1000) : n ≤ sizeLine := by rw [sizeLine_eq]; omega
theorem l_disp {es : List Expr} {fs : VL.Env → Option (List D)} (h : AV X es fs) (hl : es.length < 1000 := by decide) : PL X (.List es pos) (fun env => (fs env).bind fun ds => if ds.length < 1000 then some ds else none) := by
  obtain ⟨t, p, o⟩ := h.ex
  refine ⟨_, pe_lst p, fun G H st env F Q ds re e k => ?_⟩
  obtain ⟨ds', e1, e2⟩ := Option.bind_eq_some_iff.mp e
  split at e2
  · rename_i hlen
    cases e2
    refine o G H st env F _ _ re e1 fun vs G1 H1 x1 r1 => ⟨small_line (by rw [r1.length]; exact hlen), fun p np => ?_⟩
    exact k p vs G1 _ (x1.trans (Ex.own x1.gh np)) (x1.hh.free np) (x1.gh.free np) upd_same r1
  · cases e2
theorem v_tup {es : List Expr} {fs : VL.Env → Option (List D)} {x1} (h : AV X es fs) : PV X (.Tuple es x1 pos) (fun env => (fs env).bind fun ds => if ds.length < 1000 then some (.tup ds) else none) := by
  obtain ⟨t, p, o⟩ := h.ex
  refine ⟨_, pe_tup p, fun G H st env F Q d re e k => ?_⟩
  obtain ⟨ds', e1, e2⟩ := Option.bind_eq_some_iff.mp e
  split at e2
  · rename_i hlen
    cases e2
    refine o G H st env F _ _ re e1 fun vs G1 H1 x1 r1 => ⟨small_line (by rw [r1.length]; exact hlen), fun p np => ?_⟩
    exact k _ _ _ (x1.trans (Ex.frz x1.gh np)) (.tup upd_same (r1.up (same_upd (x1.gh.free np))))
  · cases e2
end
end VL

set_option Elab.async false
set_option linter.all false
set_option maxRecDepth 100000
/-! VL3: the operations on data, each by the layer's rule. -/
namespace VL
open PySem PySem.Spec PyProof.Rows L2

/-! ### keys of dicts -/
def keyD : D → Option Key
  | .int i => some (.inl i)
  | .str x => some (.inr x)
  | _ => none
def keysD : List D → Option (List Key)
  | [] => some []
  | d :: ds => (keyD d).bind fun k => (keysD ds).map (k :: ·)
def tkeyD : D → Option (List Key)
  | .tup ds => keysD ds
  | _ => none
theorem keyD_kD (k : Key) : keyD (kD k) = some k := by cases k <;> rfl
theorem keysD_map : ∀ ks : List Key, keysD (ks.map kD) = some ks
  | [] => rfl
  | k :: ks => by
    show (keyD (kD k)).bind _ = _
    rw [keyD_kD, keysD_map ks]; rfl
theorem kD_of {d : D} {k : Key} (h : keyD d = some k) : d = kD k := by
  cases d <;> first | (cases h; rfl) | cases h
theorem kDs_of : ∀ {ds : List D} {ks : List Key}, keysD ds = some ks → ds = ks.map kD
  | [], _, h => by cases h; rfl
  | d :: ds, _, h => by
    obtain ⟨k, h1, h2⟩ := Option.bind_eq_some_iff.mp (show (keyD d).bind _ = _ from h)
    obtain ⟨ks, h3, h4⟩ := Option.map_eq_some_iff.mp h2
    subst h4
    rw [kD_of h1, kDs_of h3]; rfl
def lookK (k : Key) : List (D × D) → Option D
  | [] => none
  | (d, x) :: r => if keyD d = some k then some x else lookK k r
def lookT (k : List Key) : List (D × D) → Option D
  | [] => none
  | (d, x) :: r => if tkeyD d = some k then some x else lookT k r
section
variable {K : PySem.W.Frag} {G H : Hp}
theorem Rp.key {v : V} {k : Key} (h : Rp K H v (kD k)) : v = kV k := by
  cases k with
  | inl i => cases (show Rp K H v (.int i) from h); rfl
  | inr x => cases (show Rp K H v (.str x) from h); rfl
theorem RpL.keys : ∀ {vs : List V} {ks : List Key}, RpL K H vs (ks.map kD) → vs = ks.map kV
  | _, [], h => by cases h; rfl
  | _, k :: ks, h => by
    cases h with
    | cons h1 h2 => rw [h1.key, RpL.keys h2]; rfl
/-- what a dict holds: the place's value and the data agree -/
inductive OptR (K : PySem.W.Frag) (H : Hp) : Option V → Option D → Prop
  | none : OptR K H none none
  | some {v : V} {d : D} : Rp K H v d → OptR K H (some v) (some d)
theorem RpK.look : ∀ {vs : List (Key × V)} {ds : List (D × D)} (k : Key), RpK K H vs ds → OptR K H (valV vs k) (lookK k ds)
  | _, _, _, .nil => .none
  | (k', v) :: vs, _, k, .cons (d := d) (ds := ds) h t => by
    show OptR K H _ (if keyD (kD k') = some k then some d else lookK k ds)
    rw [keyD_kD]
    by_cases e : k' = k
    · subst e
      rw [if_pos rfl, valV_pos (p := (k', v)) rfl]
      exact .some h
    · rw [if_neg (fun z => e (Option.some.inj z)), valV_neg (p := (k', v)) e]
      exact RpK.look k t
theorem RpT.look : ∀ {vs : List (List Key × V)} {ds : List (D × D)} (k : List Key), RpT K H vs ds → OptR K H (valV vs k) (lookT k ds)
  | _, _, _, .nil => .none
  | (k', v) :: vs, _, k, .cons (d := d) (ds := ds) h t => by
    show OptR K H _ (if keysD (k'.map kD) = some k then some d else lookT k ds)
    rw [keysD_map]
    by_cases e : k' = k
    · subst e
      rw [if_pos rfl, valV_pos (p := (k', v)) rfl]
      exact .some h
    · rw [if_neg (fun z => e (Option.some.inj z)), valV_neg (p := (k', v)) e]
      exact RpT.look k t
theorem OptR.isSome {o : Option V} {u : Option D} (h : OptR K H o u) : o.isSome = u.isSome := by cases h <;> rfl
/-- a dict asked for a key -/
def dGet : D → D → Option (Option D)
  | .dic false kvs, k => (keyD k).map fun k => lookK k kvs
  | .dic true kvs, k => (tkeyD k).map fun k => lookT k kvs
  | _, _ => none
theorem dGet_ok {v y : V} {d k : D} {o : Option D} (hd : Rp K H v d) (hk : Rp K H y k) (e : dGet d k = some o) : ∃ a u, v = .ref a ∧ DGet H a y u ∧ OptR K H u o := by
  cases hd with
  | dK h l =>
    obtain ⟨kk, e1, e2⟩ := Option.map_eq_some_iff.mp (show (keyD k).map _ = _ from e)
    subst e2
    obtain rfl := kD_of e1
    rw [hk.key]
    exact ⟨_, _, rfl, .inl ⟨_, kk, h, rfl, rfl⟩, l.look kk⟩
  | dT h l =>
    obtain ⟨kk, e1, e2⟩ := Option.map_eq_some_iff.mp (show (tkeyD k).map _ = _ from e)
    subst e2
    cases hk with
    | tup h1 h2 =>
      obtain rfl := kDs_of (show keysD _ = some kk from e1)
      rw [h2.keys] at h1
      exact ⟨_, _, rfl, .inr ⟨_, kk, _, h, rfl, h1, rfl⟩, l.look kk⟩
    | _ => cases e1
  | _ => cases e
theorem isD_of {v : V} {d : D} {k : D} {o : Option D} (hd : Rp K H v d) (e : dGet d k = some o) : ∃ a, v = .ref a ∧ IsD H a := by
  cases hd with
  | dK h l => exact ⟨_, rfl, .inl ⟨_, h⟩⟩
  | dT h l => exact ⟨_, rfl, .inr ⟨_, h⟩⟩
  | _ => cases e
end

/-! ### numbers, + -/
def dAdd : D → D → Option D
  | .int i, .int j => some (.int (i + j))
  | .str x, .str y => if x.length + y.length ≤ sizeLine then some (.str (x ++ y)) else none
  | .lst xs, .lst ys => if xs.length + ys.length ≤ sizeLine then some (.lst (xs ++ ys)) else none
  | .tup xs, .tup ys => if xs.length + ys.length ≤ sizeLine then some (.tup (xs ++ ys)) else none
  | _, _ => none
def dSub : D → D → Option D
  | .int i, .int j => some (.int (i - j))
  | _, _ => none
def dMul : D → D → Option D
  | .int i, .int j => if i.natAbs < 2 ^ 64 ∨ j.natAbs < 2 ^ 64 then some (.int (i * j)) else none
  | .lst xs, .int k => if k < 2 ^ 62 ∧ -(2 ^ 62) < k ∧ xs.length * k.toNat ≤ sizeLine then some (.lst (List.replicate k.toNat xs).flatten) else none
  | _, _ => none
def dDiv : D → D → Option D
  | .int i, .int j => if 0 < j ∧ j.natAbs.log2 < 9000 then some (.int (i / j)) else none
  | _, _ => none
def dMod : D → D → Option D
  | .int i, .int j => if 0 < j then some (.int (i % j)) else none
  | _, _ => none
theorem log2_small {i : Int} {n : Nat} (h : i.natAbs < 2 ^ n) (h0 : 0 < n) : i.natAbs.log2 < n := PySem.Flt.log2_lt_of h0 h
theorem dMul_l {i j : Int} (hi : i.natAbs < 2 ^ 64) : dMul (.int i) (.int j) = some (.int (i * j)) := by
  show (if _ then _ else _) = _
  rw [if_pos (.inl hi)]
theorem dMul_r {i j : Int} (hj : j.natAbs < 2 ^ 64) : dMul (.int i) (.int j) = some (.int (i * j)) := by
  show (if _ then _ else _) = _
  rw [if_pos (.inr hj)]
theorem dDiv_small {i j : Int} (h0 : 0 < j) (hj : j.natAbs < 2 ^ 64) : dDiv (.int i) (.int j) = some (.int (i / j)) := by
  have h2 := log2_small hj (by decide)
  show (if _ then _ else _) = _
  rw [if_pos ⟨h0, by omega⟩]
theorem dMod_pos {i j : Int} (h0 : 0 < j) : dMod (.int i) (.int j) = some (.int (i % j)) := by
  show (if _ then _ else _) = _
  rw [if_pos h0]
section
variable {X : Cx}
theorem o_add : OpF X (binaryOp .Add) dAdd := by
  refine ⟨_, (op_add.or op_add_str).or (op_cat.or op_catA), fun G H x y d e z Q s rx ry q k => ?_⟩
  unfold dAdd at q
  split at q
  · cases rx; cases ry; cases q
    exact .inl (.inl ⟨_, _, rfl, rfl, k _ _ _ (Ex.refl s) (.int _)⟩)
  · split at q
    · rename_i hl
      cases rx; cases ry; cases q
      exact .inl (.inr ⟨_, _, rfl, rfl, hl, k _ _ _ (Ex.refl s) (.str _)⟩)
    · cases q
  · split at q
    · rename_i hl
      cases q
      cases rx with
      | lst h1 l1 =>
        cases ry with
        | lst h2 l2 =>
          refine .inr (.inl ⟨_, _, _, _, rfl, rfl, s _ _ h1, s _ _ h2, by rw [l1.length, l2.length]; exact hl, fun p np => ?_⟩)
          exact k _ _ _ (Ex.frz s np) (.lst upd_same ((l1.append l2).up (same_upd (s.free np))))
    · cases q
  · split at q
    · rename_i hl
      cases q
      cases rx with
      | tup h1 l1 =>
        cases ry with
        | tup h2 l2 =>
          refine .inr (.inr ⟨_, _, _, _, rfl, rfl, SqT.of (s _ _ h1), SqT.of (s _ _ h2), by rw [l1.length, l2.length]; exact hl, fun z => ?_, fun z z' => ?_, fun _ _ p np => ?_⟩)
          · subst z; cases l1; exact k _ _ _ (Ex.refl s) (.tup h2 l2)
          · subst z'; cases l2; rw [List.append_nil] at k; exact k _ _ _ (Ex.refl s) (.tup h1 l1)
          · exact k _ _ _ (Ex.frz s np) (.tup upd_same ((l1.append l2).up (same_upd (s.free np))))
    · cases q
  · cases q
theorem o_sub : OpF X (binaryOp .Sub) dSub := by
  refine ⟨_, op_sub, fun G H x y d e z Q s rx ry q k => ?_⟩
  unfold dSub at q
  split at q
  · cases rx; cases ry; cases q
    exact ⟨_, _, rfl, rfl, k _ _ _ (Ex.refl s) (.int _)⟩
  · cases q
theorem RpL.rep {K : PySem.W.Frag} {H : Hp} {vs : List V} {ds : List D} (h : RpL K H vs ds) : ∀ n : Nat, RpL K H (List.replicate n vs).flatten (List.replicate n ds).flatten
  | 0 => .nil
  | n + 1 => by
    rw [List.replicate_succ, List.replicate_succ, List.flatten_cons, List.flatten_cons]
    exact h.append (RpL.rep h n)
theorem o_mul : OpF X (binaryOp .Mult) dMul := by
  refine ⟨_, op_mul.or op_rep, fun G H x y d e z Q s rx ry q k => ?_⟩
  unfold dMul at q
  split at q
  · split at q
    · rename_i hl
      cases rx; cases ry; cases q
      exact .inl ⟨_, _, rfl, rfl, by unfold CMul; omega, k _ _ _ (Ex.refl s) (.int _)⟩
    · cases q
  · split at q
    · rename_i hl
      cases q; cases ry
      cases rx with
      | lst h1 l1 =>
        refine .inr ⟨_, _, _, rfl, rfl, s _ _ h1, by omega, by omega, by rw [l1.length]; exact hl.2.2, fun p np => ?_⟩
        exact k _ _ _ (Ex.frz s np) (.lst upd_same ((l1.rep _).up (same_upd (s.free np))))
    · cases q
  · cases q
theorem o_div : OpF X (binaryOp .FloorDiv) dDiv := by
  refine ⟨_, op_fdivW, fun G H x y d e z Q s rx ry q k => ?_⟩
  unfold dDiv at q
  split at q
  · split at q
    · rename_i hl
      cases rx; cases ry; cases q
      exact ⟨_, _, rfl, rfl, hl, k _ _ _ (Ex.refl s) (.int _)⟩
    · cases q
  · cases q
theorem o_mod : OpF X (binaryOp .Mod) dMod := by
  refine ⟨_, op_mod, fun G H x y d e z Q s rx ry q k => ?_⟩
  unfold dMod at q
  split at q
  · split at q
    · rename_i hl
      cases rx; cases ry; cases q
      exact ⟨_, _, rfl, rfl, hl, k _ _ _ (Ex.refl s) (.int _)⟩
    · cases q
  · cases q
def dNeg : D → Option D
  | .int i => some (.int (-i))
  | _ => none
theorem v_neg {a : Expr} {fa : VL.Env → Option D} {pos : Pos} (ha : PV X a fa) : PV X (.UnaryOp .USub a pos) (fun env => (fa env).bind dNeg) := by
  obtain ⟨t, p, o⟩ := ha.ex
  refine ⟨_, pe_un un_neg p, fun G H st env F Q d re e k => ?_⟩
  obtain ⟨x, e1, e2⟩ := Option.bind_eq_some_iff.mp e
  refine o G H st env F _ _ re e1 fun v G' H' x1 rv => ?_
  cases x <;> try cases e2
  cases rv
  exact ⟨_, rfl, k _ _ _ x1 (.int _)⟩
/-! ### comparisons -/
def dCmp (p : Int → Int → Bool) : D → D → Option D
  | .int i, .int j => some (.bl (p i j))
  | _, _ => none
theorem o_cmp {f : Value → Value → Sem Value} {p : Int → Int → Bool} (h : OpR X f (rI0 fun i j => .bl (p i j))) : OpW X f (dCmp p) := by
  refine ⟨_, h, fun G H x y d e z Q s rx ry q k => ?_⟩
  unfold dCmp at q
  split at q
  · cases rx; cases ry; cases q
    exact ⟨_, _, rfl, rfl, k _ _ _ (Ex.refl s) (.bl _)⟩
  · cases q
@[simp] abbrev dLt := dCmp fun i j => decide (i < j)
@[simp] abbrev dLe := dCmp fun i j => decide (i ≤ j)
@[simp] abbrev dGt := dCmp fun i j => decide (j < i)
@[simp] abbrev dGe := dCmp fun i j => decide (j ≤ i)
theorem o_lt : OpW X (compareOp .Lt) dLt := o_cmp op_lt
theorem o_le : OpW X (compareOp .LtE) dLe := o_cmp op_le
theorem o_gt : OpW X (compareOp .Gt) dGt := o_cmp op_gt
theorem o_ge : OpW X (compareOp .GtE) dGe := o_cmp op_ge
/-- == of data -/
def eqD (d e : D) : Bool := PyData.eqv d.py e.py
def cmpOk (d e : D) : Bool := d.plain && e.plain && decide (min d.py.depth e.py.depth ≤ 40)
def dEq (d e : D) : Option D := if cmpOk d e then some (.bl (eqD d e)) else none
def dNe (d e : D) : Option D := if cmpOk d e then some (.bl (!eqD d e)) else none
theorem op_eqP : OpR X (compareOp .Eq) (fun x y H Q => ∃ d e, Dp X.K H x d ∧ Dp X.K H y e ∧ d.plain = true ∧ e.plain = true ∧ X.A.units + min d.depth e.depth < cLine ∧ Q (.bl (PyData.eqv d e)) H) := by
  intro pins s st H x y v u Q I rx ry h
  obtain ⟨d, e, hd, he, sd, se, hu, q⟩ := h
  obtain ⟨as, r1⟩ := Dp.reads I d x v hd rx
  obtain ⟨bs, r2⟩ := Dp.reads I e y u he ry
  exact SeqAt.eq_plain r1 r2 sd se hu ⟨.bl _, H, I, rfl, q⟩
theorem op_neP : OpR X (compareOp .NotEq) (fun x y H Q => ∃ d e, Dp X.K H x d ∧ Dp X.K H y e ∧ d.plain = true ∧ e.plain = true ∧ X.A.units + min d.depth e.depth < cLine ∧ Q (.bl (!PyData.eqv d e)) H) := by
  intro pins s st H x y v u Q I rx ry h
  obtain ⟨d, e, hd, he, sd, se, hu, q⟩ := h
  obtain ⟨as, r1⟩ := Dp.reads I d x v hd rx
  obtain ⟨bs, r2⟩ := Dp.reads I e y u he ry
  exact SeqAt.ne_plain r1 r2 sd se hu ⟨.bl _, H, I, rfl, q⟩
theorem o_eq {k : Nat} (hr : Room k X.A) : OpW X (compareOp .Eq) dEq := by
  refine ⟨_, op_eqP, fun G H x y d e z Q s rx ry q kk => ?_⟩
  unfold dEq at q
  split at q
  · rename_i c
    simp only [cmpOk, Bool.and_eq_true, decide_eq_true_eq] at c
    cases q
    refine ⟨d.py, e.py, rx.dp _ _ c.1.1, ry.dp _ _ c.1.2, D.py_plain _, D.py_plain _, ?_, kk _ _ _ (Ex.refl s) (.bl _)⟩
    have := hr.units
    omega
  · cases q
theorem o_ne {k : Nat} (hr : Room k X.A) : OpW X (compareOp .NotEq) dNe := by
  refine ⟨_, op_neP, fun G H x y d e z Q s rx ry q kk => ?_⟩
  unfold dNe at q
  split at q
  · rename_i c
    simp only [cmpOk, Bool.and_eq_true, decide_eq_true_eq] at c
    cases q
    refine ⟨d.py, e.py, rx.dp _ _ c.1.1, ry.dp _ _ c.1.2, D.py_plain _, D.py_plain _, ?_, kk _ _ _ (Ex.refl s) (.bl _)⟩
    have := hr.units
    omega
  · cases q
def dIs : D → D → Option D
  | .non, .non => some (.bl true)
  | _, .non => some (.bl false)
  | _, _ => none
def dIsNot : D → D → Option D
  | .non, .non => some (.bl false)
  | _, .non => some (.bl true)
  | _, _ => none
theorem rp_non {K : PySem.W.Frag} {H : Hp} {v : V} {d : D} (h : Rp K H v d) (n : d ≠ .non) : v ≠ .non := by
  cases h <;> first | exact absurd rfl n | assumption | exact fun z => nomatch z
theorem o_is : OpW X (compareOp .Is) dIs := by
  refine ⟨_, op_isN, fun G H x y d e z Q s rx ry q k => ?_⟩
  unfold dIs at q
  split at q
  · cases rx; cases ry; cases q
    exact ⟨rfl, k _ _ _ (Ex.refl s) (.bl _)⟩
  · rename_i n
    cases ry; cases q
    have : x ≠ .non := rp_non rx n
    exact ⟨rfl, by rw [decide_eq_false this]; exact k _ _ _ (Ex.refl s) (.bl _)⟩
  · cases q
theorem o_isnot : OpW X (compareOp .IsNot) dIsNot := by
  refine ⟨_, op_notN, fun G H x y d e z Q s rx ry q k => ?_⟩
  unfold dIsNot at q
  split at q
  · cases rx; cases ry; cases q
    exact ⟨rfl, k _ _ _ (Ex.refl s) (.bl _)⟩
  · rename_i n
    cases ry; cases q
    have : x ≠ .non := rp_non rx n
    exact ⟨rfl, by rw [decide_eq_false this]; exact k _ _ _ (Ex.refl s) (.bl _)⟩
  · cases q
/-! ### in -/
def inOk (d : D) (ds : List D) : Bool := d.plain && D.plainL ds && decide (min (PyData.depthAll (D.pyL ds)) d.py.depth ≤ 40)
def inD (d : D) (ds : List D) : Bool := ds.any fun z => eqD z d
def dIn : D → D → Option D
  | d, .lst ds => if inOk d ds then some (.bl (inD d ds)) else none
  | d, .tup ds => if inOk d ds then some (.bl (inD d ds)) else none
  | k, .dic t kvs => (dGet (.dic t kvs) k).map fun o => .bl o.isSome
  | _, _ => none
def dNotIn : D → D → Option D
  | d, .lst ds => if inOk d ds then some (.bl (!inD d ds)) else none
  | d, .tup ds => if inOk d ds then some (.bl (!inD d ds)) else none
  | k, .dic t kvs => (dGet (.dic t kvs) k).map fun o => .bl (!o.isSome)
  | _, _ => none
theorem any_py (d : D) : ∀ ds : List D, ((D.pyL ds).any fun y => PyData.eqv y d.py) = inD d ds
  | [] => rfl
  | e :: ds => by
    show (PyData.eqv e.py d.py || (D.pyL ds).any _) = (eqD e d || inD d ds)
    rw [any_py d ds]; rfl
theorem op_inL : OpR X (compareOp .In) (fun x y H Q => ∃ (d : PyData) (xs : List PyData), Dp X.K H x d ∧ (Dp X.K H y (.list xs) ∨ Dp X.K H y (.tuple xs)) ∧ d.plain = true ∧ PyData.plainAll xs = true ∧ X.A.units + 1 + min (PyData.depthAll xs) d.depth < cLine ∧
    Q (.bl (xs.any fun y => PyData.eqv y d)) H) := by
  intro pins s st H x y v u Q I rx ry h
  obtain ⟨d, xs, hd, he, sd, se, hu, q⟩ := h
  obtain ⟨as, r1⟩ := Dp.reads I d x v hd rx
  rcases he with he | he
  · obtain ⟨bs, r2⟩ := Dp.reads I _ y u he ry
    exact SeqAt.in_list_data r2 r1 se sd hu ⟨.bl _, H, I, rfl, q⟩
  · obtain ⟨bs, r2⟩ := Dp.reads I _ y u he ry
    exact SeqAt.in_tuple_data r2 r1 se sd hu ⟨.bl _, H, I, rfl, q⟩
theorem op_notInL : OpR X (compareOp .NotIn) (fun x y H Q => ∃ (d : PyData) (xs : List PyData), Dp X.K H x d ∧ (Dp X.K H y (.list xs) ∨ Dp X.K H y (.tuple xs)) ∧ d.plain = true ∧ PyData.plainAll xs = true ∧ X.A.units + 1 + min (PyData.depthAll xs) d.depth < cLine ∧
    Q (.bl (!xs.any fun y => PyData.eqv y d)) H) := by
  intro pins s st H x y v u Q I rx ry h
  obtain ⟨d, xs, hd, he, sd, se, hu, q⟩ := h
  obtain ⟨as, r1⟩ := Dp.reads I d x v hd rx
  rcases he with he | he
  · obtain ⟨bs, r2⟩ := Dp.reads I _ y u he ry
    exact SeqAt.notIn_list_data r2 r1 se sd hu ⟨.bl _, H, I, rfl, q⟩
  · obtain ⟨bs, r2⟩ := Dp.reads I _ y u he ry
    exact SeqAt.notIn_tuple_data r2 r1 se sd hu ⟨.bl _, H, I, rfl, q⟩
theorem op_inD' (hu : X.A.units + 1 < cLine) : OpR X (compareOp .In) (fun y x H Q => ∃ a o, x = .ref a ∧ DGet H a y o ∧ Q (.bl o.isSome) H) := by
  intro pins s st H y x iv u Q I ry rx h
  obtain ⟨a, o, ex, g, q⟩ := h
  subst ex
  obtain rfl : u = Value.ref a := rx
  exact d_in hu I g ry fun s3 I3 => ⟨.bl o.isSome, H, I3, rfl, q⟩
theorem op_notInD' (hu : X.A.units + 1 < cLine) : OpR X (compareOp .NotIn) (fun y x H Q => ∃ a o, x = .ref a ∧ DGet H a y o ∧ Q (.bl (!o.isSome)) H) := by
  intro pins s st H y x iv u Q I ry rx h
  obtain ⟨a, o, ex, g, q⟩ := h
  subst ex
  obtain rfl : u = Value.ref a := rx
  exact d_notIn hu I g ry fun s3 I3 => ⟨.bl (!o.isSome), H, I3, rfl, q⟩
theorem o_in {k : Nat} (hr : Room k X.A) : OpW X (compareOp .In) dIn := by
  refine ⟨_, op_inL.or (op_inD' (hu_of hr)), fun G H x y d e z Q s rx ry q kk => ?_⟩
  have hun := hr.units
  unfold dIn at q
  split at q
  · rename_i ds
    split at q
    · rename_i c
      simp only [inOk, Bool.and_eq_true, decide_eq_true_eq] at c
      cases q
      refine .inl ⟨d.py, D.pyL ds, rx.dp _ _ c.1.1, .inl (ry.dp (.lst ds) _ c.1.2), D.py_plain _, D.pyL_plain _, by omega, ?_⟩
      rw [any_py]
      exact kk _ _ _ (Ex.refl s) (.bl _)
    · cases q
  · rename_i ds
    split at q
    · rename_i c
      simp only [inOk, Bool.and_eq_true, decide_eq_true_eq] at c
      cases q
      refine .inl ⟨d.py, D.pyL ds, rx.dp _ _ c.1.1, .inr (ry.dp (.tup ds) _ c.1.2), D.py_plain _, D.pyL_plain _, by omega, ?_⟩
      rw [any_py]
      exact kk _ _ _ (Ex.refl s) (.bl _)
    · cases q
  · obtain ⟨o, e1, e2⟩ := Option.map_eq_some_iff.mp q
    subst e2
    obtain ⟨a, u, ea, g, r⟩ := dGet_ok ry rx e1
    exact .inr ⟨a, u, ea, g, by rw [r.isSome]; exact kk _ _ _ (Ex.refl s) (.bl _)⟩
  · cases q
theorem o_notin {k : Nat} (hr : Room k X.A) : OpW X (compareOp .NotIn) dNotIn := by
  refine ⟨_, op_notInL.or (op_notInD' (hu_of hr)), fun G H x y d e z Q s rx ry q kk => ?_⟩
  have hun := hr.units
  unfold dNotIn at q
  split at q
  · rename_i ds
    split at q
    · rename_i c
      simp only [inOk, Bool.and_eq_true, decide_eq_true_eq] at c
      cases q
      refine .inl ⟨d.py, D.pyL ds, rx.dp _ _ c.1.1, .inl (ry.dp (.lst ds) _ c.1.2), D.py_plain _, D.pyL_plain _, by omega, ?_⟩
      rw [any_py]
      exact kk _ _ _ (Ex.refl s) (.bl _)
    · cases q
  · rename_i ds
    split at q
    · rename_i c
      simp only [inOk, Bool.and_eq_true, decide_eq_true_eq] at c
      cases q
      refine .inl ⟨d.py, D.pyL ds, rx.dp _ _ c.1.1, .inr (ry.dp (.tup ds) _ c.1.2), D.py_plain _, D.pyL_plain _, by omega, ?_⟩
      rw [any_py]
      exact kk _ _ _ (Ex.refl s) (.bl _)
    · cases q
  · obtain ⟨o, e1, e2⟩ := Option.map_eq_some_iff.mp q
    subst e2
    obtain ⟨a, u, ea, g, r⟩ := dGet_ok ry rx e1
    exact .inr ⟨a, u, ea, g, by rw [r.isSome]; exact kk _ _ _ (Ex.refl s) (.bl _)⟩
  · cases q

/-! ### subscripts -/
def dIx : D → D → Option D
  | .lst xs, .int i => atI xs i
  | .tup xs, .int i => atI xs i
  | .dic t kvs, k => (dGet (.dic t kvs) k).join
  | _, _ => none
theorem RpL.at {K : PySem.W.Frag} {H : Hp} {vs : List V} {ds : List D} {i : Int} {d : D} (h : RpL K H vs ds) (e : atI ds i = some d) : ∃ v, atI vs i = some v ∧ Rp K H v d := by
  unfold atI at e ⊢
  rw [h.length]
  obtain ⟨j, e1, e2⟩ := Option.bind_eq_some_iff.mp e
  obtain ⟨v, h1, h2⟩ := h.get e2
  exact ⟨v, by rw [e1]; exact h1, h2⟩
theorem ix_ok {K : PySem.W.Frag} {B H : Hp} {x y : V} {c i z : D} {Q : VK} (s : Same B H) (rx : Rp K B x c) (ry : Rp K H y i) (ry' : ∀ t kvs, c = .dic t kvs → Rp K B y i) (q : dIx c i = some z) (k : ∀ v, Rp K B v z → Q v H) :
    rIxL K x y H Q ∨ rIxT K x y H Q ∨ ∃ a v, x = .ref a ∧ DGet H a y (some v) ∧ Q v H := by
  unfold dIx at q
  split at q
  · cases ry
    cases rx with
    | lst h l =>
      obtain ⟨v, e, r⟩ := l.at q
      exact .inl ⟨_, _, _, v, rfl, rfl, SqL.of (s _ _ h), e, k v r⟩
  · cases ry
    cases rx with
    | tup h l =>
      obtain ⟨v, e, r⟩ := l.at q
      exact .inr (.inl ⟨_, _, _, v, rfl, rfl, SqT.of (s _ _ h), e, k v r⟩)
  · rename_i t kvs
    obtain ⟨o, e1, e2⟩ := Option.join_eq_some_iff.mp q |> fun h => (⟨_, h, rfl⟩ : ∃ o, dGet (.dic t kvs) i = some o ∧ o = some z)
    subst e2
    obtain ⟨a, u, ea, g, r⟩ := dGet_ok rx (ry' _ _ rfl) e1
    cases r with
    | some r =>
      refine .inr (.inr ⟨a, _, ea, ?_, k _ r⟩)
      rcases g with ⟨kvs', kk, h1, h2, h3⟩ | ⟨kvs', kk, b, h1, h2, h3, h4⟩
      · exact .inl ⟨kvs', kk, rd_mono s h1, h2, h3⟩
      · exact .inr ⟨kvs', kk, b, rd_mono s h1, h2, s _ _ h3, h4⟩
  · cases q
/-- three ways to go on, told behind the parts -/
theorem pe_sub {a b : Expr} {ta tb : TE} {pos : Pos} (hu : X.A.units + 1 < cLine) (ha : PE X a ta) (hb : PE X b tb) (hs : PlainIx b) :
    PE X (.Subscript a b pos) (tOp (fun x y H Q => rIxL X.K x y H Q ∨ rIxT X.K x y H Q ∨ ∃ a v, x = .ref a ∧ DGet H a y (some v) ∧ Q v H) ta tb) := by
  refine ⟨fun pins s st H Q I h => ?_⟩
  refine Subscript_ (binT ha hb I h fun v u s2 x y H2 I2 rx ry q => ?_)
  rcases q with q | q | ⟨a, w, ex, g, q⟩
  · exact ix_list a b pins s2 st H2 x y v u Q I2 rx ry q (hs _ _)
  · exact ix_tup a b pins s2 st H2 x y v u Q I2 rx ry q (hs _ _)
  · subst ex
    obtain rfl : v = Value.ref a := rx
    have hT := dict_typeIs I2 g
    exact tail_any hT PySem.F.slot_dict_getitem.lookup (d_getItem hu I2 g ry fun w' s3 I3 rw' => ⟨w, H2, I3, rw', q⟩) (hs _ _)
end
end VL

set_option Elab.async false
set_option linter.all false
set_option maxRecDepth 100000
/-! VL4: subscripts, slices, calls of built-ins, walks, comprehensions. -/
namespace VL
open PySem PySem.Spec PyProof.Rows L2
section
variable {X : Cx} {a b c e : Expr} {pos : Pos} {fa fb fc : VL.Env → Option D}
theorem v_ix {k : Nat} (hr : Room k X.A) (ha : PV X a fa) (hb : PV X b fb) (hs : PlainIx b := by intro _ _; rfl) : PV X (.Subscript a b pos) (b2 fa fb dIx) := by
  obtain ⟨ta, tb, pa, pb, q⟩ := twoF (r := fun x y H Q => rIxL X.K x y H Q ∨ rIxT X.K x y H Q ∨ ∃ a v, x = .ref a ∧ DGet H a y (some v) ∧ Q v H) (g := dIx) ha hb
    fun G H x y d e z Q s rx ry q kk => ix_ok s rx (ry.up s) (fun _ _ _ => ry) q fun v r => kk v G H (Ex.refl s) r
  exact ⟨_, pe_sub (hu_of hr) pa pb hs, q⟩
/-- the index as it stands (a number) -/
theorem v_ixW {k : Nat} (hr : Room k X.A) (ha : PW X a fa) (hb : PW X b fb) (hs : PlainIx b := by intro _ _; rfl) : PW X (.Subscript a b pos) (b2 fa fb dIx) := by
  obtain ⟨ta, pa, oa⟩ := ha.ex
  obtain ⟨tb, pb, ob⟩ := hb.ex
  refine ⟨_, pe_sub (hu_of hr) pa pb hs, fun G H st env F Q d re e k => ?_⟩
  simp only [b2] at e
  obtain ⟨x, e1, e⟩ := Option.bind_eq_some_iff.mp e
  obtain ⟨y, e2, e⟩ := Option.bind_eq_some_iff.mp e
  refine oa G H st env F _ x re e1 fun v1 G1 H1 x1 r1 => ob G1 H1 st env F _ y (re.ext x1) e2 fun v2 G2 H2 x2 r2 => ?_
  exact ix_ok (Same.refl H2) (r1.up x2.hh) r2 (fun _ _ _ => r2) e fun v r => k v G2 H2 (x1.trans x2) r
def scal : D → Option D
  | .non => some .non
  | .bl b => some (.bl b)
  | .int i => some (.int i)
  | .str x => some (.str x)
  | _ => none
/-- a plain value needs no freezing -/
theorem PW.sc (h : PW X a fa) : PV X a (fun env => (fa env).bind scal) := by
  obtain ⟨t, p, o⟩ := h.ex
  refine ⟨t, p, fun G H st env F Q d re e k => ?_⟩
  obtain ⟨x, e1, e2⟩ := Option.bind_eq_some_iff.mp e
  refine o G H st env F Q x re e1 fun v G' H' x1 r => k v G' H' x1 ?_
  cases r <;> first | (cases e2; constructor) | cases e2
/-- a frozen item of an owned list -/
def frzOf : S → Option D
  | .fz d => some d
  | _ => none
@[simp] theorem frzOf_fz (d : D) : frzOf (.fz d) = some d := rfl
def itemF : S → D → Option D
  | .ol xs, .int k => (atI xs k).bind frzOf
  | _, _ => none
theorem itemF_some {s : S} {d z : D} (h : itemF s d = some z) : ∃ xs k, s = .ol xs ∧ d = .int k ∧ atI xs k = some (.fz z) := by
  cases s <;> try (cases h; done)
  cases d <;> try (cases h; done)
  rename_i xs k
  obtain ⟨u, h1, h2⟩ := Option.bind_eq_some_iff.mp (show (atI xs k).bind frzOf = some z from h)
  cases u <;> try (cases h2; done)
  cases h2
  exact ⟨_, _, rfl, rfl, h1⟩
@[simp] def getI (i : Nat) (fb : VL.Env → Option D) : VL.Env → Option D := fun env => (getS env i).bind fun s => (fb env).bind fun d => itemF s d
theorem SlRs.get {K : PySem.W.Frag} {G H : Hp} : ∀ {vs : List V} {xs : List S} {F : List Addr} {i : Nat} {s : S}, SlRs K G H vs xs F → xs[i]? = some s → ∃ v F', vs[i]? = some v ∧ SlR K G H v s F' ∧ ∀ a ∈ F', a ∈ F
  | _, _, _, _, _, .nil, e => by simp at e
  | _, _, _, 0, _, .cons r _, e => by simp at e; subst e; exact ⟨_, _, rfl, r, fun a m => List.mem_append_left _ m⟩
  | _, _, _, i + 1, _, .cons _ t, e => by
    obtain ⟨u, F', h1, h2, h3⟩ := SlRs.get (i := i) t (by simpa using e)
    exact ⟨u, F', by simpa using h1, h2, fun a m => List.mem_append_right _ (h3 a m)⟩
theorem SlRs.length {K : PySem.W.Frag} {G H : Hp} : ∀ {vs : List V} {xs : List S} {F : List Addr}, SlRs K G H vs xs F → vs.length = xs.length
  | _, _, _, .nil => rfl
  | _, _, _, .cons _ t => by rw [List.length_cons, List.length_cons, SlRs.length t]
theorem v_ixO (i : Nat) {k : Nat} {x : Str} {xpos : Pos} (hr : Room k X.A) (hb : PV X b fb) (hs : PlainIx b := by intro _ _; rfl) (hN : X.N[i]? = some x := by rfl) (hv : Vis X.env.scope x := by first | exact Or.inl rfl | exact Or.inr (Or.inl rfl) | exact Or.inr (Or.inr rfl))
    (hd : (x == ("__debug__" : Str)) = false := by decide) (hcd : (x == ("__classdict__" : Str)) = false := by decide) : PV X (.Subscript (.Name x xpos) b pos) (getI i fb) := by
  obtain ⟨tb, pb, ob⟩ := hb.ex
  refine ⟨_, pe_sub (hu_of hr) (pe_var hN hv hd hcd) pb hs, fun G H st env F Q d re e k => ?_⟩
  simp only [getI] at e
  obtain ⟨s, e1, e⟩ := Option.bind_eq_some_iff.mp e
  obtain ⟨y, e2, e⟩ := Option.bind_eq_some_iff.mp e
  obtain ⟨xs, j, rfl, rfl, e3⟩ := itemF_some e
  obtain ⟨v, h1, h2⟩ := re.slot i _ (getS_some e1)
  refine ⟨v, h1, ob G H st env F _ _ re e2 fun v2 G2 H2 x2 r2 => ?_⟩
  cases r2
  obtain ⟨v', h1', h3⟩ := (re.ext x2).slot i _ (getS_some e1)
  rw [h1] at h1'
  cases h1'
  generalize F i = Fi at h3
  cases h3 with
  | ol g1 g2 =>
    unfold atI at e3
    obtain ⟨m, m1, m2⟩ := Option.bind_eq_some_iff.mp e3
    obtain ⟨w, F', w1, w2, _⟩ := g2.get m2
    cases w2 with
    | fz r => exact .inl ⟨_, _, _, w, rfl, rfl, SqL.of g1, by unfold atI; rw [g2.length, m1]; exact w1, k w G2 H2 x2 r⟩

/-! ### slices -/
structure SP1 (X : Cx) (e : Option Expr) (f : VL.Env → Option (Option Int)) : Prop where
  ex : ∃ t, L2.PO X e t ∧ ∀ (G H : Hp) (st : L2.St) (env : VL.Env) (F : Nat → List Addr) (Q : Option Int → Hp → Prop) (o : Option Int), ER X.K G H st env F → f env = some o →
    (∀ G' H', Ex G H G' H' → Q o H') → t st H Q
theorem s_none : SP1 X none (fun _ => some none) := ⟨_, po_none, fun G H st env F Q o re e k => by cases e; exact k G H (Ex.refl re.sub)⟩
def intOf : D → Option Int
  | .int i => some i
  | _ => none
@[simp] theorem intOf_int (i : Int) : intOf (.int i) = some i := rfl
theorem intOf_some {d : D} {i : Int} (h : intOf d = some i) : d = .int i := by
  cases d <;> first | (cases h; rfl) | cases h
theorem s_some (h : PW X e fa) : SP1 X (some e) (fun env => ((fa env).bind intOf).map some) := by
  obtain ⟨t, p, o⟩ := h.ex
  refine ⟨_, po_some p, fun G H st env F Q z re e k => ?_⟩
  obtain ⟨i, e1, e2⟩ := Option.map_eq_some_iff.mp e
  subst e2
  obtain ⟨d, e3, e4⟩ := Option.bind_eq_some_iff.mp e1
  obtain rfl := intOf_some e4
  refine o G H st env F _ _ re e3 fun v G' H' x1 r => ?_
  cases r
  exact ⟨i, rfl, k G' H' x1⟩
def cutD {α : Type} (xs : List α) (lo hi : Option Int) : List α := (xs.drop (HT.sIx xs.length 0 lo)).take (HT.sIx xs.length xs.length hi - HT.sIx xs.length 0 lo)
theorem RpL.cut {K : PySem.W.Frag} {H : Hp} {vs : List V} {ds : List D} (h : RpL K H vs ds) (lo hi : Option Int) : RpL K H (cutV vs lo hi) (cutD ds lo hi) := by
  unfold cutV cutD
  rw [h.length]
  exact (h.drop _).take _
def lstOf : D → Option (List D)
  | .lst xs => some xs
  | _ => none
@[simp] theorem lstOf_lst (xs : List D) : lstOf (.lst xs) = some xs := rfl
theorem lstOf_some {d : D} {xs : List D} (h : lstOf d = some xs) : d = .lst xs := by
  cases d <;> first | (cases h; rfl) | cases h
theorem l_slice {lo hi : Option Expr} {p2 : Pos} {fl fh : VL.Env → Option (Option Int)} (ha : PV X a fa) (hl : SP1 X lo fl) (hh : SP1 X hi fh) :
    PL X (.Subscript a (.Slice lo hi none p2) pos) (fun env => (fa env).bind fun d => (lstOf d).bind fun xs => (fl env).bind fun l => (fh env).bind fun h => some (cutD xs l h)) := by
  obtain ⟨t, p, o⟩ := ha.ex
  obtain ⟨tl, pl, ol⟩ := hl.ex
  obtain ⟨th, ph, oh⟩ := hh.ex
  refine ⟨_, pe_slice sl_list p pl ph, fun G H st env F Q ds re e k => ?_⟩
  obtain ⟨d, e1, e⟩ := Option.bind_eq_some_iff.mp e
  obtain ⟨xs, e2, e⟩ := Option.bind_eq_some_iff.mp e
  obtain ⟨l, e3, e⟩ := Option.bind_eq_some_iff.mp e
  obtain ⟨h, e4, e⟩ := Option.bind_eq_some_iff.mp e
  cases e
  obtain rfl := lstOf_some e2
  refine o G H st env F _ _ re e1 fun v G1 H1 x1 r1 => ol G1 H1 st env F _ _ (re.ext x1) e3 fun G2 H2 x2 => oh G2 H2 st env F _ _ ((re.ext x1).ext x2) e4 fun G3 H3 x3 => ?_
  have x123 := (x1.trans x2).trans x3
  cases r1 with
  | lst h1 l1 =>
    refine ⟨_, _, rfl, SqL.of (x3.hh _ _ (x2.hh _ _ (x1.gh _ _ h1))), fun p np => ?_⟩
    exact k p _ G3 _ (x123.trans (Ex.own x123.gh np)) (x123.hh.free np) (x123.gh.free np) upd_same ((l1.cut l h).up (x2.gg.trans x3.gg))

/-! ### calls of built-ins -/
def CallW (X : Cx) (f : Value) (g : List D → Option D) : Prop :=
  ∃ r : List V → Hp → VK → Prop, CallR X f r ∧ ∀ (G H : Hp) (vs : List V) (ds : List D) (z : D) (Q : VK), Same G H → RpL X.K H vs ds → g ds = some z → (∀ v G' H', Ex G H G' H' → Rp X.K G' v z → Q v H') → r vs H Q
def CallL (X : Cx) (f : Value) (g : List D → Option (List D)) : Prop :=
  ∃ r : List V → Hp → VK → Prop, CallR X f r ∧ ∀ (G H : Hp) (vs : List V) (ds : List D) (z : List D) (Q : VK), Same G H → RpL X.K G vs ds → g ds = some z →
    (∀ p us G' H', Ex G H G' H' → H p = none → G' p = none → H' p = some (.lst us) → RpL X.K G' us z → Q (.ref p) H') → r vs H Q
@[simp] def cB (fs : VL.Env → Option (List D)) (g : List D → Option D) : VL.Env → Option D := fun env => (fs env).bind g
@[simp] def cL (fs : VL.Env → Option (List D)) (g : List D → Option (List D)) : VL.Env → Option (List D) := fun env => (fs env).bind g
variable {x : Str} {p : Pos} {id : String} {es : List Expr} {fs : VL.Env → Option (List D)}
theorem v_callB {g : List D → Option D} (hc : CallW X (.builtin id) g) (hg : Gl X x) (hm : X.mg x = none) (hv : bootBuiltins x = some (.builtin id)) (ha : AW X (e :: es) fs) (hn : x ≠ "__name__" := by decide) (hdb : (x == ("__debug__" : Str)) = false := by decide)
    (he : starEach (e :: es) X.env = (false, eval e X.env) :: starEach es X.env := by rfl) (hpl : (backTo pos (starEach es X.env)).any (·.1) = false := by rfl) : PV X (.Call (.Name x p) (e :: es) [] pos) (cB fs g) := by
  obtain ⟨r, hr, o⟩ := hc
  obtain ⟨t, pa, oa⟩ := ha.ex
  refine ⟨_, pe_callB hr hg hm hv pa hn hdb he hpl, fun G H st env F Q d re e k => ?_⟩
  obtain ⟨ds, e1, e2⟩ := Option.bind_eq_some_iff.mp e
  exact oa G H st env F _ _ re e1 fun vs G1 H1 x1 r1 => o G1 H1 vs ds d Q x1.gh r1 e2 fun v G' H' x2 r2 => k v G' H' (x1.trans x2) r2
theorem v_callT {g : List D → Option D} (hc : CallW X (.type id) g) (hg : Gl X x) (hm : X.mg x = none) (hv : bootBuiltins x = some (.type id)) (ha : AW X (e :: es) fs) (hn : x ≠ "__name__" := by decide) (hdb : (x == ("__debug__" : Str)) = false := by decide)
    (he : starEach (e :: es) X.env = (false, eval e X.env) :: starEach es X.env := by rfl) (hpl : (backTo pos (starEach es X.env)).any (·.1) = false := by rfl) : PV X (.Call (.Name x p) (e :: es) [] pos) (cB fs g) := by
  obtain ⟨r, hr, o⟩ := hc
  obtain ⟨t, pa, oa⟩ := ha.ex
  refine ⟨_, pe_callTy hr hg hm hv pa hn hdb he hpl, fun G H st env F Q d re e k => ?_⟩
  obtain ⟨ds, e1, e2⟩ := Option.bind_eq_some_iff.mp e
  exact oa G H st env F _ _ re e1 fun vs G1 H1 x1 r1 => o G1 H1 vs ds d Q x1.gh r1 e2 fun v G' H' x2 r2 => k v G' H' (x1.trans x2) r2
theorem l_callB {g : List D → Option (List D)} (hc : CallL X (.builtin id) g) (hg : Gl X x) (hm : X.mg x = none) (hv : bootBuiltins x = some (.builtin id)) (ha : AV X (e :: es) fs) (hn : x ≠ "__name__" := by decide) (hdb : (x == ("__debug__" : Str)) = false := by decide)
    (he : starEach (e :: es) X.env = (false, eval e X.env) :: starEach es X.env := by rfl) (hpl : (backTo pos (starEach es X.env)).any (·.1) = false := by rfl) : PL X (.Call (.Name x p) (e :: es) [] pos) (cL fs g) := by
  obtain ⟨r, hr, o⟩ := hc
  obtain ⟨t, pa, oa⟩ := ha.ex
  refine ⟨_, pe_callB hr hg hm hv pa hn hdb he hpl, fun G H st env F Q d re e k => ?_⟩
  obtain ⟨ds, e1, e2⟩ := Option.bind_eq_some_iff.mp e
  exact oa G H st env F _ _ re e1 fun vs G1 H1 x1 r1 => o G1 H1 vs ds d Q x1.gh r1 e2 fun p us G' H' x2 n1 n2 h r2 => k p us G' H' (x1.trans x2) (x1.hh.free n1) n2 h r2
theorem l_callT {g : List D → Option (List D)} (hc : CallL X (.type id) g) (hg : Gl X x) (hm : X.mg x = none) (hv : bootBuiltins x = some (.type id)) (ha : AV X (e :: es) fs) (hn : x ≠ "__name__" := by decide) (hdb : (x == ("__debug__" : Str)) = false := by decide)
    (he : starEach (e :: es) X.env = (false, eval e X.env) :: starEach es X.env := by rfl) (hpl : (backTo pos (starEach es X.env)).any (·.1) = false := by rfl) : PL X (.Call (.Name x p) (e :: es) [] pos) (cL fs g) := by
  obtain ⟨r, hr, o⟩ := hc
  obtain ⟨t, pa, oa⟩ := ha.ex
  refine ⟨_, pe_callTy hr hg hm hv pa hn hdb he hpl, fun G H st env F Q d re e k => ?_⟩
  obtain ⟨ds, e1, e2⟩ := Option.bind_eq_some_iff.mp e
  exact oa G H st env F _ _ re e1 fun vs G1 H1 x1 r1 => o G1 H1 vs ds d Q x1.gh r1 e2 fun p us G' H' x2 n1 n2 h r2 => k p us G' H' (x1.trans x2) (x1.hh.free n1) n2 h r2
def intsOf : List D → Option (List Int)
  | [] => some []
  | d :: ds => (intOf d).bind fun i => (intsOf ds).map (i :: ·)
@[simp] theorem intsOf_map : ∀ ns : List Int, intsOf (ns.map D.int) = some ns
  | [] => rfl
  | n :: ns => by
    show (intOf (.int n)).bind _ = _
    rw [intsOf_map ns]; rfl
theorem intsOf_some : ∀ {ds : List D} {ns : List Int}, intsOf ds = some ns → ds = ns.map D.int
  | [], _, h => by cases h; rfl
  | d :: ds, _, h => by
    obtain ⟨i, h1, h2⟩ := Option.bind_eq_some_iff.mp (show (intOf d).bind _ = _ from h)
    obtain ⟨ns, h3, h4⟩ := Option.map_eq_some_iff.mp h2
    subst h4
    rw [intOf_some h1, intsOf_some h3]; rfl
def blsOf : List D → Option (List Bool)
  | [] => some []
  | d :: ds => (bOf d).bind fun i => (blsOf ds).map (i :: ·)
@[simp] theorem blsOf_map : ∀ ns : List Bool, blsOf (ns.map D.bl) = some ns
  | [] => rfl
  | n :: ns => by
    show (bOf (.bl n)).bind _ = _
    rw [blsOf_map ns]; rfl
theorem blsOf_some : ∀ {ds : List D} {ns : List Bool}, blsOf ds = some ns → ds = ns.map D.bl
  | [], _, h => by cases h; rfl
  | d :: ds, _, h => by
    obtain ⟨i, h1, h2⟩ := Option.bind_eq_some_iff.mp (show (bOf d).bind _ = _ from h)
    obtain ⟨ns, h3, h4⟩ := Option.map_eq_some_iff.mp h2
    subst h4
    rw [bOf_some h1, blsOf_some h3]; rfl
def dLen : List D → Option D
  | [.lst xs] => some (.int xs.length)
  | [.tup xs] => some (.int xs.length)
  | [.str x] => if x.length ≤ sizeLine then some (.int x.length) else none
  | _ => none
theorem c_len : CallW X (.builtin "len") dLen := by
  refine ⟨_, call_len, fun G H vs ds z Q s r q k => ?_⟩
  unfold dLen at q
  split at q
  · cases q
    cases r with
    | cons r1 r2 =>
      cases r2
      cases r1 with
      | lst h l => exact ⟨_, _, rfl, .inl ⟨_, SqL.of h, rfl⟩, by rw [l.length]; exact k _ _ _ (Ex.refl s) (.int _)⟩
  · cases q
    cases r with
    | cons r1 r2 =>
      cases r2
      cases r1 with
      | tup h l => exact ⟨_, _, rfl, .inr ⟨_, SqT.of h, rfl⟩, by rw [l.length]; exact k _ _ _ (Ex.refl s) (.int _)⟩
  · split at q
    · rename_i hl
      cases q
      cases r with
      | cons r1 r2 =>
        cases r2
        cases r1
        exact ⟨_, _, rfl, ⟨hl, rfl⟩, k _ _ _ (Ex.refl s) (.int _)⟩
    · cases q
  · cases q
def dSum : List D → Option D
  | [.lst xs] => (intsOf xs).map fun ns => .int ns.sum
  | _ => none
theorem c_sum (hc : X.calm = true) : CallW X (.builtin "sum") dSum := by
  refine ⟨_, cr_sum hc, fun G H vs ds z Q s r q k => ?_⟩
  unfold dSum at q
  split at q
  · obtain ⟨ns, e1, e2⟩ := Option.map_eq_some_iff.mp q
    subst e2
    obtain rfl := intsOf_some e1
    cases r with
    | cons r1 r2 =>
      cases r2
      cases r1 with
      | lst h l =>
        rw [l.ints] at h
        exact ⟨_, ns, rfl, SqL.of h, k _ _ _ (Ex.refl s) (.int _)⟩
  · cases q
def dAny : List D → Option D
  | [.lst xs] => (blsOf xs).map fun ns => .bl (ns.any _root_.id)
  | _ => none
def dAll : List D → Option D
  | [.lst xs] => (blsOf xs).map fun ns => .bl (ns.all _root_.id)
  | _ => none
theorem c_any (hc : X.calm = true) : CallW X (.builtin "any") dAny := by
  refine ⟨_, cr_any hc, fun G H vs ds z Q s r q k => ?_⟩
  unfold dAny at q
  split at q
  · obtain ⟨ns, e1, e2⟩ := Option.map_eq_some_iff.mp q
    subst e2
    obtain rfl := blsOf_some e1
    cases r with
    | cons r1 r2 =>
      cases r2
      cases r1 with
      | lst h l =>
        rw [l.bls] at h
        exact ⟨_, ns, rfl, SqL.of h, k _ _ _ (Ex.refl s) (.bl _)⟩
  · cases q
theorem c_all (hc : X.calm = true) : CallW X (.builtin "all") dAll := by
  refine ⟨_, cr_all hc, fun G H vs ds z Q s r q k => ?_⟩
  unfold dAll at q
  split at q
  · obtain ⟨ns, e1, e2⟩ := Option.map_eq_some_iff.mp q
    subst e2
    obtain rfl := blsOf_some e1
    cases r with
    | cons r1 r2 =>
      cases r2
      cases r1 with
      | lst h l =>
        rw [l.bls] at h
        exact ⟨_, ns, rfl, SqL.of h, k _ _ _ (Ex.refl s) (.bl _)⟩
  · cases q
/-- the greatest, the least of ints -/
def maxI : List Int → Int
  | [] => 0
  | x :: xs => xs.foldl max x
def minI : List Int → Int
  | [] => 0
  | x :: xs => xs.foldl min x
theorem foldl_max_ge : ∀ (xs : List Int) (x : Int), x ≤ xs.foldl max x ∧ ∀ y ∈ xs, y ≤ xs.foldl max x
  | [], x => ⟨Int.le_refl _, fun y h => by cases h⟩
  | z :: xs, x => by
    obtain ⟨h1, h2⟩ := foldl_max_ge xs (max x z)
    refine ⟨Int.le_trans (Int.le_max_left _ _) h1, fun y h => ?_⟩
    rcases List.mem_cons.mp h with rfl | h
    · exact Int.le_trans (Int.le_max_right _ _) h1
    · exact h2 y h
theorem foldl_max_mem : ∀ (xs : List Int) (x : Int), xs.foldl max x = x ∨ xs.foldl max x ∈ xs
  | [], x => .inl rfl
  | z :: xs, x => by
    rcases foldl_max_mem xs (max x z) with h | h
    · show (xs.foldl max (max x z)) = x ∨ (xs.foldl max (max x z)) ∈ z :: xs
      rw [h]
      by_cases c : x ≤ z
      · rw [Int.max_eq_right c]; exact .inr List.mem_cons_self
      · rw [Int.max_eq_left (by omega)]; exact .inl rfl
    · exact .inr (List.mem_cons_of_mem _ h)
theorem foldl_min_le : ∀ (xs : List Int) (x : Int), xs.foldl min x ≤ x ∧ ∀ y ∈ xs, xs.foldl min x ≤ y
  | [], x => ⟨Int.le_refl _, fun y h => by cases h⟩
  | z :: xs, x => by
    obtain ⟨h1, h2⟩ := foldl_min_le xs (min x z)
    refine ⟨Int.le_trans h1 (Int.min_le_left _ _), fun y h => ?_⟩
    rcases List.mem_cons.mp h with rfl | h
    · exact Int.le_trans h1 (Int.min_le_right _ _)
    · exact h2 y h
theorem foldl_min_mem : ∀ (xs : List Int) (x : Int), xs.foldl min x = x ∨ xs.foldl min x ∈ xs
  | [], x => .inl rfl
  | z :: xs, x => by
    rcases foldl_min_mem xs (min x z) with h | h
    · show (xs.foldl min (min x z)) = x ∨ (xs.foldl min (min x z)) ∈ z :: xs
      rw [h]
      by_cases c : x ≤ z
      · rw [Int.min_eq_left c]; exact .inl rfl
      · rw [Int.min_eq_right (by omega)]; exact .inr List.mem_cons_self
    · exact .inr (List.mem_cons_of_mem _ h)
theorem maxI_mem {ns : List Int} (h : ns ≠ []) : maxI ns ∈ ns := by
  cases ns with
  | nil => exact absurd rfl h
  | cons x xs => rcases foldl_max_mem xs x with q | q; exact (show xs.foldl max x ∈ _ by rw [q]; exact List.mem_cons_self); exact List.mem_cons_of_mem _ q
theorem maxI_ge {ns : List Int} {y : Int} (h : y ∈ ns) : y ≤ maxI ns := by
  cases ns with
  | nil => cases h
  | cons x xs => rcases List.mem_cons.mp h with rfl | h; exact (foldl_max_ge xs y).1; exact (foldl_max_ge xs x).2 y h
theorem minI_mem {ns : List Int} (h : ns ≠ []) : minI ns ∈ ns := by
  cases ns with
  | nil => exact absurd rfl h
  | cons x xs => rcases foldl_min_mem xs x with q | q; exact (show xs.foldl min x ∈ _ by rw [q]; exact List.mem_cons_self); exact List.mem_cons_of_mem _ q
theorem minI_le {ns : List Int} {y : Int} (h : y ∈ ns) : minI ns ≤ y := by
  cases ns with
  | nil => cases h
  | cons x xs => rcases List.mem_cons.mp h with rfl | h; exact (foldl_min_le xs y).1; exact (foldl_min_le xs x).2 y h
def dMax : List D → Option D
  | [.lst xs] => (intsOf xs).bind fun ns => if ns = [] then none else some (.int (maxI ns))
  | [.int i, .int j] => some (.int (max i j))
  | _ => none
def dMin : List D → Option D
  | [.lst xs] => (intsOf xs).bind fun ns => if ns = [] then none else some (.int (minI ns))
  | [.int i, .int j] => some (.int (min i j))
  | _ => none
theorem c_max (hc : X.calm = true) : CallW X (.builtin "max") dMax := by
  refine ⟨_, (cr_max hc).or (call_max2 hc), fun G H vs ds z Q s r q k => ?_⟩
  unfold dMax at q
  split at q
  · obtain ⟨ns, e1, e2⟩ := Option.bind_eq_some_iff.mp q
    split at e2
    · cases e2
    · rename_i hne
      cases e2
      obtain rfl := intsOf_some e1
      cases r with
      | cons r1 r2 =>
        cases r2
        cases r1 with
        | lst h l =>
          rw [l.ints] at h
          refine .inl ⟨_, ns, rfl, SqL.of h, List.length_pos_iff.mpr hne, fun m hm hg => ?_⟩
          have : m = maxI ns := Int.le_antisymm (maxI_ge hm) (hg _ (maxI_mem hne))
          subst this
          exact k _ _ _ (Ex.refl s) (.int _)
  · cases q
    cases r with
    | cons r1 r2 =>
      cases r2 with
      | cons r2 r3 =>
        cases r3; cases r1; cases r2
        rename_i i j
        refine .inr ⟨i, j, rfl, ?_⟩
        have : (if j > i then j else i) = max i j := by split <;> omega
        rw [this]
        exact k _ _ _ (Ex.refl s) (.int _)
  · cases q
theorem c_min (hc : X.calm = true) : CallW X (.builtin "min") dMin := by
  refine ⟨_, (cr_min hc).or (call_min2 hc), fun G H vs ds z Q s r q k => ?_⟩
  unfold dMin at q
  split at q
  · obtain ⟨ns, e1, e2⟩ := Option.bind_eq_some_iff.mp q
    split at e2
    · cases e2
    · rename_i hne
      cases e2
      obtain rfl := intsOf_some e1
      cases r with
      | cons r1 r2 =>
        cases r2
        cases r1 with
        | lst h l =>
          rw [l.ints] at h
          refine .inl ⟨_, ns, rfl, SqL.of h, List.length_pos_iff.mpr hne, fun m hm hg => ?_⟩
          have : m = minI ns := Int.le_antisymm (hg _ (minI_mem hne)) (minI_le hm)
          subst this
          exact k _ _ _ (Ex.refl s) (.int _)
  · cases q
    cases r with
    | cons r1 r2 =>
      cases r2 with
      | cons r2 r3 =>
        cases r3; cases r1; cases r2
        rename_i i j
        refine .inr ⟨i, j, rfl, ?_⟩
        have : (if j < i then j else i) = min i j := by split <;> omega
        rw [this]
        exact k _ _ _ (Ex.refl s) (.int _)
  · cases q
def dAbs : List D → Option D
  | [.int i] => some (.int i.natAbs)
  | _ => none
theorem c_abs : CallW X (.builtin "abs") dAbs := by
  refine ⟨_, call_abs, fun G H vs ds z Q s r q k => ?_⟩
  unfold dAbs at q
  split at q
  · cases q
    cases r with
    | cons r1 r2 =>
      cases r2; cases r1
      rename_i i
      refine ⟨i, rfl, ?_⟩
      have : (if i < 0 then -i else i) = (i.natAbs : Int) := by split <;> omega
      rw [this]
      exact k _ _ _ (Ex.refl s) (.int _)
  · cases q
def dInt : List D → Option D
  | [.int i] => some (.int i)
  | [.bl b] => some (.int (if b then 1 else 0))
  | _ => none
theorem c_int : CallW X (.type "int") dInt := by
  refine ⟨_, call_int1, fun G H vs ds z Q s r q k => ?_⟩
  unfold dInt at q
  split at q
  · cases q
    cases r with
    | cons r1 r2 => cases r2; cases r1; exact .inl ⟨_, rfl, k _ _ _ (Ex.refl s) (.int _)⟩
  · cases q
    cases r with
    | cons r1 r2 => cases r2; cases r1; exact .inr ⟨_, rfl, k _ _ _ (Ex.refl s) (.int _)⟩
  · cases q
def dList : List D → Option (List D)
  | [.lst xs] => some xs
  | [.tup xs] => some xs
  | _ => none
theorem c_list : CallL X (.type "list") dList := by
  refine ⟨_, call_list_of, fun G H vs ds z Q s r q k => ?_⟩
  unfold dList at q
  split at q
  · cases q
    cases r with
    | cons r1 r2 =>
      cases r2
      cases r1 with
      | lst h l => exact ⟨_, _, rfl, .inl (SqL.of (s _ _ h)), fun p np => k p _ G _ (Ex.own s np) np (s.free np) upd_same l⟩
  · cases q
    cases r with
    | cons r1 r2 =>
      cases r2
      cases r1 with
      | tup h l => exact ⟨_, _, rfl, .inr (SqT.of (s _ _ h)), fun p np => k p _ G _ (Ex.own s np) np (s.free np) upd_same l⟩
  · cases q
end
end VL

set_option Elab.async false
set_option linter.all false
set_option maxRecDepth 100000
/-! VL5: targets, walks, comprehensions, calls of own defs. -/
namespace VL
open PySem PySem.Spec PyProof.Rows L2

/-! ### slots set -/
section
variable {K : PySem.W.Frag} {G H : Hp} {st : L2.St} {env : VL.Env} {F : Nat → List Addr}
def putFp (F : Nat → List Addr) (i : Nat) (l : List Addr) : Nat → List Addr := fun j => if j = i then l else F j
theorem get_set {α : Type} {l : List α} {i j : Nat} {a b : α} (h : (l.set i a)[j]? = some b) : (j = i ∧ i < l.length ∧ b = a) ∨ (j ≠ i ∧ l[j]? = some b) := by
  by_cases e : i = j
  · subst e
    by_cases hl : i < l.length
    · rw [List.getElem?_set_self hl] at h
      exact .inl ⟨rfl, hl, (Option.some.inj h).symm⟩
    · rw [List.getElem?_eq_none (by simpa using hl)] at h
      cases h
  · rw [List.getElem?_set_ne e] at h
    exact .inr ⟨fun z => e z.symm, h⟩
theorem ER.setO (r : ER K G H st env F) (i : Nat) {v : V} {s : S} {l : List Addr} (h : SlR K G H v s l) (n : l.Nodup) (off : ∀ a ∈ l, G a = none) (dj : ∀ j, j ≠ i → ∀ a ∈ l, a ∉ F j) (hi : i < env.length) :
    ER K G H (st.set i (some v)) (env.set i (some s)) (putFp F i l) := by
  refine ⟨r.sub, by rw [List.length_set, List.length_set]; exact r.len, fun j t e => ?_, fun j hj => ?_, fun j a m => ?_, fun j => ?_, fun j k a m m' => ?_⟩
  · rcases get_set e with ⟨rfl, _, e⟩ | ⟨ne, e⟩
    · cases e
      refine ⟨v, ?_, ?_⟩
      · rw [List.getElem?_set_self (by rw [← r.len]; exact hi)]
      · unfold putFp; rw [if_pos rfl]; exact h
    · obtain ⟨w, h1, h2⟩ := r.slot j t e
      refine ⟨w, by rw [List.getElem?_set_ne (Ne.symm ne)]; exact h1, ?_⟩
      unfold putFp; rw [if_neg ne]; exact h2
  · unfold putFp
    by_cases c : j = i
    · subst c
      exact absurd (List.getElem?_set_self hi) (hj s)
    · rw [if_neg c]
      exact r.out j fun t e => hj t (by rw [List.getElem?_set_ne (Ne.symm c)]; exact e)
  · unfold putFp at m
    split at m
    · exact off a m
    · exact r.off j a m
  · unfold putFp
    split
    · exact n
    · exact r.nd j
  · unfold putFp at m m'
    split at m <;> split at m'
    · rename_i c c'; rw [c, c']
    · rename_i c c'; exact absurd m' (dj k c' a m)
    · rename_i c c'; exact absurd m (dj j c a m')
    · exact r.dj j k a m m'
theorem ER.setF (r : ER K G H st env F) (i : Nat) {v : V} {d : D} (h : Rp K G v d) : ER K G H (st.set i (some v)) (env.set i (some (.fz d))) (putFp F i []) := by
  by_cases hi : i < env.length
  · exact r.setO i (.fz h) .nil (fun a m => by cases m) (fun j _ a m => by cases m) hi
  · have e1 : env.set i (some (.fz d)) = env := List.set_eq_of_length_le (by omega)
    have e2 : st.set i (some v) = st := List.set_eq_of_length_le (by rw [← r.len]; omega)
    rw [e1, e2]
    have : putFp F i [] = F := by
      funext j
      unfold putFp
      split
      · rename_i c; subst c
        exact (r.out j fun s e => by rw [List.getElem?_eq_none (by omega)] at e; cases e).symm
      · rfl
    rw [this]; exact r
/-- a slot forgotten -/
theorem ER.drop1 (r : ER K G H st env F) (i : Nat) : ER K G H (st.set i none) (env.set i none) (putFp F i []) := by
  refine ⟨r.sub, by rw [List.length_set, List.length_set]; exact r.len, fun j t e => ?_, fun j hj => ?_, fun j a m => ?_, fun j => ?_, fun j k a m m' => ?_⟩
  · rcases get_set e with ⟨rfl, _, e⟩ | ⟨ne, e⟩
    · cases e
    · obtain ⟨w, h1, h2⟩ := r.slot j t e
      refine ⟨w, by rw [List.getElem?_set_ne (Ne.symm ne)]; exact h1, ?_⟩
      unfold putFp; rw [if_neg ne]; exact h2
  · unfold putFp
    by_cases c : j = i
    · rw [if_pos c]
    · rw [if_neg c]
      exact r.out j fun t e => hj t (by rw [List.getElem?_set_ne (Ne.symm c)]; exact e)
  · unfold putFp at m
    split at m
    · cases m
    · exact r.off j a m
  · unfold putFp
    split
    · exact .nil
    · exact r.nd j
  · unfold putFp at m m'
    split at m <;> split at m'
    · cases m
    · cases m
    · cases m'
    · exact r.dj j k a m m'
/-- .. on the proof's side alone -/
theorem ER.hide (r : ER K G H st env F) (i : Nat) : ER K G H st (env.set i none) (putFp F i []) := by
  refine ⟨r.sub, by rw [List.length_set]; exact r.len, fun j t e => ?_, fun j hj => ?_, fun j a m => ?_, fun j => ?_, fun j k a m m' => ?_⟩
  · rcases get_set e with ⟨rfl, _, e⟩ | ⟨ne, e⟩
    · cases e
    · obtain ⟨w, h1, h2⟩ := r.slot j t e
      refine ⟨w, h1, ?_⟩
      unfold putFp; rw [if_neg ne]; exact h2
  · unfold putFp
    by_cases c : j = i
    · rw [if_pos c]
    · rw [if_neg c]
      exact r.out j fun t e => hj t (by rw [List.getElem?_set_ne (Ne.symm c)]; exact e)
  · unfold putFp at m
    split at m
    · cases m
    · exact r.off j a m
  · unfold putFp
    split
    · exact .nil
    · exact r.nd j
  · unfold putFp at m m'
    split at m <;> split at m'
    · cases m
    · cases m
    · cases m'
    · exact r.dj j k a m m'
theorem putFp_sub {F : Nat → List Addr} {i j : Nat} {a : Addr} (h : a ∈ putFp F i [] j) : a ∈ F j := by
  unfold putFp at h
  split at h
  · cases h
  · exact h
def wipeE (env : VL.Env) : List Nat → VL.Env
  | [] => env
  | v :: vs => (wipeE env vs).set v none
theorem ER.wipe (r : ER K G H st env F) : ∀ vs : List Nat, ∃ F', ER K G H (L2.wipe st vs) (wipeE env vs) F' ∧ ∀ i a, a ∈ F' i → a ∈ F i
  | [] => ⟨F, r, fun _ _ h => h⟩
  | v :: vs => by
    obtain ⟨F', h1, h2⟩ := ER.wipe r vs
    exact ⟨_, h1.drop1 v, fun i a m => h2 i a (putFp_sub m)⟩
end
theorem wipe_set {α : Type} {o : Option V} (st : L2.St) {i : Nat} : ∀ {vs : List Nat}, i ∈ vs → L2.wipe (st.set i o) vs = L2.wipe st vs
  | v :: vs, h => by
    show (L2.wipe (st.set i o) vs).set v none = (L2.wipe st vs).set v none
    by_cases m : i ∈ vs
    · rw [wipe_set (α := α) st m]
    · rcases List.mem_cons.mp h with rfl | h
      · clear m h
        induction vs with
        | nil => show (st.set i o).set i none = st.set i none; rw [List.set_set]
        | cons u us ih =>
          show ((L2.wipe (st.set i o) us).set u none).set i none = ((L2.wipe st us).set u none).set i none
          by_cases c : u = i
          · subst c; rw [List.set_set, List.set_set]; exact ih
          · rw [List.set_comm _ _ c, List.set_comm _ _ c, ih]
      · exact absurd h m
theorem wipe_set1 {vs : List Nat} (st : L2.St) {i : Nat} (o : Option V) (h : i ∈ vs) : L2.wipe (st.set i o) vs = L2.wipe st vs := wipe_set (α := Nat) st h
theorem wipe_idem' (st : L2.St) (ws : List Nat) : ∀ {vs : List Nat}, (∀ i ∈ vs, i ∈ ws) → L2.wipe (L2.wipe st vs) ws = L2.wipe st ws
  | [], _ => rfl
  | v :: vs, h => by
    show L2.wipe ((L2.wipe st vs).set v none) ws = _
    rw [wipe_set1 _ _ (h v List.mem_cons_self)]
    exact wipe_idem' st ws fun i m => h i (List.mem_cons_of_mem _ m)
theorem wipe_idem (st : L2.St) (vs : List Nat) : L2.wipe (L2.wipe st vs) vs = L2.wipe st vs := wipe_idem' st vs fun _ h => h

/-! ### targets: names, tuples of names -/
/-- what a store of data at a target does: the slots ts are set -/
def TgOk (K : PySem.W.Frag) (ts : List Nat) (f : D → VL.Env → Option VL.Env) (g : TG) : Prop :=
  ∀ (G H : Hp) (st : L2.St) (env : VL.Env) (F : Nat → List Addr) (v : V) (d : D) (env' : VL.Env) (Q : L2.St → Hp → Prop), ER K G H st env F → Rp K G v d → f d env = some env' →
    (∀ st' F', ER K G H st' env' F' → (∀ i a, a ∈ F' i → a ∈ F i) → (∀ vs, (∀ i ∈ ts, i ∈ vs) → L2.wipe st' vs = L2.wipe st vs) → Q st' H) → g v st H Q
structure TG1 (X : Cx) (tg : Expr) (ts : List Nat) (f : D → VL.Env → Option VL.Env) : Prop where
  ex : ∃ g, PG X tg g ∧ TgOk X.K ts f g
def TgsOk (K : PySem.W.Frag) (ts : List Nat) (f : List D → VL.Env → Option VL.Env) (g : TGs) : Prop :=
  ∀ (G H : Hp) (st : L2.St) (env : VL.Env) (F : Nat → List Addr) (vs : List V) (ds : List D) (env' : VL.Env) (Q : L2.St → Hp → Prop), ER K G H st env F → RpL K G vs ds → f ds env = some env' →
    (∀ st' F', ER K G H st' env' F' → (∀ i a, a ∈ F' i → a ∈ F i) → (∀ vs, (∀ i ∈ ts, i ∈ vs) → L2.wipe st' vs = L2.wipe st vs) → Q st' H) → g vs st H Q
structure TGn (X : Cx) (tgs : List Expr) (n : Nat) (ts : List Nat) (f : List D → VL.Env → Option VL.Env) : Prop where
  len : ∀ ds env env', f ds env = some env' → ds.length = n
  ex : ∃ g, PGs X tgs g ∧ TgsOk X.K ts f g
@[simp] def gN (i : Nat) : D → VL.Env → Option VL.Env := fun d env => some (env.set i (some (.fz d)))
@[simp] def gs0 : List D → VL.Env → Option VL.Env
  | [], env => some env
  | _, _ => none
@[simp] def gsC (f : D → VL.Env → Option VL.Env) (g : List D → VL.Env → Option VL.Env) : List D → VL.Env → Option VL.Env
  | d :: ds, env => (f d env).bind (g ds)
  | _, _ => none
@[simp] def gT (g : List D → VL.Env → Option VL.Env) : D → VL.Env → Option VL.Env
  | .tup ds, env => g ds env
  | _, _ => none
section
variable {X : Cx} {pos : Pos}
theorem g_name (i : Nat) {x : Str} (hN : X.N.Nodup) (hi : X.N[i]? = some x := by rfl) (hx : Loc X.env.scope x := by first | exact Or.inl rfl | exact Or.inr rfl)
    (hf : X.fn x = true ∨ X.env.scope.names.lookup x = some .local := by first | exact .inl rfl | exact .inr rfl) : TG1 X (.Name x pos) [i] (gN i) := by
  refine ⟨gName i, pg_name hN hi hx hf, fun G H st env F v d env' Q r rv e k => ?_⟩
  cases e
  exact k _ _ (r.setF i rv) (fun j a m => putFp_sub m) fun vs h => wipe_set1 st _ (h i List.mem_cons_self)
theorem gs_nil : TGn X [] 0 [] gs0 := by
  refine ⟨fun ds env env' e => ?_, gNil, pgs_nil, fun G H st env F vs ds env' Q r rv e k => ?_⟩
  · cases ds with
    | nil => rfl
    | cons d ds => cases e
  · cases ds with
    | nil =>
      cases rv; cases e
      exact ⟨rfl, k st F r (fun _ _ h => h) fun _ _ => rfl⟩
    | cons d ds => cases e
theorem gs_cons {tg : Expr} {tgs : List Expr} {ts us : List Nat} {n : Nat} {f : D → VL.Env → Option VL.Env} {g : List D → VL.Env → Option VL.Env} (h1 : TG1 X tg ts f) (h2 : TGn X tgs n us g)
    (hs : (assignEach (tg :: tgs) X.env).map (·.2) = assign tg X.env :: (assignEach tgs X.env).map (·.2) := by rfl) : TGn X (tg :: tgs) (n + 1) (ts ++ us) (gsC f g) := by
  obtain ⟨a, pa, oa⟩ := h1.ex
  obtain ⟨hl, b, pb, ob⟩ := h2
  refine ⟨fun ds env env' e => ?_, _, pgs_cons pa pb hs, fun G H st env F vs ds env' Q r rv e k => ?_⟩
  · cases ds with
    | nil => cases e
    | cons d ds =>
      obtain ⟨e1, h1, h2⟩ := Option.bind_eq_some_iff.mp (show (f d env).bind (g ds) = some env' from e)
      rw [List.length_cons, hl _ _ _ h2]
  · cases ds with
    | nil => cases e
    | cons d ds =>
      obtain ⟨e1, h1, h2⟩ := Option.bind_eq_some_iff.mp (show (f d env).bind (g ds) = some env' from e)
      cases rv with
      | cons rv rvs =>
        exact ⟨_, _, rfl, oa G H st env F _ d e1 _ r rv h1 fun st1 F1 r1 s1 w1 => ob G H st1 e1 F1 _ ds env' _ r1 rvs h2 fun st2 F2 r2 s2 w2 => k st2 F2 r2 (fun i a m => s1 i a (s2 i a m)) fun ws hw => by
          rw [w2 ws fun i m => hw i (List.mem_append_right _ m), w1 ws fun i m => hw i (List.mem_append_left _ m)]⟩
theorem g_tup {es : List Expr} {k : Nat} {n : Nat} {ts : List Nat} {g : List D → VL.Env → Option VL.Env} (hc : X.calm = true) (h : TGn X es n ts g)
    (hn : (assignEach es X.env).length = n := by rfl) (hst : (assignEach es X.env).findIdx? (·.1) = none := by rfl) : TG1 X (.Tuple es k pos) ts (gT g) := by
  obtain ⟨hl, b, pb, ob⟩ := h
  refine ⟨_, pg_tup hc pb hn hst, fun G H st env F v d env' Q r rv e kk => ?_⟩
  cases d <;> try (cases e; done)
  rename_i ds
  cases rv with
  | tup h1 l1 =>
    exact ⟨_, _, rfl, SqT.of (r.sub _ _ h1), by rw [l1.length]; exact hl _ _ _ e, ob G H st env F _ ds env' Q r l1 e kk⟩

/-! ### the canonical readings -/
def cE (K : PySem.W.Frag) (f : VL.Env → Option D) : TE := fun st H Q => ∃ G env F d, ER K G H st env F ∧ f env = some d ∧ ∀ v G' H', Ex G H G' H' → Rp K G' v d → Q v H'
def cT (K : PySem.W.Frag) (f : VL.Env → Option Bool) : TT := fun st H Q => ∃ G env F b, ER K G H st env F ∧ f env = some b ∧ ∀ G' H', Ex G H G' H' → Q b H'
def cG (K : PySem.W.Frag) (ts : List Nat) (f : D → VL.Env → Option VL.Env) : TG := fun v st H Q => ∃ G env F d env', ER K G H st env F ∧ Rp K G v d ∧ f d env = some env' ∧
  ∀ st' F', ER K G H st' env' F' → (∀ i a, a ∈ F' i → a ∈ F i) → (∀ vs, (∀ i ∈ ts, i ∈ vs) → L2.wipe st' vs = L2.wipe st vs) → Q st' H
theorem PV.c {e : Expr} {f : VL.Env → Option D} (h : PV X e f) : PE X e (cE X.K f) := by
  obtain ⟨t, p, o⟩ := h.ex
  exact ⟨fun pins s st H Q I ⟨G, env, F, d, r, e, k⟩ => p.run pins s st H Q I (o G H st env F Q d r e k)⟩
theorem TBs.c {e : List Expr} {f : VL.Env → Option Bool} (h : TBs X e f) : PTs X e (cT X.K f) := by
  obtain ⟨t, p, o⟩ := h.ex
  exact ⟨fun pins s st H Q I ⟨G, env, F, d, r, e, k⟩ => p.run pins s st H Q I (o G H st env F Q d r e k)⟩
theorem TG1.c {tg : Expr} {ts : List Nat} {f : D → VL.Env → Option VL.Env} (h : TG1 X tg ts f) : PG X tg (cG X.K ts f) := by
  obtain ⟨t, p, o⟩ := h.ex
  exact ⟨fun pins s st H v u Q I rv ⟨G, env, F, d, env', r, rd, e, k⟩ => p.run pins s st H v u Q I rv (o G H st env F v d env' Q r rd e k)⟩
end

/-! ### walks -/
structure Yl (K : PySem.W.Frag) (G1 B : Hp) (J : It) (xs : List D) : Prop where
  len : xs.length ≤ sizeLine
  step : ∀ (i : Nat) (G2 H2 : Hp), Same G1 G2 → Same B H2 → Same G2 H2 → ∀ d, xs[i]? = some d → J.go i H2 ∧ ∀ v H3, J.yld i H2 v H3 → ∃ G3, Ex G2 H2 G3 H3 ∧ Rp K G3 v d
  stop : ∀ (i : Nat) (G2 H2 : Hp), Same G1 G2 → Same B H2 → Same G2 H2 → i = xs.length → J.stop i H2
/-- iter yields f of the slots; nothing but what is frozen stands behind it -/
structure IV (X : Cx) (tg iter : Expr) (f : VL.Env → Option (List D)) : Prop where
  ex : ∃ wi, PI X tg iter wi ∧ ∀ (G H : Hp) (st : L2.St) (env : VL.Env) (F : Nat → List Addr) (R : It → Hp → Prop) (xs : List D), ER X.K G H st env F → f env = some xs →
    (∀ J G1 H1, Ex G H G1 H1 → Yl X.K G1 G1 J xs → R J H1) → wi st H R
/-- .. as long as the heap only grows -/
structure IC (X : Cx) (tg iter : Expr) (f : VL.Env → Option (List D)) : Prop where
  ex : ∃ wi, PI X tg iter wi ∧ ∀ (G H : Hp) (st : L2.St) (env : VL.Env) (F : Nat → List Addr) (R : It → Hp → Prop) (xs : List D), ER X.K G H st env F → f env = some xs →
    (∀ J G1 H1, Ex G H G1 H1 → Yl X.K G1 H1 J xs → R J H1) → wi st H R
theorem Yl.base {K : PySem.W.Frag} {G1 B B' : Hp} {J : It} {xs : List D} (y : Yl K G1 B J xs) (h : Same B B') : Yl K G1 B' J xs :=
  ⟨y.len, fun i G2 H2 a b c => y.step i G2 H2 a (h.trans b) c, fun i G2 H2 a b c => y.stop i G2 H2 a (h.trans b) c⟩
section
variable {X : Cx} {tg iter : Expr} {pos : Pos} {fa : VL.Env → Option D} {fs : VL.Env → Option (List D)}
theorem IV.c {f : VL.Env → Option (List D)} (h : IV X tg iter f) : IC X tg iter f := by
  obtain ⟨wi, p, o⟩ := h.ex
  exact ⟨wi, p, fun G H st env F R xs r e k => o G H st env F R xs r e fun J G1 H1 x y => k J G1 H1 x (y.base x.gh)⟩
def seqOf : D → Option (List D)
  | .lst xs => some xs
  | .tup xs => some xs
  | _ => none
@[simp] theorem seqOf_lst (xs : List D) : seqOf (.lst xs) = some xs := rfl
@[simp] theorem seqOf_tup (xs : List D) : seqOf (.tup xs) = some xs := rfl
theorem yl_list {K : PySem.W.Frag} {G1 : Hp} {a : Addr} {vs : List V} {xs : List D} (h : G1 a = some (.lst vs)) (l : RpL K G1 vs xs) (hz : vs.length ≤ sizeLine) : Yl K G1 G1 (Itl K a) xs := by
  refine ⟨by rw [← l.length]; exact hz, fun i G2 H2 s1 s2 s3 d e => ?_, fun i G2 H2 s1 s2 s3 e => ?_⟩
  · obtain ⟨v, hv, rv⟩ := l.get e
    have hh : H2 a = some (.lst vs) := s3 _ _ (s1 _ _ h)
    refine ⟨⟨vs, v, SqL.of hh, hv⟩, fun w H3 ⟨e3, q⟩ => ?_⟩
    subst e3
    have := q vs (SqL.of hh)
    rw [hv] at this
    cases this
    exact ⟨G2, Ex.refl s3, rv.up s1⟩
  · exact ⟨vs, SqL.of (s3 _ _ (s1 _ _ h)), by rw [l.length, e]; exact Nat.le_refl _⟩
theorem yl_tup {K : PySem.W.Frag} {G1 : Hp} {a : Addr} {vs : List V} {xs : List D} (h : G1 a = some (.tup vs)) (l : RpL K G1 vs xs) (hz : vs.length ≤ sizeLine) : Yl K G1 G1 (Itt K a) xs := by
  refine ⟨by rw [← l.length]; exact hz, fun i G2 H2 s1 s2 s3 d e => ?_, fun i G2 H2 s1 s2 s3 e => ?_⟩
  · obtain ⟨v, hv, rv⟩ := l.get e
    have hh : H2 a = some (.tup vs) := s3 _ _ (s1 _ _ h)
    refine ⟨⟨vs, v, SqT.of hh, hv⟩, fun w H3 ⟨e3, q⟩ => ?_⟩
    subst e3
    have := q vs (SqT.of hh)
    rw [hv] at this
    cases this
    exact ⟨G2, Ex.refl s3, rv.up s1⟩
  · exact ⟨vs, SqT.of (s3 _ _ (s1 _ _ h)), by rw [l.length, e]; exact Nat.le_refl _⟩
theorem i_seq {l : Expr} (h : PV X l fa) : IV X tg l (fun env => (fa env).bind seqOf) := by
  obtain ⟨t, p, o⟩ := h.ex
  refine ⟨_, pi_or (pi_list (pe_hlen p)) (pi_tup (pe_hlen p)), fun G H st env F R xs r e k => ?_⟩
  obtain ⟨d, e1, e2⟩ := Option.bind_eq_some_iff.mp e
  cases d <;> try (cases e2; done)
  · cases e2
    refine .inl (o G H st env F _ _ r e1 fun v G' H' x rv hz => ?_)
    cases rv with
    | lst h l => exact ⟨_, rfl, ⟨_, SqL.of (x.gh _ _ h)⟩, k _ G' H' x (yl_list h l (hz.1 _ _ (x.gh _ _ h)))⟩
  · cases e2
    refine .inr (o G H st env F _ _ r e1 fun v G' H' x rv hz => ?_)
    cases rv with
    | tup h l => exact ⟨_, rfl, ⟨_, SqT.of (x.gh _ _ h)⟩, k _ G' H' x (yl_tup h l (hz.2 _ _ (x.gh _ _ h)))⟩
/-- a list of the def's own, whose items are frozen -/
def frzL : List S → Option (List D)
  | [] => some []
  | .fz d :: xs => (frzL xs).map (d :: ·)
  | _ => none
@[simp] theorem frzL_map : ∀ ds : List D, frzL (ds.map S.fz) = some ds
  | [] => rfl
  | d :: ds => by
    show (frzL (ds.map S.fz)).map _ = _
    rw [frzL_map ds]; rfl
theorem frzL_some : ∀ {xs : List S} {ds : List D}, frzL xs = some ds → xs = ds.map S.fz
  | [], _, h => by cases h; rfl
  | .fz d :: xs, _, h => by
    obtain ⟨ds, h1, h2⟩ := Option.map_eq_some_iff.mp (show (frzL xs).map _ = _ from h)
    subst h2
    rw [frzL_some h1]; rfl
  | .ol _ :: _, _, h => by cases h
  | .od _ _ :: _, _, h => by cases h
  | .ot _ :: _, _, h => by cases h
  | .ob _ _ _ :: _, _, h => by cases h
  | .at _ _ :: _, _, h => by cases h
def olOf : S → Option (List D)
  | .ol xs => frzL xs
  | _ => none
@[simp] theorem olOf_ol (ds : List D) : olOf (.ol (ds.map S.fz)) = some ds := frzL_map ds
theorem slRs_rp {K : PySem.W.Frag} {G H : Hp} : ∀ {ds : List D} {vs : List V} {F : List Addr}, SlRs K G H vs (ds.map S.fz) F → RpL K G vs ds ∧ F = []
  | [], _, _, h => by cases h; exact ⟨.nil, rfl⟩
  | d :: ds, _, _, h => by
    cases h with
    | cons h1 h2 =>
      cases h1 with
      | fz r =>
        obtain ⟨a, b⟩ := slRs_rp h2
        exact ⟨.cons r a, by rw [b]; rfl⟩
theorem olOf_some {s : S} {ds : List D} (h : olOf s = some ds) : s = .ol (ds.map S.fz) := by
  cases s <;> try (cases h; done)
  rw [frzL_some (show frzL _ = some ds from h)]
theorem yl_own {K : PySem.W.Frag} {G1 H1 : Hp} {a : Addr} {vs : List V} {xs : List D} (h : H1 a = some (.lst vs)) (l : RpL K G1 vs xs) (hz : vs.length ≤ sizeLine) : Yl K G1 H1 (Itl K a) xs := by
  refine ⟨by rw [← l.length]; exact hz, fun i G2 H2 s1 s2 s3 d e => ?_, fun i G2 H2 s1 s2 s3 e => ?_⟩
  · obtain ⟨v, hv, rv⟩ := l.get e
    have hh : H2 a = some (.lst vs) := s2 _ _ h
    refine ⟨⟨vs, v, SqL.of hh, hv⟩, fun w H3 ⟨e3, q⟩ => ?_⟩
    subst e3
    have := q vs (SqL.of hh)
    rw [hv] at this
    cases this
    exact ⟨G2, Ex.refl s3, rv.up s1⟩
  · exact ⟨vs, SqL.of (s2 _ _ h), by rw [l.length, e]; exact Nat.le_refl _⟩
theorem i_own (i : Nat) {x : Str} (hN : X.N[i]? = some x := by rfl) (hv : Vis X.env.scope x := by first | exact Or.inl rfl | exact Or.inr (Or.inl rfl) | exact Or.inr (Or.inr rfl))
    (hd : (x == ("__debug__" : Str)) = false := by decide) (hcd : (x == ("__classdict__" : Str)) = false := by decide) : IC X tg (.Name x pos) (fun env => (getS env i).bind olOf) := by
  refine ⟨_, pi_list (pe_hlen (pe_var hN hv hd hcd)), fun G H st env F R xs r e k => ?_⟩
  obtain ⟨s, e1, e2⟩ := Option.bind_eq_some_iff.mp e
  obtain rfl := olOf_some e2
  obtain ⟨v, h1, h2⟩ := r.slot i _ (getS_some e1)
  generalize F i = Fi at h2
  refine ⟨v, h1, fun hz => ?_⟩
  cases h2 with
  | ol g1 g2 =>
    obtain ⟨l, _⟩ := slRs_rp g2
    exact ⟨_, rfl, ⟨_, SqL.of g1⟩, k _ G H (Ex.refl r.sub) (yl_own g1 l (hz.1 _ _ g1))⟩
/-- range -/
def rangeD (lo : Int) (n : Nat) : List D := (List.range n).map fun (i : Nat) => D.int (lo + (i : Int))
def rng1 : List D → Option (List D)
  | [.int n] => if n.natAbs ≤ sizeLine then some (rangeD 0 n.toNat) else none
  | _ => none
def rng2 : List D → Option (List D)
  | [.int a, .int b] => if a.natAbs ≤ sizeLine ∧ b.natAbs ≤ 4000000 ∧ (b - a).toNat ≤ sizeLine then some (rangeD a (b - a).toNat) else none
  | _ => none
theorem yl_range {K : PySem.W.Frag} {G1 : Hp} {lo : Int} {n : Nat} (hz : n ≤ sizeLine) : Yl K G1 G1 (Itr lo n) (rangeD lo n) := by
  have hl : (rangeD lo n).length = n := by unfold rangeD; rw [List.length_map, List.length_range]
  refine ⟨by rw [hl]; exact hz, fun i G2 H2 s1 s2 s3 d e => ?_, fun i G2 H2 s1 s2 s3 e => ?_⟩
  · have hi : i < n := by
      rw [← hl]; exact (List.getElem?_eq_some_iff.mp e).1
    have hd : d = .int (lo + i) := by
      unfold rangeD at e
      rw [List.getElem?_map, List.getElem?_range hi] at e
      exact (Option.some.inj e).symm
    subst hd
    refine ⟨hi, fun w H3 ⟨e3, q⟩ => ?_⟩
    subst e3 q
    exact ⟨G2, Ex.refl s3, .int _⟩
  · show n ≤ i
    rw [e, hl]; exact Nat.le_refl _
theorem line62 : (sizeLine : Int) < 2 ^ 62 := by rw [sizeLine_eq]; decide
theorem i_range1 {a : Expr} {p : Pos} (hg : Gl X "range") (hm : X.mg "range" = none) (ha : AW X [a] fs) (hs : starEach [a] X.env = [(false, eval a X.env)] := by rfl) : IV X tg (.Call (.Name "range" p) [a] [] pos) (fun env => (fs env).bind rng1) := by
  obtain ⟨t, pa, o⟩ := ha.ex
  refine ⟨_, pi_range1 hg hm pa hs, fun G H st env F R xs r e k => ?_⟩
  obtain ⟨ds, e1, e2⟩ := Option.bind_eq_some_iff.mp e
  unfold rng1 at e2
  split at e2
  · rename_i n
    split at e2
    · rename_i hn
      cases e2
      refine o G H st env F _ _ r e1 fun vs G1 H1 x rv => ?_
      cases rv with
      | cons r1 r2 =>
        cases r2; cases r1
        have := line62
        exact ⟨n, rfl, by omega, by omega, k _ G1 H1 x (yl_range (by omega))⟩
    · cases e2
  · cases e2
theorem i_range2 {a b : Expr} {p : Pos} (hg : Gl X "range") (hm : X.mg "range" = none) (ha : AW X [a, b] fs) (hs : starEach [a, b] X.env = [(false, eval a X.env), (false, eval b X.env)] := by rfl) (hs2 : starEach [b] X.env = [(false, eval b X.env)] := by rfl) :
    IV X tg (.Call (.Name "range" p) [a, b] [] pos) (fun env => (fs env).bind rng2) := by
  obtain ⟨t, pa, o⟩ := ha.ex
  refine ⟨_, pi_range2 hg hm pa hs hs2, fun G H st env F R xs r e k => ?_⟩
  obtain ⟨ds, e1, e2⟩ := Option.bind_eq_some_iff.mp e
  unfold rng2 at e2
  split at e2
  · rename_i m n
    split at e2
    · rename_i hn
      cases e2
      refine o G H st env F _ _ r e1 fun vs G1 H1 x rv => ?_
      cases rv with
      | cons r1 r2 =>
        cases r1
        cases r2 with
        | cons r2 r3 =>
          cases r3; cases r2
          have := line62
          exact ⟨m, n, rfl, by omega, k _ G1 H1 x (yl_range hn.2.2)⟩
    · cases e2
  · cases e2
/-- enumerate -/
def enumD (xs : List D) : List D := xs.mapIdx fun (i : Nat) d => D.tup [.int (i : Int), d]
theorem yl_enum {K : PySem.W.Frag} {G1 : Hp} {a : Addr} {vs : List V} {xs : List D} (h : G1 a = some (.lst vs)) (l : RpL K G1 vs xs) (hz : vs.length ≤ sizeLine) : Yl K G1 G1 (Ite K a) (enumD xs) := by
  have hl : (enumD xs).length = xs.length := by unfold enumD; rw [List.length_mapIdx]
  refine ⟨by rw [hl, ← l.length]; exact hz, fun i G2 H2 s1 s2 s3 d e => ?_, fun i G2 H2 s1 s2 s3 e => ?_⟩
  · unfold enumD at e
    rw [List.getElem?_mapIdx] at e
    obtain ⟨z, e1, e2⟩ := Option.map_eq_some_iff.mp e
    subst e2
    obtain ⟨v, hv, rv⟩ := l.get e1
    have hh : H2 a = some (.lst vs) := s3 _ _ (s1 _ _ h)
    refine ⟨⟨vs, v, SqL.of hh, hv⟩, fun w H3 ⟨T, y, ew, nT, e3, q⟩ => ?_⟩
    subst ew e3
    have := q vs (SqL.of hh)
    rw [hv] at this
    cases this
    exact ⟨_, Ex.frz s3 nT, .tup upd_same (.cons (.int _) (.cons ((rv.up s1).up (same_upd (s3.free nT))) .nil))⟩
  · exact ⟨vs, SqL.of (s3 _ _ (s1 _ _ h)), by rw [l.length, e, hl]; exact Nat.le_refl _⟩
theorem i_enum {l : Expr} {p tpos : Pos} {elts : List Expr} {kk : Nat} (hg : Gl X "enumerate") (hm : X.mg "enumerate" = none) (h : PV X l fa) (hs : starEach [l] X.env = [(false, eval l X.env)] := by rfl) :
    IV X (.Tuple elts kk tpos) (.Call (.Name "enumerate" p) [l] [] pos) (fun env => (fa env).bind fun d => (lstOf d).map enumD) := by
  obtain ⟨t, pa, o⟩ := h.ex
  refine ⟨_, pi_hlen (pi_enum hg hm (pa_cons pa pa_nil hs) hs), fun G H st env F R xs r e k => ?_⟩
  obtain ⟨d, e1, e2⟩ := Option.bind_eq_some_iff.mp e
  obtain ⟨ys, e3, e4⟩ := Option.map_eq_some_iff.mp e2
  subst e4
  obtain rfl := lstOf_some e3
  refine o G H st env F _ _ r e1 fun v G' H' x rv => ?_
  cases rv with
  | lst h l => exact ⟨_, _, rfl, SqL.of (x.gh _ _ h), fun hz => k _ G' H' x (yl_enum h l (hz.1 _ _ (x.gh _ _ h)))⟩

/-! ### comprehensions -/
def compD (ft : D → VL.Env → Option VL.Env) (fc : VL.Env → Option Bool) (fe : VL.Env → Option D) (env : VL.Env) : List D → Option (List D)
  | [] => some []
  | d :: ds => (ft d env).bind fun e1 => (fc e1).bind fun b => if b then (fe e1).bind fun y => (compD ft fc fe env ds).map (y :: ·) else compD ft fc fe env ds
def OkL (K : PySem.W.Frag) (f : VL.Env → Option (List D)) (t : TE) : Prop := ∀ (G H : Hp) (st : L2.St) (env : VL.Env) (F : Nat → List Addr) (Q : VK) (ds : List D), ER K G H st env F → f env = some ds →
    (∀ p vs G' H', Ex G H G' H' → H p = none → G' p = none → H' p = some (.lst vs) → RpL K G' vs ds → Q (.ref p) H') → t st H Q
theorem ex_none {G H G' H' : Hp} (x : Ex G H G' H') {p : Addr} {o : HO} (g : G p = none) (h : H p = some o) : G' p = none := by
  cases z : G' p with
  | none => rfl
  | some u =>
    rcases x.nw p (by rw [z]; exact fun q => nomatch q) with q | q
    · exact absurd g q
    · rw [h] at q; cases q
theorem ex_upd {G H G' H' : Hp} {p : Addr} {o : HO} (x : Ex G H G' H') (hp : H p = none) (gp : G' p = none) : Ex G H G' (upd H' p o) :=
  ⟨fun b u e => by rw [upd_ne (ne_of_none e hp)]; exact x.hh _ _ e, x.gg, fun b u e => by rw [upd_ne (ne_of_none e gp)]; exact x.gh _ _ e, x.nw⟩
theorem lc_ok {K : PySem.W.Frag} {wi : TI} {fi : VL.Env → Option (List D)} {ts vs : List Nat} {ft : D → VL.Env → Option VL.Env} {fc : VL.Env → Option Bool} {fe : VL.Env → Option D}
    (hi : ∀ (G H : Hp) (st : L2.St) (env : VL.Env) (F : Nat → List Addr) (R : It → Hp → Prop) (xs : List D), ER K G H st env F → fi env = some xs → (∀ J G1 H1, Ex G H G1 H1 → Yl K G1 H1 J xs → R J H1) → wi st H R)
    (hts : ∀ i ∈ ts, i ∈ vs) : OkL K (fun env => (fi env).bind (compD ft fc fe (wipeE env vs))) (tLc wi (cG K ts ft) (cT K fc) (cE K fe) vs) := by
  intro G H st env F Q ys r e k
  obtain ⟨xs, e1, e2⟩ := Option.bind_eq_some_iff.mp e
  refine hi G H st env F _ xs r e1 fun J G1 H1 x1 y => fun Dp hD => ?_
  refine ⟨fun i m Hc => m = xs.length - i ∧ i ≤ xs.length ∧ ∃ Gc acc accD rest, Ex G1 H1 Gc Hc ∧ Gc Dp = none ∧ Hc Dp = some (.lst acc) ∧ RpL K Gc acc accD ∧ acc.length ≤ i ∧
    compD ft fc fe (wipeE env vs) (xs.drop i) = some rest ∧ accD ++ rest = ys, ⟨xs.length, rfl, Nat.zero_le _, G1, [], [], ys, ex_upd (Ex.refl x1.gh) hD (x1.gh.free hD), x1.gh.free hD, upd_same, .nil, Nat.le_refl _, e2, rfl⟩, ?_⟩
  rintro i m Hc ⟨em, hi', Gc, acc, accD, rest, xc, gD, hDc, lc, la, ec, ea⟩
  by_cases hlt : i < xs.length
  · have ed : xs.drop i = xs[i] :: xs.drop (i + 1) := List.drop_eq_getElem_cons hlt
    rw [ed] at ec
    obtain ⟨e1', t1, ec⟩ := Option.bind_eq_some_iff.mp (show (ft xs[i] (wipeE env vs)).bind _ = some rest from ec)
    obtain ⟨b, t2, ec⟩ := Option.bind_eq_some_iff.mp ec
    obtain ⟨go, hy⟩ := y.step i Gc Hc xc.gg xc.hh xc.gh xs[i] (List.getElem?_eq_getElem hlt)
    refine .inr ⟨go, _, fun H' h' => ⟨xs.length - (i + 1), by omega, rfl, hlt, h'⟩, fun v H3 hv => ?_⟩
    obtain ⟨G3, x3, rv⟩ := hy v H3 hv
    have xa := x1.trans (xc.trans x3)
    obtain ⟨Fw, rw', _⟩ := ER.wipe (r.ext xa) vs
    refine ⟨G3, wipeE env vs, Fw, xs[i], e1', rw', rv, t1, fun st' F' r' _ w' => ⟨?_, ?_⟩⟩
    · rw [w' vs hts, wipe_idem]
    · refine ⟨G3, e1', F', b, r', t2, fun G4 H4 x4 => ?_⟩
      cases b with
      | true =>
        obtain ⟨yv, t3, ec⟩ := Option.bind_eq_some_iff.mp (show (fe e1').bind _ = some rest from ec)
        obtain ⟨rest', t4, t5⟩ := Option.map_eq_some_iff.mp ec
        subst t5
        refine iteT ⟨G4, e1', F', yv, r'.ext x4, t3, fun u G5 H5 x5 r5 => ?_⟩
        have hd5 : H5 Dp = some (.lst acc) := x5.hh _ _ (x4.hh _ _ (x3.hh _ _ hDc))
        have xx := (x3.trans x4).trans x5
        have g5 : G5 Dp = none := ex_none xx gD hDc
        refine ⟨acc, hd5, Nat.lt_of_le_of_lt la (Nat.lt_of_lt_of_le hlt y.len), G5, acc ++ [u], accD ++ [yv], rest', ex_upd (xc.trans xx) hD g5, g5, upd_same, (lc.up xx.gg).append (.cons r5 .nil), ?_, t4, ?_⟩
        · rw [List.length_append, List.length_singleton]; omega
        · rw [List.append_assoc]; exact ea
      | false =>
        refine iteF ?_
        have xx := x3.trans x4
        exact ⟨G4, acc, accD, rest, xc.trans xx, ex_none xx gD hDc, x4.hh _ _ (x3.hh _ _ hDc), lc.up xx.gg, by omega, ec, ea⟩
  · have ei : i = xs.length := by omega
    refine .inl ⟨y.stop i Gc Hc xc.gg xc.hh xc.gh ei, ?_⟩
    rw [List.drop_eq_nil_of_le (by omega)] at ec
    cases ec
    rw [List.append_nil] at ea
    subst ea
    exact k Dp acc Gc Hc (x1.trans xc) (x1.hh.free hD) gD hDc lc
variable {elt : Expr} {ifs : List Expr} {scope : Scope} {own : List (Str × Nat)} {fi : VL.Env → Option (List D)} {ts : List Nat} {ft : D → VL.Env → Option VL.Env} {fc : VL.Env → Option Bool} {fe : VL.Env → Option D}
theorem l_comp (hc : X.calm = true) (hN : X.N.Nodup) (hi : IC X tg iter fi) (ok : BlkOk X.N X.env.scope scope own) (hts : ∀ i ∈ ts, i ∈ own.map (·.2))
    (hg : ∀ (s : Shared) (H : Hp) (C : Addr) (cl : List (Str × Addr)) (fp : List Addr), TG1 (X.blk s H scope (compEnvC scope cl C X.env) fp) tg ts ft)
    (ht : ∀ (s : Shared) (H : Hp) (C : Addr) (cl : List (Str × Addr)) (fp : List Addr), TBs (X.blk s H scope (compEnvC scope cl C X.env) fp) ifs fc)
    (he : ∀ (s : Shared) (H : Hp) (C : Addr) (cl : List (Str × Addr)) (fp : List Addr), PV (X.blk s H scope (compEnvC scope cl C X.env) fp) elt fe) (hs : ∀ x, foldedSetIterable iter X.env x = pure x := by intro _; rfl) :
    PL X (.ListComp elt [⟨tg, iter, ifs, 0⟩] scope pos) (fun env => (fi env).bind (compD ft fc fe (wipeE env (own.map (·.2))))) := by
  obtain ⟨wi, p, o⟩ := hi.ex
  exact ⟨_, pe_lc hc hN p ok (fun s H C cl fp => (hg s H C cl fp).c) (fun s H C cl fp => (ht s H C cl fp).c) (fun s H C cl fp => (he s H C cl fp).c) hs, lc_ok o hts⟩

end
end VL

set_option Elab.async false
set_option linter.all false
set_option maxRecDepth 100000
/-! VL6: statements, bodies, defs. -/
namespace VL
open PySem PySem.Spec PyProof.Rows L2

/-! ### freezing -/
def frzG (G H : Hp) (l : List Addr) : Hp := fun a => if a ∈ l then H a else G a
theorem frzG_up {G H : Hp} {l : List Addr} (off : ∀ a ∈ l, G a = none) : Same G (frzG G H l) := fun b o e => by
  unfold frzG
  by_cases m : b ∈ l
  · rw [off b m] at e; cases e
  · rw [if_neg m]; exact e
theorem frzG_in {G H : Hp} {l : List Addr} (s : Same G H) : Same (frzG G H l) H := fun b o e => by
  unfold frzG at e
  split at e
  · exact e
  · exact s _ _ e
theorem frzG_rp {K : PySem.W.Frag} {G H : Hp} {v : V} {s : S} {l : List Addr} (h : SlR K G H v s l) (n : s.noOb = true) (off : ∀ a ∈ l, G a = none) : Rp K (frzG G H l) v s.er := by
  refine SlR.view (Same.refl _) s v l n (SlR.mono (frzG_up off) s v l (fun a m => ?_) h)
  unfold frzG; rw [if_pos m]
theorem frzG_ex {G H G' H' : Hp} {l : List Addr} (x : Ex G H G' H') (fr : ∀ a ∈ l, H a = none ∧ G' a = none) : Ex G H (frzG G' H' l) H' :=
  ⟨x.hh, x.gg.trans (frzG_up fun a m => (fr a m).2), frzG_in x.gh, fun b e => by
    unfold frzG at e
    split at e
    · rename_i m; exact .inr (fr b m).1
    · exact x.nw b e⟩
def frS (s : S) : Option D := if s.noOb then some s.er else none
@[simp] theorem frS_fz (d : D) : frS (.fz d) = some d := rfl
theorem frS_some {s : S} {d : D} (h : frS s = some d) : s.noOb = true ∧ s.er = d := by
  unfold frS at h
  split at h
  · rename_i n; cases h; exact ⟨n, rfl⟩
  · cases h
theorem PO.v {X : Cx} {e : Expr} {f : VL.Env → Option S} (h : PO X e f) : PV X e (fun env => (f env).bind frS) := by
  obtain ⟨t, p, o⟩ := h.ex
  refine ⟨t, p, fun G H st env F Q d r e k => ?_⟩
  obtain ⟨s, e1, e2⟩ := Option.bind_eq_some_iff.mp e
  obtain ⟨n, rfl⟩ := frS_some e2
  exact o G H st env F Q s r e1 fun v G' H' Fv x h nd fr => k v _ H' (frzG_ex x fr) (frzG_rp h n fun a m => (fr a m).2)

/-! ### the context of a body -/
structure C0 where
  G : Hp
  H : Hp
  O : Addr → Prop
structure CR (c : C0) (G H : Hp) (F : Nat → List Addr) : Prop where
  g0 : Same c.G G
  gnew : ∀ b, G b ≠ none → c.G b ≠ none ∨ c.H b = none ∨ c.O b
  keep : ∀ b o, c.H b = some o → ¬ c.O b → H b = some o
  own : ∀ i a, a ∈ F i → c.H a = none ∨ c.O a
theorem CR.new {c : C0} {G H : Hp} {F : Nat → List Addr} (r : CR c G H F) {a : Addr} (h : H a = none) : c.H a = none ∨ c.O a := by
  by_cases q : c.O a
  · exact .inr q
  · cases z : c.H a with
    | none => exact .inl rfl
    | some o => rw [r.keep a o z q] at h; cases h
theorem CR.ext {c : C0} {G H G' H' : Hp} {F : Nat → List Addr} (r : CR c G H F) (x : Ex G H G' H') : CR c G' H' F :=
  ⟨r.g0.trans x.gg, fun b e => (x.nw b e).elim (r.gnew b) fun z => .inr (r.new z), fun b o e q => x.hh _ _ (r.keep b o e q), r.own⟩
theorem CR.sub {c : C0} {G H : Hp} {F F' : Nat → List Addr} (r : CR c G H F) (h : ∀ i a, a ∈ F' i → a ∈ F i) : CR c G H F' := ⟨r.g0, r.gnew, r.keep, fun i a m => r.own i a (h i a m)⟩
def re (G H : Hp) (F : Nat → List Addr) : C0 := ⟨G, H, fun a => ∃ i, a ∈ F i⟩
theorem CR.re {G H : Hp} {F : Nat → List Addr} : CR (VL.re G H F) G H F := ⟨Same.refl _, fun b e => .inl e, fun b o e _ => e, fun i a m => .inr ⟨i, m⟩⟩
theorem CR.trans {c : C0} {G H G' H' : Hp} {F F' : Nat → List Addr} (a : CR c G H F) (b : CR (VL.re G H F) G' H' F') : CR c G' H' F' := by
  refine ⟨a.g0.trans b.g0, fun x e => ?_, fun x o e q => b.keep x o (a.keep x o e q) fun ⟨i, m⟩ => ?_, fun i x m => ?_⟩
  · rcases b.gnew x e with z | z | ⟨i, m⟩
    · exact a.gnew x z
    · exact .inr (a.new z)
    · exact .inr (a.own i x m)
  · rcases a.own i x m with z | z
    · rw [z] at e; cases e
    · exact q z
  · rcases b.own i x m with z | ⟨j, m'⟩
    · exact a.new z
    · exact a.own j x m'
inductive Out where
  | nx (env : VL.Env)
  | rt (s : S) (env : VL.Env)
  | bk (env : VL.Env)
  | ct (env : VL.Env)
def Post (K : PySem.W.Frag) (c : C0) (E : Ends) : Out → Prop
  | .nx env => ∀ (G H : Hp) (st : L2.St) (F : Nat → List Addr), ER K G H st env F → CR c G H F → E.nx st H
  | .bk env => ∀ (G H : Hp) (st : L2.St) (F : Nat → List Addr), ER K G H st env F → CR c G H F → E.bk st H
  | .ct env => ∀ (G H : Hp) (st : L2.St) (F : Nat → List Addr), ER K G H st env F → CR c G H F → E.ct st H
  | .rt s env => ∀ (v : V) (G H : Hp) (st : L2.St) (F : Nat → List Addr) (l : List Addr), ER K G H st env F → CR c G H F → SlR K G H v s l → l.Nodup →
      (∀ a ∈ l, G a = none ∧ (c.H a = none ∨ c.O a)) → (∀ i a, a ∈ l → a ∉ F i) → E.rt v H
theorem Post.re {K : PySem.W.Frag} {c : C0} {E : Ends} {G H : Hp} {F : Nat → List Addr} (r : CR c G H F) : ∀ {o : Out}, Post K c E o → Post K (VL.re G H F) E o
  | .nx env, h => fun G' H' st F' e q => h G' H' st F' e (r.trans q)
  | .bk env, h => fun G' H' st F' e q => h G' H' st F' e (r.trans q)
  | .ct env, h => fun G' H' st F' e q => h G' H' st F' e (r.trans q)
  | .rt s env, h => fun v G' H' st F' l e q sl nd fr dj => h v G' H' st F' l e (r.trans q) sl nd (fun a m => ⟨(fr a m).1, by
      rcases (fr a m).2 with z | ⟨i, m'⟩
      · exact r.new z
      · exact r.own i a m'⟩) dj
def OkT (K : PySem.W.Frag) (f : VL.Env → Option Out) (t : TS) : Prop :=
  ∀ (c : C0) (G H : Hp) (st : L2.St) (env : VL.Env) (F : Nat → List Addr) (E : Ends) (o : Out), ER K G H st env F → CR c G H F → f env = some o → Post K c E o → t E st H
structure SV (X : Cx) (st : Stmt) (f : VL.Env → Option Out) : Prop where
  ex : ∃ t, PS X st t ∧ OkT X.K f t
structure BV (X : Cx) (st : List Stmt) (f : VL.Env → Option Out) : Prop where
  ex : ∃ t, PSs X st t ∧ OkT X.K f t

/-! ### blocks -/
@[simp] def sNx : VL.Env → Option Out := fun env => some (.nx env)
def sq (f g : VL.Env → Option Out) : VL.Env → Option Out := fun env => (f env).bind fun o => match o with
  | .nx e => g e
  | o => some o
section
variable {X : Cx} {pos : Pos} {st : Stmt} {sts : List Stmt} {f g : VL.Env → Option Out}
theorem b_nil : BV X [] sNx := ⟨_, pss_nil, fun c G H s env F E o r q e k => by cases e; exact k G H s F r q⟩
theorem b_one (h : SV X st f) : BV X [st] f := by
  obtain ⟨t, p, o⟩ := h.ex
  exact ⟨t, pss_one p, o⟩
theorem b_cons (h : SV X st f) (h' : BV X sts g) : BV X (st :: sts) (sq f g) := by
  obtain ⟨t, p, o⟩ := h.ex
  obtain ⟨t', p', o'⟩ := h'.ex
  refine ⟨_, pss_cons p p', fun c G H s env F E u r q e k => ?_⟩
  obtain ⟨z, e1, e2⟩ := Option.bind_eq_some_iff.mp e
  refine o c G H s env F _ z r q e1 ?_
  cases z with
  | nx e' => exact fun G' H' s' F' r' q' => o' c G' H' s' e' F' E u r' q' e2 k
  | rt v e' => cases e2; exact k
  | bk e' => cases e2; exact k
  | ct e' => cases e2; exact k
/-- what the proof does on its own side ahead of a statement: a slot is frozen -/
def frzE (i : Nat) (env : VL.Env) : Option VL.Env := (getS env i).bind fun s => (frS s).map fun d => env.set i (some (.fz d))
theorem ER.freeze {K : PySem.W.Frag} {G H : Hp} {s : L2.St} {env env' : VL.Env} {F : Nat → List Addr} {i : Nat} (r : ER K G H s env F) (e : frzE i env = some env') : ∃ G', ER K G' H s env' (putFp F i []) ∧ Same G G' ∧ (∀ b, G' b ≠ none → G b ≠ none ∨ b ∈ F i) := by
  obtain ⟨z, e1, e2⟩ := Option.bind_eq_some_iff.mp e
  obtain ⟨d, e3, e4⟩ := Option.map_eq_some_iff.mp e2
  subst e4
  obtain ⟨n, rfl⟩ := frS_some e3
  have ei := getS_some e1
  obtain ⟨v, h1, h2⟩ := r.slot i z ei
  have hi : i < env.length := (List.getElem?_eq_some_iff.mp ei).1
  have up := frzG_up (H := H) (r.off i)
  refine ⟨frzG G H (F i), ⟨frzG_in r.sub, by rw [List.length_set]; exact r.len, fun j t e => ?_, fun j hj => ?_, fun j a m => ?_, fun j => ?_, fun j k a m m' => ?_⟩, up, fun b e => ?_⟩
  · rcases get_set e with ⟨rfl, _, e⟩ | ⟨ne, e⟩
    · cases e
      refine ⟨v, h1, ?_⟩
      unfold putFp; rw [if_pos rfl]
      exact .fz (frzG_rp h2 n (r.off j))
    · obtain ⟨w, h3, h4⟩ := r.slot j t e
      refine ⟨w, h3, ?_⟩
      unfold putFp; rw [if_neg ne]
      exact SlR.mono up t w _ (fun _ _ => rfl) h4
  · unfold putFp
    by_cases c : j = i
    · rw [if_pos c]
    · rw [if_neg c]
      exact r.out j fun t e => hj t (by rw [List.getElem?_set_ne (Ne.symm c)]; exact e)
  · unfold putFp at m
    split at m
    · cases m
    · rename_i c
      unfold frzG
      rw [if_neg fun z => c (r.dj j i a m z)]
      exact r.off j a m
  · unfold putFp
    split
    · exact .nil
    · exact r.nd j
  · unfold putFp at m m'
    split at m <;> split at m'
    · cases m
    · cases m
    · cases m'
    · exact r.dj j k a m m'
  · unfold frzG at e
    split at e
    · rename_i m; exact .inr m
    · exact .inl e
theorem CR.freeze {c : C0} {G H G' : Hp} {F : Nat → List Addr} {i : Nat} (r : CR c G H F) (u : Same G G') (n : ∀ b, G' b ≠ none → G b ≠ none ∨ b ∈ F i) : CR c G' H (putFp F i []) :=
  ⟨r.g0.trans u, fun b e => (n b e).elim (r.gnew b) fun m => .inr (r.own i b m), r.keep, fun j a m => r.own j a (putFp_sub m)⟩
theorem OkT.freeze {K : PySem.W.Frag} {t : TS} (i : Nat) (h : OkT K f t) : OkT K (fun env => (frzE i env).bind f) t := fun c G H s env F E o r q e k => by
  obtain ⟨env', e1, e2⟩ := Option.bind_eq_some_iff.mp e
  obtain ⟨G', r', u, n⟩ := r.freeze e1
  exact h c G' H s env' _ E o r' (q.freeze u n) e2 k
theorem s_freeze (i : Nat) (h : SV X st f) : SV X st (fun env => (frzE i env).bind f) := by
  obtain ⟨t, p, o⟩ := h.ex
  exact ⟨t, p, o.freeze i⟩
theorem b_freeze (i : Nat) (h : BV X sts f) : BV X sts (fun env => (frzE i env).bind f) := by
  obtain ⟨t, p, o⟩ := h.ex
  exact ⟨t, p, o.freeze i⟩

/-! ### small statements -/
variable {e : Expr} {fe : VL.Env → Option D} {fo : VL.Env → Option S} {fl : VL.Env → Option (List D)} {fc : VL.Env → Option Bool}
theorem s_pass : SV X (.Pass pos) sNx := ⟨_, ps_pass, fun c G H s env F E o r q e k => by cases e; exact k G H s F r q⟩
theorem s_break : SV X (.Break pos) (fun env => some (.bk env)) := ⟨_, ps_break, fun c G H s env F E o r q e k => by cases e; exact k G H s F r q⟩
theorem s_continue : SV X (.Continue pos) (fun env => some (.ct env)) := ⟨_, ps_continue, fun c G H s env F E o r q e k => by cases e; exact k G H s F r q⟩
@[simp] def sSet (i : Nat) (fe : VL.Env → Option D) : VL.Env → Option Out := fun env => (fe env).map fun d => .nx (env.set i (some (.fz d)))
@[simp] def sSetO (i : Nat) (fo : VL.Env → Option S) : VL.Env → Option Out := fun env => (fo env).map fun d => .nx (env.set i (some d))
theorem okSet {K : PySem.W.Frag} {te : TE} {i : Nat} (o : ∀ (G H : Hp) (st : L2.St) (env : VL.Env) (F : Nat → List Addr) (Q : VK) (d : D), ER K G H st env F → fe env = some d → (∀ v G' H', Ex G H G' H' → Rp K G' v d → Q v H') → te st H Q) :
    OkT K (sSet i fe) (tAsg te (gName i)) := fun c G H s env F E u r q e k => by
  obtain ⟨d, e1, e2⟩ := Option.map_eq_some_iff.mp e
  subst e2
  exact o G H s env F _ d r e1 fun v G' H' x rv => k G' H' _ _ ((r.ext x).setF i rv) ((q.ext x).sub fun j a m => putFp_sub m)
theorem okSetO {K : PySem.W.Frag} {te : TE} {i : Nat} (o : ∀ (G H : Hp) (st : L2.St) (env : VL.Env) (F : Nat → List Addr) (Q : VK) (s : S), ER K G H st env F → fo env = some s →
      (∀ v G' H' Fv, Ex G H G' H' → SlR K G' H' v s Fv → Fv.Nodup → (∀ a ∈ Fv, H a = none ∧ G' a = none) → Q v H') → te st H Q) :
    OkT K (sSetO i fo) (tAsg te (gName i)) := fun c G H s env F E u r q e k => by
  obtain ⟨d, e1, e2⟩ := Option.map_eq_some_iff.mp e
  subst e2
  refine o G H s env F _ d r e1 fun v G' H' l x rv nd fr => ?_
  by_cases hi : i < env.length
  · refine k G' H' _ _ ((r.ext x).setO i rv nd (fun a m => (fr a m).2) (fun j _ a m m' => ?_) hi) ⟨(q.ext x).g0, (q.ext x).gnew, (q.ext x).keep, fun j a m => ?_⟩
    · obtain ⟨o, z⟩ := r.dom m'
      rw [(fr a m).1] at z; cases z
    · unfold putFp at m
      split at m
      · exact q.new (fr a m).1
      · exact q.own j a m
  · have e1 : env.set i (some d) = env := List.set_eq_of_length_le (by omega)
    have e2 : s.set i (some v) = s := List.set_eq_of_length_le (by rw [← r.len]; omega)
    show E.nx (s.set i (some v)) H'
    rw [e2]
    have k' : ∀ (G H : Hp) (st : L2.St) (F : Nat → List Addr), ER K G H st env F → CR c G H F → E.nx st H := by rw [e1] at k; exact k
    exact k' G' H' s F (r.ext x) (q.ext x)
theorem s_set (i : Nat) {x : Str} {pos' : Pos} (hN : X.N.Nodup) (he : PV X e fe) (hi : X.N[i]? = some x := by rfl) (hx : Loc X.env.scope x := by first | exact Or.inl rfl | exact Or.inr rfl) (hs : swapsWith e (some (.Name x pos')) pos.line X.env = pure false := by rfl)
    (hf : X.fn x = true ∨ X.env.scope.names.lookup x = some .local := by first | exact .inl rfl | exact .inr rfl) : SV X (.Assign [.Name x pos'] e pos) (sSet i fe) := by
  obtain ⟨t, p, o⟩ := he.ex
  exact ⟨_, ps_set hN hi hx p hs hf, okSet o⟩
theorem s_setO (i : Nat) {x : Str} {pos' : Pos} (hN : X.N.Nodup) (he : PO X e fo) (hi : X.N[i]? = some x := by rfl) (hx : Loc X.env.scope x := by first | exact Or.inl rfl | exact Or.inr rfl) (hs : swapsWith e (some (.Name x pos')) pos.line X.env = pure false := by rfl)
    (hf : X.fn x = true ∨ X.env.scope.names.lookup x = some .local := by first | exact .inl rfl | exact .inr rfl) : SV X (.Assign [.Name x pos'] e pos) (sSetO i fo) := by
  obtain ⟨t, p, o⟩ := he.ex
  exact ⟨_, ps_set hN hi hx p hs hf, okSetO o⟩
/-- name = [..] -/
theorem okL_v {K : PySem.W.Frag} {te : TE} (o : OkL K fl te) : ∀ (G H : Hp) (st : L2.St) (env : VL.Env) (F : Nat → List Addr) (Q : VK) (d : D), ER K G H st env F → (fl env).map D.lst = some d → (∀ v G' H', Ex G H G' H' → Rp K G' v d → Q v H') → te st H Q := fun G H st env F Q d r e k => by
  obtain ⟨ds, q, e2⟩ := Option.map_eq_some_iff.mp e
  subst e2
  refine o G H st env F Q ds r q fun p vs G' H' x hp gp e' l => ?_
  have x2 := frzG_ex (l := [p]) x (fun a m => by cases List.mem_singleton.mp m; exact ⟨hp, gp⟩)
  refine k _ _ _ x2 (.lst (by unfold frzG; rw [if_pos (List.mem_singleton.mpr rfl)]; exact e') (l.up (frzG_up fun a m => by cases List.mem_singleton.mp m; exact gp)))
theorem okL_o {K : PySem.W.Frag} {te : TE} (o : OkL K fl te) : ∀ (G H : Hp) (st : L2.St) (env : VL.Env) (F : Nat → List Addr) (Q : VK) (s : S), ER K G H st env F → (fl env).map (fun ds => S.ol (ds.map S.fz)) = some s →
    (∀ v G' H' Fv, Ex G H G' H' → SlR K G' H' v s Fv → Fv.Nodup → (∀ a ∈ Fv, H a = none ∧ G' a = none) → Q v H') → te st H Q := fun G H st env F Q s r e k => by
  obtain ⟨ds, q, e2⟩ := Option.map_eq_some_iff.mp e
  subst e2
  exact o G H st env F Q ds r q fun p vs G' H' x hp gp e' l => k _ _ _ [p] x (.ol e' (slRs_fz l)) (by simp) fun a m => by cases List.mem_singleton.mp m; exact ⟨hp, gp⟩
variable {elt tg iter : Expr} {ifs : List Expr} {scope : Scope} {own : List (Str × Nat)} {fi : VL.Env → Option (List D)} {ts : List Nat} {ft : D → VL.Env → Option VL.Env}
theorem lc_parts (hi : IC X tg iter fi) (hts : ∀ i ∈ ts, i ∈ own.map (·.2))
    (hg : ∀ (s : Shared) (H : Hp) (C : Addr) (cl : List (Str × Addr)) (fp : List Addr), TG1 (X.blk s H scope (compEnvC scope cl C X.env) fp) tg ts ft)
    (ht : ∀ (s : Shared) (H : Hp) (C : Addr) (cl : List (Str × Addr)) (fp : List Addr), TBs (X.blk s H scope (compEnvC scope cl C X.env) fp) ifs fc)
    (he : ∀ (s : Shared) (H : Hp) (C : Addr) (cl : List (Str × Addr)) (fp : List Addr), PV (X.blk s H scope (compEnvC scope cl C X.env) fp) elt fe) (hc : X.calm = true) (hN : X.N.Nodup) (ok : BlkOk X.N X.env.scope scope own)
    {i : Nat} {y : Str} {py spos : Pos} (hy : X.N[i]? = some y) (hyl : X.env.scope.names.lookup y = some .local)
    (hsw : swapsWith (.ListComp elt [⟨tg, iter, ifs, 0⟩] scope pos) (some (.Name y py)) spos.line X.env = pure true) (hs : ∀ x, foldedSetIterable iter X.env x = pure x) :
    ∃ te, PS X (.Assign [.Name y py] (.ListComp elt [⟨tg, iter, ifs, 0⟩] scope pos) spos) (tAsg te (gName i)) ∧ OkL X.K (fun env => (fi env).bind (compD ft fc fe (wipeE env (own.map (·.2))))) te := by
  obtain ⟨wi, p, o⟩ := hi.ex
  exact ⟨_, ps_setLc hc hN hy hyl hsw p ok (fun s H C cl fp => (hg s H C cl fp).c) (fun s H C cl fp => (ht s H C cl fp).c) (fun s H C cl fp => (he s H C cl fp).c) hs, lc_ok o hts⟩
theorem s_setC (i : Nat) {y : Str} {py spos : Pos} (hc : X.calm = true) (hN : X.N.Nodup) (hi : IC X tg iter fi) (ok : BlkOk X.N X.env.scope scope own) (hts : ∀ i ∈ ts, i ∈ own.map (·.2))
    (hg : ∀ (s : Shared) (H : Hp) (C : Addr) (cl : List (Str × Addr)) (fp : List Addr), TG1 (X.blk s H scope (compEnvC scope cl C X.env) fp) tg ts ft)
    (ht : ∀ (s : Shared) (H : Hp) (C : Addr) (cl : List (Str × Addr)) (fp : List Addr), TBs (X.blk s H scope (compEnvC scope cl C X.env) fp) ifs fc)
    (he : ∀ (s : Shared) (H : Hp) (C : Addr) (cl : List (Str × Addr)) (fp : List Addr), PV (X.blk s H scope (compEnvC scope cl C X.env) fp) elt fe)
    (hsw : swapsWith (.ListComp elt [⟨tg, iter, ifs, 0⟩] scope pos) (some (.Name y py)) spos.line X.env = pure true) (hy : X.N[i]? = some y := by rfl) (hyl : X.env.scope.names.lookup y = some .local := by rfl)
    (hs : ∀ x, foldedSetIterable iter X.env x = pure x := by intro _; rfl) :
    SV X (.Assign [.Name y py] (.ListComp elt [⟨tg, iter, ifs, 0⟩] scope pos) spos) (sSet i fun env => ((fi env).bind (compD ft fc fe (wipeE env (own.map (·.2))))).map D.lst) := by
  obtain ⟨te, p, o⟩ := lc_parts (fi := fi) hi hts hg ht he hc hN ok hy hyl hsw hs
  exact ⟨_, p, okSet (okL_v o)⟩
theorem s_setCO (i : Nat) {y : Str} {py spos : Pos} (hc : X.calm = true) (hN : X.N.Nodup) (hi : IC X tg iter fi) (ok : BlkOk X.N X.env.scope scope own) (hts : ∀ i ∈ ts, i ∈ own.map (·.2))
    (hg : ∀ (s : Shared) (H : Hp) (C : Addr) (cl : List (Str × Addr)) (fp : List Addr), TG1 (X.blk s H scope (compEnvC scope cl C X.env) fp) tg ts ft)
    (ht : ∀ (s : Shared) (H : Hp) (C : Addr) (cl : List (Str × Addr)) (fp : List Addr), TBs (X.blk s H scope (compEnvC scope cl C X.env) fp) ifs fc)
    (he : ∀ (s : Shared) (H : Hp) (C : Addr) (cl : List (Str × Addr)) (fp : List Addr), PV (X.blk s H scope (compEnvC scope cl C X.env) fp) elt fe)
    (hsw : swapsWith (.ListComp elt [⟨tg, iter, ifs, 0⟩] scope pos) (some (.Name y py)) spos.line X.env = pure true) (hy : X.N[i]? = some y := by rfl) (hyl : X.env.scope.names.lookup y = some .local := by rfl)
    (hs : ∀ x, foldedSetIterable iter X.env x = pure x := by intro _; rfl) :
    SV X (.Assign [.Name y py] (.ListComp elt [⟨tg, iter, ifs, 0⟩] scope pos) spos) (sSetO i fun env => ((fi env).bind (compD ft fc fe (wipeE env (own.map (·.2))))).map fun ds => S.ol (ds.map S.fz)) := by
  obtain ⟨te, p, o⟩ := lc_parts (fi := fi) hi hts hg ht he hc hN ok hy hyl hsw hs
  exact ⟨_, p, okSetO (okL_o o)⟩
/-- targets -/
@[simp] def sTg (ft : D → VL.Env → Option VL.Env) (fe : VL.Env → Option D) : VL.Env → Option Out := fun env => (fe env).bind fun d => (ft d env).map .nx
theorem s_tg (he : PV X e fe) (hg : TG1 X tg ts ft) (hs : swapsWithSole [tg] e pos.line X.env = pure false := by rfl) (hw : swappedStores [tg] e X.env = pure none := by rfl)
    (h1 : (assignEach [tg] X.env).map (·.2) = [assign tg X.env] := by rfl) : SV X (.Assign [tg] e pos) (sTg ft fe) := by
  obtain ⟨t, p, o⟩ := he.ex
  obtain ⟨g, pg, og⟩ := hg.ex
  refine ⟨_, ps_asg p pg hs hw h1, fun c G H s env F E u r q e k => ?_⟩
  obtain ⟨d, e1, e2⟩ := Option.bind_eq_some_iff.mp e
  obtain ⟨env', e3, e4⟩ := Option.map_eq_some_iff.mp e2
  subst e4
  exact o G H s env F _ d r e1 fun v G' H' x rv => og G' H' s env F v d env' _ (r.ext x) rv e3 fun st' F' r' sb _ => k G' H' st' F' r' ((q.ext x).sub sb)
/-- a, b = x, y -/
@[simp] def sPar (i j : Nat) (fs : VL.Env → Option (List D)) : VL.Env → Option Out := fun env => (fs env).bind fun ds => match ds with
  | [d, e] => some (.nx ((env.set i (some (.fz d))).set j (some (.fz e))))
  | _ => none
theorem s_par {i j : Nat} {x y : Str} {a b : Expr} {fs : VL.Env → Option (List D)} {px py pt : Pos} {kt k2 pt2} (hc : X.calm = true) (hN : X.N.Nodup) (ha : AV X [a, b] fs) (hij : i ≠ j) (hi : X.N[i]? = some x := by rfl) (hj : X.N[j]? = some y := by rfl)
    (hx : X.env.scope.names.lookup x = some .local := by rfl) (hy : X.env.scope.names.lookup y = some .local := by rfl)
    (hw : swappedStores [.Tuple [.Name x px, .Name y py] kt pt] (.Tuple [a, b] k2 pt2) X.env = pure (some [x, y]) := by rfl)
    (hs : swapsWithSole [.Tuple [.Name x px, .Name y py] kt pt] (.Tuple [a, b] k2 pt2) pos.line X.env = pure false := by rfl) :
    SV X (.Assign [.Tuple [.Name x px, .Name y py] kt pt] (.Tuple [a, b] k2 pt2) pos) (sPar i j fs) := by
  obtain ⟨t, p, o⟩ := ha.ex
  refine ⟨_, ps_par hc hN hi hj hij hx hy p hw hs, fun c G H s env F E u r q e k => ?_⟩
  obtain ⟨ds, e1, e2⟩ := Option.bind_eq_some_iff.mp e
  split at e2
  · cases e2
    refine o G H s env F _ _ r e1 fun vs G' H' x rv => ?_
    cases rv with
    | cons r1 r2 =>
      cases r2 with
      | cons r2 r3 =>
        cases r3
        exact ⟨_, _, rfl, k G' H' _ _ (((r.ext x).setF i r1).setF j r2) ((q.ext x).sub fun j a m => putFp_sub (putFp_sub m))⟩
  · cases e2
@[simp] def sIf (c : VL.Env → Option Bool) (f g : VL.Env → Option Out) : VL.Env → Option Out := fun env => (c env).bind fun b => if b then f env else g env
theorem s_if {cnd : Expr} {a b : List Stmt} (hc : TB X cnd fc) (ha : BV X a f) (hb : BV X b g) : SV X (.If cnd a b pos) (sIf fc f g) := by
  obtain ⟨tc, pc, oc⟩ := hc.ex
  obtain ⟨t, p, o⟩ := ha.ex
  obtain ⟨t', p', o'⟩ := hb.ex
  refine ⟨_, ps_if pc p p', fun c G H s env F E u r q e k => ?_⟩
  obtain ⟨x, e1, e2⟩ := Option.bind_eq_some_iff.mp e
  refine oc G H s env F _ x r e1 fun G' H' y => ?_
  cases x with
  | true => exact iteT (o c G' H' s env F E u (r.ext y) (q.ext y) e2 k)
  | false => exact iteF (o' c G' H' s env F E u (r.ext y) (q.ext y) e2 k)
@[simp] def sRet (fe : VL.Env → Option D) : VL.Env → Option Out := fun env => (fe env).map fun d => .rt (.fz d) env
@[simp] def sRetO (fo : VL.Env → Option S) : VL.Env → Option Out := fun env => (fo env).map fun s => .rt s env
theorem s_ret (he : PV X e fe) : SV X (.Return (some e) pos) (sRet fe) := by
  obtain ⟨t, p, o⟩ := he.ex
  refine ⟨_, ps_ret p, fun c G H s env F E u r q e k => ?_⟩
  obtain ⟨d, e1, e2⟩ := Option.map_eq_some_iff.mp e
  subst e2
  exact o G H s env F _ d r e1 fun v G' H' x rv => k v G' H' s F [] (r.ext x) (q.ext x) (.fz rv) .nil (fun a m => by cases m) (fun i a m => by cases m)
theorem s_retO (he : PO X e fo) : SV X (.Return (some e) pos) (sRetO fo) := by
  obtain ⟨t, p, o⟩ := he.ex
  refine ⟨_, ps_ret p, fun c G H s env F E u r q e k => ?_⟩
  obtain ⟨d, e1, e2⟩ := Option.map_eq_some_iff.mp e
  subst e2
  refine o G H s env F _ d r e1 fun v G' H' l x rv nd fr => k v G' H' s F l (r.ext x) (q.ext x) rv nd (fun a m => ⟨(fr a m).2, q.new (fr a m).1⟩) (fun i a m m' => ?_)
  obtain ⟨o, z⟩ := r.dom m'
  rw [(fr a m).1] at z; cases z
/-- return of an owned name: it is moved out -/
@[simp] def sRetN (i : Nat) : VL.Env → Option Out := fun env => (getS env i).map fun s => .rt s (env.set i none)
theorem s_retN (i : Nat) {x : Str} {xpos : Pos} (hN : X.N[i]? = some x := by rfl) (hv : Vis X.env.scope x := by first | exact Or.inl rfl | exact Or.inr (Or.inl rfl) | exact Or.inr (Or.inr rfl))
    (hd : (x == ("__debug__" : Str)) = false := by decide) (hcd : (x == ("__classdict__" : Str)) = false := by decide) : SV X (.Return (some (.Name x xpos)) pos) (sRetN i) := by
  refine ⟨_, ps_ret (pe_var hN hv hd hcd), fun c G H s env F E u r q e k => ?_⟩
  obtain ⟨d, e1, e2⟩ := Option.map_eq_some_iff.mp e
  subst e2
  obtain ⟨v, h1, h2⟩ := r.slot i d (getS_some e1)
  refine ⟨v, h1, k v G H s (putFp F i []) (F i) (r.hide i) (q.sub fun j a m => putFp_sub m) h2 (r.nd i) (fun a m => ⟨r.off i a m, q.own i a m⟩) (fun j a m m' => ?_)⟩
  unfold putFp at m'
  split at m'
  · cases m'
  · rename_i c
    exact c (r.dj j i a m' m)
theorem s_retNone : SV X (.Return none pos) (fun env => some (.rt (.fz .non) env)) := by
  refine ⟨_, ps_retN, fun c G H s env F E u r q e k => ?_⟩
  cases e
  exact k .non G H s F [] r q (.fz .non) .nil (fun a m => by cases m) (fun i a m => by cases m)
/-- n += e, whole numbers -/
@[simp] def sAug (i : Nat) (g : Int → Int → Int) (fe : VL.Env → Option D) : VL.Env → Option Out := fun env => (getF env i).bind fun x => (intOf x).bind fun a => (fe env).bind fun y => (intOf y).map fun b => .nx (env.set i (some (.fz (.int (g a b)))))
theorem s_aug (i : Nat) {x : Str} {pos' : Pos} {op : Operator} {gg : Int → Int → Int} (hN : X.N.Nodup) (he : PV X e fe) (ho : PIp X op (ipI gg)) (hi : X.N[i]? = some x := by rfl) (hx : Loc X.env.scope x := by first | exact Or.inl rfl | exact Or.inr rfl)
    (hf : X.fn x = true ∨ X.env.scope.names.lookup x = some .local := by first | exact .inl rfl | exact .inr rfl) : SV X (.AugAssign (.Name x pos') op e pos) (sAug i gg fe) := by
  obtain ⟨t, p, o⟩ := he.ex
  refine ⟨_, ps_aug hN hi hx p ho hf, fun c G H s env F E u r q e k => ?_⟩
  obtain ⟨d, e1, e⟩ := Option.bind_eq_some_iff.mp e
  obtain ⟨a, e2, e⟩ := Option.bind_eq_some_iff.mp e
  obtain ⟨d', e3, e⟩ := Option.bind_eq_some_iff.mp e
  obtain ⟨b, e4, e5⟩ := Option.map_eq_some_iff.mp e
  subst e5
  obtain rfl := intOf_some e2
  obtain rfl := intOf_some e4
  obtain ⟨v, h1, h2⟩ := r.fz (getF_some e1)
  cases h2
  refine ⟨_, h1, o G H s env F _ _ r e3 fun w G' H' y rw' => ?_⟩
  cases rw'
  exact ⟨a, b, rfl, rfl, k G' H' _ _ ((r.ext y).setF i (.int _)) ((q.ext y).sub fun j a m => putFp_sub m)⟩

/-! ### a slot's own thing changed -/
theorem ER.upd {K : PySem.W.Frag} {G H H' : Hp} {s : L2.St} {env : VL.Env} {F : Nat → List Addr} (r : ER K G H s env F) {i : Nat} {v : V} {z : S} {l : List Addr} (hv : s[i]? = some (some v))
    (ag : ∀ b, b ∉ F i → H' b = H b ∨ H b = none) (h : SlR K G H' v z l) (nd : l.Nodup) (hl : ∀ a ∈ l, a ∈ F i ∨ (G a = none ∧ ∀ j, a ∉ F j)) : ER K G H' s (env.set i (some z)) (putFp F i l) := by
  have hi : i < env.length := by rw [r.len]; exact (List.getElem?_eq_some_iff.mp hv).1
  refine ⟨fun b o e => ?_, by rw [List.length_set]; exact r.len, fun j t e => ?_, fun j hj => ?_, fun j a m => ?_, fun j => ?_, fun j k a m m' => ?_⟩
  · have hb : b ∉ F i := fun m => by rw [r.off i b m] at e; cases e
    rcases ag b hb with q | q
    · rw [q]; exact r.sub _ _ e
    · rw [r.sub _ _ e] at q; cases q
  · rcases get_set e with ⟨rfl, _, e⟩ | ⟨ne, e⟩
    · cases e
      refine ⟨v, hv, ?_⟩
      unfold putFp; rw [if_pos rfl]; exact h
    · obtain ⟨w, h1, h2⟩ := r.slot j t e
      refine ⟨w, h1, ?_⟩
      unfold putFp; rw [if_neg ne]
      refine SlR.mono (Same.refl _) t w _ (fun a m => ?_) h2
      rcases ag a (fun z => ne (r.dj j i a m z)) with q | q
      · exact q
      · obtain ⟨o, z⟩ := r.dom m
        rw [z] at q; cases q
  · unfold putFp
    by_cases c : j = i
    · subst c; exact absurd (List.getElem?_set_self hi) (hj z)
    · rw [if_neg c]
      exact r.out j fun t e => hj t (by rw [List.getElem?_set_ne (Ne.symm c)]; exact e)
  · unfold putFp at m
    split at m
    · rcases hl a m with q | q
      · exact r.off i a q
      · exact q.1
    · exact r.off j a m
  · unfold putFp
    split
    · exact nd
    · exact r.nd j
  · unfold putFp at m m'
    split at m <;> split at m'
    · rename_i c c'; rw [c, c']
    · rename_i c c'
      rcases hl a m with q | q
      · exact absurd (r.dj i k a q m').symm c'
      · exact absurd m' (q.2 k)
    · rename_i c c'
      rcases hl a m' with q | q
      · exact absurd (r.dj i j a q m).symm c
      · exact absurd m (q.2 j)
    · exact r.dj j k a m m'
theorem CR.upd {c : C0} {G H H' : Hp} {F : Nat → List Addr} (r : CR c G H F) {i : Nat} {l : List Addr} (ag : ∀ b, b ∉ F i → H' b = H b ∨ H b = none) (hl : ∀ a ∈ l, a ∈ F i ∨ c.H a = none ∨ c.O a) : CR c G H' (putFp F i l) := by
  refine ⟨r.g0, r.gnew, fun b o e q => ?_, fun j a m => ?_⟩
  · have hb : b ∉ F i := fun m => by
      rcases r.own i b m with z | z
      · rw [z] at e; cases e
      · exact q z
    have := r.keep b o e q
    rcases ag b hb with z | z
    · rw [z]; exact this
    · rw [this] at z; cases z
  · unfold putFp at m
    split at m
    · rcases hl a m with q | q
      · exact r.own i a q
      · exact q
    · exact r.own j a m
theorem SlRs.append {K : PySem.W.Frag} {G H : Hp} : ∀ {xs : List S} {vs : List V} {F : List Addr} {v : V} {s : S} {l : List Addr}, SlRs K G H vs xs F → SlR K G H v s l → SlRs K G H (vs ++ [v]) (xs ++ [s]) (F ++ l)
  | [], _, _, _, _, l, h, h' => by
    cases h
    have := SlRs.cons h' (SlRs.nil (K := K) (G := G) (H := H))
    rw [List.append_nil] at this
    exact this
  | x :: xs, _, _, _, _, _, h, h' => by
    cases h with
    | cons h1 h2 =>
      rw [List.append_assoc]
      exact .cons h1 (SlRs.append h2 h')
theorem SlRs.appendL {K : PySem.W.Frag} {G H : Hp} : ∀ {xs ys : List S} {vs ws : List V} {F l : List Addr}, SlRs K G H vs xs F → SlRs K G H ws ys l → SlRs K G H (vs ++ ws) (xs ++ ys) (F ++ l)
  | [], _, _, _, _, l, h, h' => by cases h; exact h'
  | x :: xs, _, _, _, _, _, h, h' => by
    cases h with
    | cons h1 h2 =>
      rw [List.append_assoc]
      exact .cons h1 (SlRs.appendL h2 h')
/-- x.append(e) at an owned name -/
def appS : S → S → Option S
  | .ol xs, s => if xs.length < sizeLine then some (.ol (xs ++ [s])) else none
  | _, _ => none
theorem appS_some {z s u : S} (h : appS z s = some u) : ∃ xs, z = .ol xs ∧ xs.length < sizeLine ∧ u = .ol (xs ++ [s]) := by
  cases z <;> try (cases h; done)
  unfold appS at h
  dsimp only at h
  split at h
  · rename_i hl; cases h; exact ⟨_, rfl, hl, rfl⟩
  · cases h
@[simp] def sApp (i : Nat) (fo : VL.Env → Option S) : VL.Env → Option Out := fun env => (getS env i).bind fun z => (fo env).bind fun s => (appS z s).map fun u => .nx (env.set i (some u))
theorem s_app (i : Nat) {x : Str} {xpos apos cpos : Pos} (he : PO X e fo) (hN : X.N[i]? = some x := by rfl) (hv : Vis X.env.scope x := by first | exact Or.inl rfl | exact Or.inr (Or.inl rfl) | exact Or.inr (Or.inr rfl))
    (hd : (x == ("__debug__" : Str)) = false := by decide) (hcd : (x == ("__classdict__" : Str)) = false := by decide)
    (hbase : attributeBase (.Name x xpos) "append" X.env (eval (.Name x xpos) X.env) = eval (.Name x xpos) X.env := by rfl)
    (hfew : ((backTo cpos (starEach [e] X.env)).all (fun x => !x.1) && (backToKw cpos (keywordEach [] X.env)).all (fun x => x.1.isSome)
      && decide ([e].length + ([] : List Keyword).length + (if ([] : List Keyword).isEmpty then 0 else 1) < 30)) = true := by rfl)
    (hline : (apos.endLine == cpos.line) = true := by rfl) (hs : starEach [e] X.env = (false, eval e X.env) :: starEach [] X.env := by rfl)
    (hsw : swapsWith (.Call (.Attribute (.Name x xpos) "append" apos) [e] [] cpos) none pos.line X.env = pure false := by rfl) :
    SV X (.Expr (.Call (.Attribute (.Name x xpos) "append" apos) [e] [] cpos) pos) (sApp i fo) := by
  obtain ⟨t, p, o⟩ := he.ex
  refine ⟨_, ps_expr (pe_bm PySem.F.plainAttrs_list PySem.F.slot_list_append PySem.F.type_list_append mt_append (pe_var hN hv hd hcd) (pa_cons p pa_nil hs) hbase hfew hline hs rfl) hsw, fun c G H s env F E u r q e k => ?_⟩
  obtain ⟨z, e1, e⟩ := Option.bind_eq_some_iff.mp e
  obtain ⟨y, e2, e⟩ := Option.bind_eq_some_iff.mp e
  obtain ⟨u', e3, e4⟩ := Option.map_eq_some_iff.mp e
  subst e4
  obtain ⟨xs, rfl, hl, rfl⟩ := appS_some e3
  · obtain ⟨v, h1, h2⟩ := r.slot i _ (getS_some e1)
    have hF : F i = F i := rfl
    generalize hFi : F i = Fi at h2
    cases h2 with
    | @ol pp vs _ Fx g1 g2 =>
      have h2' : SlR X.K G H (.ref pp) (.ol xs) (pp :: Fx) := .ol g1 g2
      refine ⟨.ref pp, h1, .inl ⟨rfl, _, SqL.of g1⟩, o G H s env F _ y r e2 fun w G' H' l x rw' nd fr => ?_⟩
      have r1 := r.ext x
      have q1 := q.ext x
      have hp : H' pp = some (.lst vs) := x.hh _ _ g1
      refine ⟨pp, vs, w, rfl, rfl, hp, by rw [g2.length]; exact hl, ?_⟩
      have dx : ∀ a ∈ Fx, a ∈ F i := fun a m => by rw [hFi]; exact List.mem_cons_of_mem _ m
      have ndi : (pp :: Fx).Nodup := by rw [← hFi]; exact r.nd i
      have fresh : ∀ a ∈ l, ∀ j, a ∉ F j := fun a m j m' => by
        obtain ⟨o, z⟩ := r.dom m'
        rw [(fr a m).1] at z; cases z
      have hppF : pp ∈ F i := by rw [hFi]; exact List.mem_cons_self
      have ag : ∀ b, b ∉ F i → (L2.upd H' pp (.lst (vs ++ [w]))) b = H' b ∨ H' b = none := fun b hb => .inl (upd_ne fun z => hb (by rw [z]; exact hppF))
      have hne : ∀ a ∈ Fx ++ l, a ≠ pp := fun a m z => by
        subst z
        rcases List.mem_append.mp m with m | m
        · exact (List.nodup_cons.mp ndi).1 m
        · exact fresh a m i hppF
      have sx : SlRs X.K G' H' vs xs Fx := SlRs.mono x.gg xs vs Fx (fun a m => by
        obtain ⟨o, z⟩ := SlRs.dom xs vs Fx g2 a m
        rw [z]; exact x.hh _ _ z) g2
      have new : SlR X.K G' (L2.upd H' pp (.lst (vs ++ [w]))) (.ref pp) (.ol (xs ++ [y])) (pp :: (Fx ++ l)) := by
        refine .ol upd_same (SlRs.mono (Same.refl _) _ _ _ (fun a m => upd_ne (hne a m)) (sx.append rw'))
      refine k G' _ s _ (r1.upd h1 ag new ?_ fun a m => ?_) (CR.upd q1 ag fun a m => ?_)
      · refine List.nodup_cons.mpr ⟨fun m => hne pp m rfl, List.nodup_append.mpr ⟨(List.nodup_cons.mp ndi).2, nd, fun a m b m' z => ?_⟩⟩
        subst z
        exact fresh a m' i (dx a m)
      · rcases List.mem_cons.mp m with rfl | m
        · exact .inl hppF
        · rcases List.mem_append.mp m with m | m
          · exact .inl (dx a m)
          · exact .inr ⟨(fr a m).2, fresh a m⟩
      · rcases List.mem_cons.mp m with rfl | m
        · exact .inl hppF
        · rcases List.mem_append.mp m with m | m
          · exact .inl (dx a m)
          · exact .inr (q.new (fr a m).1)
end
end VL

set_option Elab.async false
set_option linter.all false
set_option maxRecDepth 100000
/-! VL7: loops, stores by place, defs and their calls. -/
namespace VL
open PySem PySem.Spec PyProof.Rows L2
/-! ### for -/
def forD (ft : D → VL.Env → Option VL.Env) (fb : VL.Env → Option Out) : List D → VL.Env → Option Out
  | [], env => some (.nx env)
  | d :: ds, env => (ft d env).bind fun e1 => (fb e1).bind fun o => match o with
    | .nx e2 => forD ft fb ds e2
    | .ct e2 => forD ft fb ds e2
    | .bk e2 => some (.nx e2)
    | .rt s e2 => some (.rt s e2)
@[simp] def sFor (fi : VL.Env → Option (List D)) (ft : D → VL.Env → Option VL.Env) (fb : VL.Env → Option Out) : VL.Env → Option Out := fun env => (fi env).bind fun xs => forD ft fb xs env
section
variable {X : Cx} {pos : Pos} {tg iter : Expr} {body : List Stmt} {ts : List Nat} {fi : VL.Env → Option (List D)} {ft : D → VL.Env → Option VL.Env} {fb : VL.Env → Option Out}
theorem s_for (hp : PassesOwn (model X.prog X.w) X.A X.env X.xe) (hc : X.calm = true) (hi : IV X tg iter fi) (hg : TG1 X tg ts ft) (hb : BV X body fb)
    (hs : ∀ x, foldedSetIterable iter X.env x = pure x := by intro _; rfl) : SV X (.For tg iter body [] pos) (sFor fi ft fb) := by
  obtain ⟨wi, pi, oi⟩ := hi.ex
  obtain ⟨g, pg, og⟩ := hg.ex
  obtain ⟨tb, pb, ob⟩ := hb.ex
  refine ⟨_, ps_for hp hc pi pg pb hs, fun c G H s env F E u r q e k => ?_⟩
  obtain ⟨xs, e1, e2⟩ := Option.bind_eq_some_iff.mp e
  refine oi G H s env F _ xs r e1 fun J G1 H1 x1 y => ?_
  refine ⟨fun i m s' Hc => m = xs.length - i ∧ i ≤ xs.length ∧ ∃ Gc env' F' o, ER X.K Gc Hc s' env' F' ∧ CR c Gc Hc F' ∧ Same G1 Gc ∧ forD ft fb (xs.drop i) env' = some o ∧ Post X.K c E o,
    ⟨xs.length, rfl, Nat.zero_le _, G1, env, F, u, r.ext x1, q.ext x1, Same.refl _, e2, k⟩, ?_⟩
  rintro i m s' Hc ⟨em, hi', Gc, env', F', o, r', q', sg, ec, kc⟩
  by_cases hlt : i < xs.length
  · have ed : xs.drop i = xs[i] :: xs.drop (i + 1) := List.drop_eq_getElem_cons hlt
    rw [ed] at ec
    obtain ⟨ea, t1, ec⟩ := Option.bind_eq_some_iff.mp (show (ft xs[i] env').bind _ = some o from ec)
    obtain ⟨ob', t2, ec⟩ := Option.bind_eq_some_iff.mp ec
    obtain ⟨go, hy⟩ := y.step i Gc Hc sg (sg.trans r'.sub) r'.sub xs[i] (List.getElem?_eq_getElem hlt)
    refine .inr ⟨go, _, fun s2 H' h' => ⟨xs.length - (i + 1), by omega, rfl, hlt, h'⟩, fun v H3 hv => ?_⟩
    obtain ⟨G3, x3, rv⟩ := hy v H3 hv
    refine og G3 H3 s' env' F' v xs[i] ea _ (r'.ext x3) rv t1 fun st2 F2 r2 sb _ => ?_
    have q2 := (q'.ext x3).sub sb
    refine ob (VL.re G3 H3 F2) G3 H3 st2 ea F2 _ ob' r2 .re t2 ?_
    have nxt : ∀ e2', forD ft fb (xs.drop (i + 1)) e2' = some o → ∀ (G H : Hp) (st : L2.St) (F : Nat → List Addr), ER X.K G H st e2' F → CR (VL.re G3 H3 F2) G H F → i + 1 ≤ xs.length ∧ ∃ Gc env' F' o, ER X.K Gc H st env' F' ∧ CR c Gc H F' ∧ Same G1 Gc ∧ forD ft fb (xs.drop (i + 1)) env' = some o ∧ Post X.K c E o :=
      fun e2' ez G' H' st3 F3 r3 q3 => ⟨hlt, G', e2', F3, o, r3, q2.trans q3, (sg.trans x3.gg).trans q3.g0, ez, kc⟩
    cases ob' with
    | nx e2' => exact fun G' H' st3 F3 r3 q3 => (nxt e2' ec G' H' st3 F3 r3 q3).2
    | ct e2' => exact fun G' H' st3 F3 r3 q3 => (nxt e2' ec G' H' st3 F3 r3 q3).2
    | bk e2' =>
      cases ec
      exact fun G' H' st3 F3 r3 q3 => kc G' H' st3 F3 r3 (q2.trans q3)
    | rt z e2' =>
      cases ec
      exact Post.re (o := .rt z e2') q2 kc
  · have ei : i = xs.length := by omega
    refine .inl ⟨y.stop i Gc Hc sg (sg.trans r'.sub) r'.sub ei, ?_⟩
    rw [List.drop_eq_nil_of_le (by omega)] at ec
    cases ec
    exact kc Gc Hc s' F' r' q'
/-! ### while -/
def whD (fc : VL.Env → Option Bool) (fb : VL.Env → Option Out) : Nat → VL.Env → Option Out
  | 0, _ => none
  | n + 1, env => (fc env).bind fun b => if b then (fb env).bind fun o => match o with
      | .nx e2 => whD fc fb n e2
      | .ct e2 => whD fc fb n e2
      | .bk e2 => some (.nx e2)
      | .rt s e2 => some (.rt s e2)
    else some (.nx env)
variable {cnd : Expr} {fc : VL.Env → Option Bool}
/-- n: how many turns are allowed -/
theorem s_while (n : VL.Env → Nat) (hp : PassesOwn (model X.prog X.w) X.A X.env X.xe) (hc : TB X cnd fc) (hb : BV X body fb) : SV X (.While cnd body [] pos) (fun env => whD fc fb (n env) env) := by
  obtain ⟨tc, pc, oc⟩ := hc.ex
  obtain ⟨tb, pb, ob⟩ := hb.ex
  refine ⟨_, ps_while hp pc pb, fun c G H s env F E u r q e k => ?_⟩
  refine ⟨fun m s' Hc => ∃ Gc env' F' o, ER X.K Gc Hc s' env' F' ∧ CR c Gc Hc F' ∧ whD fc fb m env' = some o ∧ Post X.K c E o, ⟨n env, G, env, F, u, r, q, e, k⟩, ?_⟩
  rintro m s' Hc ⟨Gc, env', F', o, r', q', ec, kc⟩
  cases m with
  | zero => cases ec
  | succ m =>
    obtain ⟨b, t1, ec⟩ := Option.bind_eq_some_iff.mp (show (fc env').bind _ = some o from ec)
    refine oc Gc Hc s' env' F' _ b r' t1 fun G2 H2 x2 => ?_
    cases b with
    | true =>
      obtain ⟨ob', t2, ec⟩ := Option.bind_eq_some_iff.mp (show (fb env').bind _ = some o from ec)
      refine iteT ⟨_, fun s2 H' h' => ⟨m, Nat.lt_succ_self m, h'⟩, ob c G2 H2 s' env' F' _ ob' (r'.ext x2) (q'.ext x2) t2 ?_⟩
      cases ob' with
      | nx e2' => exact fun G' H' st3 F3 r3 q3 => ⟨G', e2', F3, o, r3, q3, ec, kc⟩
      | ct e2' => exact fun G' H' st3 F3 r3 q3 => ⟨G', e2', F3, o, r3, q3, ec, kc⟩
      | bk e2' =>
        cases ec
        exact fun G' H' st3 F3 r3 q3 => kc G' H' st3 F3 r3 q3
      | rt z e2' =>
        cases ec
        exact kc
    | false =>
      cases ec
      exact iteF (kc G2 H2 s' F' (r'.ext x2) (q'.ext x2))
end

/-! ### defs -/
def spS (K : PySem.W.Frag) (Fs : List D → Option S) : Sp := fun vs H Q _ => ∃ G ds s, Same G H ∧ RpL K G vs ds ∧ Fs ds = some s ∧
  ∀ v G' H' l, Ex G H G' H' → SlR K G' H' v s l → l.Nodup → (∀ a ∈ l, H a = none ∧ G' a = none) → Q v H'
def startE (n : Nat) (ds : List D) : VL.Env := ds.map (fun d => some (S.fz d)) ++ List.replicate (n - ds.length) none
def retS : Out → Option S
  | .rt s _ => some s
  | .nx _ => some (.fz .non)
  | _ => none
@[simp] theorem retS_rt (s : S) (env : VL.Env) : retS (.rt s env) = some s := rfl
@[simp] theorem retS_nx (env : VL.Env) : retS (.nx env) = some (.fz .non) := rfl
def fnS (np n : Nat) (fb : VL.Env → Option Out) (ds : List D) : Option S := if ds.length = np then (fb (startE n ds)).bind retS else none
theorem ER.start {K : PySem.W.Frag} {G H : Hp} (sub : Same G H) {vs : List V} {ds : List D} (l : RpL K G vs ds) (N : List Str) : ER K G H (L2.start N vs) (startE N.length ds) (fun _ => []) := by
  refine ⟨sub, ?_, fun i s e => ?_, fun i _ => rfl, fun i a m => (by cases m), fun i => .nil, fun i j a m => (by cases m)⟩
  · unfold startE L2.start
    rw [List.length_append, List.length_append, List.length_map, List.length_map, List.length_replicate, List.length_replicate, l.length]
  · unfold startE at e
    by_cases hi : i < ds.length
    · rw [List.getElem?_append_left (by rw [List.length_map]; exact hi), List.getElem?_map] at e
      obtain ⟨d, e1, e2⟩ := Option.map_eq_some_iff.mp e
      cases e2
      obtain ⟨v, h1, h2⟩ := l.get e1
      refine ⟨v, ?_, .fz h2⟩
      unfold L2.start
      rw [List.getElem?_append_left (by rw [List.length_map, l.length]; exact hi), List.getElem?_map, h1]; rfl
    · rw [List.getElem?_append_right (by rw [List.length_map]; omega)] at e
      have := List.mem_of_getElem? e
      rw [List.mem_replicate] at this
      cases this.2
section
variable {P : Program} {w : World} {K : PySem.W.Frag} {mg : Str → Option Value} {base : Heap}
theorem fn_ok {x qual : Str} {st : Stmt} {f : Addr} {fd : FuncData} {N ps : List Str} {k : Nat} {fb : VL.Env → Option Out} (F : Fun K x qual st f fd) (Sc : FnScope N ps (defScope st))
    (hb : ∀ (cdv : Value) (A : Around) (outer : List PySem.Env) (s : Shared) (H : Hp) (E : XK), Room k (A.deeper (envOfC qual (defScope st) s.heap.objs.size f cdv)) →
      BV (cxOf CX0 P w K mg base N qual (defScope st) f cdv A outer s H E).nox (defBody st) fb) : FnOk P w K mg base CX0 (k + 1) f fd ps (spS K (fnS ps.length N.length fb)) := by
  refine F.ok Sc (fun vs H Q E ⟨G, ds, z, _, l, e, _⟩ => ?_) (fun cdv A outer s H vs Q E hr ⟨G, ds, z, sub, l, e, kk⟩ => ?_)
  · unfold fnS at e
    split at e
    · rename_i h; rw [l.length]; exact h
    · cases e
  · obtain ⟨t, p, o⟩ := (hb cdv A outer s H E hr).ex
    unfold fnS at e
    split at e
    · obtain ⟨u, e1, e2⟩ := Option.bind_eq_some_iff.mp e
      refine ⟨t, p, o ⟨G, H, fun _ => False⟩ G H _ _ _ _ u (ER.start sub l N) ⟨Same.refl _, fun b e => .inl e, fun b o e _ => e, fun i a m => by cases m⟩ e1 ?_⟩
      have ex : ∀ {G' H' : Hp} {F' : Nat → List Addr}, Same G' H' → CR ⟨G, H, fun _ => False⟩ G' H' F' → Ex G H G' H' := fun s c =>
        ⟨fun b o e => c.keep b o e (fun z => z), c.g0, s, fun b e => (c.gnew b e).imp _root_.id fun z => z.elim _root_.id False.elim⟩
      cases u with
      | nx env =>
        cases e2
        exact fun G' H' st F' r q => kk .non G' H' [] (ex r.sub q) (.fz .non) .nil (fun a m => by cases m)
      | rt s env =>
        cases e2
        exact fun v G' H' st F' l' r q sl nd fr dj => kk v G' H' l' (ex r.sub q) sl nd (fun a m => ⟨((fr a m).2).elim _root_.id False.elim, (fr a m).1⟩)
      | bk env => cases e2
      | ct env => cases e2
    · cases e
end
section
variable {X : Cx} {pos : Pos} {k : Nat} {f : Addr} {fd : FuncData} {ps : List Str} {Fn : List D → Option S} {x : Str} {p : Pos} {e : Expr} {es : List Expr} {fs : VL.Env → Option (List D)}
theorem o_call (F : FnOk X.prog X.w X.K X.mg X.base CX0 k f fd ps (spS X.K Fn)) (hr : Room k X.A) (hg : Gl X x) (hm : X.mg x = some (.ref f)) (hk : PySem.W.keepIn X.K (.ref f) = true) (hb : Binds X.K fd ps [])
    (ha : AV X (e :: es) fs) (hdb : (x == ("__debug__" : Str)) = false := by decide) (he : starEach (e :: es) X.env = (false, eval e X.env) :: starEach es X.env := by rfl) (hpl : (backTo pos (starEach es X.env)).any (·.1) = false := by rfl) :
    PO X (.Call (.Name x p) (e :: es) [] pos) (fun env => (fs env).bind Fn) := by
  obtain ⟨t, pa, o⟩ := ha.ex
  refine ⟨_, pe_call F hr hg hm hk hb .nil pass0 pa hdb he hpl, fun G H st env F' Q d r e k => ?_⟩
  obtain ⟨ds, e1, e2⟩ := Option.bind_eq_some_iff.mp e
  refine o G H st env F' _ _ r e1 fun vs G1 H1 x1 rv => ⟨G1, ds, d, x1.gh, by rw [List.append_nil]; exact rv, e2, fun v G' H' l x2 sl nd fr => k v G' H' l (x1.trans x2) sl nd fun a m => ⟨x1.hh.free (fr a m).1, (fr a m).2⟩⟩
@[simp] def cF (fs : VL.Env → Option (List D)) (Fn : List D → Option S) : VL.Env → Option D := fun env => ((fs env).bind Fn).bind frS
theorem v_call (F : FnOk X.prog X.w X.K X.mg X.base CX0 k f fd ps (spS X.K Fn)) (hr : Room k X.A) (hg : Gl X x) (hm : X.mg x = some (.ref f)) (hk : PySem.W.keepIn X.K (.ref f) = true) (hb : Binds X.K fd ps [])
    (ha : AV X (e :: es) fs) (hdb : (x == ("__debug__" : Str)) = false := by decide) (he : starEach (e :: es) X.env = (false, eval e X.env) :: starEach es X.env := by rfl) (hpl : (backTo pos (starEach es X.env)).any (·.1) = false := by rfl) :
    PV X (.Call (.Name x p) (e :: es) [] pos) (cF fs Fn) := (o_call F hr hg hm hk hb ha hdb he hpl).v
/-- .. called with what is owned: for a plain answer -/
def scS (s : S) : Option D := match s with
  | .fz d => scal d
  | _ => none
@[simp] def cW (fs : VL.Env → Option (List D)) (Fn : List D → Option S) : VL.Env → Option D := fun env => ((fs env).bind Fn).bind scS
theorem v_callW (F : FnOk X.prog X.w X.K X.mg X.base CX0 k f fd ps (spS X.K Fn)) (hr : Room k X.A) (hg : Gl X x) (hm : X.mg x = some (.ref f)) (hk : PySem.W.keepIn X.K (.ref f) = true) (hb : Binds X.K fd ps [])
    (ha : AW X (e :: es) fs) (hdb : (x == ("__debug__" : Str)) = false := by decide) (he : starEach (e :: es) X.env = (false, eval e X.env) :: starEach es X.env := by rfl) (hpl : (backTo pos (starEach es X.env)).any (·.1) = false := by rfl) :
    PV X (.Call (.Name x p) (e :: es) [] pos) (cW fs Fn) := by
  obtain ⟨t, pa, o⟩ := ha.ex
  refine ⟨_, pe_call F hr hg hm hk hb .nil pass0 pa hdb he hpl, fun G H st env F' Q d r e k => ?_⟩
  obtain ⟨d', e', e3⟩ := Option.bind_eq_some_iff.mp e
  obtain ⟨ds, e1, e2⟩ := Option.bind_eq_some_iff.mp e'
  cases d' <;> try (cases e3; done)
  rename_i d'
  refine o G H st env F' _ _ r e1 fun vs G1 H1 x1 rv => ⟨H1, ds, _, Same.refl _, by rw [List.append_nil]; exact rv, e2, fun v G' H' l x2 sl nd fr => ?_⟩
  refine k v G1 H' (x1.trans ⟨x2.hh, Same.refl _, x1.gh.trans x2.hh, fun b z => .inl z⟩) ?_
  cases sl with
  | fz r2 => cases r2 <;> first | (cases e3; constructor) | cases e3
end

/-! ### stores by place -/
def setL : S → D → S → Option S
  | .ol xs, .int k, s => (ixN xs.length k).map fun j => .ol (xs.set j s)
  | _, _, _ => none
theorem setL_some {z s u : S} {d : D} (h : setL z d s = some u) : ∃ xs k j, z = .ol xs ∧ d = .int k ∧ ixN xs.length k = some j ∧ u = .ol (xs.set j s) := by
  cases z <;> try (cases h; done)
  cases d <;> try (cases h; done)
  obtain ⟨j, h1, h2⟩ := Option.map_eq_some_iff.mp (show (ixN _ _).map _ = some u from h)
  exact ⟨_, _, j, rfl, rfl, h1, h2.symm⟩
theorem rpl_set {K : PySem.W.Frag} {H : Hp} {v : V} {d : D} : ∀ {vs : List V} {ds : List D} (j : Nat), RpL K H vs ds → Rp K H v d → RpL K H (vs.set j v) (ds.set j d)
  | _, _, _, .nil, _ => .nil
  | _, _, 0, .cons _ t, r => .cons r t
  | _, _, j + 1, .cons h t, r => .cons h (rpl_set j t r)
section
variable {X : Cx} {pos : Pos} {e : Expr} {fe : VL.Env → Option D} {fk : VL.Env → Option D}
/-- x[k] = e of an owned list whose items are frozen -/
@[simp] def sPutL (i : Nat) (fk fe : VL.Env → Option D) : VL.Env → Option Out := fun env => (fe env).bind fun d => (getS env i).bind fun z => (olOf z).bind fun ds => (fk env).bind fun kd => (intOf kd).bind fun n => (ixN ds.length n).map fun j => .nx (env.set i (some (.ol ((ds.set j d).map S.fz))))
theorem s_putL (i : Nat) {x : Str} {xpos tpos : Pos} {ke : Expr} (he : PV X e fe) (hk : PW X ke fk) (hN : X.N[i]? = some x := by rfl) (hv : Vis X.env.scope x := by first | exact Or.inl rfl | exact Or.inr (Or.inl rfl) | exact Or.inr (Or.inr rfl))
    (hd : (x == ("__debug__" : Str)) = false := by decide) (hcd : (x == ("__classdict__" : Str)) = false := by decide)
    (ha : ∀ v, assign (.Subscript (.Name x xpos) ke tpos) X.env v = (do
      let ov ← holding [v] (eval (.Name x xpos) X.env)
      let iv ← holding [v, ov] (eval ke X.env)
      standAt tpos
      holding [v, ov, iv] (setItem ov iv v)
      release [v, ov, iv] []) := by intro _; rfl)
    (hs : swapsWithSole [.Subscript (.Name x xpos) ke tpos] e pos.line X.env = pure false := by rfl) (hw : swappedStores [.Subscript (.Name x xpos) ke tpos] e X.env = pure none := by rfl)
    (h1 : (assignEach [.Subscript (.Name x xpos) ke tpos] X.env).map (·.2) = [assign (.Subscript (.Name x xpos) ke tpos) X.env] := by rfl) :
    SV X (.Assign [.Subscript (.Name x xpos) ke tpos] e pos) (sPutL i fk fe) := by
  obtain ⟨t, p, o⟩ := he.ex
  obtain ⟨tk, pk, ok⟩ := hk.ex
  refine ⟨_, ps_asg p (pg_sub (pe_var hN hv hd hcd) pk set_list ha) hs hw h1, fun c G H s env F E u r q e k => ?_⟩
  obtain ⟨d, e1, e⟩ := Option.bind_eq_some_iff.mp e
  obtain ⟨z, e2, e⟩ := Option.bind_eq_some_iff.mp e
  obtain ⟨ds, e3, e⟩ := Option.bind_eq_some_iff.mp e
  obtain ⟨kd, e4, e⟩ := Option.bind_eq_some_iff.mp e
  obtain ⟨n, e5, e⟩ := Option.bind_eq_some_iff.mp e
  obtain ⟨j, e6, e7⟩ := Option.map_eq_some_iff.mp e
  subst e7
  obtain rfl := olOf_some e3
  obtain rfl := intOf_some e5
  obtain ⟨v, g1, g2⟩ := r.slot i _ (getS_some e2)
  refine o G H s env F _ d r e1 fun w G1 H1 x1 rw' => ⟨v, g1, ok G1 H1 s env F _ _ (r.ext x1) e4 fun kv G2 H2 x2 rk => ?_⟩
  cases rk
  have x12 := x1.trans x2
  have r2 := r.ext x12
  obtain ⟨v', g1', g3⟩ := r2.slot i _ (getS_some e2)
  rw [g1] at g1'
  cases g1'
  generalize hFi : F i = Fi at g3
  cases g3 with
  | @ol pp vs _ Fx g4 g5 =>
    obtain ⟨l1, rfl⟩ := slRs_rp g5
    have hppF : pp ∈ F i := by rw [hFi]; exact List.mem_cons_self
    have ag : ∀ b, b ∉ F i → (L2.upd H2 pp (.lst (vs.set j w))) b = H2 b ∨ H2 b = none := fun b hb => .inl (upd_ne fun z => hb (by rw [z]; exact hppF))
    refine ⟨pp, vs, n, j, rfl, rfl, g4, by rw [l1.length]; exact e6, k G2 _ s _ (r2.upd (l := [pp]) g1 ag (.ol upd_same (slRs_fz (rpl_set j l1 (rw'.up x2.gg)))) (by simp) fun a m => ?_) (CR.upd (q.ext x12) ag fun a m => ?_)⟩
    · cases List.mem_singleton.mp m; exact .inl hppF
    · cases List.mem_singleton.mp m; exact .inl hppF
end
end VL

set_option Elab.async false
set_option linter.all false
set_option maxRecDepth 100000
/-! VL8: expressions that change an owned slot on the way (draws): the same rules with the slots handed on. -/
namespace VL
open PySem PySem.Spec PyProof.Rows L2
abbrev Mo (α : Type) := VL.Env → Option (α × VL.Env)
structure MV (X : Cx) (e : Expr) (f : Mo D) : Prop where
  ex : ∃ t, PE X e t ∧ ∀ (c : C0) (G H : Hp) (st : L2.St) (env : VL.Env) (F : Nat → List Addr) (Q : VK) (d : D) (env' : VL.Env), ER X.K G H st env F → CR c G H F → f env = some (d, env') →
    (∀ v G' H' F', ER X.K G' H' st env' F' → CR c G' H' F' → Same G G' → Rp X.K G' v d → Q v H') → t st H Q
structure MA (X : Cx) (es : List Expr) (f : Mo (List D)) : Prop where
  ex : ∃ t, PA X es t ∧ ∀ (c : C0) (G H : Hp) (st : L2.St) (env : VL.Env) (F : Nat → List Addr) (Q : List V → Hp → Prop) (ds : List D) (env' : VL.Env), ER X.K G H st env F → CR c G H F → f env = some (ds, env') →
    (∀ vs G' H' F', ER X.K G' H' st env' F' → CR c G' H' F' → Same G G' → RpL X.K G' vs ds → Q vs H') → t st H Q
structure MT (X : Cx) (e : Expr) (f : Mo Bool) : Prop where
  ex : ∃ t, PT X e t ∧ ∀ (c : C0) (G H : Hp) (st : L2.St) (env : VL.Env) (F : Nat → List Addr) (Q : Bool → Hp → Prop) (b : Bool) (env' : VL.Env), ER X.K G H st env F → CR c G H F → f env = some (b, env') →
    (∀ G' H' F', ER X.K G' H' st env' F' → CR c G' H' F' → Same G G' → Q b H') → t st H Q
structure MTs (X : Cx) (es : List Expr) (f : Mo Bool) : Prop where
  ex : ∃ t, PTs X es t ∧ ∀ (c : C0) (G H : Hp) (st : L2.St) (env : VL.Env) (F : Nat → List Addr) (Q : Bool → Hp → Prop) (b : Bool) (env' : VL.Env), ER X.K G H st env F → CR c G H F → f env = some (b, env') →
    (∀ G' H' F', ER X.K G' H' st env' F' → CR c G' H' F' → Same G G' → Q b H') → t st H Q
structure MW (X : Cx) (e : Expr) (f : Mo Bool) : Prop where
  ex : ∃ t, L2.PW X e t ∧ ∀ (c : C0) (G H : Hp) (st : L2.St) (env : VL.Env) (F : Nat → List Addr) (Q : Bool → Hp → Prop) (b : Bool) (env' : VL.Env), ER X.K G H st env F → CR c G H F → f env = some (b, env') →
    (∀ G' H' F', ER X.K G' H' st env' F' → CR c G' H' F' → Same G G' → Q b H') → t st H Q
/-- walks -/
structure MI (X : Cx) (tg iter : Expr) (f : Mo (List D)) : Prop where
  ex : ∃ wi, PI X tg iter wi ∧ ∀ (c : C0) (G H : Hp) (st : L2.St) (env : VL.Env) (F : Nat → List Addr) (R : It → Hp → Prop) (xs : List D) (env' : VL.Env), ER X.K G H st env F → CR c G H F → f env = some (xs, env') →
    (∀ J G1 H1 F1, ER X.K G1 H1 st env' F1 → CR c G1 H1 F1 → Same G G1 → Yl X.K G1 G1 J xs → R J H1) → wi st H R
section
variable {X : Cx} {a b e : Expr} {es : List Expr} {pos : Pos} {fa fb : Mo D} {fs : Mo (List D)} {ft fu : Mo Bool}
@[simp] def pur {α : Type} (f : VL.Env → Option α) : Mo α := fun env => (f env).map fun x => (x, env)
theorem pur_some {α : Type} {f : VL.Env → Option α} {env env' : VL.Env} {x : α} (h : pur f env = some (x, env')) : f env = some x ∧ env = env' := by
  obtain ⟨y, h1, h2⟩ := Option.map_eq_some_iff.mp (show (f env).map _ = _ from h)
  cases h2
  exact ⟨h1, rfl⟩
theorem PV.m {f : VL.Env → Option D} (h : PV X e f) : MV X e (pur f) := by
  obtain ⟨t, p, o⟩ := h.ex
  refine ⟨t, p, fun c G H st env F Q d env' r q e k => ?_⟩
  obtain ⟨e1, rfl⟩ := pur_some e
  exact o G H st env F Q d r e1 fun v G' H' x rv => k v G' H' F (r.ext x) (q.ext x) x.gg rv
theorem TB.m {f : VL.Env → Option Bool} (h : TB X e f) : MT X e (pur f) := by
  obtain ⟨t, p, o⟩ := h.ex
  refine ⟨t, p, fun c G H st env F Q d env' r q e k => ?_⟩
  obtain ⟨e1, rfl⟩ := pur_some e
  exact o G H st env F Q d r e1 fun G' H' x => k G' H' F (r.ext x) (q.ext x) x.gg
theorem AV.m {f : VL.Env → Option (List D)} (h : AV X es f) : MA X es (pur f) := by
  obtain ⟨t, p, o⟩ := h.ex
  refine ⟨t, p, fun c G H st env F Q d env' r q e k => ?_⟩
  obtain ⟨e1, rfl⟩ := pur_some e
  exact o G H st env F Q d r e1 fun v G' H' x rv => k v G' H' F (r.ext x) (q.ext x) x.gg rv
theorem IV.m {tg : Expr} {f : VL.Env → Option (List D)} (h : IV X tg e f) : MI X tg e (pur f) := by
  obtain ⟨t, p, o⟩ := h.ex
  refine ⟨t, p, fun c G H st env F Q d env' r q e k => ?_⟩
  obtain ⟨e1, rfl⟩ := pur_some e
  exact o G H st env F Q d r e1 fun J G' H' x y => k J G' H' F (r.ext x) (q.ext x) x.gg y
theorem MT.one (h : MT X e ft) : MTs X [e] ft := by
  obtain ⟨t, p, o⟩ := h.ex
  exact ⟨t, pts_one p, o⟩
theorem mts_nil : MTs X [] (pur fun _ => some true) := ⟨tYes, pts_nil, fun c G H st env F Q b env' r q e k => by cases e; exact k G H F r q (Same.refl _)⟩
@[simp] def m2 (fa fb : Mo D) (g : D → D → Option D) : Mo D := fun env => (fa env).bind fun x => (fb x.2).bind fun y => (g x.1 y.1).map fun z => (z, y.2)
theorem m2_some {g : D → D → Option D} {env env' : VL.Env} {z : D} (h : m2 fa fb g env = some (z, env')) : ∃ x e1 y, fa env = some (x, e1) ∧ fb e1 = some (y, env') ∧ g x y = some z := by
  obtain ⟨⟨x, e1⟩, h1, h⟩ := Option.bind_eq_some_iff.mp (show (fa env).bind _ = _ from h)
  obtain ⟨⟨y, e2⟩, h2, h⟩ := Option.bind_eq_some_iff.mp h
  obtain ⟨w, h3, h4⟩ := Option.map_eq_some_iff.mp h
  cases h4
  exact ⟨x, e1, y, h1, h2, h3⟩
theorem twoM {g : D → D → Option D} {r : R2} (ha : MV X a fa) (hb : MV X b fb)
    (o : ∀ (G H : Hp) (x y : V) (d e z : D) (Q : VK), Same G H → Rp X.K G x d → Rp X.K G y e → g d e = some z → (∀ v G' H', Ex G H G' H' → Rp X.K G' v z → Q v H') → r x y H Q) :
    ∃ ta tb, PE X a ta ∧ PE X b tb ∧ ∀ (c : C0) (G H : Hp) (st : L2.St) (env : VL.Env) (F : Nat → List Addr) (Q : VK) (d : D) (env' : VL.Env), ER X.K G H st env F → CR c G H F → m2 fa fb g env = some (d, env') →
      (∀ v G' H' F', ER X.K G' H' st env' F' → CR c G' H' F' → Same G G' → Rp X.K G' v d → Q v H') → tOp r ta tb st H Q := by
  obtain ⟨ta, pa, oa⟩ := ha.ex
  obtain ⟨tb, pb, ob⟩ := hb.ex
  refine ⟨ta, tb, pa, pb, fun c G H st env F Q d env' r q e k => ?_⟩
  obtain ⟨x, e1, y, h1, h2, h3⟩ := m2_some e
  refine oa c G H st env F _ x e1 r q h1 fun v1 G1 H1 F1 r1 q1 s1 rv1 => ob c G1 H1 st e1 F1 _ y env' r1 q1 h2 fun v2 G2 H2 F2 r2 q2 s2 rv2 => ?_
  exact o G2 H2 v1 v2 x y d Q r2.sub (rv1.up s2) rv2 h3 fun v G' H' x3 r3 => k v G' H' F2 (r2.ext x3) (q2.ext x3) ((s1.trans s2).trans x3.gg) r3
theorem m_op {op : Operator} {g : D → D → Option D} (ho : OpF X (binaryOp op) g) (ha : MV X a fa) (hb : MV X b fb) : MV X (.BinOp a op b pos) (m2 fa fb g) := by
  obtain ⟨r, p, o⟩ := ho
  obtain ⟨ta, tb, pa, pb, q⟩ := twoM ha hb o
  exact ⟨_, pe_op p pa pb, q⟩
theorem m_cmp {op : CmpOp} {g : D → D → Option D} (ho : OpW X (compareOp op) g) (ha : MV X a fa) (hb : MV X b fb) (hm : behindInMarks op b = false) : MV X (.Compare a [op] [b] pos) (m2 fa fb g) := by
  obtain ⟨r, p, o⟩ := ho.f
  obtain ⟨ta, tb, pa, pb, q⟩ := twoM ha hb o
  exact ⟨_, pe_cmpR p pa pb hm, q⟩
@[simp] def mtb (f : Mo D) : Mo Bool := fun env => (f env).bind fun x => (bOf x.1).map fun b => (b, x.2)
theorem mtb_some {env env' : VL.Env} {b : Bool} (h : mtb fa env = some (b, env')) : fa env = some (.bl b, env') := by
  obtain ⟨⟨x, e1⟩, h1, h⟩ := Option.bind_eq_some_iff.mp (show (fa env).bind _ = _ from h)
  obtain ⟨w, h3, h4⟩ := Option.map_eq_some_iff.mp h
  cases h4
  rw [h1, bOf_some (show bOf x = some b from h3)]
theorem mt_cmp {op : CmpOp} {g : D → D → Option D} (ho : OpW X (compareOp op) g) (ha : MV X a fa) (hb : MV X b fb) (hm : behindInMarks op b = false) : MT X (.Compare a [op] [b] pos) (mtb (m2 fa fb g)) := by
  obtain ⟨r, p, o⟩ := ho.f
  obtain ⟨ta, tb, pa, pb, q⟩ := twoM ha hb o
  refine ⟨_, pt_cmpR p pa pb hm, fun c G H st env F Q d env' r q' e k => ?_⟩
  refine q c G H st env F _ _ env' r q' (mtb_some e) fun v G' H' F' r' q2 s rv => ?_
  cases rv
  exact ⟨d, rfl, k G' H' F' r' q2 s⟩
theorem mt_val (ha : MV X a fa) (he : ∀ whole, isTrue a X.env whole = (do let v ← whole; standAt a.pos; holding [v] (truthy v)) := by intro _; rfl) : MT X a (mtb fa) := by
  obtain ⟨t, p, o⟩ := ha.ex
  refine ⟨_, pt_val p he, fun c G H st env F Q d env' r q e k => ?_⟩
  refine o c G H st env F _ _ env' r q (mtb_some e) fun v G' H' F' r' q2 s rv => ?_
  cases rv
  exact ⟨d, rfl, k G' H' F' r' q2 s⟩
theorem m_ix {k : Nat} (hr : Room k X.A) (ha : MV X a fa) (hb : MV X b fb) (hs : PlainIx b := by intro _ _; rfl) : MV X (.Subscript a b pos) (m2 fa fb dIx) := by
  obtain ⟨ta, tb, pa, pb, q⟩ := twoM (r := fun x y H Q => rIxL X.K x y H Q ∨ rIxT X.K x y H Q ∨ ∃ a v, x = .ref a ∧ DGet H a y (some v) ∧ Q v H) (g := dIx) ha hb
    fun G H x y d e z Q s rx ry q kk => ix_ok s rx (ry.up s) (fun _ _ _ => ry) q fun v r => kk v G H (Ex.refl s) r
  exact ⟨_, pe_sub (hu_of hr) pa pb hs, q⟩
/-! and, or, not, if -/
@[simp] def mAnd (f g : Mo Bool) : Mo Bool := fun env => (f env).bind fun x => if x.1 then g x.2 else some (false, x.2)
@[simp] def mOr (f g : Mo Bool) : Mo Bool := fun env => (f env).bind fun x => if x.1 then some (true, x.2) else g x.2
@[simp] def mNot (f : Mo Bool) : Mo Bool := fun env => (f env).map fun x => (!x.1, x.2)
theorem MW.t (h : MW X e ft) : MT X e ft := by
  obtain ⟨t, p, o⟩ := h.ex
  exact ⟨t, p.pt, o⟩
variable {rest : List Expr}
theorem mw_and1 (h : MT X a ft) : MW X (.BoolOp .And [a] pos) ft := by
  obtain ⟨t, p, o⟩ := h.ex
  exact ⟨t, pw_and1 p, o⟩
theorem mw_or1 (h : MT X a ft) : MW X (.BoolOp .Or [a] pos) ft := by
  obtain ⟨t, p, o⟩ := h.ex
  exact ⟨t, pw_or1 p, o⟩
theorem mw_and (h : MT X a ft) (h' : MW X (.BoolOp .And (b :: rest) pos) fu) : MW X (.BoolOp .And (a :: b :: rest) pos) (mAnd ft fu) := by
  obtain ⟨t, p, o⟩ := h.ex
  obtain ⟨t', p', o'⟩ := h'.ex
  refine ⟨_, pw_and p p', fun c G H st env F Q d env' r q e k => ?_⟩
  obtain ⟨⟨x, e1⟩, h1, h2⟩ := Option.bind_eq_some_iff.mp (show (ft env).bind _ = _ from e)
  refine o c G H st env F _ x e1 r q h1 fun G1 H1 F1 r1 q1 s1 => ?_
  cases x with
  | true => exact iteT (o' c G1 H1 st e1 F1 _ d env' r1 q1 h2 fun G2 H2 F2 r2 q2 s2 => k G2 H2 F2 r2 q2 (s1.trans s2))
  | false => cases h2; exact iteF (k G1 H1 F1 r1 q1 s1)
theorem mw_or (h : MT X a ft) (h' : MW X (.BoolOp .Or (b :: rest) pos) fu) : MW X (.BoolOp .Or (a :: b :: rest) pos) (mOr ft fu) := by
  obtain ⟨t, p, o⟩ := h.ex
  obtain ⟨t', p', o'⟩ := h'.ex
  refine ⟨_, pw_or p p', fun c G H st env F Q d env' r q e k => ?_⟩
  obtain ⟨⟨x, e1⟩, h1, h2⟩ := Option.bind_eq_some_iff.mp (show (ft env).bind _ = _ from e)
  refine o c G H st env F _ x e1 r q h1 fun G1 H1 F1 r1 q1 s1 => ?_
  cases x with
  | true => cases h2; exact iteT (k G1 H1 F1 r1 q1 s1)
  | false => exact iteF (o' c G1 H1 st e1 F1 _ d env' r1 q1 h2 fun G2 H2 F2 r2 q2 s2 => k G2 H2 F2 r2 q2 (s1.trans s2))
theorem mt_not (h : MT X a ft) : MT X (.UnaryOp .Not a pos) (mNot ft) := by
  obtain ⟨t, p, o⟩ := h.ex
  refine ⟨_, pt_not p, fun c G H st env F Q d env' r q e k => ?_⟩
  obtain ⟨⟨x, e1⟩, h1, h2⟩ := Option.map_eq_some_iff.mp (show (ft env).map _ = _ from e)
  cases h2
  exact o c G H st env F _ x e1 r q h1 fun G1 H1 F1 r1 q1 s1 => k G1 H1 F1 r1 q1 s1
@[simp] def mIf (c : Mo Bool) (f g : Mo D) : Mo D := fun env => (c env).bind fun x => if x.1 then f x.2 else g x.2
theorem m_if {cnd : Expr} (hc : MT X cnd ft) (ha : MV X a fa) (hb : MV X b fb) : MV X (.IfExp cnd a b pos) (mIf ft fa fb) := by
  obtain ⟨tc, pc, oc⟩ := hc.ex
  obtain ⟨t, p, o⟩ := ha.ex
  obtain ⟨t', p', o'⟩ := hb.ex
  refine ⟨_, pe_ifExp pc p p', fun c G H st env F Q d env' r q e k => ?_⟩
  obtain ⟨⟨x, e1⟩, h1, h2⟩ := Option.bind_eq_some_iff.mp (show (ft env).bind _ = _ from e)
  refine oc c G H st env F _ x e1 r q h1 fun G1 H1 F1 r1 q1 s1 => ?_
  cases x with
  | true => exact iteT (o c G1 H1 st e1 F1 _ d env' r1 q1 h2 fun v G2 H2 F2 r2 q2 s2 rv => k v G2 H2 F2 r2 q2 (s1.trans s2) rv)
  | false => exact iteF (o' c G1 H1 st e1 F1 _ d env' r1 q1 h2 fun v G2 H2 F2 r2 q2 s2 rv => k v G2 H2 F2 r2 q2 (s1.trans s2) rv)
/-! arguments, displays -/
@[simp] def maC (f : Mo D) (g : Mo (List D)) : Mo (List D) := fun env => (f env).bind fun x => (g x.2).map fun y => (x.1 :: y.1, y.2)
theorem ma_nil : MA X [] (pur fun _ => some []) := (a_nil (X := X)).m
theorem ma_cons (h : MV X e fa) (hr : MA X es fs) (hs : starEach (e :: es) X.env = (false, eval e X.env) :: starEach es X.env := by rfl) : MA X (e :: es) (maC fa fs) := by
  obtain ⟨t, p, o⟩ := h.ex
  obtain ⟨t', p', o'⟩ := hr.ex
  refine ⟨_, pa_cons p p' hs, fun c G H st env F Q ds env' r q e k => ?_⟩
  obtain ⟨⟨x, e1⟩, h1, h2⟩ := Option.bind_eq_some_iff.mp (show (fa env).bind _ = _ from e)
  obtain ⟨⟨y, e2⟩, h3, h4⟩ := Option.map_eq_some_iff.mp h2
  cases h4
  exact o c G H st env F _ x e1 r q h1 fun v G1 H1 F1 r1 q1 s1 rv => o' c G1 H1 st e1 F1 _ y e2 r1 q1 h3 fun vs G2 H2 F2 r2 q2 s2 rvs => k _ G2 H2 F2 r2 q2 (s1.trans s2) (.cons (rv.up s2) rvs)
@[simp] def mLst (f : Mo (List D)) : Mo D := fun env => (f env).bind fun x => if x.1.length < 1000 then some (.lst x.1, x.2) else none
@[simp] def mTup (f : Mo (List D)) : Mo D := fun env => (f env).bind fun x => if x.1.length < 1000 then some (.tup x.1, x.2) else none
theorem m_lst (h : MA X es fs) : MV X (.List es pos) (mLst fs) := by
  obtain ⟨t, p, o⟩ := h.ex
  refine ⟨_, pe_lst p, fun c G H st env F Q d env' r q e k => ?_⟩
  obtain ⟨⟨x, e1⟩, h1, h2⟩ := Option.bind_eq_some_iff.mp (show (fs env).bind _ = _ from e)
  dsimp only at h2
  split at h2
  · rename_i hl
    cases h2
    refine o c G H st env F _ x env' r q h1 fun vs G1 H1 F1 r1 q1 s1 rv => ⟨small_line (by rw [rv.length]; exact hl), fun p np => ?_⟩
    have x2 := Ex.frz (o := .lst vs) r1.sub np
    exact k _ _ _ F1 (r1.ext x2) (q1.ext x2) (s1.trans x2.gg) (.lst upd_same (rv.up x2.gg))
  · cases h2
theorem m_tup {x1} (h : MA X es fs) : MV X (.Tuple es x1 pos) (mTup fs) := by
  obtain ⟨t, p, o⟩ := h.ex
  refine ⟨_, pe_tup p, fun c G H st env F Q d env' r q e k => ?_⟩
  obtain ⟨⟨x, e1⟩, h1, h2⟩ := Option.bind_eq_some_iff.mp (show (fs env).bind _ = _ from e)
  dsimp only at h2
  split at h2
  · rename_i hl
    cases h2
    refine o c G H st env F _ x env' r q h1 fun vs G1 H1 F1 r1 q1 s1 rv => ⟨small_line (by rw [rv.length]; exact hl), fun p np => ?_⟩
    have x2 := Ex.frz (o := .tup vs) r1.sub np
    exact k _ _ _ F1 (r1.ext x2) (q1.ext x2) (s1.trans x2.gg) (.tup upd_same (rv.up x2.gg))
  · cases h2
/-! calls -/
variable {x : Str} {p : Pos} {id : String}
@[simp] def mB {β : Type} (fs : Mo (List D)) (g : List D → Option β) : Mo β := fun env => (fs env).bind fun x => (g x.1).map fun z => (z, x.2)
theorem mB_some {β : Type} {g : List D → Option β} {env env' : VL.Env} {z : β} (h : mB fs g env = some (z, env')) : ∃ ds, fs env = some (ds, env') ∧ g ds = some z := by
  obtain ⟨⟨x, e1⟩, h1, h⟩ := Option.bind_eq_some_iff.mp (show (fs env).bind _ = _ from h)
  obtain ⟨w, h3, h4⟩ := Option.map_eq_some_iff.mp h
  cases h4
  exact ⟨x, h1, h3⟩
theorem m_callB {g : List D → Option D} (hc : CallW X (.builtin id) g) (hg : Gl X x) (hm : X.mg x = none) (hv : bootBuiltins x = some (.builtin id)) (ha : MA X (e :: es) fs) (hn : x ≠ "__name__" := by decide) (hdb : (x == ("__debug__" : Str)) = false := by decide)
    (he : starEach (e :: es) X.env = (false, eval e X.env) :: starEach es X.env := by rfl) (hpl : (backTo pos (starEach es X.env)).any (·.1) = false := by rfl) : MV X (.Call (.Name x p) (e :: es) [] pos) (mB fs g) := by
  obtain ⟨r, hr, o⟩ := hc
  obtain ⟨t, pa, oa⟩ := ha.ex
  refine ⟨_, pe_callB hr hg hm hv pa hn hdb he hpl, fun c G H st env F Q d env' r q e k => ?_⟩
  obtain ⟨ds, e1, e2⟩ := mB_some e
  exact oa c G H st env F _ _ env' r q e1 fun vs G1 H1 F1 r1 q1 s1 rv => o G1 H1 vs ds d Q r1.sub (rv.up r1.sub) e2 fun v G' H' x2 r2 => k v G' H' F1 (r1.ext x2) (q1.ext x2) (s1.trans x2.gg) r2
theorem m_callT {g : List D → Option D} (hc : CallW X (.type id) g) (hg : Gl X x) (hm : X.mg x = none) (hv : bootBuiltins x = some (.type id)) (ha : MA X (e :: es) fs) (hn : x ≠ "__name__" := by decide) (hdb : (x == ("__debug__" : Str)) = false := by decide)
    (he : starEach (e :: es) X.env = (false, eval e X.env) :: starEach es X.env := by rfl) (hpl : (backTo pos (starEach es X.env)).any (·.1) = false := by rfl) : MV X (.Call (.Name x p) (e :: es) [] pos) (mB fs g) := by
  obtain ⟨r, hr, o⟩ := hc
  obtain ⟨t, pa, oa⟩ := ha.ex
  refine ⟨_, pe_callTy hr hg hm hv pa hn hdb he hpl, fun c G H st env F Q d env' r q e k => ?_⟩
  obtain ⟨ds, e1, e2⟩ := mB_some e
  exact oa c G H st env F _ _ env' r q e1 fun vs G1 H1 F1 r1 q1 s1 rv => o G1 H1 vs ds d Q r1.sub (rv.up r1.sub) e2 fun v G' H' x2 r2 => k v G' H' F1 (r1.ext x2) (q1.ext x2) (s1.trans x2.gg) r2
variable {kk : Nat} {f : Addr} {fd : FuncData} {ps : List Str} {Fn : List D → Option S}
theorem m_call (F : FnOk X.prog X.w X.K X.mg X.base CX0 kk f fd ps (spS X.K Fn)) (hr : Room kk X.A) (hg : Gl X x) (hm : X.mg x = some (.ref f)) (hk : PySem.W.keepIn X.K (.ref f) = true) (hb : Binds X.K fd ps [])
    (ha : MA X (e :: es) fs) (hdb : (x == ("__debug__" : Str)) = false := by decide) (he : starEach (e :: es) X.env = (false, eval e X.env) :: starEach es X.env := by rfl) (hpl : (backTo pos (starEach es X.env)).any (·.1) = false := by rfl) :
    MV X (.Call (.Name x p) (e :: es) [] pos) (mB fs fun ds => (Fn ds).bind frS) := by
  obtain ⟨t, pa, o⟩ := ha.ex
  refine ⟨_, pe_call F hr hg hm hk hb .nil pass0 pa hdb he hpl, fun c G H st env F' Q d env' r q e k => ?_⟩
  obtain ⟨ds, e1, e'⟩ := mB_some e
  obtain ⟨s, e2, e3⟩ := Option.bind_eq_some_iff.mp e'
  obtain ⟨n, rfl⟩ := frS_some e3
  refine o c G H st env F' _ _ env' r q e1 fun vs G1 H1 F1 r1 q1 s1 rv => ⟨G1, ds, s, r1.sub, by rw [List.append_nil]; exact rv, e2, fun v G' H' l x2 sl nd fr => ?_⟩
  have x3 := frzG_ex x2 fr
  exact k v _ H' F1 (r1.ext x3) (q1.ext x3) (s1.trans x3.gg) (frzG_rp sl n fun a m => (fr a m).2)
/-- what stands at an owned slot is handed in and changed: its address is told -/
def spI (K : PySem.W.Frag) (Fi : Addr → S → List D → Option (D × S)) : Sp := fun vs H Q _ => ∃ G p ws s0 l0 ds d s1, Same G H ∧ vs = .ref p :: ws ∧ SlR K G H (.ref p) s0 l0 ∧ l0.Nodup ∧ (∀ a ∈ l0, G a = none) ∧ RpL K G ws ds ∧ Fi p s0 ds = some (d, s1) ∧
  ∀ v G' H' l1, Same G G' → Same G' H' → (∀ b o, H b = some o → b ∉ l0 → H' b = some o) → (∀ b, G' b ≠ none → G b ≠ none ∨ H b = none ∨ b ∈ l0) → SlR K G' H' (.ref p) s1 l1 → l1.Nodup → (∀ a ∈ l1, G' a = none ∧ (a ∈ l0 ∨ H a = none)) → Rp K G' v d → Q v H'
def atOf : S → Option (Addr × S)
  | .at a s => some (a, s)
  | _ => none
@[simp] theorem atOf_at (a : Addr) (s : S) : atOf (.at a s) = some (a, s) := rfl
theorem atOf_some {z s : S} {a : Addr} (h : atOf z = some (a, s)) : z = .at a s := by
  cases z <;> first | (cases h; rfl) | cases h
@[simp] def mI (i : Nat) (fs : Mo (List D)) (Fi : Addr → S → List D → Option (D × S)) : Mo D := fun env => (getS env i).bind fun _ => (fs env).bind fun x => (getS x.2 i).bind fun z => (atOf z).bind fun s => (Fi s.1 s.2 x.1).map fun z => (z.1, x.2.set i (some (.at s.1 z.2)))
theorem ER.after {K : PySem.W.Frag} {G H G' H' : Hp} {st : L2.St} {env : VL.Env} {F : Nat → List Addr} {i : Nat} {v : V} {s : S} {l : List Addr} (r : ER K G H st env F) (hv : st[i]? = some (some v)) (gg : Same G G') (gh : Same G' H')
    (kp : ∀ b o, H b = some o → b ∉ F i → H' b = some o) (gn : ∀ b, G' b ≠ none → G b ≠ none ∨ H b = none ∨ b ∈ F i) (h : SlR K G' H' v s l) (nd : l.Nodup) (hl : ∀ a ∈ l, G' a = none ∧ (a ∈ F i ∨ H a = none)) :
    ER K G' H' st (env.set i (some s)) (putFp F i l) := by
  have hi : i < env.length := by rw [r.len]; exact (List.getElem?_eq_some_iff.mp hv).1
  have dis : ∀ j, j ≠ i → ∀ a ∈ l, a ∉ F j := fun j ne a m m' => by
    rcases (hl a m).2 with z | z
    · exact ne (r.dj j i a m' z)
    · obtain ⟨o, q⟩ := r.dom m'
      rw [z] at q; cases q
  have g0 : ∀ j, j ≠ i → ∀ a ∈ F j, G' a = none := fun j ne a m => by
    cases z : G' a with
    | none => rfl
    | some o =>
      rcases gn a (by rw [z]; exact fun q => nomatch q) with q | q | q
      · exact absurd (r.off j a m) q
      · obtain ⟨u, q'⟩ := r.dom m
        rw [q] at q'; cases q'
      · exact absurd (r.dj j i a m q) ne
  refine ⟨gh, by rw [List.length_set]; exact r.len, fun j t e => ?_, fun j hj => ?_, fun j a m => ?_, fun j => ?_, fun j k a m m' => ?_⟩
  · rcases get_set e with ⟨rfl, _, e⟩ | ⟨ne, e⟩
    · cases e
      refine ⟨v, hv, ?_⟩
      unfold putFp; rw [if_pos rfl]; exact h
    · obtain ⟨w, h1, h2⟩ := r.slot j t e
      refine ⟨w, h1, ?_⟩
      unfold putFp; rw [if_neg ne]
      refine SlR.mono gg t w _ (fun a m => ?_) h2
      obtain ⟨o, z⟩ := r.dom m
      rw [z]; exact kp a o z fun q => ne (r.dj j i a m q)
  · unfold putFp
    by_cases c : j = i
    · subst c; exact absurd (List.getElem?_set_self hi) (hj s)
    · rw [if_neg c]
      exact r.out j fun t e => hj t (by rw [List.getElem?_set_ne (Ne.symm c)]; exact e)
  · unfold putFp at m
    split at m
    · exact (hl a m).1
    · rename_i c; exact g0 j c a m
  · unfold putFp
    split
    · exact nd
    · exact r.nd j
  · unfold putFp at m m'
    split at m <;> split at m'
    · rename_i c c'; rw [c, c']
    · rename_i c c'; exact absurd m' (dis k c' a m)
    · rename_i c c'; exact absurd m (dis j c a m')
    · exact r.dj j k a m m'
theorem CR.after {c : C0} {G H G' H' : Hp} {F : Nat → List Addr} {i : Nat} {l : List Addr} (q : CR c G H F) (gg : Same G G') (kp : ∀ b o, H b = some o → b ∉ F i → H' b = some o)
    (gn : ∀ b, G' b ≠ none → G b ≠ none ∨ H b = none ∨ b ∈ F i) (hl : ∀ a ∈ l, a ∈ F i ∨ H a = none) : CR c G' H' (putFp F i l) := by
  refine ⟨q.g0.trans gg, fun b e => ?_, fun b o e z => ?_, fun j a m => ?_⟩
  · rcases gn b e with h | h | h
    · exact q.gnew b h
    · exact .inr (q.new h)
    · exact .inr (q.own i b h)
  · refine kp b o (q.keep b o e z) fun m => ?_
    rcases q.own i b m with h | h
    · rw [h] at e; cases e
    · exact z h
  · unfold putFp at m
    split at m
    · rcases hl a m with h | h
      · exact q.own i a h
      · exact q.new h
    · exact q.own j a m
theorem m_inout {Fi : Addr → S → List D → Option (D × S)} (i : Nat) {y : Str} {ypos : Pos} (F : FnOk X.prog X.w X.K X.mg X.base CX0 kk f fd ps (spI X.K Fi)) (hr : Room kk X.A) (hg : Gl X x) (hm : X.mg x = some (.ref f)) (hk : PySem.W.keepIn X.K (.ref f) = true) (hb : Binds X.K fd ps [])
    (ha : MA X es fs) (hN : X.N[i]? = some y := by rfl) (hv : Vis X.env.scope y := by first | exact Or.inl rfl | exact Or.inr (Or.inl rfl) | exact Or.inr (Or.inr rfl))
    (hd : (y == ("__debug__" : Str)) = false := by decide) (hcd : (y == ("__classdict__" : Str)) = false := by decide)
    (hdb : (x == ("__debug__" : Str)) = false := by decide) (he : starEach (.Name y ypos :: es) X.env = (false, eval (.Name y ypos) X.env) :: starEach es X.env := by rfl) (hpl : (backTo pos (starEach es X.env)).any (·.1) = false := by rfl) :
    MV X (.Call (.Name x p) (.Name y ypos :: es) [] pos) (mI i fs Fi) := by
  obtain ⟨t, pa, o⟩ := ha.ex
  refine ⟨_, pe_call F hr hg hm hk hb .nil pass0 (pa_cons (pe_var hN hv hd hcd) pa he) hdb he hpl, fun c G H st env F' Q d env' r q e k => ?_⟩
  obtain ⟨s', h0, e⟩ := Option.bind_eq_some_iff.mp (show (getS env i).bind _ = _ from e)
  obtain ⟨⟨ds, e1⟩, h1, e⟩ := Option.bind_eq_some_iff.mp e
  obtain ⟨zz, h2, e⟩ := Option.bind_eq_some_iff.mp e
  obtain ⟨⟨pp, s⟩, h2', e⟩ := Option.bind_eq_some_iff.mp e
  obtain rfl := atOf_some h2'
  obtain ⟨⟨z, s1⟩, h3, h4⟩ := Option.map_eq_some_iff.mp e
  cases h4
  obtain ⟨v, hv', _⟩ := r.slot i s' (getS_some h0)
  refine ⟨v, hv', o c G H st env F' _ ds e1 r q h1 fun vs G1 H1 F1 r1 q1 s1' rv => ?_⟩
  obtain ⟨v', h5, h6⟩ := r1.slot i _ (getS_some h2)
  rw [hv'] at h5
  cases h5
  have nd1 := r1.nd i
  have of1 := r1.off i
  have hsub : ∀ a, a ∈ F1 i → a ∈ F1 i := fun _ m => m
  generalize hFi : F1 i = Fi1 at h6 nd1 of1
  cases h6 with
  | «at» h6 =>
    subst hFi
    refine ⟨G1, pp, vs, s, F1 i, ds, z, s1, r1.sub, by rw [List.append_nil], h6, nd1, of1, rv, h3, fun w G' H' l1 gg gh kp gn sl nd hl rw' => ?_⟩
    exact k w G' H' _ (r1.after hv' gg gh kp gn (.at sl) nd hl) (q1.after gg kp gn fun a m => (hl a m).2) (s1'.trans gg) rw'
end
end VL

set_option Elab.async false
set_option linter.all false
set_option maxRecDepth 100000
/-! VL9: comprehensions and statements with draws; dicts; extend. -/
namespace VL
open PySem PySem.Spec PyProof.Rows L2
def cEM (K : PySem.W.Frag) (f : Mo D) : TE := fun st H Q => ∃ c G env F d env', ER K G H st env F ∧ CR c G H F ∧ f env = some (d, env') ∧
  ∀ v G' H' F', ER K G' H' st env' F' → CR c G' H' F' → Same G G' → Rp K G' v d → Q v H'
def cTM (K : PySem.W.Frag) (f : Mo Bool) : TT := fun st H Q => ∃ c G env F d env', ER K G H st env F ∧ CR c G H F ∧ f env = some (d, env') ∧
  ∀ G' H' F', ER K G' H' st env' F' → CR c G' H' F' → Same G G' → Q d H'
section
variable {K : PySem.W.Frag} {c : C0} {G H : Hp} {st : L2.St} {env : VL.Env} {F : Nat → List Addr} {p : Addr} {o : HO}
theorem ER.other (r : ER K G H st env F) (g : G p = none) (n : ∀ i, p ∉ F i) : ER K G (L2.upd H p o) st env F := by
  refine ⟨fun b u e => by rw [upd_ne (ne_of_none e g)]; exact r.sub _ _ e, r.len, fun i s e => ?_, r.out, r.off, r.nd, r.dj⟩
  obtain ⟨v, h1, h2⟩ := r.slot i s e
  exact ⟨v, h1, SlR.mono (Same.refl _) s v _ (fun a m => upd_ne fun z => n i (by rw [← z]; exact m)) h2⟩
theorem CR.other (q : CR c G H F) (h : c.H p = none ∨ c.O p) : CR c G (L2.upd H p o) F := by
  refine ⟨q.g0, q.gnew, fun b u e z => ?_, q.own⟩
  have : b ≠ p := fun w => by
    subst w
    rcases h with h | h
    · rw [h] at e; cases e
    · exact z h
  rw [upd_ne this]
  exact q.keep b u e z
theorem ER.frz1 (r : ER K G H st env F) (g : G p = none) (n : ∀ i, p ∉ F i) : ER K (frzG G H [p]) H st env F := by
  have up := frzG_up (G := G) (H := H) (l := [p]) fun a m => by cases List.mem_singleton.mp m; exact g
  refine ⟨frzG_in r.sub, r.len, fun i s e => ?_, r.out, fun i a m => ?_, r.nd, r.dj⟩
  · obtain ⟨v, h1, h2⟩ := r.slot i s e
    exact ⟨v, h1, SlR.mono up s v _ (fun _ _ => rfl) h2⟩
  · unfold frzG
    rw [if_neg fun z => n i (by rw [← List.mem_singleton.mp z]; exact m)]
    exact r.off i a m
theorem CR.frz1 (q : CR c G H F) (h : c.H p = none ∨ c.O p) (g : G p = none) : CR c (frzG G H [p]) H F := by
  refine ⟨q.g0.trans (frzG_up fun a m => by cases List.mem_singleton.mp m; exact g), fun b e => ?_, q.keep, q.own⟩
  unfold frzG at e
  split at e
  · rename_i m; cases List.mem_singleton.mp m; exact .inr h
  · exact q.gnew b e
theorem ER.unwipe {vs : List Nat} (r : ER K G H (L2.wipe st vs) env F) : ER K G H st env F := by
  refine ⟨r.sub, by rw [r.len, wipe_length], fun i s e => ?_, r.out, r.off, r.nd, r.dj⟩
  obtain ⟨v, h1, h2⟩ := r.slot i s e
  exact ⟨v, (wipe_some h1).1, h2⟩
theorem CR.out (q : CR (VL.re G H F) G' H' F') (n : ∀ i, p ∉ F i) (h : H p = some o) (g : G p = none) : H' p = some o ∧ G' p = none ∧ ∀ i, p ∉ F' i := by
  refine ⟨q.keep p o h fun ⟨i, m⟩ => n i m, ?_, fun i m => ?_⟩
  · cases z : G' p with
    | none => rfl
    | some u =>
      rcases q.gnew p (by rw [z]; exact fun w => nomatch w) with w | w | ⟨i, m⟩
      · exact absurd g w
      · exact absurd (h.symm.trans w) (fun z => nomatch z)
      · exact absurd m (n i)
  · rcases q.own i p m with w | ⟨j, m'⟩
    · exact absurd (h.symm.trans w) (fun z => nomatch z)
    · exact n j m'
end
section
variable {X : Cx} {pos : Pos}
theorem MV.c {e : Expr} {f : Mo D} (h : MV X e f) : PE X e (cEM X.K f) := by
  obtain ⟨t, p, o⟩ := h.ex
  exact ⟨fun pins s st H Q I ⟨c, G, env, F, d, env', r, q, e, k⟩ => p.run pins s st H Q I (o c G H st env F Q d env' r q e k)⟩
theorem MTs.c {e : List Expr} {f : Mo Bool} (h : MTs X e f) : PTs X e (cTM X.K f) := by
  obtain ⟨t, p, o⟩ := h.ex
  exact ⟨fun pins s st H Q I ⟨c, G, env, F, d, env', r, q, e, k⟩ => p.run pins s st H Q I (o c G H st env F Q d env' r q e k)⟩
def compM (vs : List Nat) (ft : D → VL.Env → Option VL.Env) (fc : Mo Bool) (fe : Mo D) : List D → VL.Env → Option (List D × VL.Env)
  | [], env => some ([], env)
  | d :: ds, env => (ft d env).bind fun e1 => (fc e1).bind fun b => if b.1 then (fe b.2).bind fun y => (compM vs ft fc fe ds (wipeE y.2 vs)).map fun z => (y.1 :: z.1, z.2) else compM vs ft fc fe ds (wipeE b.2 vs)
def OkLM (K : PySem.W.Frag) (f : Mo (List D)) (t : TE) : Prop := ∀ (c : C0) (G H : Hp) (st : L2.St) (env : VL.Env) (F : Nat → List Addr) (Q : VK) (ds : List D) (env' : VL.Env), ER K G H st env F → CR c G H F → f env = some (ds, env') →
  (∀ p vs G' H' F', ER K G' H' st env' F' → CR c G' H' F' → Same G G' → (∀ i, p ∉ F' i) → G' p = none → (c.H p = none ∨ c.O p) → H' p = some (.lst vs) → RpL K G' vs ds → Q (.ref p) H') → t st H Q
theorem lcm_ok {K : PySem.W.Frag} {wi : TI} {fi : Mo (List D)} {ts vs : List Nat} {ft : D → VL.Env → Option VL.Env} {fc : Mo Bool} {fe : Mo D}
    (hi : ∀ (c : C0) (G H : Hp) (st : L2.St) (env : VL.Env) (F : Nat → List Addr) (R : It → Hp → Prop) (xs : List D) (env' : VL.Env), ER K G H st env F → CR c G H F → fi env = some (xs, env') →
      (∀ J G1 H1 F1, ER K G1 H1 st env' F1 → CR c G1 H1 F1 → Same G G1 → Yl K G1 G1 J xs → R J H1) → wi st H R)
    (hts : ∀ i ∈ ts, i ∈ vs) : OkLM K (fun env => (fi env).bind fun x => compM vs ft fc fe x.1 (wipeE x.2 vs)) (tLc wi (cG K ts ft) (cTM K fc) (cEM K fe) vs) := by
  intro c G H st env F Q ys env' r q e k
  obtain ⟨⟨xs, env1⟩, e1, e2⟩ := Option.bind_eq_some_iff.mp (show (fi env).bind _ = _ from e)
  refine hi c G H st env F _ xs env1 r q e1 fun J G1 H1 F1 r1 q1 s1 y => fun Dp hD => ?_
  have cD := q1.new hD
  have xD := Ex.own (o := .lst []) r1.sub hD
  obtain ⟨Fw, rw', sw⟩ := ER.wipe (r1.ext xD) vs
  refine ⟨fun i m Hc => m = xs.length - i ∧ i ≤ xs.length ∧ ∃ Gc Fc envc acc accD rest, ER K Gc Hc (L2.wipe st vs) envc Fc ∧ CR c Gc Hc Fc ∧ Same G1 Gc ∧ Gc Dp = none ∧ Hc Dp = some (.lst acc) ∧ (∀ i, Dp ∉ Fc i) ∧ RpL K Gc acc accD ∧ acc.length ≤ i ∧
    compM vs ft fc fe (xs.drop i) envc = some (rest, env') ∧ accD ++ rest = ys, ⟨xs.length, rfl, Nat.zero_le _, G1, Fw, wipeE env1 vs, [], [], ys, rw', (q1.ext xD).sub sw, Same.refl _, r1.sub.free hD, upd_same, fun i m => ?_, .nil, Nat.le_refl _, e2, rfl⟩, ?_⟩
  · obtain ⟨o, z⟩ := r1.dom (sw i _ m)
    rw [hD] at z; cases z
  rintro i m Hc ⟨em, hi', Gc, Fc, envc, acc, accD, rest, rc, qc, sc, gD, hDc, nD, lc, la, ec, ea⟩
  by_cases hlt : i < xs.length
  · have ed : xs.drop i = xs[i] :: xs.drop (i + 1) := List.drop_eq_getElem_cons hlt
    rw [ed] at ec
    obtain ⟨e1', t1, ec⟩ := Option.bind_eq_some_iff.mp (show (ft xs[i] envc).bind _ = _ from ec)
    obtain ⟨⟨b, e2'⟩, t2, ec⟩ := Option.bind_eq_some_iff.mp ec
    obtain ⟨go, hy⟩ := y.step i Gc Hc sc (sc.trans rc.sub) rc.sub xs[i] (List.getElem?_eq_getElem hlt)
    refine .inr ⟨go, _, fun H' h' => ⟨xs.length - (i + 1), by omega, rfl, hlt, h'⟩, fun v H3 hv => ?_⟩
    obtain ⟨G3, x3, rv⟩ := hy v H3 hv
    have r3 := rc.ext x3
    have q3 := qc.ext x3
    refine ⟨G3, envc, Fc, xs[i], e1', r3, rv, t1, fun st' F' r' sb w' => ?_⟩
    have ws : L2.wipe st' vs = L2.wipe st vs := by rw [w' vs hts, wipe_idem]
    have g3 : G3 Dp = none := ex_none x3 gD hDc
    have h3 : H3 Dp = some (.lst acc) := x3.hh _ _ hDc
    have n3 : ∀ i, Dp ∉ F' i := fun i m => nD i (sb i _ m)
    have q3' := q3.sub sb
    refine ⟨ws, VL.re G3 H3 F', G3, e1', F', b, e2', r', .re, t2, fun G4 H4 F4 r4 q4 s4 => ?_⟩
    obtain ⟨h4, g4, n4⟩ := q4.out n3 h3 g3
    have qq4 := q3'.trans q4
    cases b with
    | true =>
      obtain ⟨⟨yv, e3'⟩, t3, ec⟩ := Option.bind_eq_some_iff.mp (show (fe e2').bind _ = _ from ec)
      obtain ⟨⟨rest', env''⟩, t4, t5⟩ := Option.map_eq_some_iff.mp ec
      cases t5
      refine iteT ⟨VL.re G4 H4 F4, G4, e2', F4, yv, e3', r4, .re, t3, fun u G5 H5 F5 r5 q5 s5 ru => ?_⟩
      obtain ⟨h5, g5, n5⟩ := q5.out n4 h4 g4
      have qq5 := qq4.trans q5
      obtain ⟨F6, r6, s6⟩ := ER.wipe r5 vs
      rw [ws] at r6
      have n6 : ∀ i, Dp ∉ F6 i := fun i m => n5 i (s6 i _ m)
      refine ⟨acc, h5, Nat.lt_of_le_of_lt la (Nat.lt_of_lt_of_le hlt y.len), G5, F6, wipeE e3' vs, acc ++ [u], accD ++ [yv], rest', r6.other g5 n6, (qq5.sub s6).other cD, ((sc.trans x3.gg).trans s4).trans s5, g5, upd_same, n6, (lc.up ((x3.gg.trans s4).trans s5)).append (.cons ru .nil), ?_, t4, ?_⟩
      · rw [List.length_append, List.length_singleton]; omega
      · rw [List.append_assoc]; exact ea
    | false =>
      obtain ⟨F6, r6, s6⟩ := ER.wipe r4 vs
      rw [ws] at r6
      exact iteF ⟨G4, F6, wipeE e2' vs, acc, accD, rest, r6, qq4.sub s6, (sc.trans x3.gg).trans s4, g4, h4, fun i m => n4 i (s6 i _ m), lc.up (x3.gg.trans s4), by omega, ec, ea⟩
  · have ei : i = xs.length := by omega
    refine .inl ⟨y.stop i Gc Hc sc (sc.trans rc.sub) rc.sub ei, ?_⟩
    rw [List.drop_eq_nil_of_le (by omega)] at ec
    cases ec
    rw [List.append_nil] at ea
    subst ea
    exact k Dp acc Gc Hc Fc rc.unwipe qc (s1.trans sc) nD gD cD hDc lc
theorem okLM_v {K : PySem.W.Frag} {f : Mo (List D)} {t : TE} (h : OkLM K f t) : ∀ (c : C0) (G H : Hp) (st : L2.St) (env : VL.Env) (F : Nat → List Addr) (Q : VK) (d : D) (env' : VL.Env), ER K G H st env F → CR c G H F → ((f env).map fun x => (D.lst x.1, x.2)) = some (d, env') →
    (∀ v G' H' F', ER K G' H' st env' F' → CR c G' H' F' → Same G G' → Rp K G' v d → Q v H') → t st H Q := fun c G H st env F Q d env' r q e k => by
  obtain ⟨⟨ds, e1⟩, h1, h2⟩ := Option.map_eq_some_iff.mp e
  cases h2
  refine h c G H st env F Q ds _ r q h1 fun p vs G' H' F' r' q' s n g cp hp l => ?_
  have up := frzG_up (G := G') (H := H') (l := [p]) fun a m => by cases List.mem_singleton.mp m; exact g
  exact k _ _ _ F' (r'.frz1 g n) (q'.frz1 cp g) (s.trans up) (.lst (by unfold frzG; rw [if_pos (List.mem_singleton.mpr rfl)]; exact hp) (l.up up))
variable {elt tg iter : Expr} {ifs : List Expr} {scope : Scope} {own : List (Str × Nat)} {fi : Mo (List D)} {ts : List Nat} {ft : D → VL.Env → Option VL.Env} {fc : Mo Bool} {fe : Mo D}
@[simp] def mComp (vs : List Nat) (fi : Mo (List D)) (ft : D → VL.Env → Option VL.Env) (fc : Mo Bool) (fe : Mo D) : Mo D := fun env => ((fi env).bind fun x => compM vs ft fc fe x.1 (wipeE x.2 vs)).map fun x => (D.lst x.1, x.2)
theorem m_comp (hc : X.calm = true) (hN : X.N.Nodup) (hi : MI X tg iter fi) (ok : BlkOk X.N X.env.scope scope own) (hts : ∀ i ∈ ts, i ∈ own.map (·.2))
    (hg : ∀ (s : Shared) (H : Hp) (C : Addr) (cl : List (Str × Addr)) (fp : List Addr), TG1 (X.blk s H scope (compEnvC scope cl C X.env) fp) tg ts ft)
    (ht : ∀ (s : Shared) (H : Hp) (C : Addr) (cl : List (Str × Addr)) (fp : List Addr), MTs (X.blk s H scope (compEnvC scope cl C X.env) fp) ifs fc)
    (he : ∀ (s : Shared) (H : Hp) (C : Addr) (cl : List (Str × Addr)) (fp : List Addr), MV (X.blk s H scope (compEnvC scope cl C X.env) fp) elt fe) (hs : ∀ x, foldedSetIterable iter X.env x = pure x := by intro _; rfl) :
    MV X (.ListComp elt [⟨tg, iter, ifs, 0⟩] scope pos) (mComp (own.map (·.2)) fi ft fc fe) := by
  obtain ⟨wi, p, o⟩ := hi.ex
  exact ⟨_, pe_lc hc hN p ok (fun s H C cl fp => (hg s H C cl fp).c) (fun s H C cl fp => (ht s H C cl fp).c) (fun s H C cl fp => (he s H C cl fp).c) hs, okLM_v (lcm_ok o hts)⟩
/-! ranges with draws -/
theorem mi_range1 {a : Expr} {p : Pos} {fs : Mo (List D)} (hg : Gl X "range") (hm : X.mg "range" = none) (ha : MA X [a] fs) (hs : starEach [a] X.env = [(false, eval a X.env)] := by rfl) : MI X tg (.Call (.Name "range" p) [a] [] pos) (mB fs rng1) := by
  obtain ⟨t, pa, o⟩ := ha.ex
  refine ⟨_, pi_range1 hg hm pa hs, fun c G H st env F R xs env' r q e k => ?_⟩
  obtain ⟨ds, e1, e2⟩ := mB_some e
  unfold rng1 at e2
  split at e2
  · rename_i n
    split at e2
    · rename_i hn
      cases e2
      refine o c G H st env F _ _ env' r q e1 fun vs G1 H1 F1 r1 q1 s1 rv => ?_
      cases rv with
      | cons r2 r3 =>
        cases r3; cases r2
        have := line62
        exact ⟨n, rfl, by omega, by omega, k _ G1 H1 F1 r1 q1 s1 (yl_range (by omega))⟩
    · cases e2
  · cases e2
theorem mi_seq {l : Expr} {fa : Mo D} (h : MV X l fa) : MI X tg l (fun env => (fa env).bind fun x => (seqOf x.1).map fun z => (z, x.2)) := by
  obtain ⟨t, p, o⟩ := h.ex
  refine ⟨_, pi_or (pi_list (pe_hlen p)) (pi_tup (pe_hlen p)), fun c G H st env F R xs env' r q e k => ?_⟩
  obtain ⟨⟨d, e'⟩, e1, e2⟩ := Option.bind_eq_some_iff.mp e
  obtain ⟨z, e3, e4⟩ := Option.map_eq_some_iff.mp e2
  cases e4
  cases d <;> try (cases e3; done)
  · cases e3
    refine .inl (o c G H st env F _ _ _ r q e1 fun v G' H' F' r' q' s rv hz => ?_)
    cases rv with
    | lst h l => exact ⟨_, rfl, ⟨_, SqL.of (r'.sub _ _ h)⟩, k _ G' H' F' r' q' s (yl_list h l (hz.1 _ _ (r'.sub _ _ h)))⟩
  · cases e3
    refine .inr (o c G H st env F _ _ _ r q e1 fun v G' H' F' r' q' s rv hz => ?_)
    cases rv with
    | tup h l => exact ⟨_, rfl, ⟨_, SqT.of (r'.sub _ _ h)⟩, k _ G' H' F' r' q' s (yl_tup h l (hz.2 _ _ (r'.sub _ _ h)))⟩

/-! ### statements -/
@[simp] def sSetM (i : Nat) (fe : Mo D) : VL.Env → Option Out := fun env => (fe env).map fun x => .nx (x.2.set i (some (.fz x.1)))
theorem okSetM {K : PySem.W.Frag} {te : TE} {i : Nat} (o : ∀ (c : C0) (G H : Hp) (st : L2.St) (env : VL.Env) (F : Nat → List Addr) (Q : VK) (d : D) (env' : VL.Env), ER K G H st env F → CR c G H F → fe env = some (d, env') →
    (∀ v G' H' F', ER K G' H' st env' F' → CR c G' H' F' → Same G G' → Rp K G' v d → Q v H') → te st H Q) : OkT K (sSetM i fe) (tAsg te (gName i)) := fun c G H s env F E u r q e k => by
  obtain ⟨⟨d, e'⟩, e1, e2⟩ := Option.map_eq_some_iff.mp e
  subst e2
  exact o c G H s env F _ d e' r q e1 fun v G' H' F' r' q' s' rv => k G' H' _ _ (r'.setF i rv) (q'.sub fun j a m => putFp_sub m)
variable {e : Expr} {st : Stmt} {sts : List Stmt}
theorem s_setM (i : Nat) {x : Str} {pos' : Pos} (hN : X.N.Nodup) (he : MV X e fe) (hi : X.N[i]? = some x := by rfl) (hx : Loc X.env.scope x := by first | exact Or.inl rfl | exact Or.inr rfl) (hs : swapsWith e (some (.Name x pos')) pos.line X.env = pure false := by rfl)
    (hf : X.fn x = true ∨ X.env.scope.names.lookup x = some .local := by first | exact .inl rfl | exact .inr rfl) : SV X (.Assign [.Name x pos'] e pos) (sSetM i fe) := by
  obtain ⟨t, p, o⟩ := he.ex
  exact ⟨_, ps_set hN hi hx p hs hf, okSetM o⟩
theorem s_setCM (i : Nat) {y : Str} {py spos : Pos} (hc : X.calm = true) (hN : X.N.Nodup) (hi : MI X tg iter fi) (ok : BlkOk X.N X.env.scope scope own) (hts : ∀ i ∈ ts, i ∈ own.map (·.2))
    (hg : ∀ (s : Shared) (H : Hp) (C : Addr) (cl : List (Str × Addr)) (fp : List Addr), TG1 (X.blk s H scope (compEnvC scope cl C X.env) fp) tg ts ft)
    (ht : ∀ (s : Shared) (H : Hp) (C : Addr) (cl : List (Str × Addr)) (fp : List Addr), MTs (X.blk s H scope (compEnvC scope cl C X.env) fp) ifs fc)
    (he : ∀ (s : Shared) (H : Hp) (C : Addr) (cl : List (Str × Addr)) (fp : List Addr), MV (X.blk s H scope (compEnvC scope cl C X.env) fp) elt fe)
    (hsw : swapsWith (.ListComp elt [⟨tg, iter, ifs, 0⟩] scope pos) (some (.Name y py)) spos.line X.env = pure true) (hy : X.N[i]? = some y := by rfl) (hyl : X.env.scope.names.lookup y = some .local := by rfl)
    (hs : ∀ x, foldedSetIterable iter X.env x = pure x := by intro _; rfl) :
    SV X (.Assign [.Name y py] (.ListComp elt [⟨tg, iter, ifs, 0⟩] scope pos) spos) (sSetM i (mComp (own.map (·.2)) fi ft fc fe)) := by
  obtain ⟨wi, p, o⟩ := hi.ex
  exact ⟨_, ps_setLc hc hN hy hyl hsw p ok (fun s H C cl fp => (hg s H C cl fp).c) (fun s H C cl fp => (ht s H C cl fp).c) (fun s H C cl fp => (he s H C cl fp).c) hs, okSetM (okLM_v (lcm_ok o hts))⟩
@[simp] def sTgM (ft : D → VL.Env → Option VL.Env) (fe : Mo D) : VL.Env → Option Out := fun env => (fe env).bind fun d => (ft d.1 d.2).map .nx
theorem s_tgM (he : MV X e fe) (hg : TG1 X tg ts ft) (hs : swapsWithSole [tg] e pos.line X.env = pure false := by rfl) (hw : swappedStores [tg] e X.env = pure none := by rfl)
    (h1 : (assignEach [tg] X.env).map (·.2) = [assign tg X.env] := by rfl) : SV X (.Assign [tg] e pos) (sTgM ft fe) := by
  obtain ⟨t, p, o⟩ := he.ex
  obtain ⟨g, pg, og⟩ := hg.ex
  refine ⟨_, ps_asg p pg hs hw h1, fun c G H s env F E u r q e k => ?_⟩
  obtain ⟨⟨d, e'⟩, e1, e2⟩ := Option.bind_eq_some_iff.mp (show (fe env).bind _ = _ from e)
  obtain ⟨env', e3, e4⟩ := Option.map_eq_some_iff.mp e2
  subst e4
  exact o c G H s env F _ d e' r q e1 fun v G' H' F' r' q' s' rv => og G' H' s e' F' v d env' _ r' rv e3 fun st' F2 r2 sb _ => k G' H' st' F2 r2 (q'.sub sb)
@[simp] def sParM (i j : Nat) (fs : Mo (List D)) : VL.Env → Option Out := fun env => (fs env).bind fun ds => match ds.1 with
  | [d, e] => some (.nx ((ds.2.set i (some (.fz d))).set j (some (.fz e))))
  | _ => none
theorem s_parM {i j : Nat} {x y : Str} {a b : Expr} {fs : Mo (List D)} {px py pt : Pos} {kt k2 pt2} (hc : X.calm = true) (hN : X.N.Nodup) (ha : MA X [a, b] fs) (hij : i ≠ j) (hi : X.N[i]? = some x := by rfl) (hj : X.N[j]? = some y := by rfl)
    (hx : X.env.scope.names.lookup x = some .local := by rfl) (hy : X.env.scope.names.lookup y = some .local := by rfl)
    (hw : swappedStores [.Tuple [.Name x px, .Name y py] kt pt] (.Tuple [a, b] k2 pt2) X.env = pure (some [x, y]) := by rfl)
    (hs : swapsWithSole [.Tuple [.Name x px, .Name y py] kt pt] (.Tuple [a, b] k2 pt2) pos.line X.env = pure false := by rfl) :
    SV X (.Assign [.Tuple [.Name x px, .Name y py] kt pt] (.Tuple [a, b] k2 pt2) pos) (sParM i j fs) := by
  obtain ⟨t, p, o⟩ := ha.ex
  refine ⟨_, ps_par hc hN hi hj hij hx hy p hw hs, fun c G H s env F E u r q e k => ?_⟩
  obtain ⟨⟨ds, e'⟩, e1, e2⟩ := Option.bind_eq_some_iff.mp (show (fs env).bind _ = _ from e)
  dsimp only at e2
  split at e2
  · cases e2
    refine o c G H s env F _ _ _ r q e1 fun vs G' H' F' r' q' s' rv => ?_
    cases rv with
    | cons r1 r2 =>
      cases r2 with
      | cons r2 r3 =>
        cases r3
        exact ⟨_, _, rfl, k G' H' _ _ ((r'.setF i r1).setF j r2) (q'.sub fun j a m => putFp_sub (putFp_sub m))⟩
  · cases e2
@[simp] def sIfM (c : Mo Bool) (f g : VL.Env → Option Out) : VL.Env → Option Out := fun env => (c env).bind fun b => if b.1 then f b.2 else g b.2
theorem s_ifM {cnd : Expr} {a b : List Stmt} {f g : VL.Env → Option Out} (hc : MT X cnd fc) (ha : BV X a f) (hb : BV X b g) : SV X (.If cnd a b pos) (sIfM fc f g) := by
  obtain ⟨tc, pc, oc⟩ := hc.ex
  obtain ⟨t, p, o⟩ := ha.ex
  obtain ⟨t', p', o'⟩ := hb.ex
  refine ⟨_, ps_if pc p p', fun c G H s env F E u r q e k => ?_⟩
  obtain ⟨⟨x, e'⟩, e1, e2⟩ := Option.bind_eq_some_iff.mp (show (fc env).bind _ = _ from e)
  refine oc c G H s env F _ x e' r q e1 fun G' H' F' r' q' s' => ?_
  cases x with
  | true => exact iteT (o c G' H' s e' F' E u r' q' e2 k)
  | false => exact iteF (o' c G' H' s e' F' E u r' q' e2 k)
@[simp] def sRetM (fe : Mo D) : VL.Env → Option Out := fun env => (fe env).map fun d => .rt (.fz d.1) d.2
theorem s_retM (he : MV X e fe) : SV X (.Return (some e) pos) (sRetM fe) := by
  obtain ⟨t, p, o⟩ := he.ex
  refine ⟨_, ps_ret p, fun c G H s env F E u r q e k => ?_⟩
  obtain ⟨⟨d, e'⟩, e1, e2⟩ := Option.map_eq_some_iff.mp e
  subst e2
  exact o c G H s env F _ d e' r q e1 fun v G' H' F' r' q' s' rv => k v G' H' s F' [] r' q' (.fz rv) .nil (fun a m => by cases m) (fun i a m => by cases m)
@[simp] def sForM (fi : Mo (List D)) (ft : D → VL.Env → Option VL.Env) (fb : VL.Env → Option Out) : VL.Env → Option Out := fun env => (fi env).bind fun xs => forD ft fb xs.1 xs.2
theorem s_forM {body : List Stmt} {fb : VL.Env → Option Out} (hp : PassesOwn (model X.prog X.w) X.A X.env X.xe) (hc : X.calm = true) (hi : MI X tg iter fi) (hg : TG1 X tg ts ft) (hb : BV X body fb)
    (hs : ∀ x, foldedSetIterable iter X.env x = pure x := by intro _; rfl) : SV X (.For tg iter body [] pos) (sForM fi ft fb) := by
  obtain ⟨wi, pi, oi⟩ := hi.ex
  obtain ⟨g, pg, og⟩ := hg.ex
  obtain ⟨tb, pb, ob⟩ := hb.ex
  refine ⟨_, ps_for hp hc pi pg pb hs, fun c G H s env F E u r q e k => ?_⟩
  obtain ⟨⟨xs, env1⟩, e1, e2⟩ := Option.bind_eq_some_iff.mp (show (fi env).bind _ = _ from e)
  refine oi c G H s env F _ xs env1 r q e1 fun J G1 H1 F1 r1 q1 s1 y => ?_
  refine ⟨fun i m s' Hc => m = xs.length - i ∧ i ≤ xs.length ∧ ∃ Gc env' F' o, ER X.K Gc Hc s' env' F' ∧ CR c Gc Hc F' ∧ Same G1 Gc ∧ forD ft fb (xs.drop i) env' = some o ∧ Post X.K c E o,
    ⟨xs.length, rfl, Nat.zero_le _, G1, env1, F1, u, r1, q1, Same.refl _, e2, k⟩, ?_⟩
  rintro i m s' Hc ⟨em, hi', Gc, env', F', o, r', q', sg, ec, kc⟩
  by_cases hlt : i < xs.length
  · have ed : xs.drop i = xs[i] :: xs.drop (i + 1) := List.drop_eq_getElem_cons hlt
    rw [ed] at ec
    obtain ⟨ea, t1, ec⟩ := Option.bind_eq_some_iff.mp (show (ft xs[i] env').bind _ = some o from ec)
    obtain ⟨ob', t2, ec⟩ := Option.bind_eq_some_iff.mp ec
    obtain ⟨go, hy⟩ := y.step i Gc Hc sg (sg.trans r'.sub) r'.sub xs[i] (List.getElem?_eq_getElem hlt)
    refine .inr ⟨go, _, fun s2 H' h' => ⟨xs.length - (i + 1), by omega, rfl, hlt, h'⟩, fun v H3 hv => ?_⟩
    obtain ⟨G3, x3, rv⟩ := hy v H3 hv
    refine og G3 H3 s' env' F' v xs[i] ea _ (r'.ext x3) rv t1 fun st2 F2 r2 sb _ => ?_
    have q2 := (q'.ext x3).sub sb
    refine ob (VL.re G3 H3 F2) G3 H3 st2 ea F2 _ ob' r2 .re t2 ?_
    have nxt : ∀ e2', forD ft fb (xs.drop (i + 1)) e2' = some o → ∀ (G H : Hp) (st : L2.St) (F : Nat → List Addr), ER X.K G H st e2' F → CR (VL.re G3 H3 F2) G H F → i + 1 ≤ xs.length ∧ ∃ Gc env' F' o, ER X.K Gc H st env' F' ∧ CR c Gc H F' ∧ Same G1 Gc ∧ forD ft fb (xs.drop (i + 1)) env' = some o ∧ Post X.K c E o :=
      fun e2' ez G' H' st3 F3 r3 q3 => ⟨hlt, G', e2', F3, o, r3, q2.trans q3, (sg.trans x3.gg).trans q3.g0, ez, kc⟩
    cases ob' with
    | nx e2' => exact fun G' H' st3 F3 r3 q3 => (nxt e2' ec G' H' st3 F3 r3 q3).2
    | ct e2' => exact fun G' H' st3 F3 r3 q3 => (nxt e2' ec G' H' st3 F3 r3 q3).2
    | bk e2' =>
      cases ec
      exact fun G' H' st3 F3 r3 q3 => kc G' H' st3 F3 r3 (q2.trans q3)
    | rt z e2' =>
      cases ec
      exact Post.re (o := .rt z e2') q2 kc
  · have ei : i = xs.length := by omega
    refine .inl ⟨y.stop i Gc Hc sg (sg.trans r'.sub) r'.sub ei, ?_⟩
    rw [List.drop_eq_nil_of_le (by omega)] at ec
    cases ec
    exact kc Gc Hc s' F' r' q'
end
end VL

set_option Elab.async false
set_option linter.all false
set_option maxRecDepth 100000
/-! VL10: dicts, extend; defs that change their first argument; the law itself. -/
namespace VL
open PySem PySem.Spec PyProof.Rows L2

/-! ### dicts of the def's own, whose values are frozen -/
def frzK : List (D × S) → Option (List (D × D))
  | [] => some []
  | (k, .fz d) :: xs => (frzK xs).map ((k, d) :: ·)
  | _ => none
def fzK (kvs : List (D × D)) : List (D × S) := kvs.map fun p => (p.1, S.fz p.2)
@[simp] theorem frzK_map : ∀ kvs : List (D × D), frzK (fzK kvs) = some kvs
  | [] => rfl
  | (k, d) :: kvs => by
    show (frzK (fzK kvs)).map _ = _
    rw [frzK_map kvs]; rfl
theorem frzK_some : ∀ {xs : List (D × S)} {kvs : List (D × D)}, frzK xs = some kvs → xs = fzK kvs
  | [], _, h => by cases h; rfl
  | (k, .fz d) :: xs, _, h => by
    obtain ⟨ds, h1, h2⟩ := Option.map_eq_some_iff.mp (show (frzK xs).map _ = _ from h)
    subst h2
    rw [frzK_some h1]; rfl
  | (_, .ol _) :: _, _, h => by cases h
  | (_, .od _ _) :: _, _, h => by cases h
  | (_, .ot _) :: _, _, h => by cases h
  | (_, .ob _ _ _) :: _, _, h => by cases h
  | (_, .at _ _) :: _, _, h => by cases h
def odOf : S → Option (Bool × List (D × D))
  | .od t kvs => (frzK kvs).map fun x => (t, x)
  | _ => none
@[simp] theorem odOf_od (t : Bool) (kvs : List (D × D)) : odOf (.od t (fzK kvs)) = some (t, kvs) := by
  show (frzK (fzK kvs)).map _ = _
  rw [frzK_map]; rfl
theorem odOf_some {s : S} {t : Bool} {kvs : List (D × D)} (h : odOf s = some (t, kvs)) : s = .od t (fzK kvs) := by
  cases s <;> try (cases h; done)
  obtain ⟨x, h1, h2⟩ := Option.map_eq_some_iff.mp (show (frzK _).map _ = _ from h)
  cases h2
  rw [frzK_some h1]
section
variable {K : PySem.W.Frag} {G H : Hp}
theorem slRK_rp : ∀ {kvs : List (D × D)} {vs : List (Key × V)} {F : List Addr}, SlRK K G H vs (fzK kvs) F → RpK K G vs kvs ∧ F = []
  | [], _, _, h => by cases h; exact ⟨.nil, rfl⟩
  | (k, d) :: kvs, _, _, h => by
    cases h with
    | cons h1 h2 =>
      cases h1 with
      | fz r =>
        obtain ⟨a, b⟩ := slRK_rp h2
        exact ⟨.cons r a, by rw [b]; rfl⟩
theorem slRT_rp : ∀ {kvs : List (D × D)} {vs : List (List Key × V)} {F : List Addr}, SlRT K G H vs (fzK kvs) F → RpT K G vs kvs ∧ F = []
  | [], _, _, h => by cases h; exact ⟨.nil, rfl⟩
  | (k, d) :: kvs, _, _, h => by
    cases h with
    | cons h1 h2 =>
      cases h1 with
      | fz r =>
        obtain ⟨a, b⟩ := slRT_rp h2
        exact ⟨.cons r a, by rw [b]; rfl⟩
theorem slRK_of : ∀ {vs : List (Key × V)} {kvs : List (D × D)}, RpK K G vs kvs → SlRK K G H vs (fzK kvs) []
  | _, _, .nil => .nil
  | _, _, .cons h t => SlRK.cons (F := []) (.fz h) (slRK_of t)
theorem slRT_of : ∀ {vs : List (List Key × V)} {kvs : List (D × D)}, RpT K G vs kvs → SlRT K G H vs (fzK kvs) []
  | _, _, .nil => .nil
  | _, _, .cons h t => SlRT.cons (F := []) (.fz h) (slRT_of t)
def putKD (k : Key) (d : D) (kvs : List (D × D)) : List (D × D) :=
  if (kvs.any fun p => decide (keyD p.1 = some k)) = true then kvs.map fun p => if keyD p.1 = some k then (p.1, d) else p else kvs ++ [(kD k, d)]
def putTD (k : List Key) (d : D) (kvs : List (D × D)) : List (D × D) :=
  if (kvs.any fun p => decide (tkeyD p.1 = some k)) = true then kvs.map fun p => if tkeyD p.1 = some k then (p.1, d) else p else kvs ++ [(.tup (k.map kD), d)]
theorem RpK.length : ∀ {vs : List (Key × V)} {ds : List (D × D)}, RpK K G vs ds → vs.length = ds.length
  | _, _, .nil => rfl
  | _, _, .cons _ t => by rw [List.length_cons, List.length_cons, RpK.length t]
theorem RpT.length : ∀ {vs : List (List Key × V)} {ds : List (D × D)}, RpT K G vs ds → vs.length = ds.length
  | _, _, .nil => rfl
  | _, _, .cons _ t => by rw [List.length_cons, List.length_cons, RpT.length t]
theorem dec_key (a b : Key) : decide (a = b) = decide (keyD (kD a) = some b) := by
  rw [keyD_kD]
  by_cases c : a = b
  · subst c; simp
  · rw [decide_eq_false c, decide_eq_false fun z => c (Option.some.inj z)]
theorem dec_tkey (a b : List Key) : decide (a = b) = decide (tkeyD (.tup (a.map kD)) = some b) := by
  show _ = decide (keysD (a.map kD) = some b)
  rw [keysD_map]
  by_cases c : a = b
  · subst c; simp
  · rw [decide_eq_false c, decide_eq_false fun z => c (Option.some.inj z)]
theorem RpK.any (k : Key) : ∀ {vs : List (Key × V)} {ds : List (D × D)}, RpK K G vs ds → (vs.any fun p => decide (p.1 = k)) = ds.any fun p => decide (keyD p.1 = some k)
  | _, _, .nil => rfl
  | _, _, .cons _ t => by rw [List.any_cons, List.any_cons, RpK.any k t, dec_key]
theorem RpT.any (k : List Key) : ∀ {vs : List (List Key × V)} {ds : List (D × D)}, RpT K G vs ds → (vs.any fun p => decide (p.1 = k)) = ds.any fun p => decide (tkeyD p.1 = some k)
  | _, _, .nil => rfl
  | _, _, .cons _ t => by rw [List.any_cons, List.any_cons, RpT.any k t, dec_tkey]
theorem RpK.app : ∀ {vs ws : List (Key × V)} {ds es : List (D × D)}, RpK K G vs ds → RpK K G ws es → RpK K G (vs ++ ws) (ds ++ es)
  | _, _, _, _, .nil, h => h
  | _, _, _, _, .cons r t, h => .cons r (RpK.app t h)
theorem RpT.app : ∀ {vs ws : List (List Key × V)} {ds es : List (D × D)}, RpT K G vs ds → RpT K G ws es → RpT K G (vs ++ ws) (ds ++ es)
  | _, _, _, _, .nil, h => h
  | _, _, _, _, .cons r t, h => .cons r (RpT.app t h)
theorem RpK.setAll (k : Key) {v : V} {d : D} (r : Rp K G v d) : ∀ {vs : List (Key × V)} {ds : List (D × D)}, RpK K G vs ds →
    RpK K G (vs.map fun kv => if kv.1 = k then (kv.1, v) else kv) (ds.map fun p => if keyD p.1 = some k then (p.1, d) else p)
  | _, _, .nil => .nil
  | _, _, .cons (k := k') (v := v') (d := d') h t => by
    have ih := RpK.setAll k r t
    rw [List.map_cons, List.map_cons]
    show RpK K G ((if k' = k then (k', v) else (k', v')) :: _) ((if keyD (kD k') = some k then (kD k', d) else (kD k', d')) :: _)
    rw [keyD_kD]
    by_cases c : k' = k
    · rw [if_pos c, if_pos (by rw [c])]; exact .cons r ih
    · rw [if_neg c, if_neg fun z => c (Option.some.inj z)]; exact .cons h ih
theorem RpT.setAll (k : List Key) {v : V} {d : D} (r : Rp K G v d) : ∀ {vs : List (List Key × V)} {ds : List (D × D)}, RpT K G vs ds →
    RpT K G (vs.map fun kv => if kv.1 = k then (kv.1, v) else kv) (ds.map fun p => if tkeyD p.1 = some k then (p.1, d) else p)
  | _, _, .nil => .nil
  | _, _, .cons (k := k') (v := v') (d := d') h t => by
    have ih := RpT.setAll k r t
    rw [List.map_cons, List.map_cons]
    show RpT K G ((if k' = k then (k', v) else (k', v')) :: _) ((if keysD (k'.map kD) = some k then (.tup (k'.map kD), d) else (.tup (k'.map kD), d')) :: _)
    rw [keysD_map]
    by_cases c : k' = k
    · rw [if_pos c, if_pos (by rw [c])]; exact .cons r ih
    · rw [if_neg c, if_neg fun z => c (Option.some.inj z)]; exact .cons h ih
theorem RpK.put {k : Key} {v : V} {d : D} {vs : List (Key × V)} {ds : List (D × D)} (h : RpK K G vs ds) (r : Rp K G v d) : RpK K G (putK vs k v) (putKD k d ds) := by
  unfold putK putKD
  rw [h.any k]
  split
  · exact h.setAll k r
  · exact h.app (.cons r .nil)
theorem RpT.put {k : List Key} {v : V} {d : D} {vs : List (List Key × V)} {ds : List (D × D)} (h : RpT K G vs ds) (r : Rp K G v d) : RpT K G (putK vs k v) (putTD k d ds) := by
  unfold putK putTD
  rw [h.any k]
  split
  · exact h.setAll k r
  · exact h.app (.cons r .nil)
end
def dPut : Bool × List (D × D) → D → D → Option (List (D × D))
  | (false, kvs), k, d => if kvs.length < sizeLine then (keyD k).map fun k => putKD k d kvs else none
  | (true, kvs), k, d => if kvs.length < sizeLine then (tkeyD k).map fun k => putTD k d kvs else none
section
variable {X : Cx} {pos : Pos} {e : Expr} {fe fk : VL.Env → Option D}
/-- {} -/
theorem o_dnew (t : Bool) : PO X (.Dict [] [] pos) (fun _ => some (.od t [])) := by
  cases t with
  | false => exact ⟨_, pe_dnewK, fun G H st env F Q s r e k => by cases e; exact fun p np => k _ G _ [p] (Ex.own r.sub np) (.odK upd_same .nil) (by simp) fun a m => by cases List.mem_singleton.mp m; exact ⟨np, r.sub.free np⟩⟩
  | true => exact ⟨_, pe_dnewT, fun G H st env F Q s r e k => by cases e; exact fun p np => k _ G _ [p] (Ex.own r.sub np) (.odT upd_same .nil) (by simp) fun a m => by cases List.mem_singleton.mp m; exact ⟨np, r.sub.free np⟩⟩
/-- d[k] = e of an owned dict -/
@[simp] def sPutD (i : Nat) (fk fe : VL.Env → Option D) : VL.Env → Option Out := fun env => (fe env).bind fun d => (getS env i).bind fun z => (odOf z).bind fun o => (fk env).bind fun k => (dPut o k d).map fun kvs => .nx (env.set i (some (.od o.1 (fzK kvs))))
theorem s_putD (i : Nat) {k : Nat} {x : Str} {xpos tpos : Pos} {ke : Expr} (hr : Room k X.A) (he : PV X e fe) (hk : PV X ke fk) (hN : X.N[i]? = some x := by rfl) (hv : Vis X.env.scope x := by first | exact Or.inl rfl | exact Or.inr (Or.inl rfl) | exact Or.inr (Or.inr rfl))
    (hd : (x == ("__debug__" : Str)) = false := by decide) (hcd : (x == ("__classdict__" : Str)) = false := by decide)
    (hs : swapsWith e (some (.Subscript (.Name x xpos) ke tpos)) pos.line X.env = pure false := by rfl) :
    SV X (.Assign [.Subscript (.Name x xpos) ke tpos] e pos) (sPutD i fk fe) := by
  obtain ⟨t, p, o⟩ := he.ex
  obtain ⟨tk, pk, ok⟩ := hk.ex
  refine ⟨_, ps_dput (hu_of hr) (pe_var hN hv hd hcd) pk p hs, fun c G H s env F E u r q e k => ?_⟩
  obtain ⟨d, e1, e⟩ := Option.bind_eq_some_iff.mp e
  obtain ⟨z, e2, e⟩ := Option.bind_eq_some_iff.mp e
  obtain ⟨⟨tt, kvs⟩, e3, e⟩ := Option.bind_eq_some_iff.mp e
  obtain ⟨kd, e4, e⟩ := Option.bind_eq_some_iff.mp e
  obtain ⟨kvs', e6, e7⟩ := Option.map_eq_some_iff.mp e
  subst e7
  obtain rfl := odOf_some e3
  obtain ⟨v, g1, g2⟩ := r.slot i _ (getS_some e2)
  refine o G H s env F _ d r e1 fun w G1 H1 x1 rw' => ⟨v, g1, ok G1 H1 s env F _ _ (r.ext x1) e4 fun kv G2 H2 x2 rk => ?_⟩
  have x12 := x1.trans x2
  have r2 := r.ext x12
  obtain ⟨v', g1', g3⟩ := r2.slot i _ (getS_some e2)
  rw [g1] at g1'
  cases g1'
  have rw2 := rw'.up x2.gg
  generalize hFi : F i = Fi at g3
  cases g3 with
  | @odK pp vs _ Fx g4 g5 =>
    obtain ⟨l1, rfl⟩ := slRK_rp g5
    have hppF : pp ∈ F i := by rw [hFi]; exact List.mem_cons_self
    have e6' : (if kvs.length < sizeLine then (keyD kd).map fun k => putKD k d kvs else none) = some kvs' := e6
    split at e6'
    · rename_i hl
      obtain ⟨kk, e8, e9⟩ := Option.map_eq_some_iff.mp e6'
      subst e9
      obtain rfl := kD_of e8
      have ag : ∀ b, b ∉ F i → (L2.upd H2 pp (.dK (putK vs kk w))) b = H2 b ∨ H2 b = none := fun b hb => .inl (upd_ne fun z => hb (by rw [z]; exact hppF))
      refine ⟨pp, _, rfl, .inl ⟨vs, kk, g4, rk.key, by rw [l1.length]; exact hl, rfl⟩, k G2 _ s _ (r2.upd (l := [pp]) g1 ag (.odK upd_same (slRK_of (l1.put rw2))) (by simp) fun a m => ?_) (CR.upd (q.ext x12) ag fun a m => ?_)⟩
      · cases List.mem_singleton.mp m; exact .inl hppF
      · cases List.mem_singleton.mp m; exact .inl hppF
    · cases e6'
  | @odT pp vs _ Fx g4 g5 =>
    obtain ⟨l1, rfl⟩ := slRT_rp g5
    have hppF : pp ∈ F i := by rw [hFi]; exact List.mem_cons_self
    have e6' : (if kvs.length < sizeLine then (tkeyD kd).map fun k => putTD k d kvs else none) = some kvs' := e6
    split at e6'
    · rename_i hl
      obtain ⟨kk, e8, e9⟩ := Option.map_eq_some_iff.mp e6'
      subst e9
      cases rk with
      | tup k1 k2 =>
        obtain rfl := kDs_of (show keysD _ = some kk from e8)
        rw [k2.keys] at k1
        have ag : ∀ b, b ∉ F i → (L2.upd H2 pp (.dT (putK vs kk w))) b = H2 b ∨ H2 b = none := fun b hb => .inl (upd_ne fun z => hb (by rw [z]; exact hppF))
        refine ⟨pp, _, rfl, .inr ⟨vs, kk, _, g4, rfl, x12.gh _ _ k1, by rw [l1.length]; exact hl, rfl⟩, k G2 _ s _ (r2.upd (l := [pp]) g1 ag (.odT upd_same (slRT_of (l1.put rw2))) (by simp) fun a m => ?_) (CR.upd (q.ext x12) ag fun a m => ?_)⟩
        · cases List.mem_singleton.mp m; exact .inl hppF
        · cases List.mem_singleton.mp m; exact .inl hppF
      | _ => cases e8
    · cases e6'
/-- x.extend(e) at an owned list with frozen items -/
@[simp] def sExt (i : Nat) (fe : VL.Env → Option D) : VL.Env → Option Out := fun env => (getS env i).bind fun z => (olOf z).bind fun ds => (fe env).bind fun d => (lstOf d).bind fun es => if ds.length + es.length ≤ sizeLine then some (.nx (env.set i (some (.ol ((ds ++ es).map S.fz))))) else none
theorem s_ext (i : Nat) {x : Str} {xpos apos cpos : Pos} (he : PV X e fe) (hN : X.N[i]? = some x := by rfl) (hv : Vis X.env.scope x := by first | exact Or.inl rfl | exact Or.inr (Or.inl rfl) | exact Or.inr (Or.inr rfl))
    (hd : (x == ("__debug__" : Str)) = false := by decide) (hcd : (x == ("__classdict__" : Str)) = false := by decide)
    (hbase : attributeBase (.Name x xpos) "extend" X.env (eval (.Name x xpos) X.env) = eval (.Name x xpos) X.env := by rfl)
    (hfew : ((backTo cpos (starEach [e] X.env)).all (fun x => !x.1) && (backToKw cpos (keywordEach [] X.env)).all (fun x => x.1.isSome)
      && decide ([e].length + ([] : List Keyword).length + (if ([] : List Keyword).isEmpty then 0 else 1) < 30)) = true := by rfl)
    (hline : (apos.endLine == cpos.line) = true := by rfl) (hs : starEach [e] X.env = (false, eval e X.env) :: starEach [] X.env := by rfl)
    (hsw : swapsWith (.Call (.Attribute (.Name x xpos) "extend" apos) [e] [] cpos) none pos.line X.env = pure false := by rfl) :
    SV X (.Expr (.Call (.Attribute (.Name x xpos) "extend" apos) [e] [] cpos) pos) (sExt i fe) := by
  obtain ⟨t, p, o⟩ := he.ex
  refine ⟨_, ps_expr (pe_bm PySem.F.plainAttrs_list PySem.F.slot_list_extend PySem.F.type_list_extend mt_extend (pe_var hN hv hd hcd) (pa_cons p pa_nil hs) hbase hfew hline hs rfl) hsw, fun c G H s env F E u r q e k => ?_⟩
  obtain ⟨z, e1, e⟩ := Option.bind_eq_some_iff.mp e
  obtain ⟨ds, e2, e⟩ := Option.bind_eq_some_iff.mp e
  obtain ⟨d, e3, e⟩ := Option.bind_eq_some_iff.mp e
  obtain ⟨es, e4, e⟩ := Option.bind_eq_some_iff.mp e
  split at e
  · rename_i hl
    cases e
    obtain rfl := olOf_some e2
    obtain rfl := lstOf_some e4
    obtain ⟨v, h1, h2⟩ := r.slot i _ (getS_some e1)
    have ho := o G H s env F
    have dom := fun a => r.dom (i := i) (a := a)
    generalize hFi : F i = Fi at h2
    cases h2 with
    | @ol pp vs _ Fx g1 g2 =>
      obtain ⟨l1, rfl⟩ := slRs_rp g2
      refine ⟨.ref pp, h1, .inl ⟨rfl, _, SqL.of g1⟩, o G H s env F _ _ r e3 fun w G' H' x rw' => ?_⟩
      cases rw' with
      | @lst bb ws _ w1 w2 =>
        have hppF : pp ∈ F i := by rw [hFi]; exact List.mem_cons_self
        have ag : ∀ b, b ∉ F i → (L2.upd H' pp (.lst (vs ++ ws))) b = H' b ∨ H' b = none := fun b hb => .inl (upd_ne fun z => hb (by rw [z]; exact hppF))
        refine ⟨pp, bb, vs, ws, rfl, rfl, x.hh _ _ g1, x.gh _ _ w1, by rw [l1.length, w2.length]; exact hl, ?_⟩
        refine k G' _ s _ ((r.ext x).upd (l := [pp]) h1 ag (.ol upd_same (slRs_fz ((l1.up x.gg).append w2))) (by simp) fun a m => ?_) (CR.upd (q.ext x) ag fun a m => ?_)
        · cases List.mem_singleton.mp m; exact .inl hppF
        · cases List.mem_singleton.mp m; exact .inl hppF
  · cases e
end

/-! ### a def that changes what its first argument is -/
def slotAt (env : VL.Env) (p : Addr) : Option S := (getS env 0).bind fun z => (atOf z).bind fun s => if s.1 = p then some s.2 else none
theorem slotAt_some {env : VL.Env} {p : Addr} {s : S} (h : slotAt env p = some s) : env[0]? = some (some (.at p s)) := by
  obtain ⟨z, h1, h⟩ := Option.bind_eq_some_iff.mp (show (getS env 0).bind _ = _ from h)
  obtain ⟨⟨a, s'⟩, h2, h⟩ := Option.bind_eq_some_iff.mp h
  have h3 : (if a = p then some s' else none) = some s := h
  obtain rfl := atOf_some h2
  split at h3
  · rename_i c; cases h3; subst c; exact getS_some h1
  · cases h3
def retI (p : Addr) : Out → Option (D × S)
  | .rt (.fz d) env => (slotAt env p).map fun s => (d, s)
  | .nx env => (slotAt env p).map fun s => (.non, s)
  | _ => none
def fnI (np n : Nat) (fb : VL.Env → Option Out) (p : Addr) (s : S) (ds : List D) : Option (D × S) :=
  if ds.length + 1 = np ∧ np ≤ n then (fb (some (.at p s) :: (ds.map (fun d => some (S.fz d)) ++ List.replicate (n - np) none))).bind (retI p) else none
section
variable {P : Program} {w : World} {K : PySem.W.Frag} {mg : Str → Option Value} {base : Heap}
theorem fn_okI {x qual : Str} {st : Stmt} {f : Addr} {fd : FuncData} {N ps : List Str} {k : Nat} {fb : VL.Env → Option Out} (F : Fun K x qual st f fd) (Sc : FnScope N ps (defScope st))
    (hb : ∀ (cdv : Value) (A : Around) (outer : List PySem.Env) (s : Shared) (H : Hp) (E : XK), Room k (A.deeper (envOfC qual (defScope st) s.heap.objs.size f cdv)) →
      BV (cxOf CX0 P w K mg base N qual (defScope st) f cdv A outer s H E).nox (defBody st) fb) : FnOk P w K mg base CX0 (k + 1) f fd ps (spI K (fnI ps.length N.length fb)) := by
  refine F.ok Sc (fun vs H Q E ⟨G, p, ws, s0, l0, ds, d, s1, _, ev, _, _, _, l, e, _⟩ => ?_) (fun cdv A outer s H vs Q E hr ⟨G, p, ws, s0, l0, ds, d, s1, sub, ev, sl, nd, off, l, e, kk⟩ => ?_)
  · unfold fnI at e
    split at e
    · rename_i h; rw [ev, List.length_cons, l.length]; exact h.1
    · cases e
  · obtain ⟨t, pp, o⟩ := (hb cdv A outer s H E hr).ex
    unfold fnI at e
    split at e
    · rename_i hn
      obtain ⟨u, e1, e2⟩ := Option.bind_eq_some_iff.mp e
      subst ev
      have r0 : ER K G H (L2.start N (V.ref p :: ws)) (some (.at p s0) :: (ds.map (fun d => some (S.fz d)) ++ List.replicate (N.length - ps.length) none)) (fun i => if i = 0 then l0 else []) := by
        have es : L2.start N (V.ref p :: ws) = some (V.ref p) :: (ws.map some ++ List.replicate (N.length - ps.length) none) := by
          unfold L2.start
          rw [List.map_cons, List.cons_append, List.length_cons, l.length, hn.1]
        rw [es]
        refine ⟨sub, by simp [l.length], fun i z ez => ?_, fun i hi => ?_, fun i a m => ?_, fun i => ?_, fun i j a m m' => ?_⟩
        · cases i with
          | zero => cases ez; exact ⟨_, rfl, .at sl⟩
          | succ i =>
            rw [List.getElem?_cons_succ] at ez ⊢
            by_cases hi : i < ds.length
            · rw [List.getElem?_append_left (by rw [List.length_map]; exact hi), List.getElem?_map] at ez
              obtain ⟨d', z1, z2⟩ := Option.map_eq_some_iff.mp ez
              cases z2
              obtain ⟨v, h1, h2⟩ := l.get z1
              refine ⟨v, ?_, .fz h2⟩
              rw [List.getElem?_append_left (by rw [List.length_map, l.length]; exact hi), List.getElem?_map, h1]; rfl
            · rw [List.getElem?_append_right (by rw [List.length_map]; omega)] at ez
              have := List.mem_of_getElem? ez
              rw [List.mem_replicate] at this
              cases this.2
        · by_cases c : i = 0
          · subst c; exact absurd rfl (hi (.at p s0))
          · exact if_neg c
        · split at m
          · exact off a m
          · cases m
        · show (if i = 0 then l0 else []).Nodup
          split
          · exact nd
          · exact .nil
        · split at m <;> split at m'
          · rename_i c c'; rw [c, c']
          · cases m'
          · cases m
          · cases m
      have fin : ∀ (v : V) (env : VL.Env) (z : D) (s2 : S) (G' H' : Hp) (st' : L2.St) (F' : Nat → List Addr), slotAt env p = some s2 → (z, s2) = (d, s1) → ER K G' H' st' env F' → CR ⟨G, H, fun a => a ∈ l0⟩ G' H' F' → Rp K G' v z → Q v H' := fun v env z s2 G' H' st' F' h0 ez r q rv => by
        cases ez
        obtain ⟨v', h1, h2⟩ := r.slot 0 _ (slotAt_some h0)
        have nd1 := r.nd 0
        have of1 := r.off 0
        have ow := q.own 0
        generalize F' 0 = F0 at h2 nd1 of1 ow
        cases h2 with
        | «at» h2 => exact kk v G' H' F0 q.g0 r.sub (fun b o e n => q.keep b o e n) (fun b e => q.gnew b e) h2 nd1 (fun a m => ⟨of1 a m, (ow a m).symm⟩) rv
      refine ⟨t, pp, o ⟨G, H, fun a => a ∈ l0⟩ G H _ _ _ _ u r0 ⟨Same.refl _, fun b e => .inl e, fun b o e _ => e, fun i a m => ?_⟩ e1 ?_⟩
      · split at m
        · exact .inr m
        · cases m
      · cases u with
        | nx env =>
          obtain ⟨s2, h1, h2⟩ := Option.map_eq_some_iff.mp (show (slotAt env p).map _ = _ from e2)
          exact fun G' H' st' F' r q => fin .non env .non s2 G' H' st' F' h1 h2 r q .non
        | rt z env =>
          cases z with
          | fz z =>
            obtain ⟨s2, h1, h2⟩ := Option.map_eq_some_iff.mp (show (slotAt env p).map _ = _ from e2)
            exact fun v G' H' st' F' l' r q sl' _ _ _ => by
              cases sl' with
              | fz rv => exact fin v env z s2 G' H' st' F' h1 h2 r q rv
          | _ => cases e2
        | bk env => cases e2
        | ct env => cases e2
    · cases e
end

/-! ### the law's own state -/
def stS (n : Int) (cs : List Int) : S := .ol [.fz (.int n), .ol ((cs.map D.int).map S.fz)]
/-- a draw -/
def takeF (n : Int) (cs : List Int) (m : Int) : Int × Int × List Int :=
  let at_ := n % (cs.length : Int)
  let cell := cs.getD at_.toNat 0
  if 1000000000000000000 ≤ cell then (cell % m, n, cs.set at_.toNat (cell / m))
  else
    let m1 := (cell * 48271 + (n + 1) * 69621) % 2147483647
    let m2 := (m1 * 16807 + (n + 1) * 7919) % 1000000007
    (m2 / 7 % m, n + 1, cs)
theorem takeF_lt {n : Int} {cs : List Int} {m : Int} (h : 0 < m) : 0 ≤ (takeF n cs m).1 ∧ (takeF n cs m).1 < m := by
  unfold takeF
  dsimp only
  split
  · exact ⟨Int.emod_nonneg _ (by omega), Int.emod_lt_of_pos _ h⟩
  · exact ⟨Int.emod_nonneg _ (by omega), Int.emod_lt_of_pos _ h⟩
theorem takeF_ne {n : Int} {cs : List Int} {m : Int} (h : cs ≠ []) : (takeF n cs m).2.2 ≠ [] := by
  unfold takeF
  dsimp only
  split
  · intro e
    apply h
    have := congrArg List.length e
    rw [List.length_set] at this
    exact List.length_eq_zero_iff.mp this
  · exact h
def takeS (_ : Addr) : S → List D → Option (D × S)
  | .ol [.fz (.int n), .ol cs], [.int m] => (frzL cs).bind fun c1 => (intsOf c1).bind fun c2 => if 0 < m ∧ m.natAbs.log2 < 9000 ∧ c2 ≠ [] then some (.int (takeF n c2 m).1, stS (takeF n c2 m).2.1 (takeF n c2 m).2.2) else none
  | _, _ => none
theorem takeS_some {a : Addr} {s : S} {ds : List D} {z : D × S} (h : takeS a s ds = some z) : ∃ n cs m, s = stS n cs ∧ ds = [.int m] ∧ 0 < m ∧ m.natAbs.log2 < 9000 ∧ cs ≠ [] ∧ z = (.int (takeF n cs m).1, stS (takeF n cs m).2.1 (takeF n cs m).2.2) := by
  unfold takeS at h
  split at h
  · rename_i n cs m
    obtain ⟨c1, h1, h⟩ := Option.bind_eq_some_iff.mp h
    obtain ⟨c2, h2, h⟩ := Option.bind_eq_some_iff.mp h
    split at h
    · rename_i c
      cases h
      refine ⟨n, c2, m, ?_, rfl, c.1, c.2.1, c.2.2, rfl⟩
      rw [frzL_some h1, intsOf_some h2]; rfl
    · cases h
  · cases h
theorem takeS_eq {a : Addr} {n : Int} {cs : List Int} {m : Int} (h : 0 < m) (hm : m.natAbs < 2 ^ 64) (hc : cs ≠ []) : takeS a (stS n cs) [.int m] = some (.int (takeF n cs m).1, stS (takeF n cs m).2.1 (takeF n cs m).2.2) := by
  have h2 := log2_small hm (by decide)
  show (frzL _).bind _ = _
  rw [frzL_map]
  show (intsOf _).bind _ = _
  rw [intsOf_map]
  show (if _ then _ else _) = _
  rw [if_pos ⟨h, by omega, hc⟩]
end VL

set_option Elab.async false
set_option linter.all false
set_option maxRecDepth 100000
/-! VL11: short names for what the printed walks say; the law's own body. -/
namespace VL
open PySem PySem.Spec PyProof.Rows L2
@[simp] abbrev dN (i : Nat) : VL.Env → Option D := fun env => getF env i
@[simp] abbrev dW (i : Nat) : VL.Env → Option D := fun env => getW env i
@[simp] abbrev dK (d : D) : VL.Env → Option D := fun _ => some d
@[simp] abbrev a0 : VL.Env → Option (List D) := fun _ => some []
@[simp] abbrev dTup (fs : VL.Env → Option (List D)) : VL.Env → Option D := fun env => (fs env).bind fun ds => if ds.length < 1000 then some (.tup ds) else none
@[simp] abbrev dLst (fs : VL.Env → Option (List D)) : VL.Env → Option (List D) := fun env => (fs env).bind fun ds => if ds.length < 1000 then some ds else none
@[simp] abbrev fL (f : VL.Env → Option (List D)) : VL.Env → Option D := fun env => (f env).map D.lst
@[simp] abbrev oL (f : VL.Env → Option (List D)) : VL.Env → Option S := fun env => (f env).map fun ds => S.ol (ds.map S.fz)
@[simp] abbrev dSc (f : VL.Env → Option D) : VL.Env → Option D := fun env => (f env).bind scal
@[simp] abbrev dTr (f : VL.Env → Option D) : VL.Env → Option Bool := fun env => (f env).bind truE
@[simp] abbrev dNeg1 (f : VL.Env → Option D) : VL.Env → Option D := fun env => (f env).bind dNeg
@[simp] abbrev iSq (f : VL.Env → Option D) : VL.Env → Option (List D) := fun env => (f env).bind seqOf
@[simp] abbrev iOw (i : Nat) : VL.Env → Option (List D) := fun env => (getS env i).bind olOf
@[simp] abbrev iR1 (f : VL.Env → Option (List D)) : VL.Env → Option (List D) := fun env => (f env).bind rng1
@[simp] abbrev iR2 (f : VL.Env → Option (List D)) : VL.Env → Option (List D) := fun env => (f env).bind rng2
@[simp] abbrev iEn (f : VL.Env → Option D) : VL.Env → Option (List D) := fun env => (f env).bind fun d => (lstOf d).map enumD
@[simp] abbrev dComp (vs : List Nat) (fi : VL.Env → Option (List D)) (ft : D → VL.Env → Option VL.Env) (fc : VL.Env → Option Bool) (fe : VL.Env → Option D) : VL.Env → Option (List D) := fun env => (fi env).bind (compD ft fc fe (wipeE env vs))
@[simp] abbrev cY : VL.Env → Option Bool := fun _ => some true
@[simp] abbrev mY : Mo Bool := pur fun _ => some true
@[simp] abbrev mA0 : Mo (List D) := pur fun _ => some []
@[simp] abbrev dFz (i : Nat) (f : VL.Env → Option Out) : VL.Env → Option Out := fun env => (frzE i env).bind f
@[simp] abbrev sl0 : VL.Env → Option (Option Int) := fun _ => some none
@[simp] abbrev sl1 (f : VL.Env → Option D) : VL.Env → Option (Option Int) := fun env => ((f env).bind intOf).map some
@[simp] abbrev dCut (f : VL.Env → Option D) (l h : VL.Env → Option (Option Int)) : VL.Env → Option (List D) := fun env => (f env).bind fun d => (lstOf d).bind fun xs => (l env).bind fun l => (h env).bind fun h => some (cutD xs l h)
@[simp] abbrev oCall (fs : VL.Env → Option (List D)) (Fn : List D → Option S) : VL.Env → Option S := fun env => (fs env).bind Fn
@[simp] abbrev oFz (f : VL.Env → Option D) : VL.Env → Option S := fun env => (f env).map S.fz
@[simp] abbrev mSq (f : Mo D) : Mo (List D) := fun env => (f env).bind fun x => (seqOf x.1).map fun z => (z, x.2)
@[simp] abbrev mCall (fs : Mo (List D)) (Fn : List D → Option S) : Mo D := mB fs fun ds => (Fn ds).bind frS
@[simp] abbrev sBk : VL.Env → Option Out := fun env => some (.bk env)
@[simp] abbrev sCt : VL.Env → Option Out := fun env => some (.ct env)
@[simp] abbrev sRet0 : VL.Env → Option Out := fun env => some (.rt (.fz .non) env)

/-! ### tuple(x) -/
def CallF (X : Cx) (f : Value) (g : List D → Option D) : Prop :=
  ∃ r : List V → Hp → VK → Prop, CallR X f r ∧ ∀ (G H : Hp) (vs : List V) (ds : List D) (z : D) (Q : VK), Same G H → RpL X.K G vs ds → g ds = some z → (∀ v G' H', Ex G H G' H' → Rp X.K G' v z → Q v H') → r vs H Q
section
variable {X : Cx} {x : Str} {p pos : Pos} {id : String} {e : Expr} {es : List Expr} {fs : VL.Env → Option (List D)}
theorem v_callTF {g : List D → Option D} (hc : CallF X (.type id) g) (hg : Gl X x) (hm : X.mg x = none) (hv : bootBuiltins x = some (.type id)) (ha : AV X (e :: es) fs) (hn : x ≠ "__name__" := by decide) (hdb : (x == ("__debug__" : Str)) = false := by decide)
    (he : starEach (e :: es) X.env = (false, eval e X.env) :: starEach es X.env := by rfl) (hpl : (backTo pos (starEach es X.env)).any (·.1) = false := by rfl) : PV X (.Call (.Name x p) (e :: es) [] pos) (cB fs g) := by
  obtain ⟨r, hr, o⟩ := hc
  obtain ⟨t, pa, oa⟩ := ha.ex
  refine ⟨_, pe_callTy hr hg hm hv pa hn hdb he hpl, fun G H st env F Q d re e k => ?_⟩
  obtain ⟨ds, e1, e2⟩ := Option.bind_eq_some_iff.mp e
  exact oa G H st env F _ _ re e1 fun vs G1 H1 x1 r1 => o G1 H1 vs ds d Q x1.gh r1 e2 fun v G' H' x2 r2 => k v G' H' (x1.trans x2) r2
def dTuple : List D → Option D
  | [.lst xs] => some (.tup xs)
  | [.tup xs] => some (.tup xs)
  | _ => none
theorem c_tuple : CallF X (.type "tuple") dTuple := by
  refine ⟨_, call_tuple_of, fun G H vs ds z Q s r q k => ?_⟩
  unfold dTuple at q
  split at q
  · cases q
    cases r with
    | cons r1 r2 =>
      cases r2
      cases r1 with
      | lst h l => exact ⟨_, _, rfl, .inl ⟨SqL.of (s _ _ h), fun p np => k _ _ _ (Ex.frz s np) (.tup upd_same (l.up (same_upd (s.free np))))⟩⟩
  · cases q
    cases r with
    | cons r1 r2 =>
      cases r2
      cases r1 with
      | tup h l => exact ⟨_, _, rfl, .inr ⟨SqT.of (s _ _ h), k _ _ _ (Ex.refl s) (.tup h l)⟩⟩
  · cases q
theorem m_callTF {g : List D → Option D} {fs : Mo (List D)} (hc : CallF X (.type id) g) (hg : Gl X x) (hm : X.mg x = none) (hv : bootBuiltins x = some (.type id)) (ha : MA X (e :: es) fs) (hn : x ≠ "__name__" := by decide) (hdb : (x == ("__debug__" : Str)) = false := by decide)
    (he : starEach (e :: es) X.env = (false, eval e X.env) :: starEach es X.env := by rfl) (hpl : (backTo pos (starEach es X.env)).any (·.1) = false := by rfl) : MV X (.Call (.Name x p) (e :: es) [] pos) (mB fs g) := by
  obtain ⟨r, hr, o⟩ := hc
  obtain ⟨t, pa, oa⟩ := ha.ex
  refine ⟨_, pe_callTy hr hg hm hv pa hn hdb he hpl, fun c G H st env F Q d env' r q e k => ?_⟩
  obtain ⟨ds, e1, e2⟩ := mB_some e
  exact oa c G H st env F _ _ env' r q e1 fun vs G1 H1 F1 r1 q1 s1 rv => o G1 H1 vs ds d Q r1.sub rv e2 fun v G' H' x2 r2 => k v G' H' F1 (r1.ext x2) (q1.ext x2) (s1.trans x2.gg) r2
/-! ### isinstance(x, tuple), of what is frozen -/
def tyD : D → Option String
  | .non => some "NoneType"
  | .bl _ => some "bool"
  | .int _ => some "int"
  | .str _ => some "str"
  | .lst _ => some "list"
  | .tup _ => some "tuple"
  | .dic _ _ => some "dict"
  | .obj _ _ _ => none
  | .hid => none
theorem tyOf_rp {K : PySem.W.Frag} {H : Hp} {v : V} {d : D} (r : Rp K H v d) (n : ∀ t kvs, d ≠ .dic t kvs) (n2 : tyD d ≠ none) : ∃ T, tyD d = some T ∧ TyOf K H v (.type T) := by
  cases r with
  | non => exact ⟨_, rfl, .non⟩
  | bl b => exact ⟨_, rfl, .bl b⟩
  | int i => exact ⟨_, rfl, .int i⟩
  | str x => exact ⟨_, rfl, .str x⟩
  | lst h l => exact ⟨_, rfl, .lst h⟩
  | tup h l => exact ⟨_, rfl, .tup h⟩
  | dK h l => exact absurd rfl (n _ _)
  | dT h l => exact absurd rfl (n _ _)
  | obj h l r n m => exact absurd rfl n2
  | hid => exact absurd rfl n2
end
/-! ### the law -/
structure Df (K : PySem.W.Frag) (mg : Str → Option Value) (x : Str) (st : Stmt) (ps : List Str) (f : Addr) (fd : FuncData) : Prop where
  F : Fun K x x st f fd
  g : mg x = some (.ref f)
  b : Binds K fd ps []
def spState (K : PySem.W.Frag) : Sp := fun vs H Q _ => ∃ (a : Addr) (ns : List Int), vs = [.ref a] ∧ SqL K H a (ns.map V.int) ∧ ns.length ≤ 63 ∧
  ∀ (p q : Addr) (cs : List Int) (H' : Hp), Same H H' → H p = none → H q = none → p ≠ q → H' p = some (.lst [.int 0, .ref q]) → H' q = some (.lst (cs.map V.int)) → cs ≠ [] → Q (.ref p) H'
def spLaw (K : PySem.W.Frag) : Sp := fun vs H Q _ => ∃ (a : Addr) (ns : List Int), vs = [.ref a] ∧ SqL K H a (ns.map V.int) ∧ ns.length ≤ 63 ∧ ∀ H', Q (.bl true) H'
/-- the slots behind the law's first statement -/
def lawE (n : Nat) (p : Addr) (cs : List Int) : VL.Env := none :: some (.at p (stS 0 cs)) :: List.replicate (n - 2) none
def LawTrue (n : Nat) (fb : VL.Env → Option Out) : Prop := ∀ (p : Addr) (cs : List Int), cs ≠ [] → ∃ env', fb (lawE n p cs) = some (.rt (.fz (.bl true)) env')
section
variable {P : Program} {w : World} {K : PySem.W.Frag} {mg : Str → Option Value} {base : Heap}
theorem law_ok {st st0 : Stmt} {f : Addr} {fd : FuncData} {N : List Str} {k : Nat} {rest : List Stmt} {fb : VL.Env → Option Out} (F : Fun K "law" "law" st f fd) (Sc : FnScope N ["script"] (defScope st)) (hn : N.length = N.length - 2 + 2) (e0 : defBody st = st0 :: rest)
    (hb : ∀ (cdv : Value) (A : Around) (outer : List PySem.Env) (s : Shared) (H : Hp) (E : XK), Room (k + 1) (A.deeper (envOfC "law" (defScope st) s.heap.objs.size f cdv)) →
      BV (cxOf CX0 P w K mg base N "law" (defScope st) f cdv A outer s H E).nox rest fb)
    (hs : ∀ (cdv : Value) (A : Around) (outer : List PySem.Env) (s : Shared) (H : Hp) (E : XK), Room (k + 1) (A.deeper (envOfC "law" (defScope st) s.heap.objs.size f cdv)) →
      PS (cxOf CX0 P w K mg base N "law" (defScope st) f cdv A outer s H E).nox st0 (tAsg (tCall (spState K) [] E0 (tCons (tVar 0) tNil)) (gName 1)))
    (ht : LawTrue N.length fb) : FnOk P w K mg base CX0 (k + 2) f fd ["script"] (spLaw K) := by
  refine F.ok Sc (fun vs H Q E ⟨a, ns, ev, _⟩ => by rw [ev]; rfl) (fun cdv A outer s H vs Q E hr ⟨a, ns, ev, hS, hl, kk⟩ => ?_)
  subst ev
  obtain ⟨t, p, o⟩ := (hb cdv A outer s H E hr).ex
  have ps0 := hs cdv A outer s H E hr
  rw [e0]
  have es : L2.start N [V.ref a] = some (V.ref a) :: List.replicate (N.length - 1) none := rfl
  refine ⟨_, pss_cons ps0 p, ⟨_, by rw [es]; rfl, a, ns, rfl, hS, hl, fun pp qq cs H1 sm np nq npq hp hq hc => ?_⟩⟩
  obtain ⟨env', he⟩ := ht pp cs hc
  have en : N.length - 1 = (N.length - 2) + 1 := by omega
  have e1 : (L2.start N [V.ref a]).set 1 (some (V.ref pp)) = some (V.ref a) :: some (V.ref pp) :: List.replicate (N.length - 2) none := by
    rw [es, en, List.replicate_succ]; rfl
  show t _ ((L2.start N [V.ref a]).set 1 (some (V.ref pp))) H1
  rw [e1]
  have ndpq : [pp, qq].Nodup := by simp [npq]
  refine o ⟨fun _ => none, H1, fun a => a = pp ∨ a = qq⟩ (fun _ => none) H1 _ (lawE N.length pp cs) (fun i => if i = 1 then [pp, qq] else []) _ _ ⟨fun b o e => (by cases e), ?_, fun i z ez => ?_, fun i hi => ?_, fun i a m => rfl, fun i => ?_, fun i j a m m' => ?_⟩ ⟨fun b o e => (by cases e), fun b e => absurd rfl e, fun b o e _ => e, fun i a m => ?_⟩ he ?_
  · unfold lawE; simp
  · unfold lawE at ez
    match i, ez with
    | 1, ez =>
      cases ez
      refine ⟨_, rfl, .at ?_⟩
      exact SlR.ol (F := [qq]) hp (SlRs.cons (F := []) (F' := [qq]) (.fz (.int _)) (SlRs.cons (F := [qq]) (F' := []) (SlR.ol (F := []) hq (slRs_fz (RpL.of_ints _))) .nil))
    | i + 2, ez =>
      have := List.mem_of_getElem? (show (List.replicate (N.length - 2) (none : Option S))[i]? = some (some z) from ez)
      rw [List.mem_replicate] at this
      cases this.2
  · by_cases c : i = 1
    · subst c; exact absurd rfl (hi _)
    · exact if_neg c
  · show (if i = 1 then [pp, qq] else []).Nodup
    split
    · exact ndpq
    · exact .nil
  · split at m <;> split at m'
    · rename_i c c'; rw [c, c']
    · cases m'
    · cases m
    · cases m
  · split at m
    · exact .inr (by simpa using m)
    · cases m
  · exact fun v G' H' st' F' l r q sl _ _ _ => by
      cases sl with
      | fz rv => cases rv; exact kk H'
end
end VL

set_option Elab.async false
set_option linter.all false
set_option maxRecDepth 100000
/-! VL12: isinstance(x, tuple); stores with draws. -/
namespace VL
open PySem PySem.Spec PyProof.Rows L2
def isTup : D → Option D
  | .tup _ => some (.bl true)
  | .lst _ => some (.bl false)
  | .int _ => some (.bl false)
  | .str _ => some (.bl false)
  | .non => some (.bl false)
  | _ => none
@[simp] abbrev dIsi (_ : String) (f : VL.Env → Option D) : VL.Env → Option D := fun env => (f env).bind isTup
section
variable {X : Cx} {x : Str} {p p2 pos : Pos} {e : Expr} {es : List Expr} {fe : VL.Env → Option D}
theorem v_isi (hg : Gl X "isinstance") (hm : X.mg "isinstance" = none) (hg2 : Gl X "tuple") (hm2 : X.mg "tuple" = none) (he : PW X e fe)
    (hst : starEach (e :: [.Name "tuple" p2]) X.env = (false, eval e X.env) :: starEach [.Name "tuple" p2] X.env := by rfl) (hst2 : starEach [Expr.Name "tuple" p2] X.env = (false, eval (.Name "tuple" p2) X.env) :: starEach [] X.env := by rfl)
    (hpl : (backTo pos (starEach [Expr.Name "tuple" p2] X.env)).any (·.1) = false := by rfl) : PV X (.Call (.Name "isinstance" p) [e, .Name "tuple" p2] [] pos) (dIsi "tuple" fe) := by
  obtain ⟨t, pe, o⟩ := he.ex
  refine ⟨_, pe_callB call_isi hg hm (by decide +kernel) (pa_cons pe (pa_cons (pe_bltn (v := .ty "tuple") hg2 hm2 (by decide +kernel) rfl) pa_nil hst2) hst) (by decide) (by decide) hst hpl, fun G H st env F Q d r e k => ?_⟩
  obtain ⟨z, e1, e2⟩ := Option.bind_eq_some_iff.mp e
  refine o G H st env F _ _ r e1 fun v G' H' x1 rv => ?_
  cases z with
  | tup xs =>
    cases e2
    cases rv with
    | tup h l => exact ⟨_, _, _, _, true, rfl, .ty "tuple", .base (.tup h), kit_ty (by decide +kernel), k _ G' H' x1 (.bl _)⟩
  | lst xs =>
    cases e2
    cases rv with
    | lst h l => exact ⟨_, _, _, _, false, rfl, .ty "tuple", .base (.lst h), kit_ty (by decide +kernel), k _ G' H' x1 (.bl _)⟩
  | int i =>
    cases e2
    cases rv
    exact ⟨_, _, _, _, false, rfl, .ty "tuple", .base (.int _), kit_ty (by decide +kernel), k _ G' H' x1 (.bl _)⟩
  | str i =>
    cases e2
    cases rv
    exact ⟨_, _, _, _, false, rfl, .ty "tuple", .base (.str _), kit_ty (by decide +kernel), k _ G' H' x1 (.bl _)⟩
  | non =>
    cases e2
    cases rv
    exact ⟨_, _, _, _, false, rfl, .ty "tuple", .base .non, kit_ty (by decide +kernel), k _ G' H' x1 (.bl _)⟩
  | bl b => cases e2
  | dic b c => cases e2
  | obj b c d => cases e2
  | hid => cases e2

/-! x.append(e), e with draws -/
@[simp] def sAppM (i : Nat) (fe : Mo D) : VL.Env → Option Out := fun env => (getS env i).bind fun z0 => (olOf z0).bind fun _ => (fe env).bind fun x => (getS x.2 i).bind fun z => (olOf z).bind fun ds => if ds.length < sizeLine then some (.nx (x.2.set i (some (.ol ((ds ++ [x.1]).map S.fz))))) else none
variable {fm : Mo D}
theorem s_appM (i : Nat) {xpos apos cpos : Pos} (he : MV X e fm) (hN : X.N[i]? = some x := by rfl) (hv : Vis X.env.scope x := by first | exact Or.inl rfl | exact Or.inr (Or.inl rfl) | exact Or.inr (Or.inr rfl))
    (hd : (x == ("__debug__" : Str)) = false := by decide) (hcd : (x == ("__classdict__" : Str)) = false := by decide)
    (hbase : attributeBase (.Name x xpos) "append" X.env (eval (.Name x xpos) X.env) = eval (.Name x xpos) X.env := by rfl)
    (hfew : ((backTo cpos (starEach [e] X.env)).all (fun x => !x.1) && (backToKw cpos (keywordEach [] X.env)).all (fun x => x.1.isSome)
      && decide ([e].length + ([] : List Keyword).length + (if ([] : List Keyword).isEmpty then 0 else 1) < 30)) = true := by rfl)
    (hline : (apos.endLine == cpos.line) = true := by rfl) (hs : starEach [e] X.env = (false, eval e X.env) :: starEach [] X.env := by rfl)
    (hsw : swapsWith (.Call (.Attribute (.Name x xpos) "append" apos) [e] [] cpos) none pos.line X.env = pure false := by rfl) :
    SV X (.Expr (.Call (.Attribute (.Name x xpos) "append" apos) [e] [] cpos) pos) (sAppM i fm) := by
  obtain ⟨t, p, o⟩ := he.ex
  refine ⟨_, ps_expr (pe_bm PySem.F.plainAttrs_list PySem.F.slot_list_append PySem.F.type_list_append mt_append (pe_var hN hv hd hcd) (pa_cons p pa_nil hs) hbase hfew hline hs rfl) hsw, fun c G H s env F E u r q e k => ?_⟩
  obtain ⟨z0, e0, e⟩ := Option.bind_eq_some_iff.mp (show (getS env i).bind _ = _ from e)
  obtain ⟨ds0, e00, e⟩ := Option.bind_eq_some_iff.mp e
  obtain ⟨⟨d, env'⟩, e1, e⟩ := Option.bind_eq_some_iff.mp e
  obtain ⟨z, e2, e⟩ := Option.bind_eq_some_iff.mp e
  obtain ⟨ds, e3, e⟩ := Option.bind_eq_some_iff.mp e
  split at e
  · rename_i hl
    cases e
    obtain rfl := olOf_some e3
    obtain rfl := olOf_some e00
    obtain ⟨v, h1, h0⟩ := r.slot i _ (getS_some e0)
    generalize F i = F0 at h0
    cases h0 with
    | @ol pp vs0 _ Fx0 g0 _ =>
      refine ⟨_, h1, .inl ⟨rfl, _, SqL.of g0⟩, o c G H s env F _ d env' r q e1 fun w G' H' F' r' q' s' rw' => ?_⟩
      obtain ⟨v', h2, h3⟩ := r'.slot i _ (getS_some e2)
      rw [h1] at h2
      cases h2
      generalize hFi : F' i = Fi at h3
      cases h3 with
      | @ol p2 vs _ Fx g1 g2 =>
        obtain ⟨l1, rfl⟩ := slRs_rp g2
        have hppF : pp ∈ F' i := by rw [hFi]; exact List.mem_cons_self
        have ag : ∀ b, b ∉ F' i → (L2.upd H' pp (.lst (vs ++ [w]))) b = H' b ∨ H' b = none := fun b hb => .inl (upd_ne fun z => hb (by rw [z]; exact hppF))
        refine ⟨pp, vs, w, rfl, rfl, g1, by rw [l1.length]; exact hl, ?_⟩
        refine k G' _ s _ (r'.upd (l := [pp]) h1 ag (.ol upd_same (slRs_fz (l1.append (.cons rw' .nil)))) (by simp) fun a m => ?_) (CR.upd q' ag fun a m => ?_)
        · cases List.mem_singleton.mp m; exact .inl hppF
        · cases List.mem_singleton.mp m; exact .inl hppF
  · cases e
/-! x[k] = e, e with draws -/
@[simp] def sPutLM (i : Nat) (fk : VL.Env → Option D) (fe : Mo D) : VL.Env → Option Out := fun env => (fe env).bind fun d => (getS d.2 i).bind fun z => (olOf z).bind fun ds => (fk d.2).bind fun kd => (intOf kd).bind fun n => (ixN ds.length n).map fun j => .nx (d.2.set i (some (.ol ((ds.set j d.1).map S.fz))))
variable {fk : VL.Env → Option D}
theorem s_putLM (i : Nat) {xpos tpos : Pos} {ke : Expr} (he : MV X e fm) (hk : PW X ke fk) (hN : X.N[i]? = some x := by rfl) (hv : Vis X.env.scope x := by first | exact Or.inl rfl | exact Or.inr (Or.inl rfl) | exact Or.inr (Or.inr rfl))
    (hd : (x == ("__debug__" : Str)) = false := by decide) (hcd : (x == ("__classdict__" : Str)) = false := by decide)
    (ha : ∀ v, assign (.Subscript (.Name x xpos) ke tpos) X.env v = (do
      let ov ← holding [v] (eval (.Name x xpos) X.env)
      let iv ← holding [v, ov] (eval ke X.env)
      standAt tpos
      holding [v, ov, iv] (setItem ov iv v)
      release [v, ov, iv] []) := by intro _; rfl)
    (hs : swapsWithSole [.Subscript (.Name x xpos) ke tpos] e pos.line X.env = pure false := by rfl) (hw : swappedStores [.Subscript (.Name x xpos) ke tpos] e X.env = pure none := by rfl)
    (h1 : (assignEach [.Subscript (.Name x xpos) ke tpos] X.env).map (·.2) = [assign (.Subscript (.Name x xpos) ke tpos) X.env] := by rfl) :
    SV X (.Assign [.Subscript (.Name x xpos) ke tpos] e pos) (sPutLM i fk fm) := by
  obtain ⟨t, p, o⟩ := he.ex
  obtain ⟨tk, pk, ok⟩ := hk.ex
  refine ⟨_, ps_asg p (pg_sub (pe_var hN hv hd hcd) pk set_list ha) hs hw h1, fun c G H s env F E u r q e k => ?_⟩
  obtain ⟨⟨d, env'⟩, e1, e⟩ := Option.bind_eq_some_iff.mp (show (fm env).bind _ = _ from e)
  obtain ⟨z, e2, e⟩ := Option.bind_eq_some_iff.mp e
  obtain ⟨ds, e3, e⟩ := Option.bind_eq_some_iff.mp e
  obtain ⟨kd, e4, e⟩ := Option.bind_eq_some_iff.mp e
  obtain ⟨n, e5, e⟩ := Option.bind_eq_some_iff.mp e
  obtain ⟨j, e6, e7⟩ := Option.map_eq_some_iff.mp e
  subst e7
  obtain rfl := olOf_some e3
  obtain rfl := intOf_some e5
  refine o c G H s env F _ d env' r q e1 fun w G1 H1 F1 r1 q1 s1 rw' => ?_
  obtain ⟨v, g1, g2⟩ := r1.slot i _ (getS_some e2)
  refine ⟨v, g1, ok G1 H1 s env' F1 _ _ r1 e4 fun kv G2 H2 x2 rk => ?_⟩
  cases rk
  have r2 := r1.ext x2
  obtain ⟨v', g1', g3⟩ := r2.slot i _ (getS_some e2)
  rw [g1] at g1'
  cases g1'
  generalize hFi : F1 i = Fi at g3
  cases g3 with
  | @ol pp vs _ Fx g4 g5 =>
    obtain ⟨l1, rfl⟩ := slRs_rp g5
    have hppF : pp ∈ F1 i := by rw [hFi]; exact List.mem_cons_self
    have ag : ∀ b, b ∉ F1 i → (L2.upd H2 pp (.lst (vs.set j w))) b = H2 b ∨ H2 b = none := fun b hb => .inl (upd_ne fun z => hb (by rw [z]; exact hppF))
    refine ⟨pp, vs, n, j, rfl, rfl, g4, by rw [l1.length]; exact e6, k G2 _ s _ (r2.upd (l := [pp]) g1 ag (.ol upd_same (slRs_fz (rpl_set j l1 (rw'.up x2.gg)))) (by simp) fun a m => ?_) (CR.upd (q1.ext x2) ag fun a m => ?_)⟩
    · cases List.mem_singleton.mp m; exact .inl hppF
    · cases List.mem_singleton.mp m; exact .inl hppF
end
@[simp] abbrev sWh (n : VL.Env → Nat) (fc : VL.Env → Option Bool) (fb : VL.Env → Option Out) : VL.Env → Option Out := fun env => whD fc fb (n env) env
end VL

set_option Elab.async false
set_option linter.all false
set_option maxRecDepth 100000
/-! VL13: the comprehensions' rules with their own slots told. -/
namespace VL
open PySem PySem.Spec PyProof.Rows L2
section
variable {X : Cx} {pos : Pos} {elt tg iter : Expr} {ifs : List Expr} {scope : Scope} {ts : List Nat} {ft : D → VL.Env → Option VL.Env}
theorem xl_comp {fi : VL.Env → Option (List D)} {fc : VL.Env → Option Bool} {fe : VL.Env → Option D} (own : List (Str × Nat)) (vs : List Nat) (hvs : own.map (·.2) = vs) (hc : X.calm = true) (hN : X.N.Nodup) (hi : IC X tg iter fi) (ok : BlkOk X.N X.env.scope scope own)
    (hg : ∀ (s : Shared) (H : Hp) (C : Addr) (cl : List (Str × Addr)) (fp : List Addr), TG1 (X.blk s H scope (compEnvC scope cl C X.env) fp) tg ts ft) (hts : ∀ i ∈ ts, i ∈ vs)
    (ht : ∀ (s : Shared) (H : Hp) (C : Addr) (cl : List (Str × Addr)) (fp : List Addr), TBs (X.blk s H scope (compEnvC scope cl C X.env) fp) ifs fc)
    (he : ∀ (s : Shared) (H : Hp) (C : Addr) (cl : List (Str × Addr)) (fp : List Addr), PV (X.blk s H scope (compEnvC scope cl C X.env) fp) elt fe) (hs : ∀ x, foldedSetIterable iter X.env x = pure x := by intro _; rfl) :
    PL X (.ListComp elt [⟨tg, iter, ifs, 0⟩] scope pos) (dComp vs fi ft fc fe) := by
  subst hvs
  exact l_comp hc hN hi ok hts hg ht he hs
theorem xs_setC (i : Nat) {y : Str} {py spos : Pos} {fi : VL.Env → Option (List D)} {fc : VL.Env → Option Bool} {fe : VL.Env → Option D} (own : List (Str × Nat)) (vs : List Nat) (hvs : own.map (·.2) = vs) (hc : X.calm = true) (hN : X.N.Nodup) (hi : IC X tg iter fi) (ok : BlkOk X.N X.env.scope scope own)
    (hg : ∀ (s : Shared) (H : Hp) (C : Addr) (cl : List (Str × Addr)) (fp : List Addr), TG1 (X.blk s H scope (compEnvC scope cl C X.env) fp) tg ts ft) (hts : ∀ i ∈ ts, i ∈ vs)
    (ht : ∀ (s : Shared) (H : Hp) (C : Addr) (cl : List (Str × Addr)) (fp : List Addr), TBs (X.blk s H scope (compEnvC scope cl C X.env) fp) ifs fc)
    (he : ∀ (s : Shared) (H : Hp) (C : Addr) (cl : List (Str × Addr)) (fp : List Addr), PV (X.blk s H scope (compEnvC scope cl C X.env) fp) elt fe)
    (hsw : swapsWith (.ListComp elt [⟨tg, iter, ifs, 0⟩] scope pos) (some (.Name y py)) spos.line X.env = pure true) (hy : X.N[i]? = some y := by rfl) (hyl : X.env.scope.names.lookup y = some .local := by rfl)
    (hs : ∀ x, foldedSetIterable iter X.env x = pure x := by intro _; rfl) :
    SV X (.Assign [.Name y py] (.ListComp elt [⟨tg, iter, ifs, 0⟩] scope pos) spos) (sSet i (fL (dComp vs fi ft fc fe))) := by
  subst hvs
  exact s_setC i hc hN hi ok hts hg ht he hsw hy hyl hs
theorem xs_setCO (i : Nat) {y : Str} {py spos : Pos} {fi : VL.Env → Option (List D)} {fc : VL.Env → Option Bool} {fe : VL.Env → Option D} (own : List (Str × Nat)) (vs : List Nat) (hvs : own.map (·.2) = vs) (hc : X.calm = true) (hN : X.N.Nodup) (hi : IC X tg iter fi) (ok : BlkOk X.N X.env.scope scope own)
    (hg : ∀ (s : Shared) (H : Hp) (C : Addr) (cl : List (Str × Addr)) (fp : List Addr), TG1 (X.blk s H scope (compEnvC scope cl C X.env) fp) tg ts ft) (hts : ∀ i ∈ ts, i ∈ vs)
    (ht : ∀ (s : Shared) (H : Hp) (C : Addr) (cl : List (Str × Addr)) (fp : List Addr), TBs (X.blk s H scope (compEnvC scope cl C X.env) fp) ifs fc)
    (he : ∀ (s : Shared) (H : Hp) (C : Addr) (cl : List (Str × Addr)) (fp : List Addr), PV (X.blk s H scope (compEnvC scope cl C X.env) fp) elt fe)
    (hsw : swapsWith (.ListComp elt [⟨tg, iter, ifs, 0⟩] scope pos) (some (.Name y py)) spos.line X.env = pure true) (hy : X.N[i]? = some y := by rfl) (hyl : X.env.scope.names.lookup y = some .local := by rfl)
    (hs : ∀ x, foldedSetIterable iter X.env x = pure x := by intro _; rfl) :
    SV X (.Assign [.Name y py] (.ListComp elt [⟨tg, iter, ifs, 0⟩] scope pos) spos) (sSetO i (oL (dComp vs fi ft fc fe))) := by
  subst hvs
  exact s_setCO i hc hN hi ok hts hg ht he hsw hy hyl hs
theorem xm_comp {fi : Mo (List D)} {fc : Mo Bool} {fe : Mo D} (own : List (Str × Nat)) (vs : List Nat) (hvs : own.map (·.2) = vs) (hc : X.calm = true) (hN : X.N.Nodup) (hi : MI X tg iter fi) (ok : BlkOk X.N X.env.scope scope own)
    (hg : ∀ (s : Shared) (H : Hp) (C : Addr) (cl : List (Str × Addr)) (fp : List Addr), TG1 (X.blk s H scope (compEnvC scope cl C X.env) fp) tg ts ft) (hts : ∀ i ∈ ts, i ∈ vs)
    (ht : ∀ (s : Shared) (H : Hp) (C : Addr) (cl : List (Str × Addr)) (fp : List Addr), MTs (X.blk s H scope (compEnvC scope cl C X.env) fp) ifs fc)
    (he : ∀ (s : Shared) (H : Hp) (C : Addr) (cl : List (Str × Addr)) (fp : List Addr), MV (X.blk s H scope (compEnvC scope cl C X.env) fp) elt fe) (hs : ∀ x, foldedSetIterable iter X.env x = pure x := by intro _; rfl) :
    MV X (.ListComp elt [⟨tg, iter, ifs, 0⟩] scope pos) (mComp vs fi ft fc fe) := by
  subst hvs
  exact m_comp hc hN hi ok hts hg ht he hs
theorem xs_setCM (i : Nat) {y : Str} {py spos : Pos} {fi : Mo (List D)} {fc : Mo Bool} {fe : Mo D} (own : List (Str × Nat)) (vs : List Nat) (hvs : own.map (·.2) = vs) (hc : X.calm = true) (hN : X.N.Nodup) (hi : MI X tg iter fi) (ok : BlkOk X.N X.env.scope scope own)
    (hg : ∀ (s : Shared) (H : Hp) (C : Addr) (cl : List (Str × Addr)) (fp : List Addr), TG1 (X.blk s H scope (compEnvC scope cl C X.env) fp) tg ts ft) (hts : ∀ i ∈ ts, i ∈ vs)
    (ht : ∀ (s : Shared) (H : Hp) (C : Addr) (cl : List (Str × Addr)) (fp : List Addr), MTs (X.blk s H scope (compEnvC scope cl C X.env) fp) ifs fc)
    (he : ∀ (s : Shared) (H : Hp) (C : Addr) (cl : List (Str × Addr)) (fp : List Addr), MV (X.blk s H scope (compEnvC scope cl C X.env) fp) elt fe)
    (hsw : swapsWith (.ListComp elt [⟨tg, iter, ifs, 0⟩] scope pos) (some (.Name y py)) spos.line X.env = pure true) (hy : X.N[i]? = some y := by rfl) (hyl : X.env.scope.names.lookup y = some .local := by rfl)
    (hs : ∀ x, foldedSetIterable iter X.env x = pure x := by intro _; rfl) :
    SV X (.Assign [.Name y py] (.ListComp elt [⟨tg, iter, ifs, 0⟩] scope pos) spos) (sSetM i (mComp vs fi ft fc fe)) := by
  subst hvs
  exact s_setCM i hc hN hi ok hts hg ht he hsw hy hyl hs
end
end VL

set_option Elab.async false
set_option linter.all false
set_option maxRecDepth 100000
/-! VL14: the plain side: data typed, loops by invariants, draws. -/
namespace VL
open PySem PySem.Spec PyProof.Rows L2
/-! ### == of data -/
mutual
/-- without bools and dicts -/
def D.nb : D → Bool
  | .lst xs => D.nbL xs
  | .tup xs => D.nbL xs
  | .dic _ _ => false
  | .obj _ _ _ => false
  | .hid => false
  | .bl _ => false
  | _ => true
def D.nbL : List D → Bool
  | [] => true
  | x :: xs => x.nb && D.nbL xs
end
mutual
def D.dep : D → Nat
  | .lst xs => D.depL xs + 1
  | .tup xs => D.depL xs + 1
  | _ => 0
def D.depL : List D → Nat
  | [] => 0
  | x :: xs => max x.dep (D.depL xs)
end
mutual
theorem D.nb_plain : ∀ d : D, d.nb = true → d.plain = true
  | .non, _ => rfl
  | .bl _, h => rfl
  | .int _, _ => rfl
  | .str _, _ => rfl
  | .lst xs, h => D.nbL_plain xs h
  | .tup xs, h => D.nbL_plain xs h
  | .dic _ _, h => by cases (show false = true from h)
  | .obj _ _ _, h => by cases (show false = true from h)
  | .hid, h => by cases (show false = true from h)
theorem D.nbL_plain : ∀ xs : List D, D.nbL xs = true → D.plainL xs = true
  | [], _ => rfl
  | x :: xs, h => by
    have q : x.nb = true ∧ D.nbL xs = true := by simpa [D.nbL] using h
    show (x.plain && D.plainL xs) = true
    rw [D.nb_plain x q.1, D.nbL_plain xs q.2]; rfl
end
mutual
theorem D.dep_py : ∀ d : D, d.py.depth = d.dep
  | .non => rfl
  | .bl _ => rfl
  | .int _ => rfl
  | .str _ => rfl
  | .lst xs => by
    show PyData.depth (.list (D.pyL xs)) = _
    rw [PyData.depth, D.depL_py xs]; rfl
  | .tup xs => by
    show PyData.depth (.tuple (D.pyL xs)) = _
    rw [PyData.depth, D.depL_py xs]; rfl
  | .dic _ _ => rfl
  | .obj _ _ _ => rfl
  | .hid => rfl
theorem D.depL_py : ∀ xs : List D, PyData.depthAll (D.pyL xs) = D.depL xs
  | [] => rfl
  | x :: xs => by
    show PyData.depthAll (x.py :: D.pyL xs) = _
    rw [PyData.depthAll, D.dep_py x, D.depL_py xs]; rfl
end
mutual
theorem eqv_py : ∀ d e : D, d.nb = true → e.nb = true → (PyData.eqv d.py e.py = true ↔ d = e)
  | .non, e, _, he => by cases e <;> simp [D.py, PyData.eqv] <;> cases he
  | .bl _, _, h, _ => by cases (show false = true from h)
  | .int i, e, _, he => by cases e <;> simp [D.py, PyData.eqv] <;> cases he
  | .str x, e, _, he => by cases e <;> simp [D.py, PyData.eqv] <;> cases he
  | .lst xs, e, h, he => by
    cases e with
    | lst ys =>
      have := eqvL_py xs ys h he
      simp only [D.py, PyData.eqv, this, D.lst.injEq]
    | bl _ => cases he
    | dic _ _ => cases he
    | obj _ _ _ => cases he
    | hid => cases he
    | _ => simp [D.py, PyData.eqv]
  | .tup xs, e, h, he => by
    cases e with
    | tup ys =>
      have := eqvL_py xs ys h he
      simp only [D.py, PyData.eqv, this, D.tup.injEq]
    | bl _ => cases he
    | dic _ _ => cases he
    | obj _ _ _ => cases he
    | hid => cases he
    | _ => simp [D.py, PyData.eqv]
  | .dic _ _, _, h, _ => by cases (show false = true from h)
  | .obj _ _ _, _, h, _ => by cases (show false = true from h)
  | .hid, _, h, _ => by cases (show false = true from h)
theorem eqvL_py : ∀ xs ys : List D, D.nbL xs = true → D.nbL ys = true → (PyData.eqvAll (D.pyL xs) (D.pyL ys) = true ↔ xs = ys)
  | [], [], _, _ => by simp [D.pyL, PyData.eqvAll]
  | [], _ :: _, _, _ => by simp [D.pyL, PyData.eqvAll]
  | _ :: _, [], _, _ => by simp [D.pyL, PyData.eqvAll]
  | x :: xs, y :: ys, h, he => by
    have q : x.nb = true ∧ D.nbL xs = true := by simpa [D.nbL] using h
    have q' : y.nb = true ∧ D.nbL ys = true := by simpa [D.nbL] using he
    simp only [D.pyL, PyData.eqvAll, Bool.and_eq_true, eqv_py x y q.1 q'.1, eqvL_py xs ys q.2 q'.2, List.cons.injEq]
end
theorem eqD_iff {d e : D} (h : d.nb = true) (h' : e.nb = true) : eqD d e = true ↔ d = e := eqv_py d e h h'
theorem eqD_self {d : D} (h : d.nb = true) : eqD d d = true := (eqD_iff h h).mpr rfl
theorem cmpOk_of {d e : D} (h : d.nb = true) (h' : e.nb = true) (k : d.dep ≤ 40) : cmpOk d e = true := by
  unfold cmpOk
  rw [D.nb_plain d h, D.nb_plain e h', D.dep_py, D.dep_py]
  simp only [Bool.and_self, Bool.true_and, decide_eq_true_eq]
  omega
theorem dEq_of {d e : D} (h : d.nb = true) (h' : e.nb = true) (k : d.dep ≤ 40) : dEq d e = some (.bl (eqD d e)) := if_pos (cmpOk_of h h' k)
theorem dNe_of {d e : D} (h : d.nb = true) (h' : e.nb = true) (k : d.dep ≤ 40) : dNe d e = some (.bl (!eqD d e)) := if_pos (cmpOk_of h h' k)
theorem dNe_self {d : D} (h : d.nb = true) (k : d.dep ≤ 40) : dNe d d = some (.bl false) := by rw [dNe_of h h k, eqD_self h]; rfl
theorem dEq_self {d : D} (h : d.nb = true) (k : d.dep ≤ 40) : dEq d d = some (.bl true) := by rw [dEq_of h h k, eqD_self h]
theorem D.nbL_iff : ∀ {xs : List D}, D.nbL xs = true ↔ ∀ x ∈ xs, x.nb = true
  | [] => by simp [D.nbL]
  | x :: xs => by simp [D.nbL, D.nbL_iff (xs := xs)]
theorem D.depL_le : ∀ {xs : List D} {n : Nat}, D.depL xs ≤ n ↔ ∀ x ∈ xs, x.dep ≤ n
  | [], n => by simp [D.depL]
  | x :: xs, n => by simp only [D.depL, List.mem_cons, forall_eq_or_imp, ← D.depL_le (xs := xs)]; omega
/-- typed data -/
class Enc (α : Type) where
  enc : α → D
  nb : ∀ a, (enc a).nb = true
  inj : ∀ {a b}, enc a = enc b → a = b
  n : Nat
  dp : ∀ a, (enc a).dep ≤ n
open Enc (enc)
instance : Enc Int := ⟨D.int, fun _ => rfl, fun h => by cases h; rfl, 0, fun _ => Nat.le_refl _⟩
instance : Enc Nat := ⟨fun n => D.int (n : Int), fun _ => rfl, fun h => by cases h; rfl, 0, fun _ => Nat.le_refl _⟩
instance {α : Type} [Enc α] : Enc (List α) where
  enc xs := .lst (xs.map enc)
  nb xs := by
    show D.nbL _ = true
    rw [D.nbL_iff]
    intro x h
    obtain ⟨a, _, rfl⟩ := List.mem_map.mp h
    exact Enc.nb a
  inj {a b} h := by
    have h := D.lst.inj h
    induction a generalizing b with
    | nil => cases b with
      | nil => rfl
      | cons _ _ => cases h
    | cons x xs ih => cases b with
      | nil => cases h
      | cons y ys =>
        simp only [List.map_cons, List.cons.injEq] at h
        rw [Enc.inj h.1, ih (congrArg D.lst h.2) h.2]
  n := Enc.n α + 1
  dp xs := by
    show D.depL _ + 1 ≤ _
    have : D.depL (xs.map enc) ≤ Enc.n α := D.depL_le.mpr fun x h => by
      obtain ⟨a, _, rfl⟩ := List.mem_map.mp h
      exact Enc.dp a
    omega
instance {α β : Type} [Enc α] [Enc β] : Enc (α × β) where
  enc p := .tup [enc p.1, enc p.2]
  nb p := by
    show ((enc p.1).nb && ((enc p.2).nb && true)) = true
    rw [Enc.nb, Enc.nb]; rfl
  inj {a b} h := by
    simp only [D.tup.injEq, List.cons.injEq, and_true] at h
    exact Prod.ext (Enc.inj h.1) (Enc.inj h.2)
  n := max (Enc.n α) (Enc.n β) + 1
  dp p := by
    show max _ (max _ 0) + 1 ≤ _
    have h1 := Enc.dp p.1
    have h2 := Enc.dp p.2
    omega
theorem dEq_enc {α : Type} [Enc α] [DecidableEq α] (a b : α) (h : Enc.n α ≤ 40) : dEq (enc a) (enc b) = some (.bl (decide (a = b))) := by
  rw [dEq_of (Enc.nb a) (Enc.nb b) (Nat.le_trans (Enc.dp a) h)]
  congr 2
  rw [Bool.eq_iff_iff, eqD_iff (Enc.nb a) (Enc.nb b), decide_eq_true_eq]
  exact ⟨Enc.inj, fun e => by rw [e]⟩
theorem dNe_enc {α : Type} [Enc α] [DecidableEq α] (a b : α) (h : Enc.n α ≤ 40) : dNe (enc a) (enc b) = some (.bl (!decide (a = b))) := by
  rw [dNe_of (Enc.nb a) (Enc.nb b) (Nat.le_trans (Enc.dp a) h)]
  congr 3
  rw [Bool.eq_iff_iff, eqD_iff (Enc.nb a) (Enc.nb b), decide_eq_true_eq]
  exact ⟨Enc.inj, fun e => by rw [e]⟩
/-! ### names, at a list of slots that is told -/
@[simp] theorem getF_0 (d : D) (env : VL.Env) : getF (some (.fz d) :: env) 0 = some d := rfl
@[simp] theorem getF_s (x : Option S) (env : VL.Env) (i : Nat) : getF (x :: env) (i + 1) = getF env i := rfl
@[simp] theorem getS_0 (s : S) (env : VL.Env) : getS (some s :: env) 0 = some s := rfl
@[simp] theorem getS_s (x : Option S) (env : VL.Env) (i : Nat) : getS (x :: env) (i + 1) = getS env i := rfl
@[simp] theorem getW_0 (d : D) (env : VL.Env) : getW (some (.fz d) :: env) 0 = some d := rfl
@[simp] theorem getW_s (x : Option S) (env : VL.Env) (i : Nat) : getW (x :: env) (i + 1) = getW env i := rfl
theorem S.noObL_fz : ∀ ds : List D, S.noObL (ds.map S.fz) = true
  | [] => rfl
  | d :: ds => by
    show (S.noOb (.fz d) && S.noObL (ds.map S.fz)) = true
    rw [S.noObL_fz ds]; rfl
theorem S.erL_fz : ∀ ds : List D, S.erL (ds.map S.fz) = ds
  | [] => rfl
  | d :: ds => by
    show d :: S.erL (ds.map S.fz) = _
    rw [S.erL_fz ds]
@[simp] theorem getW_ol (ds : List D) (env : VL.Env) : getW (some (.ol (ds.map S.fz)) :: env) 0 = some (.lst ds) := by
  show (if S.noObL (ds.map S.fz) = true then some (D.lst (S.erL (ds.map S.fz))) else none) = _
  rw [S.noObL_fz, S.erL_fz, if_pos rfl]
@[simp] theorem frS_ol (ds : List D) : frS (.ol (ds.map S.fz)) = some (.lst ds) := by
  show (if S.noObL (ds.map S.fz) = true then some (D.lst (S.erL (ds.map S.fz))) else none) = _
  rw [S.noObL_fz, S.erL_fz, if_pos rfl]
theorem S.noObK_fz : ∀ ds : List (D × D), S.noObK (fzK ds) = true
  | [] => rfl
  | (k, d) :: ds => by
    show (S.noOb (.fz d) && S.noObK (fzK ds)) = true
    rw [S.noObK_fz ds]; rfl
theorem S.erK_fz : ∀ ds : List (D × D), S.erK (fzK ds) = ds
  | [] => rfl
  | (k, d) :: ds => by
    show (k, d) :: S.erK (fzK ds) = _
    rw [S.erK_fz ds]
@[simp] theorem getW_od (t : Bool) (ds : List (D × D)) (env : VL.Env) : getW (some (.od t (fzK ds)) :: env) 0 = some (.dic t ds) := by
  show (if S.noObK (fzK ds) = true then some (D.dic t (S.erK (fzK ds))) else none) = _
  rw [S.noObK_fz, S.erK_fz, if_pos rfl]
@[simp] theorem frS_od (t : Bool) (ds : List (D × D)) : frS (.od t (fzK ds)) = some (.dic t ds) := by
  show (if S.noObK (fzK ds) = true then some (D.dic t (S.erK (fzK ds))) else none) = _
  rw [S.noObK_fz, S.erK_fz, if_pos rfl]
/-! ### loops -/
/-- a comprehension, typed -/
theorem compD_map {α : Type} {ft : D → VL.Env → Option VL.Env} {fc : VL.Env → Option Bool} {fe : VL.Env → Option D} {env : VL.Env} {en : α → D} {c : α → Bool} {g : α → D} : ∀ {xs : List α},
    (∀ x ∈ xs, ∃ e1, ft (en x) env = some e1 ∧ fc e1 = some (c x) ∧ (c x = true → fe e1 = some (g x))) → compD ft fc fe env (xs.map en) = some ((xs.filter c).map g)
  | [], _ => rfl
  | x :: xs, h => by
    obtain ⟨e1, h1, h2, h3⟩ := h x (List.mem_cons_self ..)
    have ih := compD_map (xs := xs) fun y m => h y (List.mem_cons_of_mem _ m)
    show (ft (en x) env).bind _ = _
    rw [h1]
    show (fc e1).bind _ = _
    rw [h2]
    show (if c x = true then _ else _) = _
    by_cases b : c x = true
    · rw [if_pos b, h3 b]
      show (compD ft fc fe env (xs.map en)).map _ = _
      rw [ih, List.filter_cons_of_pos b]; rfl
    · rw [if_neg b, ih, List.filter_cons_of_neg b]
theorem rangeD_eq (lo : Int) (n : Nat) : rangeD lo n = (List.range n).map fun (i : Nat) => D.int (lo + (i : Int)) := rfl
theorem rangeD_0 (n : Nat) : rangeD 0 n = (List.range n).map fun (i : Nat) => D.int (i : Int) := by
  rw [rangeD_eq]
  refine List.map_congr_left fun i _ => ?_
  rw [Int.zero_add]
/-- what comes behind a statement -/
def wp (o : Option Out) (Q : Out → Prop) : Prop := ∃ u, o = some u ∧ Q u
@[simp] theorem wp_some (u : Out) (Q : Out → Prop) : wp (some u) Q ↔ Q u := ⟨fun ⟨_, e, q⟩ => by cases e; exact q, fun q => ⟨u, rfl, q⟩⟩
theorem wp.mono {o : Option Out} {Q R : Out → Prop} (h : wp o Q) (k : ∀ u, Q u → R u) : wp o R := let ⟨u, e, q⟩ := h; ⟨u, e, k u q⟩
theorem wp_sq {f g : VL.Env → Option Out} {env : VL.Env} {Q : Out → Prop} (h : wp (f env) fun o => match o with
  | .nx e => wp (g e) Q
  | o => Q o) : wp (sq f g env) Q := by
  obtain ⟨u, e, q⟩ := h
  unfold sq
  rw [e]
  cases u with
  | nx e' => exact q
  | rt s e' => exact ⟨_, rfl, q⟩
  | bk e' => exact ⟨_, rfl, q⟩
  | ct e' => exact ⟨_, rfl, q⟩
theorem wp_for {ft : D → VL.Env → Option VL.Env} {fb : VL.Env → Option Out} {Q : Out → Prop} (I : Nat → VL.Env → Prop) : ∀ {xs : List D} {env : VL.Env} (k0 : Nat), I k0 env →
    (∀ (k : Nat) (d : D) (e : VL.Env), xs[k]? = some d → I (k0 + k) e → ∃ e1, ft d e = some e1 ∧ wp (fb e1) fun o => match o with
      | .nx e2 => I (k0 + k + 1) e2
      | .ct e2 => I (k0 + k + 1) e2
      | .bk e2 => Q (.nx e2)
      | .rt s e2 => Q (.rt s e2)) → (∀ e, I (k0 + xs.length) e → Q (.nx e)) → wp (forD ft fb xs env) Q
  | [], env, k0, h0, _, he => ⟨_, rfl, he env h0⟩
  | d :: ds, env, k0, h0, hs, he => by
    obtain ⟨e1, h1, u, h2, h3⟩ := hs 0 d env rfl h0
    have hs' : ∀ (k : Nat) (d : D) (e : VL.Env), ds[k]? = some d → I (k0 + 1 + k) e → ∃ e1, ft d e = some e1 ∧ wp (fb e1) fun o => match o with
      | .nx e2 => I (k0 + 1 + k + 1) e2
      | .ct e2 => I (k0 + 1 + k + 1) e2
      | .bk e2 => Q (.nx e2)
      | .rt s e2 => Q (.rt s e2) := fun k d e h i => by
        have := hs (k + 1) d e h (by rwa [show k0 + (k + 1) = k0 + 1 + k by omega])
        rwa [show k0 + (k + 1) + 1 = k0 + 1 + k + 1 by omega] at this
    have he' : ∀ e, I (k0 + 1 + ds.length) e → Q (.nx e) := fun e i => he e (by rw [List.length_cons]; rwa [show k0 + (ds.length + 1) = k0 + 1 + ds.length by omega])
    show wp ((ft d env).bind _) Q
    rw [h1]
    show wp ((fb e1).bind _) Q
    rw [h2]
    cases u with
    | nx e2 => exact wp_for I (k0 + 1) h3 hs' he'
    | ct e2 => exact wp_for I (k0 + 1) h3 hs' he'
    | bk e2 => exact ⟨_, rfl, h3⟩
    | rt s e2 => exact ⟨_, rfl, h3⟩
/-- for k in range(n) -/
theorem wp_range {ft : D → VL.Env → Option VL.Env} {fb : VL.Env → Option Out} {Q : Out → Prop} {n : Nat} {lo : Int} {env : VL.Env} (I : Nat → VL.Env → Prop) (h0 : I 0 env)
    (hs : ∀ (k : Nat) (e : VL.Env), k < n → I k e → ∃ e1, ft (.int (lo + (k : Int))) e = some e1 ∧ wp (fb e1) fun o => match o with
      | .nx e2 => I (k + 1) e2
      | .ct e2 => I (k + 1) e2
      | .bk e2 => Q (.nx e2)
      | .rt s e2 => Q (.rt s e2)) (he : ∀ e, I n e → Q (.nx e)) : wp (forD ft fb (rangeD lo n) env) Q := by
  have hl : (rangeD lo n).length = n := by rw [rangeD_eq, List.length_map, List.length_range]
  refine wp_for I 0 h0 (fun k d e h i => ?_) (fun e i => he e (by rwa [hl, Nat.zero_add] at i))
  have hk : k < n := by rw [← hl]; exact (List.getElem?_eq_some_iff.mp h).1
  rw [Nat.zero_add] at i ⊢
  rw [rangeD_eq, List.getElem?_map, List.getElem?_range hk] at h
  cases h
  exact hs k e hk i
/-- a def's answer -/
theorem fnS_of {np n : Nat} {fb : VL.Env → Option Out} {ds : List D} {s : S} (hl : ds.length = np) (h : wp (fb (startE n ds)) fun o => retS o = some s) : fnS np n fb ds = some s := by
  obtain ⟨u, e, q⟩ := h
  unfold fnS
  rw [if_pos hl, e]
  exact q
theorem rng1_nat {n : Nat} (h : n ≤ sizeLine) : rng1 [.int (n : Int)] = some (rangeD 0 n) := by
  show (if _ then _ else _) = _
  rw [Int.natAbs_natCast, if_pos h]; rfl
theorem rng1_int {n : Int} (h : n.natAbs ≤ sizeLine) : rng1 [.int n] = some (rangeD 0 n.toNat) := if_pos h
/-! ### draws -/
theorem mI_take {i : Nat} {env env' : VL.Env} {m : Int} {p : Addr} {n : Int} {cs : List Int} {fs : Mo (List D)} (h0 : 0 < m) (hm : m.natAbs < 2 ^ 64) (hc : cs ≠ []) (g : getS env i = some (.at p (stS n cs))) (hf : fs env = some ([.int m], env)) :
    ∃ (x : Int) (n' : Int) (cs' : List Int), 0 ≤ x ∧ x < m ∧ cs' ≠ [] ∧ mI i fs takeS env = some (.int x, env.set i (some (.at p (stS n' cs')))) := by
  refine ⟨(takeF n cs m).1, (takeF n cs m).2.1, (takeF n cs m).2.2, (takeF_lt h0).1, (takeF_lt h0).2, takeF_ne hc, ?_⟩
  simp only [mI, g, hf, Option.bind_some, atOf_at, takeS_eq h0 hm hc, Option.map_some]
end VL

set_option Elab.async false
set_option linter.all false
set_option maxRecDepth 100000
/-! VL15: places of lists, dicts, on the plain side. -/
namespace VL
open PySem PySem.Spec PyProof.Rows L2
open Enc (enc)
theorem ixN_nat (n k : Nat) : ixN n (k : Int) = if k < n then some k else none := by
  unfold ixN
  rw [if_pos (Int.natCast_nonneg k)]
  by_cases h : k < n
  · rw [if_pos (by omega), if_pos h]; rfl
  · rw [if_neg (by omega), if_neg h]
theorem atI_nat {α : Type} (xs : List α) (k : Nat) : atI xs (k : Int) = xs[k]? := by
  unfold atI
  rw [ixN_nat]
  split
  · rfl
  · rename_i h
    rw [List.getElem?_eq_none (by omega)]; rfl
@[simp] theorem atI_0 {α : Type} (x : α) (xs : List α) : atI (x :: xs) 0 = some x := atI_nat (x :: xs) 0
@[simp] theorem atI_1 {α : Type} (x y : α) (xs : List α) : atI (x :: y :: xs) 1 = some y := atI_nat (x :: y :: xs) 1
@[simp] theorem atI_2 {α : Type} (x y z : α) (xs : List α) : atI (x :: y :: z :: xs) 2 = some z := atI_nat (x :: y :: z :: xs) 2
@[simp] theorem atI_3 {α : Type} (x y z w : α) (xs : List α) : atI (x :: y :: z :: w :: xs) 3 = some w := atI_nat (x :: y :: z :: w :: xs) 3
@[simp] theorem dIx_lst (xs : List D) (i : Int) : dIx (.lst xs) (.int i) = atI xs i := rfl
@[simp] theorem dIx_tup (xs : List D) (i : Int) : dIx (.tup xs) (.int i) = atI xs i := rfl
/-- a comprehension without a condition, typed -/
theorem compD_all {α : Type} {ft : D → VL.Env → Option VL.Env} {fc : VL.Env → Option Bool} {fe : VL.Env → Option D} {env : VL.Env} {en : α → D} {g : α → D} {xs : List α}
    (h : ∀ x ∈ xs, ∃ e1, ft (en x) env = some e1 ∧ fc e1 = some true ∧ fe e1 = some (g x)) : compD ft fc fe env (xs.map en) = some (xs.map g) := by
  rw [compD_map (c := fun _ => true) (g := g), List.filter_eq_self.mpr fun _ _ => rfl]
  intro x m
  obtain ⟨e1, h1, h2, h3⟩ := h x m
  exact ⟨e1, h1, h2, fun _ => h3⟩
/-! ### dicts with tuples as keys -/
theorem lookT_put (k k' : List Key) (d : D) : ∀ kvs : List (D × D), lookT k (putTD k' d kvs) = if k' = k then some d else lookT k kvs := by
  have aux1 : ∀ kvs : List (D × D), (kvs.any fun p => decide (tkeyD p.1 = some k')) = true → lookT k (kvs.map fun p => if tkeyD p.1 = some k' then (p.1, d) else p) = if k' = k then some d else lookT k kvs := by
    intro kvs
    induction kvs with
    | nil => intro h; cases h
    | cons p kvs ih =>
      intro h
      have step : ∀ l, lookT k ((if tkeyD p.1 = some k' then (p.1, d) else p) :: l) = if tkeyD p.1 = some k then (if tkeyD p.1 = some k' then some d else some p.2) else lookT k l := by
        intro l
        by_cases c : tkeyD p.1 = some k'
        · rw [if_pos c]
          show (if tkeyD p.1 = some k then some d else _) = _
          rw [if_pos c]
        · rw [if_neg c]
          obtain ⟨a, b⟩ := p
          show (if tkeyD a = some k then some b else _) = _
          rw [if_neg c]
      rw [List.map_cons, step]
      have hp : lookT k (p :: kvs) = if tkeyD p.1 = some k then some p.2 else lookT k kvs := rfl
      rw [hp]
      by_cases c : tkeyD p.1 = some k
      · rw [if_pos c, if_pos c]
        by_cases c' : k' = k
        · subst c'; rw [if_pos c, if_pos rfl]
        · rw [if_neg (fun e => c' (Option.some.inj (e.symm.trans c))), if_neg c']
      · rw [if_neg c, if_neg c]
        by_cases z : (kvs.any fun p => decide (tkeyD p.1 = some k')) = true
        · exact ih z
        · have z' : ∀ q ∈ kvs, tkeyD q.1 ≠ some k' := by simpa using z
          have hk : tkeyD p.1 = some k' := by
            rw [List.any_cons] at h
            cases hh : decide (tkeyD p.1 = some k') with
            | true => exact of_decide_eq_true hh
            | false => rw [hh] at h; exact absurd h z
          have e : (kvs.map fun p => if tkeyD p.1 = some k' then (p.1, d) else p) = kvs := by
            conv => rhs; rw [← List.map_id kvs]
            exact List.map_congr_left fun q m => if_neg (z' q m)
          rw [e, if_neg (fun e => c (by rw [hk, e]))]
  intro kvs
  unfold putTD
  split
  · rename_i h; exact aux1 kvs h
  · rename_i h
    have h' : ∀ q ∈ kvs, tkeyD q.1 ≠ some k' := by simpa using h
    clear aux1 h
    induction kvs with
    | nil =>
      show (if keysD (k'.map kD) = some k then some d else none) = _
      rw [keysD_map]
      by_cases c : k' = k
      · rw [if_pos (by rw [c]), if_pos c]
      · rw [if_neg (fun e => c (Option.some.inj e)), if_neg c]; rfl
    | cons p kvs ih =>
      obtain ⟨a, b⟩ := p
      show (if tkeyD a = some k then some b else lookT k (kvs ++ _)) = if k' = k then some d else if tkeyD a = some k then some b else lookT k kvs
      rw [ih fun q m => h' q (List.mem_cons_of_mem _ m)]
      by_cases c : k' = k
      · subst c
        rw [if_neg (h' (a, b) (List.mem_cons_self ..)), if_pos rfl, if_pos rfl]
      · rw [if_neg c, if_neg c]
theorem putTD_len (k : List Key) (d : D) (kvs : List (D × D)) : (putTD k d kvs).length ≤ kvs.length + 1 := by
  unfold putTD
  split
  · rw [List.length_map]; omega
  · rw [List.length_append]; exact Nat.le_refl _
theorem dPutT {kvs : List (D × D)} {k : D} {ks : List Key} {d : D} (h : tkeyD k = some ks) (hl : kvs.length < sizeLine) : dPut (true, kvs) k d = some (putTD ks d kvs) := by
  show (if _ then (tkeyD k).map _ else none) = _
  rw [if_pos hl, h]; rfl
theorem dIxT {kvs : List (D × D)} {k : D} {ks : List Key} (h : tkeyD k = some ks) : dIx (.dic true kvs) k = lookT ks kvs := by
  show ((tkeyD k).map _).join = _
  rw [h]; rfl
@[simp] theorem truD_bl (b : Bool) : truD (.bl b) = some b := rfl
@[simp] theorem truE_bl (b : Bool) : truE (.bl b) = some b := rfl
@[simp] theorem scal_int (i : Int) : scal (.int i) = some (.int i) := rfl
theorem find_none {p : Nat → Bool} {n : Nat} (h : ∀ k, k < n → p k = false) : (List.range n).find? p = none := List.find?_eq_none.mpr fun x m => by simp [h x (List.mem_range.mp m)]
theorem find_some {p : Nat → Bool} {n k : Nat} (hk : k < n) (h : p k = true) (h' : ∀ j, j < k → p j = false) : (List.range n).find? p = some k := by
  rw [List.find?_range_eq_some]
  exact ⟨h, List.mem_range.mpr hk, fun j hj => by simp [h' j hj]⟩
theorem find_ok {p : Nat → Bool} {n k : Nat} (h : (List.range n).find? p = some k) : k < n ∧ p k = true ∧ ∀ j, j < k → p j = false := by
  rw [List.find?_range_eq_some] at h
  exact ⟨List.mem_range.mp h.2.1, h.1, fun j hj => by simpa using h.2.2 j hj⟩
theorem find_no {p : Nat → Bool} {n : Nat} (h : (List.range n).find? p = none) : ∀ k, k < n → p k = false := fun k hk => by
  have := List.find?_eq_none.mp h k (List.mem_range.mpr hk)
  simpa using this
/-! ### statements, one by one -/
section
variable {env : VL.Env} {Q : Out → Prop} {f g : VL.Env → Option Out}
theorem wp_set {i : Nat} {fe : VL.Env → Option D} {d : D} (h : fe env = some d) (q : Q (.nx (env.set i (some (.fz d))))) : wp (sSet i fe env) Q := ⟨_, by rw [sSet, h]; rfl, q⟩
theorem wp_if {c : VL.Env → Option Bool} {b : Bool} (h : c env = some b) (q : if b = true then wp (f env) Q else wp (g env) Q) : wp (sIf c f g env) Q := by
  unfold sIf
  rw [h]
  cases b
  · exact q
  · exact q
theorem wp_ret {fe : VL.Env → Option D} {d : D} (h : fe env = some d) (q : Q (.rt (.fz d) env)) : wp (sRet fe env) Q := ⟨_, by rw [sRet, h]; rfl, q⟩
end
end VL

set_option Elab.async false
set_option linter.all false
set_option maxRecDepth 100000
/-! VL16: draws, step by step; in, of typed data. -/
namespace VL
open PySem PySem.Spec PyProof.Rows L2
open Enc (enc)
theorem inOk_of {d : D} {ds : List D} (h : d.nb = true) (h' : D.nbL ds = true) (k : d.dep ≤ 40) : inOk d ds = true := by
  unfold inOk
  rw [D.nb_plain d h, D.nbL_plain ds h', D.dep_py, D.depL_py]
  simp only [Bool.and_self, Bool.true_and, decide_eq_true_eq]
  omega
theorem inD_iff {d : D} {ds : List D} (h : d.nb = true) (h' : D.nbL ds = true) : inD d ds = true ↔ d ∈ ds := by
  unfold inD
  rw [List.any_eq_true]
  constructor
  · rintro ⟨x, m, e⟩
    rw [(eqD_iff (D.nbL_iff.mp h' x m) h).mp e] at m
    exact m
  · intro m
    exact ⟨d, m, eqD_self h⟩
theorem nbL_enc {α : Type} [Enc α] (xs : List α) : D.nbL (xs.map enc) = true := D.nbL_iff.mpr fun x m => by
  obtain ⟨a, _, rfl⟩ := List.mem_map.mp m
  exact Enc.nb a
theorem inD_enc {α : Type} [Enc α] [DecidableEq α] (a : α) (xs : List α) : inD (enc a) (xs.map enc) = decide (a ∈ xs) := by
  rw [Bool.eq_iff_iff, inD_iff (Enc.nb a) (nbL_enc xs), decide_eq_true_eq, List.mem_map]
  constructor
  · rintro ⟨b, m, e⟩
    rw [← Enc.inj e]; exact m
  · intro m
    exact ⟨a, m, rfl⟩
theorem dIn_lst {d : D} {ds : List D} (h : d.nb = true) (h' : D.nbL ds = true) (k : d.dep ≤ 40) : dIn d (.lst ds) = some (.bl (inD d ds)) := by
  show (if _ then _ else _) = _
  rw [if_pos (inOk_of h h' k)]
theorem dNotIn_lst {d : D} {ds : List D} (h : d.nb = true) (h' : D.nbL ds = true) (k : d.dep ≤ 40) : dNotIn d (.lst ds) = some (.bl (!inD d ds)) := by
  show (if _ then _ else _) = _
  rw [if_pos (inOk_of h h' k)]
theorem dIn_enc {α : Type} [Enc α] [DecidableEq α] (a : α) (xs : List α) (h : Enc.n α ≤ 40) : dIn (enc a) (.lst (xs.map enc)) = some (.bl (decide (a ∈ xs))) := by
  rw [dIn_lst (Enc.nb a) (nbL_enc xs) (Nat.le_trans (Enc.dp a) h), inD_enc]
theorem dNotIn_enc {α : Type} [Enc α] [DecidableEq α] (a : α) (xs : List α) (h : Enc.n α ≤ 40) : dNotIn (enc a) (.lst (xs.map enc)) = some (.bl (!decide (a ∈ xs))) := by
  rw [dNotIn_lst (Enc.nb a) (nbL_enc xs) (Nat.le_trans (Enc.dp a) h), inD_enc]
/-! ### expressions that draw -/
def wm {α : Type} (o : Option (α × VL.Env)) (Q : α → VL.Env → Prop) : Prop := ∃ x e, o = some (x, e) ∧ Q x e
section
variable {env : VL.Env} {α : Type}
theorem wm_pur {f : VL.Env → Option α} {x : α} {Q : α → VL.Env → Prop} (h : f env = some x) (q : Q x env) : wm (pur f env) Q := ⟨x, env, by rw [pur, h]; rfl, q⟩
theorem wm_2 {fa fb : Mo D} {g : D → D → Option D} {Q : D → VL.Env → Prop} (h : wm (fa env) fun x e => wm (fb e) fun y e' => ∃ z, g x y = some z ∧ Q z e') : wm (m2 fa fb g env) Q := by
  obtain ⟨x, e, h1, y, e', h2, z, h3, q⟩ := h
  exact ⟨z, e', by simp only [m2, h1, h2, h3, Option.bind_some, Option.map_some], q⟩
theorem wm_take {i : Nat} {m : Int} {p : Addr} {n : Int} {cs : List Int} {fs : Mo (List D)} {Q : D → VL.Env → Prop} (hc : cs ≠ []) (h0 : 0 < m) (hm : m.natAbs < 2 ^ 64) (g : getS env i = some (.at p (stS n cs))) (hf : fs env = some ([.int m], env))
    (q : ∀ (x n' : Int) (cs' : List Int), 0 ≤ x → x < m → cs' ≠ [] → Q (.int x) (env.set i (some (.at p (stS n' cs'))))) : wm (mI i fs takeS env) Q := by
  obtain ⟨x, n', cs', h1, h2, h3, e⟩ := mI_take (env' := env) h0 hm hc g hf
  exact ⟨_, _, e, q x n' cs' h1 h2 h3⟩
theorem wm_cons {f : Mo D} {g : Mo (List D)} {Q : List D → VL.Env → Prop} (h : wm (f env) fun x e => wm (g e) fun y e' => Q (x :: y) e') : wm (maC f g env) Q := by
  obtain ⟨x, e, h1, y, e', h2, q⟩ := h
  exact ⟨_, e', by simp only [maC, h1, h2, Option.bind_some, Option.map_some], q⟩
theorem wm_nil {Q : List D → VL.Env → Prop} (q : Q [] env) : wm (mA0 env) Q := ⟨[], env, rfl, q⟩
theorem ma1 {f : VL.Env → Option D} {x : D} (h : f env = some x) : maC (pur f) mA0 env = some ([x], env) := by
  simp only [maC, pur, h, Option.map_some, Option.bind_some]
theorem wm_tup {f : Mo (List D)} {Q : D → VL.Env → Prop} (h : wm (f env) fun x e => x.length < 1000 ∧ Q (.tup x) e) : wm (mTup f env) Q := by
  obtain ⟨x, e, h1, h2, q⟩ := h
  exact ⟨_, e, by simp only [mTup, h1, Option.bind_some, if_pos h2], q⟩
theorem wm_lst {f : Mo (List D)} {Q : D → VL.Env → Prop} (h : wm (f env) fun x e => x.length < 1000 ∧ Q (.lst x) e) : wm (mLst f env) Q := by
  obtain ⟨x, e, h1, h2, q⟩ := h
  exact ⟨_, e, by simp only [mLst, h1, Option.bind_some, if_pos h2], q⟩
theorem wm_tb {f : Mo D} {Q : Bool → VL.Env → Prop} (h : wm (f env) fun x e => ∃ b, bOf x = some b ∧ Q b e) : wm (mtb f env) Q := by
  obtain ⟨x, e, h1, b, h2, q⟩ := h
  exact ⟨b, e, by simp only [mtb, h1, h2, Option.bind_some, Option.map_some], q⟩
theorem wm_and {f g : Mo Bool} {Q : Bool → VL.Env → Prop} (h : wm (f env) fun x e => if x = true then wm (g e) Q else Q false e) : wm (mAnd f g env) Q := by
  obtain ⟨x, e, h1, q⟩ := h
  cases x
  · exact ⟨false, e, by simp only [mAnd, h1, Option.bind_some]; rfl, q⟩
  · obtain ⟨y, e', h2, q⟩ := q
    exact ⟨y, e', by simp only [mAnd, h1, Option.bind_some, if_true, h2], q⟩
theorem wm_or {f g : Mo Bool} {Q : Bool → VL.Env → Prop} (h : wm (f env) fun x e => if x = true then Q true e else wm (g e) Q) : wm (mOr f g env) Q := by
  obtain ⟨x, e, h1, q⟩ := h
  cases x
  · obtain ⟨y, e', h2, q⟩ := q
    exact ⟨y, e', by simp only [mOr, h1, Option.bind_some, h2]; rfl, q⟩
  · exact ⟨true, e, by simp only [mOr, h1, Option.bind_some, if_true], q⟩
theorem wm_not {f : Mo Bool} {Q : Bool → VL.Env → Prop} (h : wm (f env) fun x e => Q (!x) e) : wm (mNot f env) Q := by
  obtain ⟨x, e, h1, q⟩ := h
  exact ⟨!x, e, by simp only [mNot, h1, Option.map_some], q⟩
theorem wm_if {c : Mo Bool} {f g : Mo D} {Q : D → VL.Env → Prop} (h : wm (c env) fun x e => if x = true then wm (f e) Q else wm (g e) Q) : wm (mIf c f g env) Q := by
  obtain ⟨x, e, h1, q⟩ := h
  cases x
  · obtain ⟨y, e', h2, q⟩ := q
    exact ⟨y, e', by simp only [mIf, h1, Option.bind_some]; exact h2, q⟩
  · obtain ⟨y, e', h2, q⟩ := q
    exact ⟨y, e', by simp only [mIf, h1, Option.bind_some, if_true]; exact h2, q⟩
variable {Q : Out → Prop}
theorem wp_setM {i : Nat} {fe : Mo D} (h : wm (fe env) fun x e => Q (.nx (e.set i (some (.fz x))))) : wp (sSetM i fe env) Q := by
  obtain ⟨x, e, h1, q⟩ := h
  exact ⟨_, by rw [sSetM, h1]; rfl, q⟩
theorem wp_ifM {c : Mo Bool} {f g : VL.Env → Option Out} (h : wm (c env) fun b e => if b = true then wp (f e) Q else wp (g e) Q) : wp (sIfM c f g env) Q := by
  obtain ⟨b, e, h1, q⟩ := h
  unfold sIfM
  rw [h1]
  cases b
  · exact q
  · exact q
theorem wp_setO {i : Nat} {fe : VL.Env → Option S} {s : S} (h : fe env = some s) (q : Q (.nx (env.set i (some s)))) : wp (sSetO i fe env) Q := ⟨_, by rw [sSetO, h]; rfl, q⟩
theorem wp_appM {i : Nat} {fe : Mo D} {ds : List D} (h0 : getS env i = some (.ol (ds.map S.fz))) (h : wm (fe env) fun x e => ∃ ds' : List D, getS e i = some (.ol (ds'.map S.fz)) ∧ ds'.length < sizeLine ∧ Q (.nx (e.set i (some (.ol ((ds' ++ [x]).map S.fz)))))) : wp (sAppM i fe env) Q := by
  obtain ⟨x, e, h1, ds', h2, h3, q⟩ := h
  exact ⟨_, by simp only [sAppM, h0, olOf_ol, Option.bind_some, h1, h2, if_pos h3], q⟩
theorem wp_putLM {i : Nat} {fk : VL.Env → Option D} {fe : Mo D} (h : wm (fe env) fun x e => ∃ (ds : List D) (k : Int) (j : Nat), getS e i = some (.ol (ds.map S.fz)) ∧ fk e = some (.int k) ∧ ixN ds.length k = some j ∧ Q (.nx (e.set i (some (.ol ((ds.set j x).map S.fz)))))) : wp (sPutLM i fk fe env) Q := by
  obtain ⟨x, e, h1, ds, k, j, h2, h3, h4, q⟩ := h
  exact ⟨_, by simp only [sPutLM, h1, h2, olOf_ol, Option.bind_some, h3, intOf, h4, Option.map_some], q⟩
theorem wp_fz {i : Nat} {f : VL.Env → Option Out} {s : S} {d : D} (h : getS env i = some s) (hd : frS s = some d) (q : wp (f (env.set i (some (.fz d)))) Q) : wp (dFz i f env) Q := by
  obtain ⟨u, e, q⟩ := q
  exact ⟨u, by simp only [dFz, frzE, h, hd, Option.bind_some, Option.map_some, e], q⟩
theorem wp_putT {i : Nat} {fk fe : VL.Env → Option D} {kvs : List (D × D)} {k d : D} {ks : List Key} (h1 : fe env = some d) (h2 : getS env i = some (.od true (fzK kvs))) (h3 : fk env = some k) (h4 : tkeyD k = some ks) (h5 : kvs.length < sizeLine)
    (q : Q (.nx (env.set i (some (.od true (fzK (putTD ks d kvs))))))) : wp (sPutD i fk fe env) Q := by
  exact ⟨_, by simp only [sPutD, h1, h2, odOf_od, h3, Option.bind_some, dPutT h4 h5, Option.map_some], q⟩
end
end VL

set_option Elab.async false
set_option linter.all false
set_option maxRecDepth 100000
/-! VL17: sorted, min, max of alike data. -/
namespace VL
open PySem PySem.Spec PyProof.Rows L2
open Enc (enc)
/-- d < e, of alike data -/
def ltD (d e : D) : Bool := PySem.W.dataLt d.py e.py
def leD (d e : D) : Bool := PySem.W.dataLe false D.py d e
theorem leD_eq (d e : D) : leD d e = !ltD e d := rfl
def sortD (ds : List D) : List D := ds.mergeSort leD
def D.key : D → Bool
  | .tup (_ :: _) => true
  | _ => false
def D.noKey : D → Bool
  | .tup _ => false
  | .non => false
  | .dic _ _ => false
  | .obj _ _ _ => false
  | .hid => false
  | _ => true
/-- the items can be compared with one another -/
def alikeL (ds : List D) : Bool := ds.all fun d => d.plain && decide (d.dep ≤ 40) && ds.all fun e => PySem.W.alike d.py e.py
def sortOk (ds : List D) : Bool := alikeL ds && (ds.all D.key || ds.all D.noKey) && decide (ds.length ≤ sizeLine)
theorem alikeL_ok {ds : List D} (h : alikeL ds = true) : (∀ d ∈ ds, d.plain = true ∧ d.dep ≤ 40) ∧ ∀ d ∈ ds, ∀ e ∈ ds, PySem.W.alike d.py e.py = true := by
  unfold alikeL at h
  rw [List.all_eq_true] at h
  refine ⟨fun d m => ?_, fun d m e n => ?_⟩
  · have := h d m
    simp only [Bool.and_eq_true, decide_eq_true_eq] at this
    exact this.1
  · have := h d m
    simp only [Bool.and_eq_true] at this
    exact List.all_eq_true.mp this.2 e n
theorem sortOk_ok {ds : List D} (h : sortOk ds = true) : alikeL ds = true ∧ PySem.W.AllAlike (ds.map D.py) ∧ PySem.W.Sortable (ds.map D.py) ∧ ds.length ≤ sizeLine := by
  unfold sortOk at h
  simp only [Bool.and_eq_true, Bool.or_eq_true, decide_eq_true_eq] at h
  refine ⟨h.1.1, fun d m d' m' => ?_, ?_, h.2⟩
  · obtain ⟨a, ha, rfl⟩ := List.mem_map.mp m
    obtain ⟨b, hb, rfl⟩ := List.mem_map.mp m'
    exact (alikeL_ok h.1.1).2 a ha b hb
  · rcases h.1.2 with k | k
    · refine .inl fun d m => ?_
      obtain ⟨a, ha, rfl⟩ := List.mem_map.mp m
      have := List.all_eq_true.mp k a ha
      cases a with
      | tup xs =>
        cases xs with
        | nil => cases this
        | cons x xs => exact ⟨x.py, D.pyL xs, rfl⟩
      | _ => cases this
    · refine .inr fun d m => ?_
      obtain ⟨a, ha, rfl⟩ := List.mem_map.mp m
      have := List.all_eq_true.mp k a ha
      cases a with
      | tup _ => cases this
      | non => cases this
      | dic _ _ => cases this
      | obj _ _ _ => cases this
      | hid => cases this
      | bl _ => exact ⟨(by intro h; cases h), (by intro _ h; cases h)⟩
      | int _ => exact ⟨(by intro h; cases h), (by intro _ h; cases h)⟩
      | str _ => exact ⟨(by intro h; cases h), (by intro _ h; cases h)⟩
      | lst _ => exact ⟨(by intro h; cases h), (by intro _ h; cases h)⟩
section
variable {K : PySem.W.Frag} {G H : Hp}
/-- a value stands for a datum -/
def StF (K : PySem.W.Frag) (G : Hp) (u : Value) (d : D) : Prop := ∃ x, RelV x u ∧ Rp K G x d
theorem each_of : ∀ {xs : List V} {us : List Value} {ds : List D}, Vals xs us → RpL K G xs ds → PySem.W.EachIs (StF K G) us ds
  | [], _, _, v, r => by
    cases r
    cases v
    exact .nil
  | x :: xs, _, _, v, r => by
    cases r with
    | cons r1 r2 =>
      cases v with
      | cons v1 v2 => exact .cons ⟨x, v1, r1⟩ (each_of v2 r2)
theorem of_each : ∀ {us : List Value} {ds : List D}, PySem.W.EachIs (StF K G) us ds → ∃ xs, Vals xs us ∧ RpL K G xs ds
  | _, _, .nil => ⟨[], .nil, .nil⟩
  | _, _, .cons ⟨x, v, r⟩ t => by
    obtain ⟨xs, h1, h2⟩ := of_each t
    exact ⟨x :: xs, .cons v h1, .cons r h2⟩
end
section
variable {X : Cx} {pins : List (Addr × Obj)} {s : Shared} {σ : L2.St} {G H : Hp}
theorem each_reads (I : Inv X pins σ H s) (sm : Same G H) : ∀ {xs : List V} {us : List Value} {ds : List D}, Vals xs us → RpL X.K G xs ds → (∀ d ∈ ds, d.plain = true) → PySem.W.EachIs (fun v (b : D) => ∃ as, Reads s.heap v b.py as) us ds
  | [], _, _, v, r, _ => by
    cases r
    cases v
    exact .nil
  | x :: xs, _, _, v, r, hp => by
    cases r with
    | cons r1 r2 =>
      cases v with
      | cons v1 v2 => exact .cons (Dp.reads I _ _ _ ((r1.up sm).dp _ _ (hp _ (List.mem_cons_self ..))) v1) (each_reads I sm v2 r2 fun d m => hp d (List.mem_cons_of_mem _ m))
end
def rSortedA (K : PySem.W.Frag) : List V → Hp → VK → Prop := fun vs H Q => ∃ (G : Hp) (a : Addr) (xs : List V) (ds : List D), vs = [V.ref a] ∧ SqL K H a xs ∧ Same G H ∧ RpL K G xs ds ∧ sortOk ds = true ∧
  ∀ (ys : List V) (p : Addr), RpL K G ys (sortD ds) → H p = none → Q (.ref p) (upd H p (.lst ys))
section
variable {X : Cx}
theorem cr_sortedA {k : Nat} (hr : Room k X.A) : CallR X (.builtin "sorted") (rSortedA X.K) := by
  intro pins s σ H vs us Q I r h
  obtain ⟨G, a, xs, ds, rfl, hs, sm, rp, ok, q⟩ := h
  obtain ⟨its, rv, hl, _⟩ := I.list hs
  rw [Vals.ref1 r]
  obtain ⟨ok1, ok2, ok3, ok4⟩ := sortOk_ok ok
  have ok5 := alikeL_ok ok1
  refine PySem.W.sorted_data (vs := its) (enc := D.py) (R := StF X.K G) hl.isList (each_of rv rp) (each_reads I sm rv rp fun d m => (ok5.1 d m).1) ok2 ok3 ok4 (fun d m => ?_) fun out h1 h2 => ?_
  · have := (ok5.1 d m).2
    rw [D.dep_py]
    have := hr.units
    omega
  · obtain ⟨ep, he'⟩ := PyProof.Rows.sortedAll_at s.heap its (List.toArray out)
    obtain ⟨ys, v1, v2⟩ := of_each h2
    have hlen : ys.length ≤ sizeLine := by rw [v1.length, h1]; exact ok4
    exact ⟨.ref _, upd H (s.heap.objs.size + 1) (.lst ys), I.laid (t' := s.toks) (fun _ _ => PyProof.Rows.sortedAll_old) (Nat.le_succ _) ⟨hlen, out, ep, v1, he'⟩, rfl, q ys _ v2 (I.hok.fresh (Nat.le_succ _))⟩
def dSorted : List D → Option (List D)
  | [.lst xs] => if sortOk xs then some (sortD xs) else none
  | _ => none
theorem c_sorted {k : Nat} (hr : Room k X.A) : CallL X (.builtin "sorted") dSorted := by
  refine ⟨_, cr_sortedA hr, fun G H vs ds z Q s r q k => ?_⟩
  unfold dSorted at q
  split at q
  · split at q
    · rename_i ok
      cases q
      cases r with
      | cons r1 r2 =>
        cases r2
        cases r1 with
        | lst h l => exact ⟨G, _, _, _, rfl, SqL.of (s _ _ h), s, l, ok, fun ys p rp np => k p ys G _ (Ex.own s np) np (s.free np) upd_same rp⟩
    · cases q
  · cases q
end

/-! ### the least, the greatest -/
mutual
theorem py_inj : ∀ d e : D, d.plain = true → e.plain = true → d.py = e.py → d = e
  | .non, e, _, h, q => by cases e <;> first | rfl | (cases h; done) | (exact absurd q (by simp [D.py]))
  | .bl _, e, _, h, q => by cases e <;> first | (cases q; rfl) | (cases h; done) | (exact absurd q (by simp [D.py]))
  | .int _, e, _, h, q => by cases e <;> first | (cases q; rfl) | (cases h; done) | (exact absurd q (by simp [D.py]))
  | .str _, e, _, h, q => by cases e <;> first | (cases q; rfl) | (cases h; done) | (exact absurd q (by simp [D.py]))
  | .lst xs, e, h, h', q => by
    cases e with
    | lst ys => rw [pyL_inj xs ys h h' (PyData.list.inj q)]
    | dic _ _ => cases h'
    | obj _ _ _ => cases h'
    | hid => cases h'
    | _ => exact absurd q (by simp [D.py])
  | .tup xs, e, h, h', q => by
    cases e with
    | tup ys => rw [pyL_inj xs ys h h' (PyData.tuple.inj q)]
    | dic _ _ => cases h'
    | obj _ _ _ => cases h'
    | hid => cases h'
    | _ => exact absurd q (by simp [D.py])
  | .dic _ _, _, h, _, _ => by cases (show false = true from h)
  | .obj _ _ _, _, h, _, _ => by cases (show false = true from h)
  | .hid, _, h, _, _ => by cases (show false = true from h)
theorem pyL_inj : ∀ xs ys : List D, D.plainL xs = true → D.plainL ys = true → D.pyL xs = D.pyL ys → xs = ys
  | [], [], _, _, _ => rfl
  | [], _ :: _, _, _, q => by cases q
  | _ :: _, [], _, _, q => by cases q
  | x :: xs, y :: ys, h, h', q => by
    have k : x.plain = true ∧ D.plainL xs = true := by simpa [D.plainL] using h
    have k' : y.plain = true ∧ D.plainL ys = true := by simpa [D.plainL] using h'
    have q' : x.py = y.py ∧ D.pyL xs = D.pyL ys := by simpa [D.pyL] using q
    rw [py_inj x y k.1 k'.1 q'.1, pyL_inj xs ys k.2 k'.2 q'.2]
end
theorem pyL_map : ∀ xs : List D, D.pyL xs = xs.map D.py
  | [] => rfl
  | x :: xs => by
    show x.py :: D.pyL xs = _
    rw [pyL_map xs]; rfl
def minDD (x : D) (xs : List D) : D := xs.foldl (fun a y => if ltD y a = true then y else a) x
def maxDD (x : D) (xs : List D) : D := xs.foldl (fun a y => if ltD a y = true then y else a) x
theorem minDD_py : ∀ (xs : List D) (x : D), PySem.W.minD x.py (xs.map D.py) = (minDD x xs).py
  | [], x => rfl
  | y :: ys, x => by
    have ih := minDD_py ys (if ltD y x = true then y else x)
    show PySem.W.minD (if PySem.W.dataLt y.py x.py = true then y.py else x.py) (ys.map D.py) = _
    have e : (if PySem.W.dataLt y.py x.py = true then y.py else x.py) = (if ltD y x = true then y else x).py := by
      show (if ltD y x = true then y.py else x.py) = _
      split <;> rfl
    rw [e, ih]; rfl
theorem maxDD_py : ∀ (xs : List D) (x : D), PySem.W.maxD x.py (xs.map D.py) = (maxDD x xs).py
  | [], x => rfl
  | y :: ys, x => by
    have ih := maxDD_py ys (if ltD x y = true then y else x)
    show PySem.W.maxD (if PySem.W.dataLt x.py y.py = true then y.py else x.py) (ys.map D.py) = _
    have e : (if PySem.W.dataLt x.py y.py = true then y.py else x.py) = (if ltD x y = true then y else x).py := by
      show (if ltD x y = true then y.py else x.py) = _
      split <;> rfl
    rw [e, ih]; rfl
theorem minDD_mem : ∀ (xs : List D) (x : D), minDD x xs ∈ x :: xs
  | [], x => List.mem_cons_self ..
  | y :: ys, x => by
    have ih := minDD_mem ys (if ltD y x = true then y else x)
    show minDD (if ltD y x = true then y else x) ys ∈ _
    rcases List.mem_cons.mp ih with h | h
    · rw [h]; split <;> simp
    · simp [h]
theorem maxDD_mem : ∀ (xs : List D) (x : D), maxDD x xs ∈ x :: xs
  | [], x => List.mem_cons_self ..
  | y :: ys, x => by
    have ih := maxDD_mem ys (if ltD x y = true then y else x)
    show maxDD (if ltD x y = true then y else x) ys ∈ _
    rcases List.mem_cons.mp ih with h | h
    · rw [h]; split <;> simp
    · simp [h]
def bestOk (ds : List D) : Bool := alikeL ds && ds.all fun d => match d with
  | .non => false
  | _ => true
theorem bestOk_ok {ds : List D} (h : bestOk ds = true) : alikeL ds = true ∧ PySem.W.AlikeAll (ds.map D.py) := by
  unfold bestOk at h
  rw [Bool.and_eq_true] at h
  refine ⟨h.1, fun d m d' m' => ?_, fun d m => ?_⟩
  · obtain ⟨a, ha, rfl⟩ := List.mem_map.mp m
    obtain ⟨b, hb, rfl⟩ := List.mem_map.mp m'
    exact (alikeL_ok h.1).2 a ha b hb
  · obtain ⟨a, ha, rfl⟩ := List.mem_map.mp m
    have k := List.all_eq_true.mp h.2 a ha
    have k2 := ((alikeL_ok h.1).1 a ha).1
    cases a with
    | non => cases k
    | dic _ _ => cases k2
    | obj _ _ _ => cases k2
    | hid => cases k2
    | _ => intro q; cases q
theorem RpL.plains {K : PySem.W.Frag} {H : Hp} : ∀ {ds : List D} {xs : List V}, (∀ d ∈ ds, d.plain = true) → RpL K H xs ds → DpAll K H xs (ds.map D.py)
  | [], _, _, r => by cases r; exact .nil
  | d :: ds, _, h, r => by
    cases r with
    | cons r1 r2 => exact .cons (r1.dp _ _ (h _ (List.mem_cons_self ..))) (RpL.plains (fun e m => h e (List.mem_cons_of_mem _ m)) r2)
theorem rpl_get {K : PySem.W.Frag} {H : Hp} : ∀ {xs : List V} {ds : List D} {i : Nat} {x : V}, RpL K H xs ds → xs[i]? = some x → ∃ d, ds[i]? = some d ∧ Rp K H x d
  | _, _, _, _, .nil, h => by simp at h
  | _, _, 0, _, .cons r t, h => by
    cases (show some _ = some _ from h)
    exact ⟨_, rfl, r⟩
  | _, _, i + 1, _, .cons r t, h => by
    obtain ⟨d, h1, h2⟩ := rpl_get t (by simpa using h)
    exact ⟨d, by simpa using h1, h2⟩
theorem dep_max {ds : List D} (h : ∀ d ∈ ds, d.dep ≤ 40) : PyData.depthAll (ds.map D.py) ≤ 40 := by
  rw [← pyL_map, D.depL_py]
  exact D.depL_le.mpr h
section
variable {X : Cx}
/-- min, max of what stands in a list, a tuple: one of the items itself -/
def rBest (K : PySem.W.Frag) (f : D → List D → D) : List V → Hp → VK → Prop := fun vs H Q => ∃ (G : Hp) (a : Addr) (xs : List V) (d : D) (ds : List D), vs = [V.ref a] ∧ (SqL K H a xs ∨ SqT K H a xs) ∧ Same G H ∧ RpL K G xs (d :: ds) ∧ bestOk (d :: ds) = true ∧
  ∀ v, Rp K G v (f d ds) → Q v H
theorem best_end {pins : List (Addr × Obj)} {s : Shared} {σ : L2.St} {G H : Hp} {d : D} {ds : List D} {xs : List V} {its : List Value} {z : D} (I : Inv X pins σ H s) (sm : Same G H) (rv : Vals xs its) (rp : RpL X.K G xs (d :: ds)) (pl : ∀ e ∈ d :: ds, e.plain = true) (hz : z ∈ d :: ds) {i : Nat} {v : Value} {h' : Heap} {bs : List Addr}
    (h1 : its.toArray[i]? = some v) (h2 : Reads h' v z.py bs) (hk : ∀ b o, s.heap.get? b = some o → h'.get? b = some o) : ∃ x, RelV x v ∧ Rp X.K G x z := by
  have h1' : its[i]? = some v := by simpa using h1
  have hi : i < xs.length := by
    rw [rv.length]
    exact (List.getElem?_eq_some_iff.mp h1').1
  obtain ⟨x, hx⟩ : ∃ x, xs[i]? = some x := ⟨_, List.getElem?_eq_getElem hi⟩
  obtain ⟨u, hu, ru⟩ := rv.get hx
  rw [h1'] at hu
  cases hu
  obtain ⟨e, he, re⟩ := rpl_get rp hx
  have hpe := pl e (List.mem_of_getElem? he)
  obtain ⟨as, r1⟩ := Dp.reads I _ _ _ ((re.up sm).dp _ _ hpe) ru
  have r2 := PySem.W.reads_keeps hk r1
  have e2 := PySem.SeqAt.plain_unique _ _ _ _ _ (D.py_plain e) r2 h2
  have := py_inj e z hpe (pl z hz) e2
  subst this
  exact ⟨x, ru, re⟩
theorem cr_minA {k : Nat} (hr : Room k X.A) : CallR X (.builtin "min") (rBest X.K minDD) := by
  intro pins s σ H vs us Q I r h
  obtain ⟨G, a, xs, d, ds, rfl, hs, sm, rp, ok, q⟩ := h
  obtain ⟨ok1, ok2⟩ := bestOk_ok ok
  have ok3 := alikeL_ok ok1
  have hd := dep_max fun e m => (ok3.1 e m).2
  have hun := hr.un
  rw [Vals.ref1 r]
  rcases hs with hs | hs
  · obtain ⟨its, rv, hl, _⟩ := I.list hs
    obtain ⟨as, ra⟩ := Dp.readsAll I _ _ _ (RpL.plains (fun e m => (ok3.1 e m).1) (rp.up sm)) rv
    refine PySem.W.min_list_data (x := d.py) (xs := ds.map D.py) (as := as) hr.hd hl.isList ra ok2 (by rw [List.map_cons] at hd; omega) fun i v h' tk bs h1 h2 h3 => ?_
    rw [minDD_py] at h2
    obtain ⟨x, ru, re⟩ := best_end I sm rv rp (fun e m => (ok3.1 e m).1) (minDD_mem ds d) h1 h2 h3
    exact ⟨x, H, I.kept h3, ru, q x re⟩
  · obtain ⟨its, rv, hl, _⟩ := I.tuple hs
    obtain ⟨as, ra⟩ := Dp.readsAll I _ _ _ (RpL.plains (fun e m => (ok3.1 e m).1) (rp.up sm)) rv
    refine PySem.W.min_tuple_data (x := d.py) (xs := ds.map D.py) (as := as) hr.hd (show s.heap.IsTuple a its.toArray from hl) ra ok2 (by rw [List.map_cons] at hd; omega) fun i v h' tk bs h1 h2 h3 => ?_
    rw [minDD_py] at h2
    obtain ⟨x, ru, re⟩ := best_end I sm rv rp (fun e m => (ok3.1 e m).1) (minDD_mem ds d) h1 h2 h3
    exact ⟨x, H, I.kept h3, ru, q x re⟩
theorem cr_maxA {k : Nat} (hr : Room k X.A) : CallR X (.builtin "max") (rBest X.K maxDD) := by
  intro pins s σ H vs us Q I r h
  obtain ⟨G, a, xs, d, ds, rfl, hs, sm, rp, ok, q⟩ := h
  obtain ⟨ok1, ok2⟩ := bestOk_ok ok
  have ok3 := alikeL_ok ok1
  have hd := dep_max fun e m => (ok3.1 e m).2
  have hun := hr.un
  rw [Vals.ref1 r]
  rcases hs with hs | hs
  · obtain ⟨its, rv, hl, _⟩ := I.list hs
    obtain ⟨as, ra⟩ := Dp.readsAll I _ _ _ (RpL.plains (fun e m => (ok3.1 e m).1) (rp.up sm)) rv
    refine PySem.W.max_list_data (x := d.py) (xs := ds.map D.py) (as := as) hr.hd hl.isList ra ok2 (by rw [List.map_cons] at hd; omega) fun i v h' tk bs h1 h2 h3 => ?_
    rw [maxDD_py] at h2
    obtain ⟨x, ru, re⟩ := best_end I sm rv rp (fun e m => (ok3.1 e m).1) (maxDD_mem ds d) h1 h2 h3
    exact ⟨x, H, I.kept h3, ru, q x re⟩
  · obtain ⟨its, rv, hl, _⟩ := I.tuple hs
    obtain ⟨as, ra⟩ := Dp.readsAll I _ _ _ (RpL.plains (fun e m => (ok3.1 e m).1) (rp.up sm)) rv
    refine PySem.W.max_tuple_data (x := d.py) (xs := ds.map D.py) (as := as) hr.hd (show s.heap.IsTuple a its.toArray from hl) ra ok2 (by rw [List.map_cons] at hd; omega) fun i v h' tk bs h1 h2 h3 => ?_
    rw [maxDD_py] at h2
    obtain ⟨x, ru, re⟩ := best_end I sm rv rp (fun e m => (ok3.1 e m).1) (maxDD_mem ds d) h1 h2 h3
    exact ⟨x, H, I.kept h3, ru, q x re⟩
def dMinA : List D → Option D
  | [.lst (x :: xs)] => if bestOk (x :: xs) then some (minDD x xs) else none
  | [.tup (x :: xs)] => if bestOk (x :: xs) then some (minDD x xs) else none
  | [.int i, .int j] => some (.int (min i j))
  | _ => none
def dMaxA : List D → Option D
  | [.lst (x :: xs)] => if bestOk (x :: xs) then some (maxDD x xs) else none
  | [.tup (x :: xs)] => if bestOk (x :: xs) then some (maxDD x xs) else none
  | [.int i, .int j] => some (.int (max i j))
  | _ => none
/-- of frozen things: the answer is one of them -/
theorem c_minA {k : Nat} (hc : X.calm = true) (hr : Room k X.A) : CallF X (.builtin "min") dMinA := by
  refine ⟨_, (cr_minA hr).or (call_min2 hc), fun G H vs ds z Q s r q k => ?_⟩
  unfold dMinA at q
  split at q
  · split at q
    · rename_i x xs ok
      cases q
      cases r with
      | cons r1 r2 =>
        cases r2
        cases r1 with
        | lst h l => exact .inl ⟨G, _, _, x, xs, rfl, .inl (SqL.of (s _ _ h)), s, l, ok, fun v rv => k _ _ _ (Ex.refl s) rv⟩
    · cases q
  · split at q
    · rename_i x xs ok
      cases q
      cases r with
      | cons r1 r2 =>
        cases r2
        cases r1 with
        | tup h l => exact .inl ⟨G, _, _, x, xs, rfl, .inr (SqT.of (s _ _ h)), s, l, ok, fun v rv => k _ _ _ (Ex.refl s) rv⟩
    · cases q
  · cases q
    cases r with
    | cons r1 r2 =>
      cases r2 with
      | cons r2 r3 =>
        cases r3; cases r1; cases r2
        rename_i i j
        refine .inr ⟨i, j, rfl, ?_⟩
        have : (if j < i then j else i) = min i j := by split <;> omega
        rw [this]
        exact k _ _ _ (Ex.refl s) (.int _)
  · cases q
theorem c_maxA {k : Nat} (hc : X.calm = true) (hr : Room k X.A) : CallF X (.builtin "max") dMaxA := by
  refine ⟨_, (cr_maxA hr).or (call_max2 hc), fun G H vs ds z Q s r q k => ?_⟩
  unfold dMaxA at q
  split at q
  · split at q
    · rename_i x xs ok
      cases q
      cases r with
      | cons r1 r2 =>
        cases r2
        cases r1 with
        | lst h l => exact .inl ⟨G, _, _, x, xs, rfl, .inl (SqL.of (s _ _ h)), s, l, ok, fun v rv => k _ _ _ (Ex.refl s) rv⟩
    · cases q
  · split at q
    · rename_i x xs ok
      cases q
      cases r with
      | cons r1 r2 =>
        cases r2
        cases r1 with
        | tup h l => exact .inl ⟨G, _, _, x, xs, rfl, .inr (SqT.of (s _ _ h)), s, l, ok, fun v rv => k _ _ _ (Ex.refl s) rv⟩
    · cases q
  · cases q
    cases r with
    | cons r1 r2 =>
      cases r2 with
      | cons r2 r3 =>
        cases r3; cases r1; cases r2
        rename_i i j
        refine .inr ⟨i, j, rfl, ?_⟩
        have : (if j > i then j else i) = max i j := by split <;> omega
        rw [this]
        exact k _ _ _ (Ex.refl s) (.int _)
  · cases q
/-! a list of range(n), a call of a built-in that makes a list, with draws within -/
theorem v_callBF {x : Str} {p pos : Pos} {id : String} {e : Expr} {es : List Expr} {fs : VL.Env → Option (List D)} {g : List D → Option D} (hc : CallF X (.builtin id) g) (hg : Gl X x) (hm : X.mg x = none) (hv : bootBuiltins x = some (.builtin id)) (ha : AV X (e :: es) fs) (hn : x ≠ "__name__" := by decide) (hdb : (x == ("__debug__" : Str)) = false := by decide)
    (he : starEach (e :: es) X.env = (false, eval e X.env) :: starEach es X.env := by rfl) (hpl : (backTo pos (starEach es X.env)).any (·.1) = false := by rfl) : PV X (.Call (.Name x p) (e :: es) [] pos) (cB fs g) := by
  obtain ⟨r, hr, o⟩ := hc
  obtain ⟨t, pa, oa⟩ := ha.ex
  refine ⟨_, pe_callB hr hg hm hv pa hn hdb he hpl, fun G H st env F Q d re e k => ?_⟩
  obtain ⟨ds, e1, e2⟩ := Option.bind_eq_some_iff.mp e
  exact oa G H st env F _ _ re e1 fun vs G1 H1 x1 r1 => o G1 H1 vs ds d Q x1.gh r1 e2 fun v G' H' x2 r2 => k v G' H' (x1.trans x2) r2
theorem m_callBF {x : Str} {p pos : Pos} {id : String} {e : Expr} {es : List Expr} {fs : Mo (List D)} {g : List D → Option D} (hc : CallF X (.builtin id) g) (hg : Gl X x) (hm : X.mg x = none) (hv : bootBuiltins x = some (.builtin id)) (ha : MA X (e :: es) fs) (hn : x ≠ "__name__" := by decide) (hdb : (x == ("__debug__" : Str)) = false := by decide)
    (he : starEach (e :: es) X.env = (false, eval e X.env) :: starEach es X.env := by rfl) (hpl : (backTo pos (starEach es X.env)).any (·.1) = false := by rfl) : MV X (.Call (.Name x p) (e :: es) [] pos) (mB fs g) := by
  obtain ⟨r, hr, o⟩ := hc
  obtain ⟨t, pa, oa⟩ := ha.ex
  refine ⟨_, pe_callB hr hg hm hv pa hn hdb he hpl, fun c G H st env F Q d env' r q e k => ?_⟩
  obtain ⟨ds, e1, e2⟩ := mB_some e
  exact oa c G H st env F _ _ env' r q e1 fun vs G1 H1 F1 r1 q1 s1 rv => o G1 H1 vs ds d Q r1.sub rv e2 fun v G' H' x2 r2 => k v G' H' F1 (r1.ext x2) (q1.ext x2) (s1.trans x2.gg) r2
end
end VL

set_option Elab.async false
set_option linter.all false
set_option maxRecDepth 100000
/-! VL18: list(range(n)). -/
namespace VL
open PySem PySem.Spec PyProof.Rows L2
section
variable {X : Cx} {a : Expr} {fa : VL.Env → Option D} {p p2 pos pos2 : Pos}
def rgL : D → Option (List D)
  | .int n => if n.natAbs ≤ 16777216 then some (rangeD 0 n.toNat) else none
  | _ => none
theorem rgV_map (n : Int) : rgV 0 n = ((List.range n.toNat).map fun (i : Nat) => ((i : Int))).map V.int := by
  unfold rgV
  rw [List.map_map]
  rw [show (n - 0).toNat = n.toNat by omega]
  refine List.map_congr_left fun i _ => ?_
  show V.int (0 + (i : Int)) = V.int (i : Int)
  rw [Int.zero_add]
theorem rangeD_ints (n : Nat) : rangeD 0 n = ((List.range n).map fun (i : Nat) => ((i : Int))).map D.int := by
  rw [rangeD_0, List.map_map]; rfl
theorem l_rg1 (hc : X.calm = true) (hg2 : Gl X "list") (hm2 : X.mg "list" = none) (hg : Gl X "range") (hm : X.mg "range" = none) (ha : PW X a fa) (na : starEach [a] X.env = (false, eval a X.env) :: starEach [] X.env := by rfl)
    (na2 : starEach [Expr.Call (.Name "range" p2) [a] [] pos2] X.env = (false, eval (.Call (.Name "range" p2) [a] [] pos2) X.env) :: starEach [] X.env := by rfl) : PL X (.Call (.Name "list" p) [.Call (.Name "range" p2) [a] [] pos2] [] pos) (fun env => (fa env).bind rgL) := by
  obtain ⟨t, pa, oa⟩ := ha.ex
  refine ⟨_, pe_listRg hc hg2 hm2 (prg_1 hg hm pa na) na2, fun G H st env F Q ds re e k => ?_⟩
  obtain ⟨d, e1, e2⟩ := Option.bind_eq_some_iff.mp e
  refine oa G H st env F _ _ re e1 fun v G1 H1 x1 r1 => ?_
  cases d with
  | int n =>
    have e2 : (if n.natAbs ≤ 16777216 then some (rangeD 0 n.toNat) else none) = some ds := e2
    split at e2
    · rename_i hn
      cases e2
      cases r1
      refine ⟨n, rfl, ⟨by omega, by omega, by omega, by omega, by omega⟩, fun q hq => ?_⟩
      refine k q (rgV 0 n) G1 _ (x1.trans (Ex.own x1.gh hq)) (x1.hh.free hq) (x1.gh.free hq) upd_same ?_
      rw [rgV_map, rangeD_ints]
      exact RpL.of_ints _
    · cases e2
  | _ => cases e2
end

@[simp] abbrev dRgL (f : VL.Env → Option D) : VL.Env → Option (List D) := fun env => (f env).bind rgL
theorem look_free {env : PySem.Env} : ∀ {names : List (Str × NameKind)} {x : Str}, names.lookup x = some .cell ∨ names.lookup x = some .free →
    (names.map fun (n, k) => if (k == NameKind.free && env.scope.kind == .function && env.kindOf n == some .cell) then (n, NameKind.cell) else (n, k)).lookup x = some .cell ∨
    (names.map fun (n, k) => if (k == NameKind.free && env.scope.kind == .function && env.kindOf n == some .cell) then (n, NameKind.cell) else (n, k)).lookup x = some .free
  | [], x, h => by rcases h with h | h <;> cases h
  | (n, k) :: r, x, h => by
    have ih := @look_free env r x
    rw [List.map_cons]
    by_cases c : (x == n) = true
    · have e : ∀ k', List.lookup x ((n, k') :: r) = some k' := fun k' => by simp [List.lookup, c]
      rw [e k] at h
      have hk : k = .cell ∨ k = .free := by rcases h with h | h <;> cases h <;> simp
      rcases hk with rfl | rfl
      · refine .inl ?_
        show List.lookup x ((n, NameKind.cell) :: _) = _
        simp [List.lookup, c]
      · show List.lookup x ((if _ then (n, NameKind.cell) else (n, NameKind.free)) :: _) = _ ∨ List.lookup x ((if _ then (n, NameKind.cell) else (n, NameKind.free)) :: _) = _
        split
        · exact .inl (by simp [List.lookup, c])
        · exact .inr (by simp [List.lookup, c])
    · have c' : (x == n) = false := by simpa using c
      have e : ∀ k' (l : List (Str × NameKind)), List.lookup x ((n, k') :: l) = List.lookup x l := fun k' l => by simp [List.lookup, c']
      rw [e] at h
      have h' := ih h
      dsimp only
      split
      · rw [e]; exact h'
      · rw [e]; exact h'
theorem blkN {N : List Str} {scope0 scope : Scope} {own : List (Str × Nat)} {cl : List (Str × Addr)} {C : Addr} {env : PySem.Env} (h : BlkOk N scope0 scope own) : BlkOk N (compEnvC scope0 cl C env).scope scope own :=
  ⟨h.kind, h.uniq, h.ix, fun y m e => look_free (h.free y m e), h.own⟩
end VL

set_option Elab.async false
set_option linter.all false
set_option maxRecDepth 100000
/-! VL19: the order of data, typed; enumerate; cuts. -/
namespace VL
open PySem PySem.Spec PyProof.Rows L2
open Enc (enc)
theorem ltD_irrefl (d : D) : ltD d d = false := (PyProof.Rows.listOrd PyProof.Rows.itemOrd).irrefl _
theorem ltD_trans {a b c : D} (h : ltD a b = true) (k : ltD b c = true) : ltD a c = true := (PyProof.Rows.listOrd PyProof.Rows.itemOrd).trans _ _ _ h k
theorem ltD_neg {a c : D} (b : D) (h : ltD a c = true) : ltD a b = true ∨ ltD b c = true := (PyProof.Rows.listOrd PyProof.Rows.itemOrd).negTrans _ _ _ h
theorem ltD_asymm {a b : D} (h : ltD a b = true) : ltD b a = false := by
  cases k : ltD b a
  · rfl
  · have := ltD_trans h k
    rw [ltD_irrefl] at this; cases this
theorem leD_tot : PySem.W.TotalLe leD := PySem.W.sortLe_total (PyProof.Rows.listOrd PyProof.Rows.itemOrd) false _
theorem maxDD_ge : ∀ (xs : List D) (x : D), ltD (maxDD x xs) x = false ∧ ∀ y ∈ xs, ltD (maxDD x xs) y = false
  | [], x => ⟨ltD_irrefl x, fun y h => by cases h⟩
  | z :: xs, x => by
    obtain ⟨h1, h2⟩ := maxDD_ge xs (if ltD x z = true then z else x)
    have hx : ltD (maxDD (if ltD x z = true then z else x) xs) x = false := by
      by_cases c : ltD x z = true
      · rw [if_pos c] at h1 ⊢
        cases k : ltD (maxDD z xs) x
        · rfl
        · rw [ltD_trans k c] at h1; cases h1
      · rw [if_neg c] at h1 ⊢
        exact h1
    have hz : ltD (maxDD (if ltD x z = true then z else x) xs) z = false := by
      by_cases c : ltD x z = true
      · rw [if_pos c] at h1 ⊢
        exact h1
      · rw [if_neg c] at h1 ⊢
        cases k : ltD (maxDD x xs) z
        · rfl
        · rcases ltD_neg x k with q | q
          · rw [q] at h1; cases h1
          · exact absurd q c
    refine ⟨hx, fun y h => ?_⟩
    rcases List.mem_cons.mp h with rfl | h
    · exact hz
    · exact h2 y h
theorem minDD_le : ∀ (xs : List D) (x : D), ltD x (minDD x xs) = false ∧ ∀ y ∈ xs, ltD y (minDD x xs) = false
  | [], x => ⟨ltD_irrefl x, fun y h => by cases h⟩
  | z :: xs, x => by
    obtain ⟨h1, h2⟩ := minDD_le xs (if ltD z x = true then z else x)
    have hx : ltD x (minDD (if ltD z x = true then z else x) xs) = false := by
      by_cases c : ltD z x = true
      · rw [if_pos c] at h1 ⊢
        cases k : ltD x (minDD z xs)
        · rfl
        · rw [ltD_trans c k] at h1; cases h1
      · rw [if_neg c] at h1 ⊢
        exact h1
    have hz : ltD z (minDD (if ltD z x = true then z else x) xs) = false := by
      by_cases c : ltD z x = true
      · rw [if_pos c] at h1 ⊢
        exact h1
      · rw [if_neg c] at h1 ⊢
        cases k : ltD z (minDD x xs)
        · rfl
        · rcases ltD_neg x k with q | q
          · exact absurd q c
          · rw [q] at h1; cases h1
    refine ⟨hx, fun y h => ?_⟩
    rcases List.mem_cons.mp h with rfl | h
    · exact hz
    · exact h2 y h
/-- typed data with an order -/
class EncO (α : Type) extends Enc α where
  lt : α → α → Bool
  ltOk : ∀ a b, ltD (enc a) (enc b) = lt a b
  al : ∀ a b, PySem.W.alike (enc a).py (enc b).py = true
  ks : (∀ a, (enc a).key = true) ∨ (∀ a, (enc a).noKey = true)
  nn : ∀ a, enc a ≠ .non
theorem ltD_int (a b : Int) : ltD (.int a) (.int b) = decide (a < b) := PySem.W.dataLt_int a b
instance : EncO Int where
  lt a b := decide (a < b)
  ltOk a b := ltD_int a b
  al a b := by show PySem.W.alike (.int a) (.int b) = true; simp [PySem.W.alike]
  ks := .inr fun _ => rfl
  nn a h := by cases h
instance : EncO Nat where
  lt a b := decide (a < b)
  ltOk a b := by
    show ltD (.int (a : Int)) (.int (b : Int)) = _
    rw [ltD_int]
    congr 1
    simp
  al a b := by show PySem.W.alike (.int (a : Int)) (.int (b : Int)) = true; simp [PySem.W.alike]
  ks := .inr fun _ => rfl
  nn a h := by cases h
theorem alike_py {α : Type} [EncO α] (a b : α) : PySem.W.alike (enc a).py (enc b).py = true := EncO.al a b
theorem eqv_enc {α : Type} [Enc α] [DecidableEq α] (a b : α) : PyData.eqv (enc a).py (enc b).py = decide (a = b) := by
  rw [Bool.eq_iff_iff, decide_eq_true_eq]
  exact ⟨fun h => Enc.inj ((eqD_iff (Enc.nb a) (Enc.nb b)).mp h), fun h => by rw [h]; exact eqD_self (Enc.nb b)⟩
instance {α β : Type} [EncO α] [EncO β] [DecidableEq α] [DecidableEq β] : EncO (α × β) where
  lt p q := if p.1 = q.1 then EncO.lt p.2 q.2 else EncO.lt p.1 q.1
  ltOk p q := by
    show PySem.W.dataLt (.tuple [(enc p.1).py, (enc p.2).py]) (.tuple [(enc q.1).py, (enc q.2).py]) = _
    rw [PySem.W.dataLt_pair (EncO.al p.1 q.1) (EncO.al p.2 q.2), eqv_enc, eqv_enc]
    by_cases c : p.1 = q.1
    · rw [if_pos (decide_eq_true c), if_pos c]
      by_cases c' : p.2 = q.2
      · rw [if_pos (decide_eq_true c'), c', ← EncO.ltOk]
        exact (ltD_irrefl _).symm
      · rw [if_neg (by simpa using c')]
        exact EncO.ltOk _ _
    · rw [if_neg (by simpa using c), if_neg c]
      exact EncO.ltOk _ _
  al p q := by
    show PySem.W.alike (.tuple [(enc p.1).py, (enc p.2).py]) (.tuple [(enc q.1).py, (enc q.2).py]) = true
    rw [PySem.W.alike, PySem.W.alikeAll, PySem.W.alikeAll, EncO.al, EncO.al]
    simp [PySem.W.alikeAll]
  ks := .inl fun _ => rfl
  nn p h := by cases h
section
variable {α : Type} [EncO α]
def leE (a b : α) : Bool := !EncO.lt b a
theorem leE_eq (a b : α) : leD (enc a) (enc b) = leE a b := by
  rw [leD_eq, EncO.ltOk]; rfl
theorem leE_trans (a b c : α) (h : leE a b = true) (k : leE b c = true) : leE a c = true := by
  rw [← leE_eq] at h k ⊢
  exact leD_tot.trans _ _ _ h k
theorem leE_total (a b : α) : leE a b = true ∨ leE b a = true := by
  rw [← leE_eq, ← leE_eq]
  exact leD_tot.total _ _
def sortE (xs : List α) : List α := xs.mergeSort leE
theorem alikeL_enc (xs : List α) (h : Enc.n α ≤ 40) : alikeL (xs.map enc) = true := by
  unfold alikeL
  rw [List.all_eq_true]
  intro d m
  obtain ⟨a, _, rfl⟩ := List.mem_map.mp m
  simp only [Bool.and_eq_true, decide_eq_true_eq]
  refine ⟨⟨D.nb_plain _ (Enc.nb a), Nat.le_trans (Enc.dp a) h⟩, ?_⟩
  rw [List.all_eq_true]
  intro e m'
  obtain ⟨b, _, rfl⟩ := List.mem_map.mp m'
  exact EncO.al a b
theorem sortOk_enc (xs : List α) (h : Enc.n α ≤ 40) (hl : xs.length ≤ sizeLine) : sortOk (xs.map enc) = true := by
  unfold sortOk
  rw [alikeL_enc xs h, List.length_map, Bool.true_and, Bool.and_eq_true, Bool.or_eq_true]
  refine ⟨?_, decide_eq_true hl⟩
  rcases (EncO.ks : (∀ a : α, (enc a).key = true) ∨ (∀ a : α, (enc a).noKey = true)) with k | k
  · refine .inl (List.all_eq_true.mpr fun d m => ?_)
    obtain ⟨a, _, rfl⟩ := List.mem_map.mp m
    exact k a
  · refine .inr (List.all_eq_true.mpr fun d m => ?_)
    obtain ⟨a, _, rfl⟩ := List.mem_map.mp m
    exact k a
theorem sortD_enc (xs : List α) : sortD (xs.map enc) = (sortE xs).map enc := by
  unfold sortD sortE
  rw [List.map_mergeSort (s := leD)]
  intro a _ b _
  exact (leE_eq a b).symm
theorem dSorted_enc (xs : List α) (h : Enc.n α ≤ 40) (hl : xs.length ≤ sizeLine) : dSorted [.lst (xs.map enc)] = some ((sortE xs).map enc) := by
  show (if _ then _ else _) = _
  rw [if_pos (sortOk_enc xs h hl), sortD_enc]
theorem sortE_perm (xs : List α) : (sortE xs).Perm xs := List.mergeSort_perm _ _
theorem sortE_sorted (xs : List α) : (sortE xs).Pairwise fun a b => leE a b = true := List.pairwise_mergeSort leE_trans (fun a b => by rw [Bool.or_eq_true]; exact leE_total a b) xs
theorem bestOk_enc (xs : List α) (h : Enc.n α ≤ 40) : bestOk (xs.map enc) = true := by
  unfold bestOk
  rw [alikeL_enc xs h, Bool.true_and, List.all_eq_true]
  intro d m
  obtain ⟨a, _, rfl⟩ := List.mem_map.mp m
  have := EncO.nn a
  split
  · rename_i e; exact absurd e this
  · rfl
/-- min, max of typed data -/
theorem dMin_enc {x : α} {xs : List α} (h : Enc.n α ≤ 40) : ∃ m, m ∈ x :: xs ∧ (∀ y ∈ x :: xs, leE m y = true) ∧ dMinA [.lst ((x :: xs).map enc)] = some (enc m) := by
  have e : dMinA [.lst ((x :: xs).map enc)] = some (minDD (enc x) (xs.map enc)) := if_pos (bestOk_enc (x :: xs) h)
  have hm := minDD_mem (xs.map enc) (enc x)
  obtain ⟨m, m1, m2⟩ := List.mem_map.mp (show minDD (enc x) (xs.map enc) ∈ (x :: xs).map enc from hm)
  obtain ⟨k1, k2⟩ := minDD_le (xs.map enc) (enc x)
  rw [← m2] at k1 k2 e
  refine ⟨m, m1, fun y hy => ?_, e⟩
  rw [← leE_eq, leD_eq]
  rcases List.mem_cons.mp hy with rfl | hy
  · rw [k1]; rfl
  · rw [k2 _ (List.mem_map.mpr ⟨y, hy, rfl⟩)]; rfl
theorem dMax_enc {x : α} {xs : List α} (h : Enc.n α ≤ 40) : ∃ m, m ∈ x :: xs ∧ (∀ y ∈ x :: xs, leE y m = true) ∧ dMaxA [.lst ((x :: xs).map enc)] = some (enc m) := by
  have e : dMaxA [.lst ((x :: xs).map enc)] = some (maxDD (enc x) (xs.map enc)) := if_pos (bestOk_enc (x :: xs) h)
  have hm := maxDD_mem (xs.map enc) (enc x)
  obtain ⟨m, m1, m2⟩ := List.mem_map.mp (show maxDD (enc x) (xs.map enc) ∈ (x :: xs).map enc from hm)
  obtain ⟨k1, k2⟩ := maxDD_ge (xs.map enc) (enc x)
  rw [← m2] at k1 k2 e
  refine ⟨m, m1, fun y hy => ?_, e⟩
  rw [← leE_eq, leD_eq]
  rcases List.mem_cons.mp hy with rfl | hy
  · rw [k1]; rfl
  · rw [k2 _ (List.mem_map.mpr ⟨y, hy, rfl⟩)]; rfl
end
theorem leE_int (a b : Int) : leE a b = true ↔ a ≤ b := by
  show (!decide (b < a)) = true ↔ _
  simp
theorem leE_nat (a b : Nat) : leE a b = true ↔ a ≤ b := by
  show (!decide (b < a)) = true ↔ _
  simp
/-- max, min of ints -/
theorem dMax_ints {ns : List Int} (h : ns ≠ []) : dMaxA [.lst (ns.map D.int)] = some (.int (maxI ns)) := by
  cases ns with
  | nil => exact absurd rfl h
  | cons x xs =>
    obtain ⟨m, h1, h2, h3⟩ := dMax_enc (α := Int) (x := x) (xs := xs) (by decide)
    have : m = maxI (x :: xs) := Int.le_antisymm (maxI_ge h1) ((leE_int _ _).mp (h2 _ (maxI_mem (by simp))))
    subst this
    exact h3
theorem dMin_ints {ns : List Int} (h : ns ≠ []) : dMinA [.lst (ns.map D.int)] = some (.int (minI ns)) := by
  cases ns with
  | nil => exact absurd rfl h
  | cons x xs =>
    obtain ⟨m, h1, h2, h3⟩ := dMin_enc (α := Int) (x := x) (xs := xs) (by decide)
    have : m = minI (x :: xs) := Int.le_antisymm ((leE_int _ _).mp (h2 _ (minI_mem (by simp)))) (minI_le h1)
    subst this
    exact h3
@[simp] theorem dMax_2 (i j : Int) : dMaxA [.int i, .int j] = some (.int (max i j)) := rfl
@[simp] theorem dMin_2 (i j : Int) : dMinA [.int i, .int j] = some (.int (min i j)) := rfl
/-! ### enumerate, cuts -/
theorem enumD_enc {α : Type} [Enc α] (xs : List α) : enumD (xs.map enc) = xs.zipIdx.map fun p => D.tup [.int (p.2 : Int), enc p.1] := by
  unfold enumD
  rw [List.mapIdx_eq_zipIdx_map, List.zipIdx_map, List.map_map]
  rfl
theorem cutD_to {α : Type} (xs : List α) (j : Nat) : cutD xs none (some (j : Int)) = xs.take j := by
  have h : ¬ ((j : Int) < 0) := by omega
  unfold cutD HT.sIx
  simp only [if_neg h, List.drop_zero, Int.toNat_natCast, Nat.sub_zero]
  rw [List.take_eq_take_iff]
  omega
theorem cutD_from {α : Type} (xs : List α) (j : Nat) : cutD xs (some (j : Int)) none = xs.drop j := by
  have h : ¬ ((j : Int) < 0) := by omega
  unfold cutD HT.sIx
  simp only [if_neg h, Int.toNat_natCast]
  rw [List.take_of_length_le (by rw [List.length_drop]; omega)]
  by_cases c : j ≤ xs.length
  · rw [Nat.min_eq_left c]
  · rw [Nat.min_eq_right (by omega), List.drop_length, List.drop_of_length_le (by omega)]
end VL

set_option Elab.async false
set_option linter.all false
set_option maxRecDepth 100000
/-! VL20: loops item by item; some typed data. -/
namespace VL
open PySem PySem.Spec PyProof.Rows L2
open Enc (enc)
theorem wp_cons {ft : D → VL.Env → Option VL.Env} {fb : VL.Env → Option Out} {d : D} {ds : List D} {env e1 : VL.Env} {Q : Out → Prop} (h : ft d env = some e1) (q : wp (fb e1) fun o => match o with
  | .nx e2 => wp (forD ft fb ds e2) Q
  | .ct e2 => wp (forD ft fb ds e2) Q
  | .bk e2 => Q (.nx e2)
  | .rt s e2 => Q (.rt s e2)) : wp (forD ft fb (d :: ds) env) Q := by
  obtain ⟨u, h2, h3⟩ := q
  show wp ((ft d env).bind _) Q
  rw [h]
  show wp ((fb e1).bind _) Q
  rw [h2]
  cases u with
  | nx e2 => exact h3
  | ct e2 => exact h3
  | bk e2 => exact ⟨_, rfl, h3⟩
  | rt s e2 => exact ⟨_, rfl, h3⟩
theorem wp_end {ft : D → VL.Env → Option VL.Env} {fb : VL.Env → Option Out} {env : VL.Env} {Q : Out → Prop} (q : Q (.nx env)) : wp (forD ft fb [] env) Q := ⟨_, rfl, q⟩
/-- for x in xs, typed: one invariant for what is done -/
theorem wp_each {α : Type} {ft : D → VL.Env → Option VL.Env} {fb : VL.Env → Option Out} {en : α → D} {Q : Out → Prop} (I : List α → VL.Env → Prop) : ∀ {xs done : List α} {env : VL.Env}, I done env →
    (∀ (pre : List α) (x : α) (post : List α) (e : VL.Env), done ++ xs = pre ++ x :: post → I pre e → ∃ e1, ft (en x) e = some e1 ∧ wp (fb e1) fun o => match o with
      | .nx e2 => I (pre ++ [x]) e2
      | .ct e2 => I (pre ++ [x]) e2
      | .bk e2 => Q (.nx e2)
      | .rt s e2 => Q (.rt s e2)) → (∀ e, I (done ++ xs) e → Q (.nx e)) → wp (forD ft fb (xs.map en) env) Q
  | [], done, env, h0, _, he => wp_end (he env (by rwa [List.append_nil]))
  | x :: xs, done, env, h0, hs, he => by
    obtain ⟨e1, h1, u, h2, h3⟩ := hs done x xs env rfl h0
    have hs' : ∀ (pre : List α) (y : α) (post : List α) (e : VL.Env), (done ++ [x]) ++ xs = pre ++ y :: post → I pre e → ∃ e1, ft (en y) e = some e1 ∧ wp (fb e1) fun o => match o with
      | .nx e2 => I (pre ++ [y]) e2
      | .ct e2 => I (pre ++ [y]) e2
      | .bk e2 => Q (.nx e2)
      | .rt s e2 => Q (.rt s e2) := fun pre y post e h i => hs pre y post e (by rw [← h, List.append_assoc]; rfl) i
    have he' : ∀ e, I ((done ++ [x]) ++ xs) e → Q (.nx e) := fun e i => he e (by rw [List.append_assoc] at i; exact i)
    refine wp_cons h1 ⟨u, h2, ?_⟩
    cases u with
    | nx e2 => exact wp_each I h3 hs' he'
    | ct e2 => exact wp_each I h3 hs' he'
    | bk e2 => exact h3
    | rt s e2 => exact h3
theorem dMin_tup2 (a b : Int) : dMinA [.tup [.int a, .int b]] = some (.int (min a b)) := by
  have hb : bestOk [.int a, .int b] = true := bestOk_enc (α := Int) [a, b] (by decide)
  have e : dMinA [.tup [.int a, .int b]] = some (minDD (.int a) [.int b]) := by
    show (if bestOk [.int a, .int b] = true then some (minDD (.int a) [.int b]) else none) = _
    rw [if_pos hb]
  rw [e]
  show some (if ltD (.int b) (.int a) = true then D.int b else .int a) = _
  rw [ltD_int]
  by_cases c : b < a
  · rw [if_pos (decide_eq_true c), Int.min_eq_right (by omega)]
  · rw [if_neg (by simpa using c), Int.min_eq_left (by omega)]
/-- three numbers -/
structure I3 where
  x : Int
  y : Int
  z : Int
instance : Enc I3 where
  enc p := .tup [.int p.x, .int p.y, .int p.z]
  nb _ := rfl
  inj {a b} h := by
    cases a; cases b
    simp only [D.tup.injEq, List.cons.injEq, D.int.injEq, and_true] at h
    obtain ⟨rfl, rfl, rfl⟩ := h
    rfl
  n := 1
  dp _ := Nat.le_refl _
instance : EncO I3 where
  lt a b := ltD (enc a) (enc b)
  ltOk _ _ := rfl
  al a b := by
    show PySem.W.alike (.tuple [.int a.x, .int a.y, .int a.z]) (.tuple [.int b.x, .int b.y, .int b.z]) = true
    simp [PySem.W.alike, PySem.W.alikeAll]
  ks := .inl fun _ => rfl
  nn a h := by cases h
theorem lt_I3 {a b : I3} (h : a.x < b.x) : (EncO.lt a b : Bool) = true := by
  show PySem.W.dataLt (.tuple [.int a.x, .int a.y, .int a.z]) (.tuple [.int b.x, .int b.y, .int b.z]) = true
  show PyProof.Rows.lexLt PyProof.Rows.itemOrd (PySem.W.keyToksAll _) (PySem.W.keyToksAll _) = true
  rw [PySem.W.dataLt_cons (by simp [PySem.W.alike])]
  have : PyData.eqv (.int a.x) (.int b.x) = false := by simp [PyData.eqv]; omega
  rw [this, if_neg (by decide), PySem.W.dataLt_int]
  exact decide_eq_true h
theorem leE_I3 {a b : I3} (h : leE a b = true) : a.x ≤ b.x := by
  rcases (by omega : b.x < a.x ∨ a.x ≤ b.x) with c | c
  · have := lt_I3 c
    unfold leE at h
    rw [this] at h; cases h
  · exact c
@[simp] theorem truD_lst (xs : List D) : truD (.lst xs) = some (!xs.isEmpty) := by cases xs <;> rfl
/-- a number or none -/
def oZ : Option Int → D
  | none => .non
  | some v => .int v
theorem atI_map {α : Type} [Enc α] {xs : List α} {k : Nat} {x : α} (h : xs[k]? = some x) : atI (xs.map enc) (k : Int) = some (enc x) := by
  rw [atI_nat, List.getElem?_map, h]; rfl
end VL

set_option Elab.async false
set_option linter.all false
set_option maxRecDepth 100000
/-! VL21: comprehensions that draw. -/
namespace VL
open PySem PySem.Spec PyProof.Rows L2
open Enc (enc)
theorem compM_ok {β : Type} {vs : List Nat} {ft : D → VL.Env → Option VL.Env} {fc : Mo Bool} {fe : Mo D} {en : β → D} (I : List β → VL.Env → Prop) : ∀ (xs : List D) (acc : List β) (e : VL.Env), I acc e →
    (∀ acc' d e, d ∈ xs → acc'.length < acc.length + xs.length → I acc' e → ∃ e1, ft d e = some e1 ∧ wm (fc e1) fun b e2 => if b = true then wm (fe e2) fun y e3 => ∃ z : β, y = en z ∧ I (acc' ++ [z]) (wipeE e3 vs) else I acc' (wipeE e2 vs)) →
    ∃ zs e', compM vs ft fc fe xs e = some (zs.map en, e') ∧ I (acc ++ zs) e' ∧ zs.length ≤ xs.length
  | [], acc, e, h, _ => ⟨[], e, rfl, by rwa [List.append_nil], Nat.le_refl _⟩
  | d :: ds, acc, e, h, hs => by
    obtain ⟨e1, h1, b, e2, h2, h3⟩ := hs acc d e (List.mem_cons_self ..) (by simp) h
    have hs' : ∀ (acc1 : List β), acc1.length ≤ acc.length + 1 → ∀ acc' d' e, d' ∈ ds → acc'.length < acc1.length + ds.length → I acc' e → ∃ e1, ft d' e = some e1 ∧ wm (fc e1) fun b e2 => if b = true then wm (fe e2) fun y e3 => ∃ z : β, y = en z ∧ I (acc' ++ [z]) (wipeE e3 vs) else I acc' (wipeE e2 vs) :=
      fun acc1 hl acc' d' e m l i => hs acc' d' e (List.mem_cons_of_mem _ m) (by rw [List.length_cons]; omega) i
    cases b with
    | false =>
      have h3 : I acc (wipeE e2 vs) := h3
      obtain ⟨zs, e', k1, k2, k3⟩ := compM_ok I ds acc (wipeE e2 vs) h3 (hs' acc (by omega))
      refine ⟨zs, e', ?_, k2, by rw [List.length_cons]; omega⟩
      show (ft d e).bind _ = _
      rw [h1]
      show (fc e1).bind _ = _
      rw [h2]
      exact k1
    | true =>
      obtain ⟨y, e3, h4, z, rfl, h5⟩ := (show wm (fe e2) _ from h3)
      obtain ⟨zs, e', k1, k2, k3⟩ := compM_ok I ds (acc ++ [z]) (wipeE e3 vs) h5 (hs' _ (by rw [List.length_append]; simp))
      refine ⟨z :: zs, e', ?_, by rwa [List.append_assoc] at k2, by rw [List.length_cons, List.length_cons]; omega⟩
      show (ft d e).bind _ = _
      rw [h1]
      show (fc e1).bind _ = _
      rw [h2]
      show (fe e2).bind _ = _
      rw [h4]
      show (compM vs ft fc fe ds (wipeE e3 vs)).map _ = _
      rw [k1]; rfl
theorem wm_comp {β : Type} {vs : List Nat} {fi : Mo (List D)} {ft : D → VL.Env → Option VL.Env} {fc : Mo Bool} {fe : Mo D} {env : VL.Env} {Q : D → VL.Env → Prop} {en : β → D} (I : List β → VL.Env → Prop)
    (h : wm (fi env) fun xs e => I [] (wipeE e vs) ∧ (∀ acc d e, d ∈ xs → acc.length < xs.length → I acc e → ∃ e1, ft d e = some e1 ∧ wm (fc e1) fun b e2 => if b = true then wm (fe e2) fun y e3 => ∃ z : β, y = en z ∧ I (acc ++ [z]) (wipeE e3 vs) else I acc (wipeE e2 vs)) ∧
      ∀ acc e, acc.length ≤ xs.length → I acc e → Q (.lst (acc.map en)) e) : wm (mComp vs fi ft fc fe env) Q := by
  obtain ⟨xs, e, h1, h2, h3, h4⟩ := h
  obtain ⟨zs, e', k1, k2, k3⟩ := compM_ok I xs [] (wipeE e vs) h2 (fun acc d e m l i => h3 acc d e m (by simpa using l) i)
  refine ⟨.lst (zs.map en), e', ?_, h4 zs e' k3 (by simpa using k2)⟩
  simp only [mComp, h1, Option.bind_some, k1, Option.map_some]
/-- range(n), n drawn -/
theorem wm_rng1 {f : Mo (List D)} {env : VL.Env} {Q : List D → VL.Env → Prop} (h : wm (f env) fun ds e => ∃ xs, rng1 ds = some xs ∧ Q xs e) : wm (mB f rng1 env) Q := by
  obtain ⟨ds, e, h1, xs, h2, q⟩ := h
  exact ⟨xs, e, by simp only [mB, h1, Option.bind_some, h2, Option.map_some], q⟩
theorem rangeD_len (lo : Int) (n : Nat) : (rangeD lo n).length = n := by rw [rangeD_eq, List.length_map, List.length_range]
end VL

set_option Elab.async false
set_option linter.all false
set_option maxRecDepth 100000
/-! VL22: slices of tuples; zip, reversed; lists made by a built-in, extend, with draws. -/
namespace VL
open PySem PySem.Spec PyProof.Rows L2
section
variable {X : Cx} {a : Expr} {fa : VL.Env → Option D} {pos : Pos}
def tupOf : D → Option (List D)
  | .tup xs => some xs
  | _ => none
theorem tupOf_some {d : D} {xs : List D} (h : tupOf d = some xs) : d = .tup xs := by
  cases d <;> first | (cases h; rfl) | cases h
@[simp] abbrev dCutU (f : VL.Env → Option D) (l h : VL.Env → Option (Option Int)) : VL.Env → Option D := fun env => (f env).bind fun d => (tupOf d).bind fun xs => (l env).bind fun l => (h env).bind fun h => some (.tup (cutD xs l h))
theorem cut_whole {α : Type} {xs : List α} {lo hi : Option Int} (h : HT.sIx xs.length 0 lo = 0 ∧ HT.sIx xs.length xs.length hi = xs.length) : VL.cutD xs lo hi = xs := by
  unfold VL.cutD
  rw [h.1, h.2]
  simp
theorem v_sliceU {lo hi : Option Expr} {p2 : Pos} {fl fh : VL.Env → Option (Option Int)} (ha : PV X a fa) (hl : SP1 X lo fl) (hh : SP1 X hi fh) :
    PV X (.Subscript a (.Slice lo hi none p2) pos) (dCutU fa fl fh) := by
  obtain ⟨t, p, o⟩ := ha.ex
  obtain ⟨tl, pl, ol⟩ := hl.ex
  obtain ⟨th, ph, oh⟩ := hh.ex
  refine ⟨_, pe_slice sl_tupA p pl ph, fun G H st env F Q ds re e k => ?_⟩
  obtain ⟨d, e1, e⟩ := Option.bind_eq_some_iff.mp e
  obtain ⟨xs, e2, e⟩ := Option.bind_eq_some_iff.mp e
  obtain ⟨l, e3, e⟩ := Option.bind_eq_some_iff.mp e
  obtain ⟨h, e4, e⟩ := Option.bind_eq_some_iff.mp e
  cases e
  obtain rfl := tupOf_some e2
  refine o G H st env F _ _ re e1 fun v G1 H1 x1 r1 => ol G1 H1 st env F _ _ (re.ext x1) e3 fun G2 H2 x2 => oh G2 H2 st env F _ _ ((re.ext x1).ext x2) e4 fun G3 H3 x3 => ?_
  have x123 := (x1.trans x2).trans x3
  cases r1 with
  | @tup b vs _ h1 l1 =>
    have g3 : G3 b = some (.tup vs) := x3.gg _ _ (x2.gg _ _ h1)
    refine ⟨_, _, rfl, SqT.of (x123.gh _ _ g3), fun hw => ?_, fun hw q hq => ?_⟩
    · have hw' : HT.sIx xs.length 0 l = 0 ∧ HT.sIx xs.length xs.length h = xs.length := by rw [← l1.length]; exact hw
      refine k _ G3 _ x123 ?_
      rw [cut_whole hw']
      exact .tup g3 (l1.up (x2.gg.trans x3.gg))
    · exact k _ _ _ (x123.trans (Ex.frz x123.gh hq)) (.tup upd_same (((l1.cut l h).up (x2.gg.trans x3.gg)).up (same_upd (x123.gh.free hq))))
end
section
variable {X : Cx} {pos : Pos} {fa fb : VL.Env → Option D} {tg : Expr}
/-! reversed -/
theorem rev_get {α : Type} {xs : List α} {i : Nat} {d : α} (h : xs.reverse[i]? = some d) : i < xs.length ∧ xs[xs.length - 1 - i]? = some d := by
  have hi : i < xs.length := by
    have := (List.getElem?_eq_some_iff.mp h).1
    rwa [List.length_reverse] at this
  rw [List.getElem?_reverse hi] at h
  exact ⟨hi, h⟩
theorem yl_rev {K : PySem.W.Frag} {G1 : Hp} {a : Addr} {vs : List V} {xs : List D} (h : G1 a = some (.lst vs)) (l : RpL K G1 vs xs) (hz : vs.length ≤ sizeLine) : Yl K G1 G1 (Itv K a vs.length) xs.reverse := by
  refine ⟨by rw [List.length_reverse, ← l.length]; exact hz, fun i G2 H2 s1 s2 s3 d e => ?_, fun i G2 H2 s1 s2 s3 e => ?_⟩
  · obtain ⟨hi, e2⟩ := rev_get e
    rw [← l.length] at hi e2
    obtain ⟨v, hv, rv⟩ := l.get e2
    have hh : H2 a = some (.lst vs) := s3 _ _ (s1 _ _ h)
    refine ⟨⟨hi, vs, v, SqL.of hh, hv⟩, fun w H3 ⟨e3, q⟩ => ?_⟩
    subst e3
    have := q vs (SqL.of hh)
    rw [hv] at this
    cases this
    exact ⟨_, Ex.refl s3, rv.up s1⟩
  · show vs.length ≤ i
    rw [e, List.length_reverse, l.length]; exact Nat.le_refl _
theorem yl_revT {K : PySem.W.Frag} {G1 : Hp} {a : Addr} {vs : List V} {xs : List D} (h : G1 a = some (.tup vs)) (l : RpL K G1 vs xs) (hz : vs.length ≤ sizeLine) : Yl K G1 G1 (RT.ItvT K a vs.length) xs.reverse := by
  refine ⟨by rw [List.length_reverse, ← l.length]; exact hz, fun i G2 H2 s1 s2 s3 d e => ?_, fun i G2 H2 s1 s2 s3 e => ?_⟩
  · obtain ⟨hi, e2⟩ := rev_get e
    rw [← l.length] at hi e2
    obtain ⟨v, hv, rv⟩ := l.get e2
    have hh : H2 a = some (.tup vs) := s3 _ _ (s1 _ _ h)
    refine ⟨⟨hi, vs, v, SqT.of hh, hv⟩, fun w H3 ⟨e3, q⟩ => ?_⟩
    subst e3
    have := q vs (SqT.of hh)
    rw [hv] at this
    cases this
    exact ⟨_, Ex.refl s3, rv.up s1⟩
  · show vs.length ≤ i
    rw [e, List.length_reverse, l.length]; exact Nat.le_refl _
@[simp] abbrev iRv (f : VL.Env → Option D) : VL.Env → Option (List D) := fun env => (f env).bind fun d => (seqOf d).map List.reverse
theorem i_rev {e : Expr} {p : Pos} (hg : Gl X "reversed") (hm : X.mg "reversed" = none) (h : PV X e fa) (hs : starEach [e] X.env = (false, eval e X.env) :: starEach [] X.env := by rfl) : IV X tg (.Call (.Name "reversed" p) [e] [] pos) (iRv fa) := by
  obtain ⟨t, pa, o⟩ := h.ex
  refine ⟨_, RT.pi_revA hg hm (pe_hlen pa) hs, fun G H st env F R xs r e k => ?_⟩
  obtain ⟨d, e1, e2⟩ := Option.bind_eq_some_iff.mp e
  obtain ⟨ys, e3, rfl⟩ := Option.map_eq_some_iff.mp e2
  refine o G H st env F _ _ r e1 fun v G' H' x rv hz => ?_
  cases rv with
  | lst h l =>
    cases e3
    exact ⟨_, _, rfl, .inl ⟨SqL.of (x.gh _ _ h), k _ G' H' x (yl_rev h l (hz.1 _ _ (x.gh _ _ h)))⟩⟩
  | tup h l =>
    cases e3
    exact ⟨_, _, rfl, .inr ⟨SqT.of (x.gh _ _ h), k _ G' H' x (yl_revT h l (hz.2 _ _ (x.gh _ _ h)))⟩⟩
  | _ => cases e3
/-! zip -/
def zipD (xs ys : List D) : List D := List.zipWith (fun x y => D.tup [x, y]) xs ys
theorem yl_zip {K : PySem.W.Frag} {G1 : Hp} {a b : Addr} {vs us : List V} {xs ys : List D} (h : G1 a = some (.lst vs)) (h' : G1 b = some (.lst us)) (l : RpL K G1 vs xs) (l' : RpL K G1 us ys) (hz : vs.length ≤ sizeLine) : Yl K G1 G1 (Itz K a b) (zipD xs ys) := by
  have hl : (zipD xs ys).length = min xs.length ys.length := by unfold zipD; rw [List.length_zipWith]
  refine ⟨by rw [hl, ← l.length]; omega, fun i G2 H2 s1 s2 s3 d e => ?_, fun i G2 H2 s1 s2 s3 e => ?_⟩
  · unfold zipD at e
    rw [List.getElem?_zipWith] at e
    cases hx : xs[i]? with
    | none => rw [hx] at e; cases e
    | some x =>
      cases hy : ys[i]? with
      | none => rw [hx, hy] at e; cases e
      | some y =>
        rw [hx, hy] at e
        cases e
        obtain ⟨v, hv, rv⟩ := l.get hx
        obtain ⟨u, hu, ru⟩ := l'.get hy
        have hh : H2 a = some (.lst vs) := s3 _ _ (s1 _ _ h)
        have hh' : H2 b = some (.lst us) := s3 _ _ (s1 _ _ h')
        refine ⟨⟨vs, us, v, u, SqL.of hh, SqL.of hh', hv, hu⟩, fun w H3 ⟨T, x', y', ew, nT, e3, q, q'⟩ => ?_⟩
        subst ew e3
        have k1 := q vs (SqL.of hh)
        have k2 := q' us (SqL.of hh')
        rw [hv] at k1
        rw [hu] at k2
        cases k1
        cases k2
        exact ⟨_, Ex.frz s3 nT, .tup upd_same (.cons ((rv.up s1).up (same_upd (s3.free nT))) (.cons ((ru.up s1).up (same_upd (s3.free nT))) .nil))⟩
  · exact ⟨vs, us, SqL.of (s3 _ _ (s1 _ _ h)), SqL.of (s3 _ _ (s1 _ _ h')), by rw [l.length, l'.length, e, hl]; omega⟩
@[simp] abbrev iZp (fs : VL.Env → Option (List D)) : VL.Env → Option (List D) := fun env => (fs env).bind fun ds => match ds with
  | [.lst xs, .lst ys] => some (zipD xs ys)
  | _ => none
theorem pa_hlen {es : List Expr} {t : TA} (h : PA X es t) : PA X es (fun st H Q => t st H fun v H' => HLen H' → Q v H') := by
  refine ⟨fun pos pins s st H Q I hw => ?_⟩
  exact thn (h.run pos pins s st H _ I hw) fun us s1 ⟨vs, H1, I1, r1, q1⟩ => ⟨vs, H1, I1, r1, q1 (hlen_of I1)⟩
theorem i_zip {e e2 : Expr} {fs : VL.Env → Option (List D)} {p tpos : Pos} {elts : List Expr} {kk : Nat} (hg : Gl X "zip") (hm : X.mg "zip" = none) (h : AV X [e, e2] fs) (hs : starEach [e, e2] X.env = (false, eval e X.env) :: starEach [e2] X.env := by rfl) (hpl : (backTo pos (starEach [e2] X.env)).any (·.1) = false := by rfl) :
    IV X (.Tuple elts kk tpos) (.Call (.Name "zip" p) [e, e2] [] pos) (iZp fs) := by
  obtain ⟨t, pa, o⟩ := h.ex
  refine ⟨_, pi_hlen (pi_zip hg hm pa hs hpl), fun G H st env F R xs r e k => ?_⟩
  obtain ⟨ds, e1, e2⟩ := Option.bind_eq_some_iff.mp e
  refine o G H st env F _ _ r e1 fun vs G' H' x rv => ?_
  split at e2
  · cases e2
    cases rv with
    | cons r1 r2 =>
      cases r2 with
      | cons r2 r3 =>
        cases r3
        cases r1 with
        | lst h1 l1 =>
          cases r2 with
          | lst h2 l2 => exact ⟨_, _, _, _, rfl, SqL.of (x.gh _ _ h1), SqL.of (x.gh _ _ h2), fun hz => k _ G' H' x (yl_zip h1 h2 l1 l2 (hz.1 _ _ (x.gh _ _ h1)))⟩
  · cases e2
end
/-! a list made by a built-in, with draws -/
section
variable {X : Cx} {x : Str} {p pos : Pos} {id : String} {e : Expr} {es : List Expr} {fs : Mo (List D)}
theorem callL_F {v : Value} {g : List D → Option (List D)} (h : CallL X v g) : CallF X v (fun ds => (g ds).map D.lst) := by
  obtain ⟨r, hr, o⟩ := h
  refine ⟨r, hr, fun G H vs ds z Q s rv e k => ?_⟩
  obtain ⟨zs, e1, rfl⟩ := Option.map_eq_some_iff.mp e
  refine o G H vs ds zs Q s rv e1 fun q us G' H' x2 hn g hq l => ?_
  have up := frzG_up (G := G') (H := H') (l := [q]) fun a m => by cases List.mem_singleton.mp m; exact g
  refine k _ (frzG G' H' [q]) H' ⟨x2.hh, x2.gg.trans up, frzG_in x2.gh, fun b hb => ?_⟩ (.lst (by unfold frzG; rw [if_pos (List.mem_singleton.mpr rfl)]; exact hq) (l.up up))
  unfold frzG at hb
  split at hb
  · rename_i m
    cases List.mem_singleton.mp m
    exact .inr hn
  · exact x2.nw b hb
theorem m_callL {g : List D → Option (List D)} (hc : CallL X (.builtin id) g) (hg : Gl X x) (hm : X.mg x = none) (hv : bootBuiltins x = some (.builtin id)) (ha : MA X (e :: es) fs) (hn : x ≠ "__name__" := by decide) (hdb : (x == ("__debug__" : Str)) = false := by decide)
    (he : starEach (e :: es) X.env = (false, eval e X.env) :: starEach es X.env := by rfl) (hpl : (backTo pos (starEach es X.env)).any (·.1) = false := by rfl) : MV X (.Call (.Name x p) (e :: es) [] pos) (mB fs fun ds => (g ds).map D.lst) :=
  m_callBF (callL_F hc) hg hm hv ha hn hdb he hpl
@[simp] abbrev mBL (fs : Mo (List D)) (g : List D → Option (List D)) : Mo D := mB fs fun ds => (g ds).map D.lst
theorem m_callTL {g : List D → Option (List D)} (hc : CallL X (.type id) g) (hg : Gl X x) (hm : X.mg x = none) (hv : bootBuiltins x = some (.type id)) (ha : MA X (e :: es) fs) (hn : x ≠ "__name__" := by decide) (hdb : (x == ("__debug__" : Str)) = false := by decide)
    (he : starEach (e :: es) X.env = (false, eval e X.env) :: starEach es X.env := by rfl) (hpl : (backTo pos (starEach es X.env)).any (·.1) = false := by rfl) : MV X (.Call (.Name x p) (e :: es) [] pos) (mBL fs g) := by
  obtain ⟨r, hr, o⟩ := callL_F hc
  obtain ⟨t, pa, oa⟩ := ha.ex
  refine ⟨_, pe_callTy hr hg hm hv pa hn hdb he hpl, fun c G H st env F Q d env' r q e k => ?_⟩
  obtain ⟨ds, e1, e2⟩ := mB_some e
  exact oa c G H st env F _ _ env' r q e1 fun vs G1 H1 F1 r1 q1 s1 rv => o G1 H1 vs ds d Q r1.sub rv e2 fun v G' H' x2 r2 => k v G' H' F1 (r1.ext x2) (q1.ext x2) (s1.trans x2.gg) r2
end
/-! x.extend(e), e with draws -/
@[simp] def sExtM (i : Nat) (fe : Mo D) : VL.Env → Option Out := fun env => (getS env i).bind fun z0 => (olOf z0).bind fun _ => (fe env).bind fun x => (getS x.2 i).bind fun z => (olOf z).bind fun ds => (lstOf x.1).bind fun es => if ds.length + es.length ≤ sizeLine then some (.nx (x.2.set i (some (.ol ((ds ++ es).map S.fz))))) else none
section
variable {X : Cx} {x : Str} {pos : Pos} {e : Expr} {fm : Mo D}
theorem s_extM (i : Nat) {xpos apos cpos : Pos} (he : MV X e fm) (hN : X.N[i]? = some x := by rfl) (hv : Vis X.env.scope x := by first | exact Or.inl rfl | exact Or.inr (Or.inl rfl) | exact Or.inr (Or.inr rfl))
    (hd : (x == ("__debug__" : Str)) = false := by decide) (hcd : (x == ("__classdict__" : Str)) = false := by decide)
    (hbase : attributeBase (.Name x xpos) "extend" X.env (eval (.Name x xpos) X.env) = eval (.Name x xpos) X.env := by rfl)
    (hfew : ((backTo cpos (starEach [e] X.env)).all (fun x => !x.1) && (backToKw cpos (keywordEach [] X.env)).all (fun x => x.1.isSome)
      && decide ([e].length + ([] : List Keyword).length + (if ([] : List Keyword).isEmpty then 0 else 1) < 30)) = true := by rfl)
    (hline : (apos.endLine == cpos.line) = true := by rfl) (hs : starEach [e] X.env = (false, eval e X.env) :: starEach [] X.env := by rfl)
    (hsw : swapsWith (.Call (.Attribute (.Name x xpos) "extend" apos) [e] [] cpos) none pos.line X.env = pure false := by rfl) :
    SV X (.Expr (.Call (.Attribute (.Name x xpos) "extend" apos) [e] [] cpos) pos) (sExtM i fm) := by
  obtain ⟨t, p, o⟩ := he.ex
  refine ⟨_, ps_expr (pe_bm PySem.F.plainAttrs_list PySem.F.slot_list_extend PySem.F.type_list_extend mt_extend (pe_var hN hv hd hcd) (pa_cons p pa_nil hs) hbase hfew hline hs rfl) hsw, fun c G H s env F E u r q e k => ?_⟩
  obtain ⟨z0, e0, e⟩ := Option.bind_eq_some_iff.mp (show (getS env i).bind _ = _ from e)
  obtain ⟨ds0, e00, e⟩ := Option.bind_eq_some_iff.mp e
  obtain ⟨⟨d, env'⟩, e1, e⟩ := Option.bind_eq_some_iff.mp e
  obtain ⟨z, e2, e⟩ := Option.bind_eq_some_iff.mp e
  obtain ⟨ds, e3, e⟩ := Option.bind_eq_some_iff.mp e
  obtain ⟨es, e4, e⟩ := Option.bind_eq_some_iff.mp e
  split at e
  · rename_i hl
    cases e
    obtain rfl := olOf_some e3
    obtain rfl := olOf_some e00
    obtain rfl := lstOf_some e4
    obtain ⟨v, h1, h0⟩ := r.slot i _ (getS_some e0)
    generalize F i = F0 at h0
    cases h0 with
    | @ol pp vs0 _ Fx0 g0 _ =>
      refine ⟨_, h1, .inl ⟨rfl, _, SqL.of g0⟩, o c G H s env F _ _ env' r q e1 fun w G' H' F' r' q' s' rw' => ?_⟩
      obtain ⟨v', h2, h3⟩ := r'.slot i _ (getS_some e2)
      rw [h1] at h2
      cases h2
      generalize hFi : F' i = Fi at h3
      cases h3 with
      | @ol p2 vs _ Fx g1 g2 =>
        obtain ⟨l1, rfl⟩ := slRs_rp g2
        have hppF : pp ∈ F' i := by rw [hFi]; exact List.mem_cons_self
        cases rw' with
        | @lst bb ws _ w1 w2 =>
          have ag : ∀ b, b ∉ F' i → (L2.upd H' pp (.lst (vs ++ ws))) b = H' b ∨ H' b = none := fun b hb => .inl (upd_ne fun z => hb (by rw [z]; exact hppF))
          refine ⟨pp, bb, vs, ws, rfl, rfl, g1, r'.sub _ _ w1, by rw [l1.length, w2.length]; exact hl, ?_⟩
          refine k G' _ s _ (r'.upd (l := [pp]) h1 ag (.ol upd_same (slRs_fz (l1.append w2))) (by simp) fun a m => ?_) (CR.upd q' ag fun a m => ?_)
          · cases List.mem_singleton.mp m; exact .inl hppF
          · cases List.mem_singleton.mp m; exact .inl hppF
  · cases e
end
end VL

set_option Elab.async false
set_option linter.all false
set_option maxRecDepth 100000
/-! VL23: the law's own call at the caller of laws (no guards are up there); repr of data. -/
namespace VL
open PySem PySem.Spec PyProof.Rows L2
/-- a def's promise where laws are called from -/
def RunG (P : Program) (w : World) (K : PySem.W.Frag) (mg : Str → Option Value) (bs : Heap) (f : Addr) (fd : FuncData) (ps : List Str) (sp : Sp) : Prop :=
  (∀ vs H Q E, sp vs H Q E → vs.length = ps.length) ∧
  ∀ (t : Shared) (G : Hp) (ar : Args) (us : List Value) (xs : List V) (Q : VK) (E : XK), Env0 P w K mg bs callerA [] t G → BindsTo t fd ar (ps.zip us) → Vals xs us → sp xs G Q E → codeAny (model P w) callerA (.call (.ref f) ar) (L2.CR CX0 [] P w G t Q E) t
section
variable {P : Program} {w : World} {K : PySem.W.Frag} {mg : Str → Option Value} {bs : Heap}
theorem run_of {x qual : Str} {st : Stmt} {f : Addr} {fd : FuncData} {N ps : List Str} {k : Nat} {sp : Sp} (F : Fun K x qual st f fd) (Sc : FnScope N ps (defScope st)) (room : Room (k + 1) callerA) (ln : ∀ vs H Q E, sp vs H Q E → vs.length = ps.length)
    (body : ∀ (cd : Value) (t : Shared) (G : Hp) (xs : List V) (Q : VK) (E : XK), Room k (callerA.deeper (envOfC qual (defScope st) t.heap.objs.size f cd)) → sp xs G Q E →
      ∃ T, PSs (cxOf CX0 P w K mg bs N qual (defScope st) f cd callerA [] t G E).nox (defBody st) T ∧ T { nx := fun _ G' => Q .non G', rt := Q } (L2.start N xs) G) : RunG P w K mg bs f fd ps sp := by
  obtain ⟨oc, od, kV, doc, pm, an, cd, ct, osl, rfl, lk, hcd⟩ := F.ex
  refine ⟨ln, fun t G ar us xs Q E z hb rv hp => ?_⟩
  have hlen := ln _ _ _ _ hp
  have inK := z.mod.kin.keeps fun b o q => (z.bs b o q).1
  have noL := z.mod.nolimit.keeps fun b o q => (z.bs b o q).1
  have kinds : ∀ y ∈ ps.zip us, (defScope st).names.lookup y.1 = some .local ∨ ((defScope st).names.lookup y.1 = some .cell ∧ ((cellsFrom (t.heap.objs.size + 1) (defScope st).names []).lookup y.1).isSome = true) := by
    rintro ⟨n, v⟩ hy
    have h1 := Sc.par n (List.of_mem_zip hy).1
    exact h1.imp _root_.id fun q => ⟨q, PySem.W.cellsFrom_some _ _ _ (.inl q)⟩
  refine codeAny_call_function room.depth (inK _ _ lk) rfl Sc.co Sc.gen rfl (PySem.W.codeRec_of inK hcd) (hb _ _ _ _ ?_)
  refine wpAny_newFunctionEnv_cells Sc.kind kinds fun env he t1 y => ?_
  subst he
  obtain ⟨T, hT, hq⟩ := body cd t G xs Q E (room.deeper _) hp
  refine ⟨noL.keeps y.toInCall.keep, codeAny_func ?_⟩
  have J0 := inv_start (CX := CX0) (E := E) Sc room.hd z hlen rv y
  have ends : ∀ {σ : L2.St} {G' : Hp} {t' : Shared} {v : V} {u : Value}, Inv (cxOf CX0 P w K mg bs N qual (defScope st) f cd callerA [] t G E) [] σ G' t' → RelV v u → Q v G' → CE [] P w G t Q u t' := fun {σ G' t' v u} J rv q => ⟨v, G', J.os, J.bare, J.base, J.hok, rv, q⟩
  refine wpAny_mono (hT.nox.run [] t1 (L2.start N xs) G _ J0 hq) (fun fl t' ht => ?_) fun _ _ ht => ht
  cases fl with
  | next => exact let ⟨_, _, J, q⟩ := ht; ends (v := V.non) (u := Value.none) J rfl q
  | ret u => exact let ⟨_, _, _, J, rv, q⟩ := ht; ends J rv q
  | brk => exact let ⟨_, _, _, q⟩ := ht; False.elim q
  | cont => exact let ⟨_, _, _, q⟩ := ht; False.elim q
/-- the call of the law, over the heap behind the top -/
theorem law_callG {mb : Str → Option Value} {fa a : Addr} {fd : FuncData} {x : Str} {sp : Sp} {t : Shared} {vs : List Value} {ns : List Int}
    (inK : K.In t.heap) (nsG : t.heap.Ns mainGlobals mg) (nsB : t.heap.Ns builtinsNs mb) (hbb : ∀ x : Str, x ≠ "__name__" → mb x = bootBuiltins x) (noL : t.heap.NoLimit) (hg : t.gens = #[])
    (ha : t.heap.get? a = some { cls := .type "list", data := .seq vs.toArray }) (hi : IntsAre vs ns) (hl : ns.length ≤ sizeLine)
    (F : ∀ bs : Heap, K.In bs → bs.Ns mainGlobals mg → RunG P w K mg bs fa fd [x] sp) (hbind : ∀ (s : Shared) (u : Value), BindsTo s fd ⟨[u], []⟩ [(x, u)])
    (hsp : ∀ G : Hp, Only G → SqL K G a (ns.map V.int) → sp [.ref a] G (fun v _ => v = .bl true) fun _ _ _ => False) :
    codeAny (model P w) callerA (.call (.ref fa) ⟨[.ref a], []⟩) (fun r t' => r = .ok (.ret (.bool true)) ∧ OldK t.heap t'.heap ∧ t'.os = t.os ∧ AllBare t'.gens) t := by
  have rv := vals_ints hi
  have lv := hi.length
  suffices go : ∀ G : Hp, Only G → SqL K G a (ns.map V.int) → HOk P w G t.heap → (∀ b, G b ≠ none → b = a) → (G a ≠ none → K.lookup a = none) →
      codeAny (model P w) callerA (.call (.ref fa) ⟨[.ref a], []⟩) (fun r t' => r = .ok (.ret (.bool true)) ∧ OldK t.heap t'.heap ∧ t'.os = t.os ∧ AllBare t'.gens) t by
    cases hk : K.lookup a with
    | some o =>
      have q := inK a o hk
      rw [ha] at q
      cases q
      exact go (fun _ => none) (fun _ => .inl rfl) (.inr ⟨_, vs.toArray, _, hk, rfl, rfl, rfl, by rw [List.size_toArray, lv]; exact hl, by simpa using rv⟩) (fun b u z => by have z2 : (none : Option HO) = some u := z; cases z2) (fun b z => absurd rfl z) fun z => absurd rfl z
    | none =>
      let G0 : Hp := fun b => if b = a then some (.frz { cls := .type "list", data := .seq vs.toArray } (.lst (ns.map V.int))) else none
      have yes : G0 a = some (.frz { cls := .type "list", data := .seq vs.toArray } (.lst (ns.map V.int))) := if_pos rfl
      have no : ∀ b, b ≠ a → G0 b = none := fun b h => if_neg h
      refine go G0 (fun b => ?_) (.inl (.inr ⟨_, yes⟩)) (fun b u z => ?_) (fun b z => ?_) fun _ => hk
      · by_cases h : b = a
        · rw [h]; exact .inr ⟨_, _, yes⟩
        · exact .inl (no b h)
      · by_cases h : b = a
        · subst h
          rw [yes] at z
          cases z
          exact ⟨ha, by rw [List.length_map]; exact hl, vs, _, rv, ha⟩
        · rw [no b h] at z; cases z
      · by_cases h : b = a
        · exact h
        · exact absurd (no b h) z
  intro G onl hS hok only1 hK
  have aOf : ∀ {b : Addr}, G b ≠ none → b = a := fun {b} h => only1 b h
  have hid : ∀ {b : Addr} {o : Obj}, t.heap.get? b = some o → G b = none → (hidT t.heap G).get? b = some o := fun q n => hidT_get q n
  have noD : ∀ {b : Addr} {o : Obj} {es : Array DictEntry} {ep : Nat}, t.heap.get? b = some o → o.data = .dict es ep → G b = none := by
    intro b o es ep q d
    rcases Classical.em (G b = none) with h | h
    · exact h
    · have := aOf h
      subst this
      rw [ha] at q
      cases q
      cases (show Data.seq vs.toArray _ = Data.dict es ep from d)
  have nsK : ∀ {b : Addr} {m : Str → Option Value}, t.heap.Ns b m → (hidT t.heap G).Ns b m := fun ⟨o, es, ep, q, d, r⟩ => ⟨o, es, ep, hid q (noD q d), d, r⟩
  have inH : K.In (hidT t.heap G) := by
    intro b o q
    refine hid (inK b o q) ?_
    rcases Classical.em (G b = none) with h | h
    · exact h
    · have := aOf h
      subst this
      rw [hK h] at q; cases q
  obtain ⟨mc, l1, l2⟩ := noL
  have z : Env0 P w K mg (hidT t.heap G) callerA [] t G := by
    refine ⟨rfl, ⟨inH, nsK nsG, ⟨mb, nsK nsB, hbb⟩, ⟨mc, nsK l1, l2⟩⟩, fun b o q => of_hidT q, Nat.le_of_eq (hidT_size _ _), trivial, fun b hb => ?_, hok, .of_eq hg⟩
    cases (show b ∈ ([] : List Addr) from hb)
  refine codeAny_mono ((F _ inH (nsK nsG)).2 t G ⟨[.ref a], []⟩ [.ref a] [.ref a] _ _ z (hbind t (.ref a)) (.cons rfl .nil) (hsp G onl hS)) fun r t' h => ?_
  cases r with
  | error e => exact False.elim h
  | ok fl => cases fl with
    | ret u =>
      obtain ⟨v, G', os, bare, un, hok', r', q⟩ := h
      cases (show v = .bl true from q)
      cases (show u = Value.bool true from r')
      refine ⟨rfl, OldK.of_keep fun b o e => ?_, os, bare⟩
      rcases onl b with n | ⟨ob, xs, n⟩
      · exact un.keep b o e n (fun m => by cases (show b ∈ ([] : List Addr) from m)) (by simp)
      · have k1 := (hok b _ n).1
        have k2 := (hok' b _ (un.frzs b ob _ n)).1
        rw [e] at k1
        cases k1
        exact k2
    | next => exact False.elim h
    | brk => exact False.elim h
    | cont => exact False.elim h
end
theorem walk_G {l : PySem.W.OpenLaw} {n : Nat} {q : Program} {loose : List Str} {XP : (Str → Option Value) → Heap → Prop} {YP : World → Heap → Prop} {d : DefRec} {K : Params → PySem.W.Frag} {sp : World → Sp} {x : Str}
    (hn : l.most = some n) (hn2 : n ≤ sizeLine) (hdf : d.params.defaults = []) (hY : ∀ (w : World) (h : Heap), YP w h → (K w.params).In h)
    (F : ∀ (w : World) (mg : Str → Option Value) (fa : Addr) (h : Heap), (K w.params).In h → h.Ns mainGlobals mg → mg d.name = some (.ref fa) →
      ∃ fd : FuncData, (∀ (s : Shared) (u : Value), BindsTo s fd ⟨[u], []⟩ [(x, u)]) ∧ ∀ bs : Heap, (K w.params).In bs → bs.Ns mainGlobals mg → RunG l.prog w (K w.params) mg bs fa fd [x] (sp w))
    (hsp : ∀ (w : World) (H : Hp) (a : Addr) (ns : List Int), ns.length ≤ n → Only H → SqL (K w.params) H a (ns.map V.int) → sp w [.ref a] H (fun v _ => v = .bl true) fun _ _ _ => False) :
    PySem.W.WalkO q loose XP YP l.row.toRowW d [] (fun f vs => PySem.call f vs) := by
  refine Att.attach_call hn hdf fun w _ t mg _ fa _ _ _ _ a _ ns G Y _ _ _ hmg hobj hints hlen hg => ?_
  have inK := hY w _ Y
  obtain ⟨fd, hb, hF⟩ := F w mg fa _ inK G.T.g hmg
  exact law_callG inK G.T.g G.T.b G.T.builtins G.T.nolimit hg hobj hints (Nat.le_trans hlen hn2) hF hb fun H hO hS => hsp w H a ns hlen hO hS
/-! ### repr -/
mutual
theorem D.noDict : ∀ d : D, d.py.hasDict = false
  | .non => rfl
  | .bl _ => rfl
  | .int _ => rfl
  | .str _ => rfl
  | .lst xs => D.noDictL xs
  | .tup xs => D.noDictL xs
  | .dic _ _ => rfl
  | .obj _ _ _ => rfl
  | .hid => rfl
theorem D.noDictL : ∀ xs : List D, PyData.hasDictAll (D.pyL xs) = false
  | [] => rfl
  | x :: xs => by
    show (x.py.hasDict || PyData.hasDictAll (D.pyL xs)) = false
    rw [D.noDict x, D.noDictL xs]; rfl
end
def showOk (d : D) : Bool := d.plain && d.py.showable && decide (d.py.shown.length ≤ sizeLine) && decide (d.dep ≤ 40)
def dRepr : List D → Option D
  | [d] => if showOk d then some (.str d.py.shown) else none
  | _ => none
section
variable {X : Cx}
def rRepr (K : PySem.W.Frag) : List V → Hp → VK → Prop := fun vs H Q => ∃ (v : V) (d : D), vs = [v] ∧ Rp K H v d ∧ showOk d = true ∧ Q (.str d.py.shown) H
theorem cr_repr {k : Nat} (hr : Room k X.A) (hg : X.A.guards = some []) : CallR X (.builtin "repr") (rRepr X.K) := by
  intro pins s σ H vs us Q I r h
  obtain ⟨v, d, rfl, rd, ok, q⟩ := h
  unfold showOk at ok
  simp only [Bool.and_eq_true, decide_eq_true_eq] at ok
  obtain ⟨⟨⟨ok1, ok2⟩, ok3⟩, ok4⟩ := ok
  have un := hr.units
  cases r with
  | cons r1 r2 =>
    cases r2
    obtain ⟨as, ra⟩ := Dp.reads I _ _ _ (rd.dp _ _ ok1) r1
    have dd := D.dep_py d
    cases rd with
    | non => cases r1; exact PySem.P.repr_of_none ⟨.str _, H, I.tok _, ⟨_, rfl⟩, q⟩
    | bl b => cases r1; exact PySem.P.repr_of_bool ⟨.str _, H, I.tok _, ⟨_, rfl⟩, q⟩
    | int i =>
      obtain ⟨t, rfl⟩ := r1
      exact PySem.P.repr_of_int (by simpa [D.py, PyData.showable] using ok2) ⟨.str _, H, I.tok _, ⟨_, rfl⟩, q⟩
    | str x =>
      obtain ⟨t, rfl⟩ := r1
      exact PySem.P.repr_of_str ⟨.str _, H, I.tok _, ⟨_, rfl⟩, q⟩ (by simpa [D.py, PyData.shown] using ok3)
    | lst h1 l1 => cases r1; exact PySem.repr_of_reads' ra ok2 (PyData.noDict_hsm (D.noDict _)) hg (by rw [dd]; omega) (fun _ _ e => e) (fun h' u tk hk => ⟨.str _, H, I.kept hk, ⟨_, rfl⟩, q⟩) ok3
    | tup h1 l1 => cases r1; exact PySem.repr_of_reads' ra ok2 (PyData.noDict_hsm (D.noDict _)) hg (by rw [dd]; omega) (fun _ _ e => e) (fun h' u tk hk => ⟨.str _, H, I.kept hk, ⟨_, rfl⟩, q⟩) ok3
    | dK _ _ => cases ok1
    | dT _ _ => cases ok1
    | obj _ _ _ _ _ => cases ok1
    | hid => cases ok1
theorem c_repr {k : Nat} (hr : Room k X.A) (hg : X.A.guards = some []) : CallW X (.builtin "repr") dRepr := by
  refine ⟨_, cr_repr hr hg, fun G H vs ds z Q s r q k => ?_⟩
  unfold dRepr at q
  split at q
  · split at q
    · rename_i ok
      cases q
      cases r with
      | cons r1 r2 =>
        cases r2
        exact ⟨_, _, rfl, r1, ok, k _ _ _ (Ex.refl s) (.str _)⟩
    · cases q
  · cases q
end
section
variable {P : Program} {w : World} {K : PySem.W.Frag} {mg : Str → Option Value} {base : Heap}
theorem law_okG {st st0 : Stmt} {f : Addr} {fd : FuncData} {N : List Str} {k : Nat} {rest : List Stmt} {fb : VL.Env → Option Out} (F : Fun K "law" "law" st f fd) (Sc : FnScope N ["script"] (defScope st)) (hn : N.length = N.length - 2 + 2) (e0 : defBody st = st0 :: rest)
    (room : Room (k + 2) callerA)
    (hb : ∀ (cdv : Value) (s : Shared) (H : Hp) (E : XK), Room (k + 1) (callerA.deeper (envOfC "law" (defScope st) s.heap.objs.size f cdv)) →
      BV (cxOf CX0 P w K mg base N "law" (defScope st) f cdv callerA [] s H E).nox rest fb)
    (hs : ∀ (cdv : Value) (s : Shared) (H : Hp) (E : XK), Room (k + 1) (callerA.deeper (envOfC "law" (defScope st) s.heap.objs.size f cdv)) →
      PS (cxOf CX0 P w K mg base N "law" (defScope st) f cdv callerA [] s H E).nox st0 (tAsg (tCall (spState K) [] E0 (tCons (tVar 0) tNil)) (gName 1)))
    (ht : LawTrue N.length fb) : RunG P w K mg base f fd ["script"] (spLaw K) := by
  refine run_of F Sc room (fun vs H Q E ⟨a, ns, ev, _⟩ => by rw [ev]; rfl) (fun cdv s H vs Q E hr ⟨a, ns, ev, hS, hl, kk⟩ => ?_)
  subst ev
  obtain ⟨t, p, o⟩ := (hb cdv s H E hr).ex
  have ps0 := hs cdv s H E hr
  rw [e0]
  have es : L2.start N [V.ref a] = some (V.ref a) :: List.replicate (N.length - 1) none := rfl
  refine ⟨_, pss_cons ps0 p, ⟨_, by rw [es]; rfl, a, ns, rfl, hS, hl, fun pp qq cs H1 sm np nq npq hp hq hc => ?_⟩⟩
  obtain ⟨env', he⟩ := ht pp cs hc
  have en : N.length - 1 = (N.length - 2) + 1 := by omega
  have e1 : (L2.start N [V.ref a]).set 1 (some (V.ref pp)) = some (V.ref a) :: some (V.ref pp) :: List.replicate (N.length - 2) none := by
    rw [es, en, List.replicate_succ]; rfl
  show t _ ((L2.start N [V.ref a]).set 1 (some (V.ref pp))) H1
  rw [e1]
  have ndpq : [pp, qq].Nodup := by simp [npq]
  refine o ⟨fun _ => none, H1, fun a => a = pp ∨ a = qq⟩ (fun _ => none) H1 _ (lawE N.length pp cs) (fun i => if i = 1 then [pp, qq] else []) _ _ ⟨fun b o e => (by cases e), ?_, fun i z ez => ?_, fun i hi => ?_, fun i a m => rfl, fun i => ?_, fun i j a m m' => ?_⟩ ⟨fun b o e => (by cases e), fun b e => absurd rfl e, fun b o e _ => e, fun i a m => ?_⟩ he ?_
  · unfold lawE; simp
  · unfold lawE at ez
    match i, ez with
    | 1, ez =>
      cases ez
      refine ⟨_, rfl, .at ?_⟩
      exact SlR.ol (F := [qq]) hp (SlRs.cons (F := []) (F' := [qq]) (.fz (.int _)) (SlRs.cons (F := [qq]) (F' := []) (SlR.ol (F := []) hq (slRs_fz (RpL.of_ints _))) .nil))
    | i + 2, ez =>
      have := List.mem_of_getElem? (show (List.replicate (N.length - 2) (none : Option S))[i]? = some (some z) from ez)
      rw [List.mem_replicate] at this
      cases this.2
  · by_cases c : i = 1
    · subst c; exact absurd rfl (hi _)
    · exact if_neg c
  · show (if i = 1 then [pp, qq] else []).Nodup
    split
    · exact ndpq
    · exact .nil
  · split at m <;> split at m'
    · rename_i c c'; rw [c, c']
    · cases m'
    · cases m
    · cases m
  · split at m
    · exact .inr (by simpa using m)
    · cases m
  · exact fun v G' H' st' F' l r q sl _ _ _ => by
      cases sl with
      | fz rv => cases rv; exact kk H'
end
end VL

set_option Elab.async false
set_option linter.all false
set_option maxRecDepth 100000
/-! VL24: xs[::-1]. -/
namespace VL
open PySem PySem.Spec PyProof.Rows L2
section
variable {X : Cx} {e : Expr} {fa : VL.Env → Option D}
@[simp] abbrev dRev (f : VL.Env → Option D) : VL.Env → Option (List D) := fun env => (f env).bind fun d => (lstOf d).map List.reverse
theorem l_rev {kk : Nat} {p1 p2 p3 pos : Pos} (ha : PV X e fa) : PL X (.Subscript e (.Slice none none (some (.UnaryOp .USub (.Constant (.int 1) kk p1) p2)) p3) pos) (dRev fa) := by
  obtain ⟨t, p, o⟩ := ha.ex
  refine ⟨_, pe_revL p, fun G H st env F Q ds re e k => ?_⟩
  obtain ⟨d, e1, e⟩ := Option.bind_eq_some_iff.mp e
  obtain ⟨xs, e2, rfl⟩ := Option.map_eq_some_iff.mp e
  obtain rfl := lstOf_some e2
  refine o G H st env F _ _ re e1 fun v G1 H1 x1 r1 => ?_
  cases r1 with
  | lst h1 l1 => exact ⟨_, _, rfl, SqL.of (x1.gh _ _ h1), fun q np => k q _ G1 _ (x1.trans (Ex.own x1.gh np)) (x1.hh.free np) (x1.gh.free np) upd_same l1.reverse⟩
end
end VL

set_option Elab.async false
set_option linter.all false
set_option maxRecDepth 100000
/-! VL25: sets: sorted(set(xs)), len(set(xs)) of ints and of tuples of ints. -/
namespace L2
open PySem PySem.Spec PyProof.Rows
section
variable {P : Program} {w : World} {A : Around} {E : Value → Shared → Prop} {s : Shared}
set_option maxRecDepth 100000 in
set_option maxHeartbeats 3200000 in
/-- set(xs), xs a list of ints: what it is, with its table -/
theorem call_set_lstI {l : Addr} {items : Array Value} (ns : List Int) {Q : Value → Shared → Prop} (hh : A.handled = none) (hl : s.heap.IsList l items) (hit : IntsAre items.toList ns) (hb : ns.length + 1 < scanBound)
    (h : ∀ (h' : Heap) (tk c : Nat), SetR w h' s.heap.objs.size (fun j => decide (j ∈ ns)) c → c ≤ ns.length → (∀ b o, s.heap.get? b = some o → h'.get? b = some o) → Q (.ref s.heap.objs.size) { s with heap := h', toks := tk }) :
    wpAny (model P w) A (call (.type "set") [.ref l]) Q E s := by
  have hisz : items.size = ns.length := by
    have q := IntsAre.length hit
    rwa [Array.length_toList] at q
  obtain ⟨c, tl, hmro⟩ := F.called_set.mro
  have hmade := F.called_set.made
  have hsub := F.called_set.sub
  refine wpAny_call (codeAny_of_tree ?_)
  show wpAny _ _ (callAny (.type "set") _) _ _ _
  refine wpAny_pure ⟨Code.quiet_builtin _ (by decide +kernel), codeAny_builtin F.entry_type_call ?_⟩
  rw [Around.under_plain (weight_type_call_type "set" [.ref l] []) rfl]
  have h1 := F.called_set.notType
  have h2 := F.called_set.canCreate
  have hct := F.typeCall_set_1 (.ref l)
  repeat (any_goals (first | assumption | wp_step))
  refine codeAny_mono (code_set_led1 (.ref l) (E := E) (Q₁ := fun obj s₁ => obj = .ref s.heap.objs.size ∧ s₁ = { s with heap := s.heap.push { cls := .type "set", dict := none, data := .set #[] 0 (.fresh 0 0 (!w.params.followText "set-order")) } }) ⟨rfl, rfl⟩) fun r s₁ hr => ?_
  cases r with
  | error e => exact hr
  | ok fl =>
    cases fl with
    | ret obj =>
      obtain ⟨rfl, rfl⟩ := hr
      have hS : (s.heap.push { cls := .type "set", dict := none, data := .set #[] 0 (.fresh 0 0 (!w.params.followText "set-order")) }).get? s.heap.objs.size = some { cls := .type "set", dict := none, data := .set #[] 0 (.fresh 0 0 (!w.params.followText "set-order")) } := Heap.get?_push_size _ rfl
      have hT : Shared.TypeIs { s with heap := s.heap.push { cls := .type "set", dict := none, data := .set #[] 0 (.fresh 0 0 (!w.params.followText "set-order")) } } (.ref s.heap.objs.size) "set" := ⟨_, hS, rfl⟩
      have hli := F.called_set.init.lookup
      have hbi := F.called_set.init.bind (.ref s.heap.objs.size)
      repeat (any_goals (first | assumption | wp_step))
      refine codeAny_mono (codeAny_call_builtin (R := wants (fun r s₂ => r = .none ∧ ∃ h' tk c, s₂ = { s with heap := h', toks := tk } ∧ SetR w h' s.heap.objs.size (fun j => decide (j ∈ ns)) c ∧ c ≤ ns.length ∧
          (∀ b o, s.heap.get? b = some o → h'.get? b = some o)) E) F.called_set.init.plain F.entry_set_init (check_set_init_1 hT ?_)) fun r₂ s₂ hr₂ => ?_
      · have hlS : l < s.heap.objs.size := by obtain ⟨_, e, _⟩ := hl; exact Heap.lt_size e
        obtain ⟨⟨ocls, odict, odata, oslots⟩, hol, hcl, nl, hdl⟩ := hl
        simp only at hcl hdl
        subst hcl; subst hdl
        have hol' : (s.heap.push { cls := .type "set", dict := none, data := .set #[] 0 (.fresh 0 0 (!w.params.followText "set-order")) }).get? l = some { cls := .type "list", dict := odict, data := .seq items nl, slots := oslots } := Heap.get?_push_of_some _ hol
        have hsls := F.sub_list_set
        have hslf := F.sub_list_frozenset
        have hne : (Value.type "list" == Value.type "dict") = false := by decide
        have hl1 : (s.heap.push { cls := .type "set", dict := none, data := .set #[] 0 (.fresh 0 0 (!w.params.followText "set-order")) }).IsList l items := ⟨_, hol', rfl, nl, rfl⟩
        unfold Builtin.«set.__init__» noKeywords Builtin.Frozenset.updateFrom
        generalize hPI : pyIter = PI
        wp_walk
        subst hPI
        refine wpAny_pyIter_list hl1 ?_
        refine wpAny_bind (wpAny_runValue ?_)
        have hh3 : A.in1.in1.in1.handled = none := by simp [hh]
        have hz : (s.heap.push { cls := .type "set", dict := none, data := .set #[] 0 (.fresh 0 0 (!w.params.followText "set-order")) }).objs.size = s.heap.objs.size + 1 := Heap.size_push ..
        have hneI : l ≠ (s.heap.push { cls := .type "set", dict := none, data := .set #[] 0 (.fresh 0 0 (!w.params.followText "set-order")) }).objs.size := by
          rw [Heap.size_push]; exact Nat.ne_of_lt (Nat.lt_succ_of_lt hlS)
        have hSf : s.heap.objs.size ∉ [(s.heap.push { cls := .type "set", dict := none, data := .set #[] 0 (.fresh 0 0 (!w.params.followText "set-order")) }).objs.size, l] := by
          rw [Heap.size_push]; simp only [List.mem_cons, List.not_mem_nil, or_false, not_or]
          exact ⟨Nat.ne_of_lt (Nat.lt_succ_self _), Nat.ne_of_gt hlS⟩
        have hval : ∀ (i : Nat) (v : Value), items[i]? = some v → ∃ k t, ns[i]? = some k ∧ v = .int k t := fun i v hv => by
          have hi : i < ns.length := by rw [← hisz]; exact (Array.getElem?_eq_some_iff.mp hv).1
          obtain ⟨t, e⟩ := PyProof.Rows.IntsAre.int_at hit i v (by rw [Array.getElem?_toList]; exact hv)
          refine ⟨ns[i], t, List.getElem?_eq_getElem hi, ?_⟩
          rw [e, List.getD_eq_getElem?_getD, List.getElem?_eq_getElem hi] <;> rfl
        refine set_update_ints ((Walks.list hh3 _ l hneI items).toS) s.heap.objs.size
          hSf ns hisz hb hval (items.size - 0) 0 _ (by omega) (Nat.zero_le _)
          ⟨⟨_, Heap.get?_push_size _ rfl, rfl, rfl⟩, (hl1.push _)⟩ ?hS0 ?hR
        case hS0 =>
          refine ⟨0, Nat.le_refl 0, setR_new_at ?_⟩
          exact Heap.get?_push_of_some _ hS
        case hR =>
          intro s' c' hm hc' hS'
          obtain ⟨h', g2, d', tk', os'⟩ := s'
          obtain rfl : g2 = s.gens := hm.gens
          obtain rfl : d' = s.drawn := hm.drawn
          obtain rfl : os' = s.os := hm.os
          show wpAny _ _ _ _ _ _
          refine wpAny_pure ?_
          show wpAny _ _ (ret Value.none) _ _ _
          rw [hisz] at hc'
          refine wpAny_pure ⟨rfl, h', tk', c', rfl, hS', hc', fun b o e => ?_⟩
          have hb0 : b < s.heap.objs.size := Heap.lt_size e
          refine hm.heap b o ?_ (Heap.get?_push_of_some _ (Heap.get?_push_of_some _ e))
          rw [Heap.size_push]; simp only [List.mem_cons, List.not_mem_nil, or_false, not_or]
          exact ⟨Nat.ne_of_lt hb0, Nat.ne_of_lt (Nat.lt_succ_of_lt hb0)⟩
      · cases r₂ with
        | error e => exact hr₂
        | ok fl₂ =>
          cases fl₂ with
          | ret r =>
            obtain ⟨rfl, h', tk, c', rfl, hS', hc', hk'⟩ := hr₂
            repeat (any_goals (first | assumption | wp_step))
            exact h _ _ _ hS' hc' hk'
          | _ => exact hr₂.elim
    | _ => exact hr.elim
end
end L2
namespace VL
open PySem PySem.Spec PyProof.Rows L2
section
variable {X : Cx}
/-- set(xs), xs a list of ints -/
def rSetI (K : PySem.W.Frag) (w : World) : List V → Hp → VK → Prop := fun xs H Q => ∃ (l : Addr) (ns : List Int), xs = [V.ref l] ∧ SqL K H l (ns.map V.int) ∧ ns.length < 2000 ∧
  ∀ a n, H a = none → n ≤ ns.length → Q (.ref a) (upd H a (SetO w a (fun j => decide (j ∈ ns)) n))
theorem cr_setI (hc : X.calm = true) : CallR X (.type "set") (rSetI X.K X.w) := by
  intro pins s σ H xs us Q I r h
  obtain ⟨l, ns, rfl, hl, hf, q⟩ := h
  rw [Vals.ref1 r]
  obtain ⟨its, rv, pl, hz⟩ := I.list hl
  have hn : H s.heap.objs.size = none := I.hok.fresh (Nat.le_refl _)
  refine call_set_lstI (P := X.prog) (w := X.w) ns (I.ok.hd hc) pl.isList (by simpa using ints_of_vals rv) (by unfold scanBound; omega) fun h' tk c R hcn k => ?_
  exact ⟨.ref s.heap.objs.size, upd H s.heap.objs.size (SetO X.w s.heap.objs.size (fun j => decide (j ∈ ns)) c), I.laid (t' := tk) k (Nat.le_refl _) (setO_new R), rfl, q _ c hn hcn⟩
end
end VL

set_option Elab.async false
set_option linter.all false
set_option maxRecDepth 100000
/-! VL26: sorted(set(xs)), len(set(xs)): ints, tuples of ints. -/
namespace L2
open PySem PySem.Spec PyProof.Rows
theorem perm_map_inv {α β : Type} {f : α → β} : ∀ {l1 l2 : List β}, l1.Perm l2 → ∀ L : List α, l2 = L.map f → ∃ L1 : List α, l1 = L1.map f ∧ L1.Perm L := by
  intro l1 l2 h
  induction h with
  | nil => intro L e; cases L with
    | nil => exact ⟨[], rfl, .nil⟩
    | cons x xs => cases e
  | @cons x l1 l2 h ih =>
    intro L e
    cases L with
    | nil => cases e
    | cons y ys =>
      cases e
      obtain ⟨L1, e1, p⟩ := ih ys rfl
      exact ⟨y :: L1, by rw [e1]; rfl, p.cons y⟩
  | swap x y l =>
    intro L e
    match L, e with
    | a :: b :: L, e =>
      cases e
      exact ⟨b :: a :: L, rfl, .swap ..⟩
  | trans h1 h2 ih1 ih2 =>
    intro L e
    obtain ⟨L1, e1, p1⟩ := ih2 L e
    obtain ⟨L2, e2, p2⟩ := ih1 L1 e1
    exact ⟨L2, e2, p2.trans p1⟩
end L2
namespace VL
open PySem PySem.Spec PyProof.Rows L2
def encT (k : List Int) : D := .tup (k.map D.int)
section
variable {X : Cx}
/-- sorted(s), s a set of tuples of ints -/
def rSortedTD (K : PySem.W.Frag) (P : Program) (w : World) : List V → Hp → VK → Prop := fun vs H Q => ∃ (G : Hp) (a : Addr) (L : List (Addr × List Int)), vs = [V.ref a] ∧ H a = some (SetTO P w a L) ∧ Same G H ∧
  (∀ p ∈ L, Rp K G (.ref p.1) (encT p.2)) ∧ (∃ ds, sortOk ds = true ∧ ∀ p ∈ L, encT p.2 ∈ ds) ∧
  ∀ (ys : List V) (L1 : List (Addr × List Int)) (p : Addr), L1.Perm L → (L.map (·.2)).Nodup → RpL K G ys (sortD (L1.map fun p => encT p.2)) → H p = none → Q (.ref p) (upd H p (.lst ys))
theorem each_refs {K : PySem.W.Frag} {G : Hp} : ∀ (L1 : List (Addr × List Int)), (∀ p ∈ L1, Rp K G (.ref p.1) (encT p.2)) → PySem.W.EachIs (StF K G) (L1.map fun q => Value.ref q.1) (L1.map fun p => encT p.2)
  | [], _ => .nil
  | p :: L1, h => .cons ⟨V.ref p.1, rfl, h p (List.mem_cons_self ..)⟩ (each_refs L1 fun q m => h q (List.mem_cons_of_mem _ m))
theorem reads_ints {h : Heap} : ∀ {k : List Int} {us : List Value}, IntsAre us k → ReadsAll h us (D.pyL (k.map D.int)) []
  | _, _, .nil => .nil
  | _, _, .cons n t r => .cons (as := []) (.int n t) (reads_ints r)
theorem reads_tup {P : Program} {w : World} {h : Heap} {k : List Int} {a : Addr} (x : IsT P w h k a) : Reads h (.ref a) (encT k).py [] := by
  obtain ⟨o, items, n, ho, hc, hd, hi⟩ := x
  exact .tuple ho hc hd (reads_ints (ints_of_items hi))
theorem each_rd {h : Heap} {L0 : Addr} : ∀ (L1 : List (Addr × List Int)), (∀ p ∈ L1, Reads h (.ref p.1) (encT p.2).py []) → PySem.W.EachIs (fun v (b : D) => ∃ as, Reads h v b.py as ∧ L0 ∉ as) (L1.map fun q => Value.ref q.1) (L1.map fun p => encT p.2)
  | [], _ => .nil
  | p :: L1, h => .cons ⟨[], h p (List.mem_cons_self ..), by simp⟩ (each_rd L1 fun q m => h q (List.mem_cons_of_mem _ m))
theorem all_perm {α : Type} {f : α → Bool} {l m : List α} (p : l.Perm m) : l.all f = m.all f := by
  rw [Bool.eq_iff_iff, List.all_eq_true, List.all_eq_true]
  exact ⟨fun h x k => h x (p.mem_iff.mpr k), fun h x k => h x (p.mem_iff.mp k)⟩
theorem sortOk_perm {l m : List D} (p : l.Perm m) : sortOk l = sortOk m := by
  unfold sortOk alikeL
  rw [all_perm p, all_perm (f := D.key) p, all_perm (f := D.noKey) p, p.length_eq]
  congr 3
  congr 1
  funext d
  rw [all_perm p]
theorem sortOk_sub {l m : List D} (h : sortOk m = true) (s : ∀ x ∈ l, x ∈ m) (hl : l.length ≤ sizeLine) : sortOk l = true := by
  unfold sortOk alikeL at h ⊢
  simp only [Bool.and_eq_true, Bool.or_eq_true, List.all_eq_true, decide_eq_true_eq] at h ⊢
  obtain ⟨⟨h1, h2⟩, _⟩ := h
  exact ⟨⟨fun x k => ⟨(h1 x (s x k)).1, fun y k' => (h1 x (s x k)).2 y (s y k')⟩, h2.elim (fun q => .inl fun x k => q x (s x k)) (fun q => .inr fun x k => q x (s x k))⟩, hl⟩
theorem cr_sortedTD {k : Nat} (hc : X.calm = true) (hr : Room k X.A) : CallR X (.builtin "sorted") (rSortedTD X.K X.prog X.w) := by
  intro pins s σ H vs us Q I r h
  obtain ⟨G, a, L, rfl, ha, sm, hk, ⟨ds0, ok0, sub0⟩, q⟩ := h
  have R0 : SetT0 X.prog X.w s.heap a L := (I.hok a _ ha).1
  have isT : ∀ p ∈ L, IsT X.prog X.w s.heap p.2 p.1 := fun p m => by
    refine I.isT ?_
    have := (hk p m).up sm
    cases this with
    | tup h1 h2 => rw [RpL.ints h2] at h1; exact SqT.of h1
  obtain ⟨es, ep, t, R⟩ := R0.full isT
  obtain ⟨o, ho, hex, hd⟩ := R.ob
  rw [Vals.ref1 r]
  refine Calls.call_function_entry kind_sorted plain_sorted entry_sorted (args_sorted1 _) ?_
  unfold Builtin.«sorted»
  refine wpAny_bind (m := checkCount "sorted" 1 1 _) (wpAny_pure ?_)
  have hfew := R.few
  have hsz := R.size
  refine wpAny_bind (collect_set (A := X.A.in1) (I.ok.hd hc) ⟨o, ho, hex.1, hd⟩ R.fits (by unfold scanBound; omega) R.tab.ris R.led fun s1 vs k1 hz g1 o1 pm => ?_)
  have hes : es.toList.map (·.2) = L.map fun q => Value.ref q.1 := by
    rw [R.rows]
    unfold rowsOf
    rw [List.map_map] <;> rfl
  rw [hes] at pm
  obtain ⟨L1, rfl, p1⟩ := perm_map_inv pm L rfl
  have sub : ∀ p ∈ L1, p ∈ L := fun p m => p1.mem_iff.mp m
  have hvl : (L1.map fun q => Value.ref q.1).length < 64 := by rw [List.length_map, p1.length_eq]; exact hfew
  refine wpAny_bind (wpAny_newList ?_ (by rw [sizeLine_eq]; omega))
  have hoL : (s1.heap.push (seqObj "list" (L1.map fun q => Value.ref q.1).toArray 0)).get? s1.heap.objs.size = some (seqObj "list" (L1.map fun q => Value.ref q.1).toArray 0) := Heap.get?_push_size _ rfl
  have ok' : sortOk (L1.map fun p => encT p.2) = true := by
    rw [sortOk_perm (p1.map _)]
    refine sortOk_sub ok0 (fun x m => ?_) (by rw [List.length_map, sizeLine_eq]; omega)
    obtain ⟨p, m', rfl⟩ := List.mem_map.mp m
    exact sub0 p m'
  obtain ⟨ok1, ok2, ok3, ok4⟩ := sortOk_ok ok'
  have ok5 := alikeL_ok ok1
  have rd : ∀ p ∈ L1, Reads (s1.heap.push (seqObj "list" (L1.map fun q => Value.ref q.1).toArray 0)) (.ref p.1) (encT p.2).py [] := fun p m =>
    reads_tup (P := X.prog) (w := X.w) (isT_keep (isT p (sub p m)) fun b u e => Heap.get?_push_of_some _ (k1 b u e))
  refine wpAny_bind (wpAny_holding (PySem.W.list_sort_data (s := { s1 with heap := s1.heap.push (seqObj "list" (L1.map fun q => Value.ref q.1).toArray 0) }) (enc := D.py) (R := StF X.K G) hoL (each_refs L1 fun p m => hk p (sub p m)) (each_rd L1 rd) ok2 ok3 ok4 (fun d m => ?_) fun out h1 h2 => ?_))
  · have := (ok5.1 d m).2
    rw [D.dep_py]
    have := hr.units
    have e1 : X.A.in1.units ≤ X.A.units + 1 := by first | exact Nat.le_refl _ | (simp [Around.in1]; done)
    omega
  · obtain ⟨c, hcc⟩ := sortedHeap_at (vs := L1.map fun q => Value.ref q.1) (out := out.toArray) hoL
    obtain ⟨ys, v1, v2⟩ := of_each h2
    have hlen : ys.length ≤ sizeLine := by rw [v1.length, h1]; exact ok4
    have kall : ∀ b u, s.heap.get? b = some u → (sortedHeap (s1.heap.push (seqObj "list" (L1.map fun q => Value.ref q.1).toArray 0)) s1.heap.objs.size (L1.map fun q => Value.ref q.1) out.toArray).get? b = some u := fun b u e => by
      have q := k1 b u e
      have hlt := Heap.lt_size q
      rw [sortedHeap_old (Nat.ne_of_lt hlt) (by rw [size_push']; exact Nat.lt_succ_of_lt hlt)]
      exact Heap.get?_push_of_some _ q
    have hn : H s1.heap.objs.size = none := I.hok.fresh hz
    have J : Inv X pins σ (upd H s1.heap.objs.size (.lst ys)) { s with heap := (sortedHeap (s1.heap.push (seqObj "list" (L1.map fun q => Value.ref q.1).toArray 0)) s1.heap.objs.size (L1.map fun q => Value.ref q.1) out.toArray), gens := s1.gens, drawn := s1.drawn, toks := s1.toks } :=
      I.call (ch := []) (Un.laid kall hz hn) (I.hok.laid kall hz ⟨hlen, out, c, v1, hcc⟩) (by rw [g1]; exact I.bare) (fun _ z => nomatch z)
    have e : ({ s1 with heap := (sortedHeap (s1.heap.push (seqObj "list" (L1.map fun q => Value.ref q.1).toArray 0)) s1.heap.objs.size (L1.map fun q => Value.ref q.1) out.toArray) } : Shared) = { s with heap := (sortedHeap (s1.heap.push (seqObj "list" (L1.map fun q => Value.ref q.1).toArray 0)) s1.heap.objs.size (L1.map fun q => Value.ref q.1) out.toArray), gens := s1.gens, drawn := s1.drawn, toks := s1.toks } := by
      cases s1
      cases s
      cases o1
      rfl
    rw [e]
    refine wpAny_pure ⟨_, rfl, ?_⟩
    exact ⟨.ref s1.heap.objs.size, _, J, rfl, q ys L1 s1.heap.objs.size p1 R.nd v2 hn⟩
end
end VL
namespace VL
open PySem PySem.Spec PyProof.Rows L2
/-- each once, the last ones stay -/
def ddup {α : Type} [DecidableEq α] : List α → List α
  | [] => []
  | x :: xs => if x ∈ xs then ddup xs else x :: ddup xs
section
variable {α : Type} [DecidableEq α]
theorem mem_ddup {x : α} : ∀ {xs : List α}, x ∈ ddup xs ↔ x ∈ xs
  | [] => Iff.rfl
  | y :: xs => by
    unfold ddup
    split
    · rename_i h
      rw [mem_ddup, List.mem_cons]
      exact ⟨.inr, fun q => q.elim (fun e => e ▸ h) id⟩
    · rw [List.mem_cons, List.mem_cons, mem_ddup]
theorem nodup_ddup : ∀ xs : List α, (ddup xs).Nodup
  | [] => List.Pairwise.nil
  | y :: xs => by
    unfold ddup
    split
    · exact nodup_ddup xs
    · rename_i h
      exact List.nodup_cons.mpr ⟨fun q => h (mem_ddup.mp q), nodup_ddup xs⟩
theorem ddup_perm {xs ys : List α} (n : ys.Nodup) (h : ∀ x, x ∈ ys ↔ x ∈ xs) : ys.Perm (ddup xs) :=
  (List.perm_ext_iff_of_nodup n (nodup_ddup xs)).mpr fun x => (h x).trans mem_ddup.symm
theorem ddup_len : ∀ xs : List α, (ddup xs).length ≤ xs.length
  | [] => Nat.le_refl _
  | y :: xs => by
    unfold ddup
    have := ddup_len xs
    split <;> simp only [List.length_cons] <;> omega
end
/-- any two that differ stand one before the other -/
def linD (ds : List D) : Prop := ∀ a ∈ ds, ∀ b ∈ ds, a = b ∨ ltD a b = true ∨ ltD b a = true
theorem sortD_uniq {l m : List D} (p : l.Perm m) (h : linD m) : sortD l = sortD m := by
  refine List.Perm.eq_of_pairwise (le := fun a b => leD a b = true) (fun a b ha hb h1 h2 => ?_) (List.pairwise_mergeSort leD_tot.trans (fun a b => by rw [Bool.or_eq_true]; exact leD_tot.total a b) l)
    (List.pairwise_mergeSort leD_tot.trans (fun a b => by rw [Bool.or_eq_true]; exact leD_tot.total a b) m) (((List.mergeSort_perm l _).trans p).trans (List.mergeSort_perm m _).symm)
  have ma : a ∈ m := p.mem_iff.mp ((List.mergeSort_perm l _).mem_iff.mp ha)
  have mb : b ∈ m := (List.mergeSort_perm m _).mem_iff.mp hb
  rw [leD_eq] at h1 h2
  rcases h a ma b mb with h | h | h
  · exact h
  · rw [h] at h2; cases h2
  · rw [h] at h1; cases h1
theorem sortD_self {l m : List D} (p : l.Perm m) (h : linD m) (s : l.Pairwise fun a b => leD a b = true) : l = sortD m := by
  refine List.Perm.eq_of_pairwise (le := fun a b => leD a b = true) (fun a b ha hb h1 h2 => ?_) s
    (List.pairwise_mergeSort leD_tot.trans (fun a b => by rw [Bool.or_eq_true]; exact leD_tot.total a b) m) (p.trans (List.mergeSort_perm m _).symm)
  have ma : a ∈ m := p.mem_iff.mp ha
  have mb : b ∈ m := (List.mergeSort_perm m _).mem_iff.mp hb
  rw [leD_eq] at h1 h2
  rcases h a ma b mb with h | h | h
  · exact h
  · rw [h] at h2; cases h2
  · rw [h] at h1; cases h1
theorem linD_ints (ns : List Int) : linD (ns.map D.int) := fun a ha b hb => by
  obtain ⟨x, _, rfl⟩ := List.mem_map.mp ha
  obtain ⟨y, _, rfl⟩ := List.mem_map.mp hb
  rw [ltD_int, ltD_int, decide_eq_true_eq, decide_eq_true_eq]
  rcases Int.lt_trichotomy x y with h | h | h
  · exact .inr (.inl h)
  · exact .inl (by rw [h])
  · exact .inr (.inr h)
theorem sorted_ints {ns ms : List Int} (s : ns.Pairwise (· < ·)) (h : ∀ k, k ∈ ns ↔ k ∈ ms) : ns.map D.int = sortD ((ddup ms).map D.int) := by
  have nd : ns.Nodup := s.imp fun h e => by omega
  refine sortD_self ((ddup_perm nd h).map _) (linD_ints _) (List.pairwise_map.mpr (s.imp fun {a b} h => ?_))
  rw [leD_eq, ltD_int]
  simp only [Bool.not_eq_true', decide_eq_false_iff_not]
  omega
theorem setR_card {w : World} {h : Heap} {a : Addr} {ns : List Int} {n : Nat} (R : SetR w h a (fun j => decide (j ∈ ns)) n) : n = (ddup ns).length := by
  obtain ⟨o, es, ep, t, ho, hex, hd, g, nd, hm, hb, hf, hn, _⟩ := R
  have := (ddup_perm (xs := ns) nd fun k => by rw [← hm k, decide_eq_true_eq]).length_eq
  rw [List.length_map, Array.length_toList] at this
  omega
def tupIs : D → Option (List Int)
  | .tup xs => intsOf xs
  | _ => none
theorem tupIs_some {d : D} {k : List Int} (h : tupIs d = some k) : d = encT k := by
  cases d with
  | tup xs => rw [intsOf_some (show intsOf xs = some k from h)]; rfl
  | _ => cases h
@[simp] theorem tupIs_enc (k : List Int) : tupIs (encT k) = some k := intsOf_map k
def tupsIs : List D → Option (List (List Int))
  | [] => some []
  | d :: ds => (tupIs d).bind fun k => (tupsIs ds).map (k :: ·)
theorem tupsIs_some : ∀ {ds : List D} {ks : List (List Int)}, tupsIs ds = some ks → ds = ks.map encT
  | [], _, h => by cases h; rfl
  | d :: ds, _, h => by
    obtain ⟨k, h1, h2⟩ := Option.bind_eq_some_iff.mp (show (tupIs d).bind _ = _ from h)
    obtain ⟨ks, h3, rfl⟩ := Option.map_eq_some_iff.mp h2
    rw [tupIs_some h1, tupsIs_some h3]; rfl
@[simp] theorem tupsIs_map : ∀ ks : List (List Int), tupsIs (ks.map encT) = some ks
  | [] => rfl
  | k :: ks => by
    show (tupIs (encT k)).bind _ = _
    rw [tupIs_enc, tupsIs_map ks]; rfl
/-- sorted(set(ds)) -/
def setSo (ds : List D) : Option (List D) := match intsOf ds with
  | some ns => if ns.length < 64 then some (sortD ((ddup ns).map D.int)) else none
  | none => (tupsIs ds).bind fun ks => if ks.length < 64 ∧ sortOk ds = true ∧ (∀ a ∈ ks, ∀ b ∈ ks, a = b ∨ ltD (encT a) (encT b) = true ∨ ltD (encT b) (encT a) = true) then some (sortD ((ddup ks).map encT)) else none
section
variable {X : Cx}
def rLenSet (w : World) : List V → Hp → VK → Prop := fun vs H Q => ∃ (a : Addr) (ns : List Int), vs = [V.ref a] ∧ (∃ n, H a = some (SetO w a (fun j => decide (j ∈ ns)) n)) ∧ ns.length < 2000 ∧ Q (.int (ddup ns).length) H
theorem cr_lenSet : CallR X (.builtin "len") (rLenSet X.w) := by
  intro pins s σ H vs us Q I r h
  obtain ⟨a, ns, rfl, ⟨n, ha⟩, hl, q⟩ := h
  have R := setO_get I ha
  rw [Vals.ref1 r]
  have e := setR_card R
  have hlen := ddup_len ns
  obtain ⟨o, es, ep, t, ho, hex, hd, g, nd, hm, hb, hf, hn, _⟩ := R
  exact call_len_set ho hex hd hf (by omega) ⟨.int (ddup ns).length, H, I.tok _, ⟨_, by rw [hn, e]⟩, q⟩

theorem refs_tup {K : PySem.W.Frag} {G : Hp} : ∀ {kk : List (List Int)} {vs : List V}, RpL K G vs (kk.map encT) → ∃ ks : List (Addr × List Int), vs = ks.map (fun p => V.ref p.1) ∧ ks.map (·.2) = kk ∧ ∀ p ∈ ks, Rp K G (.ref p.1) (encT p.2)
  | [], _, h => by cases h; exact ⟨[], rfl, rfl, fun p m => (by cases m)⟩
  | k :: kk, _, h => by
    cases h with
    | cons h1 h2 =>
      obtain ⟨ks, rfl, rfl, q⟩ := refs_tup h2
      cases h1 with
      | @tup a xs _ g1 g2 =>
        refine ⟨(a, k) :: ks, rfl, rfl, fun p m => ?_⟩
        rcases List.mem_cons.mp m with rfl | m
        · exact .tup g1 g2
        · exact q p m
theorem Rp.sqT {K : PySem.W.Frag} {H : Hp} {a : Addr} {k : List Int} (h : Rp K H (.ref a) (encT k)) : SqT K H a (k.map V.int) := by
  cases h with
  | tup h1 h2 => rw [RpL.ints h2] at h1; exact SqT.of h1
variable {e : Expr} {f : VL.Env → Option D} {p p2 q pos : Pos}
@[simp] def dSetSo (f : VL.Env → Option D) : VL.Env → Option (List D) := fun env => (f env).bind fun d => (lstOf d).bind setSo
@[simp] def dLenSet (f : VL.Env → Option D) : VL.Env → Option D := fun env => (f env).bind fun d => (lstOf d).bind fun ds => (intsOf ds).bind fun ns => if ns.length < 2000 then some (.int (ddup ns).length) else none
@[simp] def dSetSoI (f : VL.Env → Option D) : VL.Env → Option (List D) := fun env => (f env).bind fun d => (lstOf d).bind fun ds => (intsOf ds).bind fun ns => if ns.length < 64 then some (sortD ((ddup ns).map D.int)) else none
/-- sorted(set(e)) -/
theorem l_setSo {kk : Nat} (hc : X.calm = true) (hr : Room kk X.A) (hg : Gl X "sorted") (hm : X.mg "sorted" = none) (hg2 : Gl X "set") (hm2 : X.mg "set" = none) (ha : PV X e f)
    (he : starEach [e] X.env = (false, eval e X.env) :: starEach [] X.env := by rfl) (he2 : starEach [.Call (.Name "set" p2) [e] [] q] X.env = (false, eval (.Call (.Name "set" p2) [e] [] q) X.env) :: starEach [] X.env := by rfl) :
    PL X (.Call (.Name "sorted" p) [.Call (.Name "set" p2) [e] [] q] [] pos) (dSetSo f) := by
  obtain ⟨t, pt, o⟩ := ha.ex
  have hu : X.A.units + 64 < cLine := by have := hr.units; omega
  refine ⟨_, pe_or' (pe_callB (cr_sortedSet hc) hg hm boot_sorted (pa_cons (pe_callTy (cr_setI hc) hg2 hm2 boot_set (pa_cons pt pa_nil he) (he := he)) pa_nil he2) (he := he2))
    (pe_callB (cr_sortedTD hc hr) hg hm boot_sorted (pa_cons (pe_callTy (cr_setOfT hc hu) hg2 hm2 boot_set (pa_cons pt pa_nil he) (he := he)) pa_nil he2) (he := he2)), fun G H st env F Q ds re ee k => ?_⟩
  obtain ⟨d, e1, ee⟩ := Option.bind_eq_some_iff.mp ee
  obtain ⟨xs, e2, e3⟩ := Option.bind_eq_some_iff.mp ee
  obtain rfl := lstOf_some e2
  unfold setSo at e3
  cases hi : intsOf xs with
  | some ns =>
    rw [hi] at e3
    dsimp only at e3
    split at e3
    · rename_i h64
      cases e3
      obtain rfl := intsOf_some hi
      refine .inl (o G H st env F _ _ re e1 fun v G1 H1 x1 r1 => ?_)
      cases r1 with
      | @lst a vs _ h1 l1 =>
        rw [RpL.ints l1] at h1
        refine ⟨a, ns, rfl, SqL.of (x1.gh _ _ h1), by omega, fun b n np hn => ?_⟩
        refine ⟨b, _, n, rfl, upd_same, by omega, fun ms c s1 m1 ln np2 => ?_⟩
        have x2 : Ex G1 H1 G1 (upd H1 b (SetO X.w b (fun j => decide (j ∈ ns)) n)) := Ex.own x1.gh np
        have x3 := Ex.own (o := .lst (ms.map V.int)) x2.gh np2
        refine k c (ms.map V.int) G1 _ ((x1.trans x2).trans x3) ((x1.trans x2).hh.free np2) (x2.gh.free np2) upd_same ?_
        rw [← sorted_ints s1 fun j => by rw [m1 j, decide_eq_true_eq]]
        exact RpL.of_ints ms
    · cases e3
  | none =>
    rw [hi] at e3
    dsimp only at e3
    obtain ⟨kk', e4, e5⟩ := Option.bind_eq_some_iff.mp e3
    split at e5
    · rename_i hh
      obtain ⟨h64, ok, lin⟩ := hh
      cases e5
      obtain rfl := tupsIs_some e4
      refine .inr (o G H st env F _ _ re e1 fun v G1 H1 x1 r1 => ?_)
      cases r1 with
      | @lst a vs _ h1 l1 =>
        obtain ⟨ks, rfl, rfl, hks⟩ := refs_tup l1
        refine ⟨a, ks, rfl, SqL.of (x1.gh _ _ h1), fun p m => ((hks p m).up x1.gh).sqT, by rw [List.length_map] at h64; exact h64, fun b L np hs hall => ?_⟩
        have x2 : Ex G1 H1 G1 (upd H1 b (SetTO X.prog X.w b L)) := Ex.own x1.gh np
        refine ⟨G1, b, L, rfl, upd_same, x2.gh, fun p m => hks p (hs p m), ⟨_, ok, fun p m => List.mem_map.mpr ⟨p.2, List.mem_map.mpr ⟨p, hs p m, rfl⟩, rfl⟩⟩, fun ys L1 c p1 nd rl np2 => ?_⟩
        have x3 := Ex.own (o := .lst ys) x2.gh np2
        refine k c ys G1 _ ((x1.trans x2).trans x3) ((x1.trans x2).hh.free np2) (x2.gh.free np2) upd_same ?_
        have pm : (L1.map fun p => encT p.2).Perm ((ddup (ks.map (·.2))).map encT) := by
          have q : (L.map (·.2)).Perm (ddup (ks.map (·.2))) := ddup_perm nd fun x => ⟨fun m => ?_, fun m => ?_⟩
          · have := ((p1.map (·.2)).trans q).map encT
            rwa [List.map_map] at this
          · obtain ⟨p, m', rfl⟩ := List.mem_map.mp m
            exact List.mem_map.mpr ⟨p, hs p m', rfl⟩
          · obtain ⟨p, m', rfl⟩ := List.mem_map.mp m
            exact hall p m'
        rw [← sortD_uniq pm fun a ha b hb => ?_]
        · exact rl
        · obtain ⟨x, mx, rfl⟩ := List.mem_map.mp ha
          obtain ⟨y, my, rfl⟩ := List.mem_map.mp hb
          rcases lin x (mem_ddup.mp mx) y (mem_ddup.mp my) with z | z
          · exact .inl (by rw [z])
          · exact .inr z
    · cases e5
theorem v_lenSet (hc : X.calm = true) (hg : Gl X "len") (hm : X.mg "len" = none) (hg2 : Gl X "set") (hm2 : X.mg "set" = none) (ha : PW X e f)
    (he : starEach [e] X.env = (false, eval e X.env) :: starEach [] X.env := by rfl) (he2 : starEach [.Call (.Name "set" p2) [e] [] q] X.env = (false, eval (.Call (.Name "set" p2) [e] [] q) X.env) :: starEach [] X.env := by rfl) :
    PV X (.Call (.Name "len" p) [.Call (.Name "set" p2) [e] [] q] [] pos) (dLenSet f) := by
  obtain ⟨t, pt, o⟩ := ha.ex
  refine ⟨_, pe_callB cr_lenSet hg hm boot_len (pa_cons (pe_callTy (cr_setI hc) hg2 hm2 boot_set (pa_cons pt pa_nil he) (he := he)) pa_nil he2) (he := he2), fun G H st env F Q d re ee k => ?_⟩
  obtain ⟨d1, e1, ea⟩ := Option.bind_eq_some_iff.mp ee
  obtain ⟨xs, e2, eb⟩ := Option.bind_eq_some_iff.mp ea
  obtain ⟨ns, e3, ec⟩ := Option.bind_eq_some_iff.mp eb
  clear ee ea eb
  obtain rfl := lstOf_some e2
  obtain rfl := intsOf_some e3
  split at ec
  · rename_i hl
    cases ec
    refine o G H st env F _ _ re e1 fun v G1 H1 x1 r1 => ?_
    cases r1 with
    | @lst a vs _ h1 l1 =>
      rw [RpL.ints l1] at h1
      refine ⟨a, ns, rfl, SqL.of h1, hl, fun b n np hn => ?_⟩
      exact ⟨b, ns, rfl, ⟨n, upd_same⟩, hl, k _ G1 _ (x1.trans (Ex.own x1.gh np)) (.int _)⟩
  · cases ec
/-- sorted(set(e)), ints, e as it stands -/
theorem l_setSoW (hc : X.calm = true) (hg : Gl X "sorted") (hm : X.mg "sorted" = none) (hg2 : Gl X "set") (hm2 : X.mg "set" = none) (ha : PW X e f)
    (he : starEach [e] X.env = (false, eval e X.env) :: starEach [] X.env := by rfl) (he2 : starEach [.Call (.Name "set" p2) [e] [] q] X.env = (false, eval (.Call (.Name "set" p2) [e] [] q) X.env) :: starEach [] X.env := by rfl) :
    PL X (.Call (.Name "sorted" p) [.Call (.Name "set" p2) [e] [] q] [] pos) (dSetSoI f) := by
  obtain ⟨t, pt, o⟩ := ha.ex
  refine ⟨_, pe_callB (cr_sortedSet hc) hg hm boot_sorted (pa_cons (pe_callTy (cr_setI hc) hg2 hm2 boot_set (pa_cons pt pa_nil he) (he := he)) pa_nil he2) (he := he2), fun G H st env F Q ds re ee k => ?_⟩
  obtain ⟨d, e1, ea⟩ := Option.bind_eq_some_iff.mp ee
  obtain ⟨xs, e2, eb⟩ := Option.bind_eq_some_iff.mp ea
  obtain ⟨ns, e3, ec⟩ := Option.bind_eq_some_iff.mp eb
  clear ee ea eb
  obtain rfl := lstOf_some e2
  obtain rfl := intsOf_some e3
  split at ec
  · rename_i h64
    cases ec
    refine o G H st env F _ _ re e1 fun v G1 H1 x1 r1 => ?_
    cases r1 with
    | @lst a vs _ h1 l1 =>
      rw [RpL.ints l1] at h1
      refine ⟨a, ns, rfl, SqL.of h1, by omega, fun b n np hn => ?_⟩
      refine ⟨b, _, n, rfl, upd_same, by omega, fun ms c s1 m1 ln np2 => ?_⟩
      have x2 : Ex G1 H1 G1 (upd H1 b (SetO X.w b (fun j => decide (j ∈ ns)) n)) := Ex.own x1.gh np
      have x3 := Ex.own (o := .lst (ms.map V.int)) x2.gh np2
      refine k c (ms.map V.int) G1 _ ((x1.trans x2).trans x3) ((x1.trans x2).hh.free np2) (x2.gh.free np2) upd_same ?_
      rw [← sorted_ints s1 fun j => by rw [m1 j, decide_eq_true_eq]]
      exact RpL.of_ints ms
  · cases ec
end
end VL

set_option Elab.async false
set_option linter.all false
set_option maxRecDepth 100000
/-! VL27: xs.index(x); min, max with default=. -/
namespace VL
open PySem PySem.Spec PyProof.Rows L2
section
variable {X : Cx} {a b : Expr} {fa fb : VL.Env → Option D} {p p2 q pos apos : Pos}
/-- the first place -/
def idxD (d : D) : List D → Option Nat
  | [] => none
  | x :: xs => if PyData.eqv x.py d.py = true then some 0 else (idxD d xs).map (· + 1)
theorem idxD_some {d : D} : ∀ {xs : List D} {j : Nat}, idxD d xs = some j → (∃ z, xs[j]? = some z ∧ PyData.eqv z.py d.py = true) ∧ ∀ (m : Nat) (z : D), m < j → xs[m]? = some z → PyData.eqv z.py d.py = false
  | [], _, h => by cases h
  | x :: xs, j, h => by
    unfold idxD at h
    split at h
    · rename_i e
      cases h
      exact ⟨⟨x, rfl, e⟩, fun m z hm => absurd hm (Nat.not_lt_zero m)⟩
    · rename_i e
      obtain ⟨i, h1, rfl⟩ := Option.map_eq_some_iff.mp h
      obtain ⟨⟨z, h2, h3⟩, h4⟩ := idxD_some h1
      refine ⟨⟨z, by simpa using h2, h3⟩, fun m z hm hz => ?_⟩
      cases m with
      | zero =>
        cases (show some x = some z from hz)
        exact Bool.eq_false_iff.mpr e
      | succ m => exact h4 m z (by omega) (by simpa using hz)
def dIndex (l d : D) : Option D := match l with
  | .lst xs => if l.plain && d.plain && SeqAt.shaped l.py && SeqAt.shaped d.py then (idxD d xs).map fun (j : Nat) => D.int (j : Int) else none
  | _ => none
theorem pyL_get : ∀ {xs : List D} {j : Nat}, (D.pyL xs)[j]? = (xs[j]?).map D.py
  | [], _ => by simp [D.pyL]
  | x :: xs, 0 => by simp [D.pyL]
  | x :: xs, j + 1 => by simpa [D.pyL] using pyL_get (xs := xs) (j := j)
theorem v_index {k : Nat} (hr : Room k X.A) (ha : PW X a fa) (hb : PV X b fb)
    (hbase : attributeBase a "index" X.env (eval a X.env) = eval a X.env := by rfl)
    (hfew : ((backTo pos (starEach (b :: []) X.env)).all (fun x => !x.1) && (backToKw pos (keywordEach [] X.env)).all (fun x => x.1.isSome)
      && decide ((b :: []).length + ([] : List Keyword).length + (if ([] : List Keyword).isEmpty then 0 else 1) < 30)) = true := by rfl)
    (hline : (apos.endLine == pos.line) = true := by rfl) (hs : starEach [b] X.env = (false, eval b X.env) :: starEach [] X.env := by rfl) (hplain : (backTo pos (starEach [] X.env)).any (·.1) = false := by rfl) :
    PV X (.Call (.Attribute a "index" apos) [b] [] pos) (b2 fa fb dIndex) := by
  obtain ⟨ta, pa, oa⟩ := ha.ex
  obtain ⟨tb, pb, ob⟩ := hb.ex
  have hun := hr.un
  refine ⟨_, pe_bm PySem.F.plainAttrs_list PySem.F.slot_list_index PySem.F.type_list_index (mt_indexD (by omega)) pa (pa_cons pb pa_nil hs) hbase hfew hline hs hplain, fun G H st env F Q d r e kk => ?_⟩
  obtain ⟨l, e1, e⟩ := Option.bind_eq_some_iff.mp (show (fa env).bind _ = _ from e)
  obtain ⟨z, e2, e3⟩ := Option.bind_eq_some_iff.mp e
  unfold dIndex at e3
  split at e3
  · rename_i xs
    split at e3
    · rename_i g
      simp only [Bool.and_eq_true] at g
      obtain ⟨⟨⟨g1, g2⟩, g3⟩, g4⟩ := g
      obtain ⟨j, e4, rfl⟩ := Option.map_eq_some_iff.mp e3
      obtain ⟨⟨y, y1, y2⟩, y3⟩ := idxD_some e4
      refine oa G H st env F _ _ r e1 fun v G1 H1 x1 r1 => ?_
      have r1' := r1
      cases r1 with
      | @lst p vs _ h1 l1 =>
        refine ⟨.inl ⟨rfl, vs, SqL.of h1⟩, ob G1 H1 st env F _ _ (r.ext x1) e2 fun u G2 H2 x2 r2 => ?_⟩
        have rl := (Rp.up r1' x2.hh).dp (.lst xs) _ g1
        refine ⟨p, u, z.py, D.pyL xs, j, y.py, rfl, rfl, rl, (r2.up x2.gh).dp _ _ g2, g3, g4, by rw [pyL_get, y1]; rfl, y2, fun m z' hm hz => ?_, kk _ G2 H2 (x1.trans x2) (.int _)⟩
        rw [pyL_get] at hz
        obtain ⟨w, hw, rfl⟩ := Option.map_eq_some_iff.mp hz
        exact y3 m w hm hw
    · cases e3
  · cases e3
/-! default= -/
def rMinDf (K : PySem.W.Frag) : List V → List V → Hp → VK → Prop := fun vs zs H Q => ∃ (G : Hp) (a : Addr) (xs : List V) (ds : List D) (z : V), vs = [V.ref a] ∧ zs = [z] ∧ SqL K H a xs ∧ Same G H ∧ RpL K G xs ds ∧ (ds = [] ∨ bestOk ds = true) ∧
  (ds = [] → Q z H) ∧ ∀ d es v, ds = d :: es → Rp K G v (minDD d es) → Q v H
theorem alikeAll_nil : PySem.W.AlikeAll [] := by first | exact trivial | simp [PySem.W.AlikeAll]
theorem cr_minDf {k : Nat} (hr : Room k X.A) : CallRK X (.builtin "min") [Str.ofString "default"] (rMinDf X.K) := by
  intro pins s σ H vs zs us ws Q I r rz h
  obtain ⟨G, a, xs, ds, z, rfl, rfl, hs, sm, rp, ok, q0, q⟩ := h
  obtain ⟨w1, rfl, e1⟩ := vals1 rz
  have hun := hr.un
  have okA : (∀ e ∈ ds, e.plain = true ∧ e.dep ≤ 40) ∧ PySem.W.AlikeAll (ds.map D.py) := by
    rcases ok with rfl | ok
    · exact ⟨fun e m => (by cases m), alikeAll_nil⟩
    · obtain ⟨ok1, ok2⟩ := bestOk_ok ok
      exact ⟨(alikeL_ok ok1).1, ok2⟩
  have hd := dep_max fun e m => (okA.1 e m).2
  rw [Vals.ref1 r]
  obtain ⟨its, rv, hl, _⟩ := I.list hs
  obtain ⟨as, ra⟩ := Dp.readsAll I _ _ _ (RpL.plains (fun e m => (okA.1 e m).1) (rp.up sm)) rv
  refine PySem.W.min_list_default (xs := ds.map D.py) (as := as) hr.hd hl.isList ra okA.2 (by omega) (fun h0 h' tk h3 => ?_) fun y ys i v h' tk bs hy h1 h2 h3 => ?_
  · have : ds = [] := by cases ds with
      | nil => rfl
      | cons _ _ => cases h0
    exact ⟨z, H, I.kept h3, e1, q0 this⟩
  · cases ds with
    | nil => cases hy
    | cons d es =>
      cases hy
      rw [minDD_py] at h2
      obtain ⟨x, ru, re⟩ := best_end I sm rv rp (fun e m => (okA.1 e m).1) (minDD_mem es d) h1 h2 h3
      exact ⟨x, H, I.kept h3, ru, q d es x rfl re⟩
def dMinDf (l z : D) : Option D := match l with
  | .lst [] => some z
  | .lst (x :: xs) => if bestOk (x :: xs) then some (minDD x xs) else none
  | _ => none
theorem v_minDf {k : Nat} {kp : Pos} (hr : Room k X.A) (hg : Gl X "min") (hm : X.mg "min" = none) (ha : PV X a fa) (hb : PV X b fb)
    (he : starEach [a] X.env = (false, eval a X.env) :: starEach [] X.env := by rfl)
    (he1 : backTo pos (starEach [a] X.env) = (false, eval a X.env) :: backTo pos (starEach [] X.env) := by rfl) (hpl : (backTo pos (starEach [a] X.env)).any (·.1) = false := by rfl)
    (hall : (backToKw pos (keywordEach [⟨some (Str.ofString "default"), b, kp⟩] X.env)).all (·.1.isSome) = true := by rfl) (hnone : (backToKw pos (keywordEach [⟨some (Str.ofString "default"), b, kp⟩] X.env)).any (·.1.isNone) = false := by rfl)
    (hks : (backToKw pos (keywordEach [⟨some (Str.ofString "default"), b, kp⟩] X.env)).filterMap (·.1) = [Str.ofString "default"] := by rfl) :
    PV X (.Call (.Name "min" p) [a] [⟨some (Str.ofString "default"), b, kp⟩] pos) (b2 fa fb dMinDf) := by
  obtain ⟨ta, pa, oa⟩ := ha.ex
  obtain ⟨tb, pb, ob⟩ := hb.ex
  refine ⟨_, pe_callBK (cr_minDf hr) hg hm boot_min (pa_cons pa pa_nil he) (pk_cons pb pk_nil) (he := he1) (hpl := hpl) (hall := hall) (hnone := hnone) (hks := hks), fun G H st env F Q d r e kk => ?_⟩
  obtain ⟨l, e1, e⟩ := Option.bind_eq_some_iff.mp (show (fa env).bind _ = _ from e)
  obtain ⟨z, e2, e3⟩ := Option.bind_eq_some_iff.mp e
  refine oa G H st env F _ _ r e1 fun v G1 H1 x1 r1 => ob G1 H1 st env F _ _ (r.ext x1) e2 fun u G2 H2 x2 r2 => ?_
  unfold dMinDf at e3
  split at e3
  · cases e3
    cases r1 with
    | @lst pp vs _ h1 l1 =>
      exact ⟨G2, pp, vs, [], u, rfl, rfl, SqL.of ((x1.gh.trans x2.hh) _ _ h1), x2.gh, l1.up x2.gg, .inl rfl, fun _ => kk _ G2 H2 (x1.trans x2) r2, fun d es v h => (by cases h)⟩
  · rename_i x xs
    split at e3
    · rename_i ok
      cases e3
      cases r1 with
      | @lst pp vs _ h1 l1 =>
        refine ⟨G2, pp, vs, x :: xs, u, rfl, rfl, SqL.of ((x1.gh.trans x2.hh) _ _ h1), x2.gh, l1.up x2.gg, .inr ok, fun h => (by cases h), fun d es v h rv => ?_⟩
        cases h
        exact kk _ G2 H2 (x1.trans x2) rv
    · cases e3
  · cases e3
end
end VL

set_option Elab.async false
set_option linter.all false
set_option maxRecDepth 100000
/-! VL28: and, or as values, with draws; two clauses. -/
namespace VL
open PySem PySem.Spec PyProof.Rows L2
section
variable {X : Cx} {a b : Expr} {rest : List Expr} {pos : Pos} {fa fb : Mo D}
@[simp] def mAnd2 (f g : Mo D) : Mo D := fun env => (f env).bind fun x => (bOf x.1).bind fun b => if b then g x.2 else some (.bl false, x.2)
@[simp] def mOr2 (f g : Mo D) : Mo D := fun env => (f env).bind fun x => (bOf x.1).bind fun b => if b then some (.bl true, x.2) else g x.2
theorem m_one {op : BoolOp} (h : MV X a fa) : MV X (.BoolOp op [a] pos) fa := by
  obtain ⟨t, p, o⟩ := h.ex
  exact ⟨t, pe_one p, o⟩
theorem m_and (h : MV X a fa) (h' : MV X (.BoolOp .And (b :: rest) pos) fb) : MV X (.BoolOp .And (a :: b :: rest) pos) (mAnd2 fa fb) := by
  obtain ⟨t, p, o⟩ := h.ex
  obtain ⟨t', p', o'⟩ := h'.ex
  refine ⟨_, pe_and p p', fun c G H st env F Q d env' r q e k => ?_⟩
  obtain ⟨⟨x, e1⟩, h1, e⟩ := Option.bind_eq_some_iff.mp (show (fa env).bind _ = _ from e)
  obtain ⟨y, h2, h3⟩ := Option.bind_eq_some_iff.mp e
  obtain rfl := bOf_some h2
  refine o c G H st env F _ _ e1 r q h1 fun v G1 H1 F1 r1 q1 s1 rv => ?_
  cases rv
  refine ⟨y, rfl, ?_⟩
  cases y with
  | true => exact iteT (o' c G1 H1 st e1 F1 _ d env' r1 q1 h3 fun v G2 H2 F2 r2 q2 s2 rv => k v G2 H2 F2 r2 q2 (s1.trans s2) rv)
  | false => cases h3; exact iteF (k _ G1 H1 F1 r1 q1 s1 (.bl false))
theorem m_or (h : MV X a fa) (h' : MV X (.BoolOp .Or (b :: rest) pos) fb) : MV X (.BoolOp .Or (a :: b :: rest) pos) (mOr2 fa fb) := by
  obtain ⟨t, p, o⟩ := h.ex
  obtain ⟨t', p', o'⟩ := h'.ex
  refine ⟨_, pe_or p p', fun c G H st env F Q d env' r q e k => ?_⟩
  obtain ⟨⟨x, e1⟩, h1, e⟩ := Option.bind_eq_some_iff.mp (show (fa env).bind _ = _ from e)
  obtain ⟨y, h2, h3⟩ := Option.bind_eq_some_iff.mp e
  obtain rfl := bOf_some h2
  refine o c G H st env F _ _ e1 r q h1 fun v G1 H1 F1 r1 q1 s1 rv => ?_
  cases rv
  refine ⟨y, rfl, ?_⟩
  cases y with
  | true => cases h3; exact iteT (k _ G1 H1 F1 r1 q1 s1 (.bl true))
  | false => exact iteF (o' c G1 H1 st e1 F1 _ d env' r1 q1 h3 fun v G2 H2 F2 r2 q2 s2 rv => k v G2 H2 F2 r2 q2 (s1.trans s2) rv)
end
section
variable {X : Cx}
instance (i j : Int) : Decidable (CPow i j) := by unfold CPow; infer_instance
def dPow : D → D → Option D
  | .int i, .int j => if CPow i j then some (.int (i ^ j.toNat)) else none
  | _, _ => none
theorem o_pow : OpF X (binaryOp .Pow) dPow := by
  refine ⟨_, op_pow, fun G H x y d e z Q s rx ry q k => ?_⟩
  unfold dPow at q
  split at q
  · split at q
    · rename_i hl
      cases rx; cases ry; cases q
      exact ⟨_, _, rfl, rfl, hl, k _ _ _ (Ex.refl s) (.int _)⟩
    · cases q
  · cases q
end
end VL

set_option Elab.async false
set_option linter.all false
set_option maxRecDepth 100000
/-! VL29: instances of own classes: fields read and written, methods, making. -/
namespace VL
open PySem PySem.Spec PyProof.Rows L2
theorem lk_one {K : PySem.W.Frag} {c : Str} {C C' : Addr} (h : Lk K c C) (h' : Lk K c C') : C = C' := by
  have : some (some (Value.ref C)) = some (some (Value.ref C')) := h.symm.trans h'
  injection this with h1
  injection h1 with h2
  injection h2
theorem look_at {vs : List (Str × V)} {ns : List Str} {f : Str} {j : Nat} {u : V} (nd : ns.Nodup) (e : vs.map Prod.fst = ns) (hj : ns[j]? = some f) (hu : (vs.map Prod.snd)[j]? = some u) : vs.lookup f = some u := by
  have h1 : (f, u) ∈ vs := by
    rw [← e, List.getElem?_map] at hj
    rw [List.getElem?_map] at hu
    obtain ⟨p, q1, q2⟩ := Option.map_eq_some_iff.mp hj
    rw [q1] at hu
    cases hu
    cases q2
    exact List.mem_of_getElem? q1
  exact lookup_mem (by rw [e]; exact nd) h1
theorem look_no : ∀ {vs : List (Str × V)} {m : Str}, m ∉ vs.map Prod.fst → vs.lookup m = none
  | [], _, _ => rfl
  | (g, u) :: vs, m, h => by
    rw [List.map_cons, List.mem_cons, not_or] at h
    rw [List.lookup_cons, beq_eq_false_iff_ne.mpr h.1]
    exact look_no h.2
theorem putF_old : ∀ {vs : List (Str × V)} {f : Str} {j : Nat} (v : V), (vs.map Prod.fst).Nodup → (vs.map Prod.fst)[j]? = some f → (putF f v vs).map Prod.fst = vs.map Prod.fst ∧ (putF f v vs).map Prod.snd = (vs.map Prod.snd).set j v
  | [], f, j, v, _, e => by simp at e
  | (g, u) :: vs, f, 0, v, _, e => by
    have : g = f := by simpa using e
    subst this
    unfold putF
    rw [if_pos rfl]
    exact ⟨rfl, rfl⟩
  | (g, u) :: vs, f, j + 1, v, nd, e => by
    rw [List.map_cons, List.nodup_cons] at nd
    have e' : (vs.map Prod.fst)[j]? = some f := by simpa using e
    have ne : ¬ g = f := by
      rintro rfl
      exact nd.1 (List.mem_of_getElem? e')
    obtain ⟨h1, h2⟩ := putF_old v nd.2 e'
    unfold putF
    rw [if_neg ne]
    exact ⟨by rw [List.map_cons, List.map_cons, h1], by rw [List.map_cons, List.map_cons, h2]; rfl⟩
theorem putF_add : ∀ {vs : List (Str × V)} {f : Str} (v : V), f ∉ vs.map Prod.fst → putF f v vs = vs ++ [(f, v)]
  | [], f, v, _ => rfl
  | (g, u) :: vs, f, v, h => by
    rw [List.map_cons, List.mem_cons, not_or] at h
    unfold putF
    rw [if_neg fun z => h.1 z.symm, putF_add v h.2]; rfl
/-! ### fields of what is frozen -/
def obD (c : Str) (ns : List Str) : D → Option (List D)
  | .obj c' ns' ds => if c' = c ∧ ns' = ns then some ds else none
  | _ => none
theorem obD_some {c : Str} {ns : List Str} {d : D} {ds : List D} (h : obD c ns d = some ds) : d = .obj c ns ds := by
  cases d with
  | obj c' ns' ds' =>
    have h : (if c' = c ∧ ns' = ns then some ds' else none) = some ds := h
    split at h
    · rename_i q; cases h; rw [q.1, q.2]
    · cases h
  | _ => cases h
@[simp] theorem obD_obj (c : Str) (ns : List Str) (ds : List D) : obD c ns (.obj c ns ds) = some ds := if_pos ⟨rfl, rfl⟩
def fldD (c : Str) (ns : List Str) (j : Nat) (d : D) : Option D := (obD c ns d).bind fun ds => ds[j]?
@[simp] def dFld (c : Str) (ns : List Str) (j : Nat) (f : VL.Env → Option D) : VL.Env → Option D := fun env => (f env).bind (fldD c ns j)
section
variable {X : Cx} {e : Expr} {es : List Expr} {pos : Pos} {fe : VL.Env → Option D} {fs : VL.Env → Option (List D)} {c : Str} {C : Addr} {ns : List Str} {f : Str}
theorem v_fld (j : Nat) (lk : Lk X.K c C) (cl : Cls X.K C) (no : NoAttr X.K C f) (he : PV X e fe) (hj : ns[j]? = some f := by rfl) (hb : attributeBase e f X.env (eval e X.env) = eval e X.env := by rfl) : PV X (.Attribute e f pos) (dFld c ns j fe) := by
  obtain ⟨t, p, o⟩ := he.ex
  refine ⟨_, pe_fld p hb, fun G H st env F Q d r e k => ?_⟩
  obtain ⟨d0, e1, e2⟩ := Option.bind_eq_some_iff.mp e
  obtain ⟨ds, e3, e4⟩ := Option.bind_eq_some_iff.mp (show (obD c ns d0).bind _ = _ from e2)
  cases obD_some e3
  refine o G H st env F _ _ r e1 fun v G' H' x rv => ?_
  cases rv with
  | obj h1 h2 h3 h4 h5 =>
    cases lk_one lk h2
    obtain ⟨u, hu1, hu2⟩ := h5.get e4
    exact ⟨_, _, _, _, u, rfl, x.gh _ _ h1, cl, no, look_at h3 h4 hj hu1, k u G' H' x hu2⟩
theorem w_fld (j : Nat) (lk : Lk X.K c C) (cl : Cls X.K C) (no : NoAttr X.K C f) (he : VL.PW X e fe) (hj : ns[j]? = some f := by rfl) (hb : attributeBase e f X.env (eval e X.env) = eval e X.env := by rfl) : VL.PW X (.Attribute e f pos) (dFld c ns j fe) := by
  obtain ⟨t, p, o⟩ := he.ex
  refine ⟨_, pe_fld p hb, fun G H st env F Q d r e k => ?_⟩
  obtain ⟨d0, e1, e2⟩ := Option.bind_eq_some_iff.mp e
  obtain ⟨ds, e3, e4⟩ := Option.bind_eq_some_iff.mp (show (obD c ns d0).bind _ = _ from e2)
  cases obD_some e3
  refine o G H st env F _ _ r e1 fun v G' H' x rv => ?_
  cases rv with
  | obj h1 h2 h3 h4 h5 =>
    cases lk_one lk h2
    obtain ⟨u, hu1, hu2⟩ := h5.get e4
    exact ⟨_, _, _, _, u, rfl, h1, cl, no, look_at h3 h4 hj hu1, k u G' H' x hu2⟩
end
/-! ### fields of what is owned -/
def obOf (c : Str) (ns : List Str) : S → Option (List S)
  | .ob c' ns' fs => if c' = c ∧ ns' = ns then some fs else none
  | .at _ (.ob c' ns' fs) => if c' = c ∧ ns' = ns then some fs else none
  | _ => none
@[simp] theorem obOf_ob (c : Str) (ns : List Str) (fs : List S) : obOf c ns (.ob c ns fs) = some fs := if_pos ⟨rfl, rfl⟩
@[simp] theorem obOf_at (c : Str) (ns : List Str) (fs : List S) (p : Addr) : obOf c ns (.at p (.ob c ns fs)) = some fs := if_pos ⟨rfl, rfl⟩
theorem obOf_some {c : Str} {ns : List Str} {z : S} {fs : List S} (h : obOf c ns z = some fs) : z = .ob c ns fs ∨ ∃ p, z = .at p (.ob c ns fs) := by
  unfold obOf at h
  split at h
  · split at h
    · rename_i q; cases h; exact .inl (by rw [q.1, q.2])
    · cases h
  · split at h
    · rename_i q; cases h; exact .inr ⟨_, by rw [q.1, q.2]⟩
    · cases h
  · cases h
def fzOf : S → Option D
  | .fz d => some d
  | _ => none
theorem fzOf_some {z : S} {d : D} (h : fzOf z = some d) : z = .fz d := by
  cases z <;> first | (cases h; rfl) | cases h
/-- the same thing with other fields -/
def obPut (z : S) (ns : List Str) (fs : List S) : S := match z with
  | .ob c _ _ => .ob c ns fs
  | .at p (.ob c _ _) => .at p (.ob c ns fs)
  | z => z
section
variable {K : PySem.W.Frag} {G H G' H' : Hp}
theorem slR_ob {c : Str} {ns : List Str} {z : S} {fs : List S} {v : V} {l : List Addr} (h : obOf c ns z = some fs) (s : SlR K G H v z l) :
    ∃ p C dx vs F, v = .ref p ∧ H p = some (.ins C dx vs) ∧ Lk K c C ∧ ns.Nodup ∧ vs.map Prod.fst = ns ∧ SlRs K G H (vs.map Prod.snd) fs F ∧ l = p :: F ∧
      ∀ {G' H' : Hp} {dx' : Addr} {ns' : List Str} {vs' : List (Str × V)} {fs' : List S} {F' : List Addr}, H' p = some (.ins C dx' vs') → ns'.Nodup → vs'.map Prod.fst = ns' → SlRs K G' H' (vs'.map Prod.snd) fs' F' → SlR K G' H' (.ref p) (obPut z ns' fs') (p :: F') := by
  rcases obOf_some h with rfl | ⟨q, rfl⟩
  · cases s with
    | ob h1 h2 h3 h4 h5 => exact ⟨_, _, _, _, _, rfl, h1, h2, h3, h4, h5, rfl, fun a b c d => .ob a h2 b c d⟩
  · cases s with
    | «at» s =>
      cases s with
      | ob h1 h2 h3 h4 h5 => exact ⟨_, _, _, _, _, rfl, h1, h2, h3, h4, h5, rfl, fun a b c d => .at (.ob a h2 b c d)⟩
theorem SlRs.getL : ∀ {vs : List V} {xs : List S} {F : List Addr} {j : Nat} {s : S}, SlRs K G H vs xs F → xs[j]? = some s → ∃ v l, vs[j]? = some v ∧ SlR K G H v s l ∧ ∀ a ∈ l, a ∈ F
  | _, _, _, _, _, .nil, e => by simp at e
  | _, _, _, 0, _, .cons r _, e => by simp at e; subst e; exact ⟨_, _, rfl, r, fun a m => List.mem_append_left _ m⟩
  | _, _, _, j + 1, _, .cons _ t, e => by
    obtain ⟨u, l, h1, h2, h3⟩ := SlRs.getL (j := j) t (by simpa using e)
    exact ⟨u, l, by simpa using h1, h2, fun a m => List.mem_append_right _ (h3 a m)⟩
theorem SlRs.put : ∀ {vs : List V} {xs : List S} {F : List Addr} {j : Nat} {v : V} {s : S} {l : List Addr}, SlRs K G H vs xs F → j < xs.length → SlR K G H v s l →
    ∃ F', SlRs K G H (vs.set j v) (xs.set j s) F' ∧ (∀ a ∈ F', a ∈ F ∨ a ∈ l) ∧ (F.Nodup → l.Nodup → (∀ a ∈ l, a ∉ F) → F'.Nodup)
  | _, _, _, _, _, _, _, .nil, h, _ => by simp at h
  | _, _, _, 0, v, s, l, .cons (F := F1) (F' := F2) r t, _, k => by
    refine ⟨l ++ F2, .cons k t, fun a m => ?_, fun nd nl dj => ?_⟩
    · rcases List.mem_append.mp m with m | m
      · exact .inr m
      · exact .inl (List.mem_append_right _ m)
    · obtain ⟨h1, h2, h3⟩ := List.nodup_append.mp nd
      exact List.nodup_append.mpr ⟨nl, h2, fun a m b m' e => dj a m (by rw [e]; exact List.mem_append_right _ m')⟩
  | _, _, _, j + 1, v, s, l, .cons (F := F1) (F' := F2) r t, h, k => by
    obtain ⟨F', h1, h2, h3⟩ := SlRs.put (j := j) t (by simpa using h) k
    refine ⟨F1 ++ F', .cons r h1, fun a m => ?_, fun nd nl dj => ?_⟩
    · rcases List.mem_append.mp m with m | m
      · exact .inl (List.mem_append_left _ m)
      · rcases h2 a m with m | m
        · exact .inl (List.mem_append_right _ m)
        · exact .inr m
    · obtain ⟨g1, g2, g3⟩ := List.nodup_append.mp nd
      refine List.nodup_append.mpr ⟨g1, h3 g2 nl fun a m m' => dj a m (List.mem_append_right _ m'), fun a m b m' e => ?_⟩
      subst e
      rcases h2 a m' with z | z
      · exact g3 a m a z rfl
      · exact dj a z (List.mem_append_left _ m)
theorem SlRs.snoc : ∀ {vs : List V} {xs : List S} {F : List Addr} {v : V} {s : S} {l : List Addr}, SlRs K G H vs xs F → SlR K G H v s l → SlRs K G H (vs ++ [v]) (xs ++ [s]) (F ++ l)
  | _, _, _, _, _, _, .nil, k => by
    have := SlRs.cons k (.nil (K := K) (G := G) (H := H))
    rw [List.append_nil] at this
    exact this
  | _, _, _, _, _, _, .cons (F := F1) (F' := F2) r t, k => by
    rw [List.append_assoc]
    exact .cons r (SlRs.snoc t k)
end
@[simp] def dFldS (i : Nat) (c : Str) (ns : List Str) (j : Nat) : VL.Env → Option D := fun env => (getS env i).bind fun z => (obOf c ns z).bind fun fs => (fs[j]?).bind fzOf
@[simp] def dFldW (i : Nat) (c : Str) (ns : List Str) (j : Nat) : VL.Env → Option D := fun env => (getS env i).bind fun z => (obOf c ns z).bind fun fs => (fs[j]?).bind frS
section
variable {X : Cx} {e : Expr} {es : List Expr} {pos : Pos} {c : Str} {C : Addr} {ns : List Str} {f : Str}
theorem v_fldS (i j : Nat) {x : Str} {xpos : Pos} (lk : Lk X.K c C) (cl : Cls X.K C) (no : NoAttr X.K C f) (hj : ns[j]? = some f := by rfl) (hN : X.N[i]? = some x := by rfl) (hv : Vis X.env.scope x := by first | exact Or.inl rfl | exact Or.inr (Or.inl rfl) | exact Or.inr (Or.inr rfl))
    (hd : (x == ("__debug__" : Str)) = false := by decide) (hcd : (x == ("__classdict__" : Str)) = false := by decide)
    (hb : attributeBase (.Name x xpos) f X.env (eval (.Name x xpos) X.env) = eval (.Name x xpos) X.env := by rfl) : PV X (.Attribute (.Name x xpos) f pos) (dFldS i c ns j) := by
  refine ⟨_, pe_fld (pe_var hN hv hd hcd) hb, fun G H st env F Q d r e k => ?_⟩
  obtain ⟨z, e1, e⟩ := Option.bind_eq_some_iff.mp e
  obtain ⟨fs, e2, e⟩ := Option.bind_eq_some_iff.mp e
  obtain ⟨s, e3, e4⟩ := Option.bind_eq_some_iff.mp e
  cases fzOf_some e4
  obtain ⟨v, h1, h2⟩ := r.slot i z (getS_some e1)
  obtain ⟨p, C', dx, vs, F0, rfl, g1, g2, g3, g4, g5, _, _⟩ := slR_ob e2 h2
  cases lk_one lk g2
  obtain ⟨u, l, q1, q2, _⟩ := g5.getL e3
  cases q2 with
  | fz rv => exact ⟨_, h1, _, _, _, _, u, rfl, g1, cl, no, look_at g3 g4 hj q1, k u G H (Ex.refl r.sub) rv⟩
theorem w_fldS (i j : Nat) {x : Str} {xpos : Pos} (lk : Lk X.K c C) (cl : Cls X.K C) (no : NoAttr X.K C f) (hj : ns[j]? = some f := by rfl) (hN : X.N[i]? = some x := by rfl) (hv : Vis X.env.scope x := by first | exact Or.inl rfl | exact Or.inr (Or.inl rfl) | exact Or.inr (Or.inr rfl))
    (hd : (x == ("__debug__" : Str)) = false := by decide) (hcd : (x == ("__classdict__" : Str)) = false := by decide)
    (hb : attributeBase (.Name x xpos) f X.env (eval (.Name x xpos) X.env) = eval (.Name x xpos) X.env := by rfl) : VL.PW X (.Attribute (.Name x xpos) f pos) (dFldW i c ns j) := by
  refine ⟨_, pe_fld (pe_var hN hv hd hcd) hb, fun G H st env F Q d r e k => ?_⟩
  obtain ⟨z, e1, e⟩ := Option.bind_eq_some_iff.mp e
  obtain ⟨fs, e2, e⟩ := Option.bind_eq_some_iff.mp e
  obtain ⟨s, e3, e4⟩ := Option.bind_eq_some_iff.mp e
  obtain ⟨no', rfl⟩ := frS_some e4
  obtain ⟨v, h1, h2⟩ := r.slot i z (getS_some e1)
  obtain ⟨p, C', dx, vs, F0, rfl, g1, g2, g3, g4, g5, _, _⟩ := slR_ob e2 h2
  cases lk_one lk g2
  obtain ⟨u, l, q1, q2, _⟩ := g5.getL e3
  exact ⟨_, h1, _, _, _, _, u, rfl, g1, cl, no, look_at g3 g4 hj q1, k u G H (Ex.refl r.sub) (SlR.view r.sub s u l no' q2)⟩
/-! ### fields written -/
@[simp] def sFldR (i : Nat) (c : Str) (ns : List Str) (j : Nat) (fo : VL.Env → Option S) : VL.Env → Option Out := fun env => (fo env).bind fun s => (getS env i).bind fun z => (obOf c ns z).bind fun fs => if j < fs.length then some (.nx (env.set i (some (obPut z ns (fs.set j s))))) else none
@[simp] def sFldN (i : Nat) (c : Str) (ns : List Str) (f : Str) (fo : VL.Env → Option S) : VL.Env → Option Out := fun env => (fo env).bind fun s => (getS env i).bind fun z => (obOf c ns z).bind fun fs => some (.nx (env.set i (some (obPut z (ns ++ [f]) (fs ++ [s])))))
theorem s_fldR (i j : Nat) {x : Str} {xpos pos' : Pos} {fo : VL.Env → Option S} (lk : Lk X.K c C) (cl : Cls X.K C) (no : NoAttr X.K C f) (he : PO X e fo) (hj : ns[j]? = some f := by rfl) (hl : ns.length < 1000 := by decide) (hN : X.N[i]? = some x := by rfl) (hv : Vis X.env.scope x := by first | exact Or.inl rfl | exact Or.inr (Or.inl rfl) | exact Or.inr (Or.inr rfl))
    (hd : (x == ("__debug__" : Str)) = false := by decide) (hcd : (x == ("__classdict__" : Str)) = false := by decide)
    (hs : swapsWith e (some (.Attribute (.Name x xpos) f pos')) pos.line X.env = pure false := by rfl) : SV X (.Assign [.Attribute (.Name x xpos) f pos'] e pos) (sFldR i c ns j fo) := by
  obtain ⟨t, p, o⟩ := he.ex
  refine ⟨_, ps_fld (pe_var hN hv hd hcd) p hs, fun c0 G H st env F E u r q e k => ?_⟩
  obtain ⟨s, e0, e⟩ := Option.bind_eq_some_iff.mp e
  obtain ⟨z, e1, e⟩ := Option.bind_eq_some_iff.mp e
  obtain ⟨fs, e2, e⟩ := Option.bind_eq_some_iff.mp e
  split at e
  · rename_i hlt
    cases e
    refine o G H st env F _ s r e0 fun w G' H' l x rw' nd fr => ?_
    have r1 := r.ext x
    have q1 := q.ext x
    obtain ⟨v, h1, h2⟩ := r1.slot i z (getS_some e1)
    obtain ⟨pp, C', dx, vs, F0, rfl, g1, g2, g3, g4, g5, g6, g7⟩ := slR_ob e2 h2
    cases lk_one lk g2
    refine ⟨_, h1, pp, C, dx, vs, rfl, g1, cl, no, by rw [← List.length_map (f := Prod.fst), g4]; exact hl, ?_⟩
    have ndF : (pp :: F0).Nodup := by rw [← g6]; exact r1.nd i
    rw [List.nodup_cons] at ndF
    have fresh : ∀ a ∈ l, ∀ j, a ∉ F j := fun a m j m' => by
      obtain ⟨o, z⟩ := r.dom m'
      rw [(fr a m).1] at z; cases z
    have npl : pp ∉ l := fun m => fresh pp m i (by rw [g6]; exact List.mem_cons_self ..)
    obtain ⟨f1, f2⟩ := putF_old w (by rw [g4]; exact g3) (by rw [g4]; exact hj)
    have ne : ∀ a, a ≠ pp → (L2.upd H' pp (.ins C dx (putF f w vs))) a = H' a := fun a h => upd_ne h
    obtain ⟨F', p1, p2, p3⟩ := SlRs.put (v := w) (s := s) (l := l) (SlRs.mono (H' := L2.upd H' pp (.ins C dx (putF f w vs))) (Same.refl G') fs _ _ (fun a m => ne a fun z => ndF.1 (by rw [← z]; exact m)) g5) hlt (SlR.mono (Same.refl G') s w l (fun a m => ne a fun z => npl (by rw [← z]; exact m)) rw')
    have ag : ∀ b, b ∉ F i → (L2.upd H' pp (.ins C dx (putF f w vs))) b = H' b ∨ H' b = none := fun b hb => .inl (ne b fun z => hb (by rw [z, g6]; exact List.mem_cons_self ..))
    have hl' : ∀ a ∈ pp :: F', a ∈ F i ∨ a ∈ l := fun a m => by
      rw [g6]
      rcases List.mem_cons.mp m with rfl | m
      · exact .inl (List.mem_cons_self ..)
      · exact (p2 a m).imp (List.mem_cons_of_mem _) id
    have ndn : (pp :: F').Nodup := by
      refine List.nodup_cons.mpr ⟨fun m => ?_, p3 ndF.2 nd fun a m m' => fresh a m i (by rw [g6]; exact List.mem_cons_of_mem _ m')⟩
      rcases p2 pp m with z | z
      · exact ndF.1 z
      · exact npl z
    refine k G' _ st _ (r1.upd (l := pp :: F') h1 ag (g7 upd_same g3 (by rw [f1]; exact g4) (by rw [f2]; exact p1)) ndn fun a m => (hl' a m).imp id fun z => ⟨(fr a z).2, fun j => fresh a z j⟩) (CR.upd q1 ag fun a m => (hl' a m).imp id fun z => q.new (fr a z).1)
  · cases e
theorem s_fldN (i : Nat) {x : Str} {xpos pos' : Pos} {fo : VL.Env → Option S} (lk : Lk X.K c C) (cl : Cls X.K C) (no : NoAttr X.K C f) (he : PO X e fo) (hf : f ∉ ns := by decide +kernel) (hl : ns.length < 1000 := by decide) (hN : X.N[i]? = some x := by rfl) (hv : Vis X.env.scope x := by first | exact Or.inl rfl | exact Or.inr (Or.inl rfl) | exact Or.inr (Or.inr rfl))
    (hd : (x == ("__debug__" : Str)) = false := by decide) (hcd : (x == ("__classdict__" : Str)) = false := by decide)
    (hs : swapsWith e (some (.Attribute (.Name x xpos) f pos')) pos.line X.env = pure false := by rfl) : SV X (.Assign [.Attribute (.Name x xpos) f pos'] e pos) (sFldN i c ns f fo) := by
  obtain ⟨t, p, o⟩ := he.ex
  refine ⟨_, ps_fld (pe_var hN hv hd hcd) p hs, fun c0 G H st env F E u r q e k => ?_⟩
  obtain ⟨s, e0, e⟩ := Option.bind_eq_some_iff.mp e
  obtain ⟨z, e1, e⟩ := Option.bind_eq_some_iff.mp e
  obtain ⟨fs, e2, e⟩ := Option.bind_eq_some_iff.mp e
  cases e
  refine o G H st env F _ s r e0 fun w G' H' l x rw' nd fr => ?_
  have r1 := r.ext x
  have q1 := q.ext x
  obtain ⟨v, h1, h2⟩ := r1.slot i z (getS_some e1)
  obtain ⟨pp, C', dx, vs, F0, rfl, g1, g2, g3, g4, g5, g6, g7⟩ := slR_ob e2 h2
  cases lk_one lk g2
  refine ⟨_, h1, pp, C, dx, vs, rfl, g1, cl, no, by rw [← List.length_map (f := Prod.fst), g4]; exact hl, ?_⟩
  have ndF : (pp :: F0).Nodup := by rw [← g6]; exact r1.nd i
  rw [List.nodup_cons] at ndF
  have fresh : ∀ a ∈ l, ∀ j, a ∉ F j := fun a m j m' => by
    obtain ⟨o, z⟩ := r.dom m'
    rw [(fr a m).1] at z; cases z
  have npl : pp ∉ l := fun m => fresh pp m i (by rw [g6]; exact List.mem_cons_self ..)
  have f0 : putF f w vs = vs ++ [(f, w)] := putF_add w (by rw [g4]; exact hf)
  rw [f0]
  have ne : ∀ a, a ≠ pp → (L2.upd H' pp (.ins C dx (vs ++ [(f, w)]))) a = H' a := fun a h => upd_ne h
  have p1 := SlRs.snoc (v := w) (s := s) (l := l) (SlRs.mono (H' := L2.upd H' pp (.ins C dx (vs ++ [(f, w)]))) (Same.refl G') fs _ _ (fun a m => ne a fun z => ndF.1 (by rw [← z]; exact m)) g5) (SlR.mono (Same.refl G') s w l (fun a m => ne a fun z => npl (by rw [← z]; exact m)) rw')
  have ag : ∀ b, b ∉ F i → (L2.upd H' pp (.ins C dx (vs ++ [(f, w)]))) b = H' b ∨ H' b = none := fun b hb => .inl (ne b fun z => hb (by rw [z, g6]; exact List.mem_cons_self ..))
  have hl' : ∀ a ∈ pp :: (F0 ++ l), a ∈ F i ∨ a ∈ l := fun a m => by
    rw [g6]
    rcases List.mem_cons.mp m with rfl | m
    · exact .inl (List.mem_cons_self ..)
    · rcases List.mem_append.mp m with m | m
      · exact .inl (List.mem_cons_of_mem _ m)
      · exact .inr m
  have ndn : (pp :: (F0 ++ l)).Nodup := by
    refine List.nodup_cons.mpr ⟨fun m => ?_, List.nodup_append.mpr ⟨ndF.2, nd, fun a m b m' e => ?_⟩⟩
    · rcases List.mem_append.mp m with z | z
      · exact ndF.1 z
      · exact npl z
    · subst e
      exact fresh a m' i (by rw [g6]; exact List.mem_cons_of_mem _ m)
  refine k G' _ st _ (r1.upd (l := pp :: (F0 ++ l)) h1 ag (g7 upd_same (List.nodup_append.mpr ⟨g3, by simp, fun a m b m' e => ?_⟩) (by rw [List.map_append, g4]; rfl) (by rw [List.map_append]; exact p1)) ndn fun a m => (hl' a m).imp id fun z => ⟨(fr a z).2, fun j => fresh a z j⟩) (CR.upd q1 ag fun a m => (hl' a m).imp id fun z => q.new (fr a z).1)
  rw [List.mem_singleton.mp m'] at e
  rw [e] at m
  exact hf m
end
end VL

set_option Elab.async false
set_option linter.all false
set_option maxRecDepth 100000
/-! VL30: methods and making. -/
namespace VL
open PySem PySem.Spec PyProof.Rows L2
/-! ### a method that only reads, of what is frozen -/
def mS (c : Str) (ns : List Str) (Fn : List D → Option S) (d : D) (ds : List D) : Option S := (obD c ns d).bind fun _ => Fn (d :: ds)
@[simp] def oM (c : Str) (ns : List Str) (fe : VL.Env → Option D) (fs : VL.Env → Option (List D)) (Fn : List D → Option S) : VL.Env → Option S := fun env => (fe env).bind fun d => (fs env).bind fun ds => mS c ns Fn d ds
@[simp] def cM (c : Str) (ns : List Str) (fe : VL.Env → Option D) (fs : VL.Env → Option (List D)) (Fn : List D → Option S) : VL.Env → Option D := fun env => (oM c ns fe fs Fn env).bind frS
section
variable {X : Cx} {o e : Expr} {es : List Expr} {pos apos : Pos} {fo : VL.Env → Option D} {fs : VL.Env → Option (List D)} {c : Str} {C : Addr} {ns : List Str} {f : Addr} {fd : FuncData} {k : Nat} {ps : List Str} {Fn : List D → Option S} {m : Str} {pl : Sem Bool}
theorem o_meth (lk : Lk X.K c C) (cl : Cls X.K C) (hm : Meth X.K C m f) (F : FnOk X.prog X.w X.K X.mg X.base CX0 k f fd ps (spS X.K Fn)) (hr : Room k X.A) (hb : Binds X.K fd ps []) (he : PV X o fo) (ha : AV X (e :: es) fs) (hno : m ∉ ns := by decide +kernel)
    (hst : starEach (e :: es) X.env = (false, eval e X.env) :: starEach es X.env := by rfl) (hpl : (backTo pos (starEach es X.env)).any (·.1) = false := by rfl)
    (ht : eval (.Call (.Attribute o m apos) (e :: es) [] pos) X.env = (do
      let ov ← eval o X.env
      standAt apos.atName
      let (f, first) ← holding [ov] (getMethod ov m pl)
      callWith pos f first (backTo pos (starEach (e :: es) X.env)) (backToKw pos (keywordEach [] X.env))) := by rfl) :
    PO X (.Call (.Attribute o m apos) (e :: es) [] pos) (oM c ns fo fs Fn) := by
  obtain ⟨t0, p0, o0⟩ := he.ex
  obtain ⟨t, pa, oa⟩ := ha.ex
  refine ⟨_, pe_meth p0 cl hm F hr hb .nil pass0 pa hst hpl ht, fun G H st env F' Q z r e k => ?_⟩
  obtain ⟨d, e1, e⟩ := Option.bind_eq_some_iff.mp e
  obtain ⟨ds, e2, e⟩ := Option.bind_eq_some_iff.mp e
  obtain ⟨dd, e3, e4⟩ := Option.bind_eq_some_iff.mp e
  cases obD_some e3
  refine o0 G H st env F' _ _ r e1 fun v G1 H1 x1 rv => ?_
  cases id rv with
  | obj h1 h2 h3 h4 h5 =>
    cases lk_one lk h2
    refine ⟨_, _, _, rfl, x1.gh _ _ h1, look_no (by rw [h4]; exact hno), oa G1 H1 st env F' _ ds (r.ext x1) e2 fun vs G2 H2 x2 rvs => ?_⟩
    refine ⟨G2, _, z, x2.gh, by rw [List.append_nil]; exact .cons (rv.up x2.gg) rvs, e4, fun v G' H' l x3 sl nd fr => k v G' H' l ((x1.trans x2).trans x3) sl nd fun a m => ⟨(x1.trans x2).hh.free (fr a m).1, (fr a m).2⟩⟩
theorem v_meth (lk : Lk X.K c C) (cl : Cls X.K C) (hm : Meth X.K C m f) (F : FnOk X.prog X.w X.K X.mg X.base CX0 k f fd ps (spS X.K Fn)) (hr : Room k X.A) (hb : Binds X.K fd ps []) (he : PV X o fo) (ha : AV X (e :: es) fs) (hno : m ∉ ns := by decide +kernel)
    (hst : starEach (e :: es) X.env = (false, eval e X.env) :: starEach es X.env := by rfl) (hpl : (backTo pos (starEach es X.env)).any (·.1) = false := by rfl)
    (ht : eval (.Call (.Attribute o m apos) (e :: es) [] pos) X.env = (do
      let ov ← eval o X.env
      standAt apos.atName
      let (f, first) ← holding [ov] (getMethod ov m pl)
      callWith pos f first (backTo pos (starEach (e :: es) X.env)) (backToKw pos (keywordEach [] X.env))) := by rfl) :
    PV X (.Call (.Attribute o m apos) (e :: es) [] pos) (cM c ns fo fs Fn) := (o_meth lk cl hm F hr hb he ha hno hst hpl ht).v
theorem o_meth0 (lk : Lk X.K c C) (cl : Cls X.K C) (hm : Meth X.K C m f) (F : FnOk X.prog X.w X.K X.mg X.base CX0 k f fd ps (spS X.K Fn)) (hr : Room k X.A) (hb : Binds X.K fd ps []) (he : PV X o fo) (hno : m ∉ ns := by decide +kernel)
    (ht : eval (.Call (.Attribute o m apos) [] [] pos) X.env = (do
      let ov ← eval o X.env
      standAt apos.atName
      let (f, first) ← holding [ov] (getMethod ov m pl)
      callWith pos f first (backTo pos (starEach [] X.env)) (backToKw pos (keywordEach [] X.env))) := by rfl) :
    PO X (.Call (.Attribute o m apos) [] [] pos) (oM c ns fo (fun _ => some []) Fn) := by
  obtain ⟨t0, p0, o0⟩ := he.ex
  refine ⟨_, pe_meth0 p0 cl hm F hr hb .nil pass0 ht, fun G H st env F' Q z r e k => ?_⟩
  obtain ⟨d, e1, e⟩ := Option.bind_eq_some_iff.mp e
  obtain ⟨ds, e2, e⟩ := Option.bind_eq_some_iff.mp e
  cases e2
  obtain ⟨dd, e3, e4⟩ := Option.bind_eq_some_iff.mp e
  cases obD_some e3
  refine o0 G H st env F' _ _ r e1 fun v G1 H1 x1 rv => ?_
  cases id rv with
  | obj h1 h2 h3 h4 h5 =>
    cases lk_one lk h2
    refine ⟨_, _, _, rfl, x1.gh _ _ h1, look_no (by rw [h4]; exact hno), ?_⟩
    refine ⟨G1, _, z, x1.gh, .cons rv .nil, e4, fun v G' H' l x3 sl nd fr => k v G' H' l (x1.trans x3) sl nd fun a m => ⟨x1.hh.free (fr a m).1, (fr a m).2⟩⟩
theorem v_meth0 (lk : Lk X.K c C) (cl : Cls X.K C) (hm : Meth X.K C m f) (F : FnOk X.prog X.w X.K X.mg X.base CX0 k f fd ps (spS X.K Fn)) (hr : Room k X.A) (hb : Binds X.K fd ps []) (he : PV X o fo) (hno : m ∉ ns := by decide +kernel)
    (ht : eval (.Call (.Attribute o m apos) [] [] pos) X.env = (do
      let ov ← eval o X.env
      standAt apos.atName
      let (f, first) ← holding [ov] (getMethod ov m pl)
      callWith pos f first (backTo pos (starEach [] X.env)) (backToKw pos (keywordEach [] X.env))) := by rfl) :
    PV X (.Call (.Attribute o m apos) [] [] pos) (cM c ns fo (fun _ => some []) Fn) := (o_meth0 lk cl hm F hr hb he hno ht).v
end
/-! ### .. of what is owned: what is frozen in it is seen -/
def hidS : S → D
  | .fz d => d
  | _ => .hid
theorem slR_hid {K : PySem.W.Frag} {G H : Hp} {v : V} {s : S} {l : List Addr} (h : SlR K G H v s l) : Rp K G v (hidS s) := by
  cases h with
  | fz r => exact r
  | _ => exact .hid _ (fun z => nomatch z)
theorem slRs_hid {K : PySem.W.Frag} {G H : Hp} : ∀ {vs : List V} {xs : List S} {F : List Addr}, SlRs K G H vs xs F → RpL K G vs (xs.map hidS)
  | _, _, _, .nil => .nil
  | _, _, _, .cons r t => .cons (slR_hid r) (slRs_hid t)
def without (p : Addr) (G : Hp) : Hp := fun a => if a = p then none else G a
section
variable {K : PySem.W.Frag} {G : Hp} {p C dx : Addr} {vs0 : List (Str × V)}
theorem without_at {a : Addr} {o : HO} (hp : G p = some (.ins C dx vs0)) (h : G a = some o) (n : ∀ C dx vs, o ≠ .ins C dx vs) : without p G a = some o := by
  unfold without
  rw [if_neg]
  · exact h
  · rintro rfl
    rw [hp] at h
    cases h
    exact n _ _ _ rfl
mutual
theorem rp_without (hp : G p = some (.ins C dx vs0)) : ∀ (d : D) (v : V), d.plain = true → Rp K G v d → Rp K (without p G) v d
  | .non, _, _, h => by cases h; exact .non
  | .bl b, _, _, h => by cases h; exact .bl b
  | .int i, _, _, h => by cases h; exact .int i
  | .str x, _, _, h => by cases h; exact .str x
  | .lst ds, _, n, h => by
    cases h with
    | lst h1 h2 => exact .lst (without_at hp h1 fun _ _ _ z => nomatch z) (rpL_without hp ds _ n h2)
  | .tup ds, _, n, h => by
    cases h with
    | tup h1 h2 => exact .tup (without_at hp h1 fun _ _ _ z => nomatch z) (rpL_without hp ds _ n h2)
  | .dic _ _, _, n, _ => by cases (show false = true from n)
  | .obj _ _ _, _, n, _ => by cases (show false = true from n)
  | .hid, _, n, _ => by cases (show false = true from n)
theorem rpL_without (hp : G p = some (.ins C dx vs0)) : ∀ (ds : List D) (vs : List V), D.plainL ds = true → RpL K G vs ds → RpL K (without p G) vs ds
  | [], _, _, h => by cases h; exact .nil
  | d :: ds, _, n, h => by
    have q : d.plain = true ∧ D.plainL ds = true := by simpa [D.plainL] using n
    cases h with
    | cons h1 h2 => exact .cons (rp_without hp d _ q.1 h1) (rpL_without hp ds _ q.2 h2)
end
end
def cMSf (c : Str) (ns : List Str) (Fn : List D → Option S) (fs : List S) (ds : List D) : Option D := (Fn (.obj c ns (fs.map hidS) :: ds)).bind fun s => (frS s).bind fun d => if d.plain = true then some d else none
@[simp] def cMS (i : Nat) (c : Str) (ns : List Str) (fa : VL.Env → Option (List D)) (Fn : List D → Option S) : VL.Env → Option D := fun env => (getS env i).bind fun z => (obOf c ns z).bind fun fs => (fa env).bind fun ds => cMSf c ns Fn fs ds
section
variable {X : Cx} {e : Expr} {es : List Expr} {pos apos : Pos} {fs : VL.Env → Option (List D)} {c : Str} {C : Addr} {ns : List Str} {f : Addr} {fd : FuncData} {k : Nat} {ps : List Str} {Fn : List D → Option S} {m : Str} {pl : Sem Bool}
theorem cMS_ok {K : PySem.W.Frag} {G H : Hp} {p dx : Addr} {vs : List (Str × V)} {xs : List S} {F0 : List Addr} {ws : List V} {ds : List D} {d : D} {Q : VK} {E : XK} (sub : Same G H) (lk : Lk K c C) (gp : G p = none) (hp : H p = some (.ins C dx vs)) (nd : ns.Nodup) (en : vs.map Prod.fst = ns)
    (sl : SlRs K G H (vs.map Prod.snd) xs F0) (rv : RpL K G ws ds) (e : cMSf c ns Fn xs ds = some d) (kk : ∀ v G' H', Ex G H G' H' → Rp K G' v d → Q v H') : spS K Fn (.ref p :: ws) H Q E := by
  obtain ⟨s, e1, e2⟩ := Option.bind_eq_some_iff.mp e
  obtain ⟨d', e3, e4⟩ := Option.bind_eq_some_iff.mp e2
  split at e4
  · rename_i pd
    cases e4
    obtain ⟨n, rfl⟩ := frS_some e3
    have s1 : Same G (L2.upd G p (.ins C dx vs)) := same_upd gp
    refine ⟨L2.upd G p (.ins C dx vs), _, s, fun b o z => ?_, .cons (.obj upd_same lk nd en ((slRs_hid sl).up s1)) (rv.up s1), e1, fun v G' H' l x3 sl' nd' fr => ?_⟩
    · by_cases hb : b = p
      · subst hb; rw [upd_same] at z; cases z; exact hp
      · rw [upd_ne hb] at z; exact sub _ _ z
    have x4 := frzG_ex x3 fr
    have rr := frzG_rp sl' n fun a m => (fr a m).2
    have hpp : (frzG G' H' l) p = some (.ins C dx vs) := x4.gg _ _ upd_same
    refine kk v (without p (frzG G' H' l)) H' ⟨x4.hh, fun b o z => ?_, fun b o z => ?_, fun b z => ?_⟩ (rp_without hpp _ _ pd rr)
    · have hb : b ≠ p := by rintro rfl; rw [gp] at z; cases z
      unfold without
      rw [if_neg hb]
      exact x4.gg _ _ (s1 _ _ z)
    · unfold without at z
      split at z
      · cases z
      · exact x4.gh _ _ z
    · unfold without at z
      split at z
      · exact absurd rfl z
      · rename_i hb
        rcases x4.nw b z with h | h
        · rw [upd_ne hb] at h; exact .inl h
        · exact .inr h
  · cases e4
theorem v_methS (i : Nat) {x : Str} {xpos : Pos} (lk : Lk X.K c C) (cl : Cls X.K C) (hm : Meth X.K C m f) (F : FnOk X.prog X.w X.K X.mg X.base CX0 k f fd ps (spS X.K Fn)) (hr : Room k X.A) (hb : Binds X.K fd ps []) (ha : AV X (e :: es) fs) (hno : m ∉ ns := by decide +kernel)
    (hN : X.N[i]? = some x := by rfl) (hv : Vis X.env.scope x := by first | exact Or.inl rfl | exact Or.inr (Or.inl rfl) | exact Or.inr (Or.inr rfl))
    (hd : (x == ("__debug__" : Str)) = false := by decide) (hcd : (x == ("__classdict__" : Str)) = false := by decide)
    (hst : starEach (e :: es) X.env = (false, eval e X.env) :: starEach es X.env := by rfl) (hpl : (backTo pos (starEach es X.env)).any (·.1) = false := by rfl)
    (ht : eval (.Call (.Attribute (.Name x xpos) m apos) (e :: es) [] pos) X.env = (do
      let ov ← eval (.Name x xpos) X.env
      standAt apos.atName
      let (f, first) ← holding [ov] (getMethod ov m pl)
      callWith pos f first (backTo pos (starEach (e :: es) X.env)) (backToKw pos (keywordEach [] X.env))) := by rfl) :
    PV X (.Call (.Attribute (.Name x xpos) m apos) (e :: es) [] pos) (cMS i c ns fs Fn) := by
  obtain ⟨t, pa, oa⟩ := ha.ex
  refine ⟨_, pe_meth (pe_var hN hv hd hcd) cl hm F hr hb .nil pass0 pa hst hpl ht, fun G H st env F' Q z r e k => ?_⟩
  obtain ⟨zz, e1, e⟩ := Option.bind_eq_some_iff.mp e
  obtain ⟨xs, e2, e⟩ := Option.bind_eq_some_iff.mp e
  obtain ⟨ds, e3, e4⟩ := Option.bind_eq_some_iff.mp e
  obtain ⟨v, h1, h2⟩ := r.slot i zz (getS_some e1)
  obtain ⟨p, C', dx, vs, F0, rfl, g1, g2, g3, g4, g5, g6, _⟩ := slR_ob e2 h2
  cases lk_one lk g2
  refine ⟨_, h1, p, dx, vs, rfl, g1, look_no (by rw [g4]; exact hno), oa G H st env F' _ ds r e3 fun ws G2 H2 x2 rvs => ?_⟩
  rw [List.append_nil]
  have r2 := r.ext x2
  refine cMS_ok x2.gh lk (r2.off i p (by rw [g6]; exact List.mem_cons_self ..)) (x2.hh _ _ g1) g3 g4 (SlRs.mono x2.gg xs _ _ (fun a m => ?_) g5) rvs e4 fun v G' H' x3 rv => k v G' H' (x2.trans x3) rv
  obtain ⟨o, z⟩ := SlRs.dom xs _ _ g5 a m
  rw [z]; exact x2.hh _ _ z
theorem v_methS0 (i : Nat) {x : Str} {xpos : Pos} (lk : Lk X.K c C) (cl : Cls X.K C) (hm : Meth X.K C m f) (F : FnOk X.prog X.w X.K X.mg X.base CX0 k f fd ps (spS X.K Fn)) (hr : Room k X.A) (hb : Binds X.K fd ps []) (hno : m ∉ ns := by decide +kernel)
    (hN : X.N[i]? = some x := by rfl) (hv : Vis X.env.scope x := by first | exact Or.inl rfl | exact Or.inr (Or.inl rfl) | exact Or.inr (Or.inr rfl))
    (hd : (x == ("__debug__" : Str)) = false := by decide) (hcd : (x == ("__classdict__" : Str)) = false := by decide)
    (ht : eval (.Call (.Attribute (.Name x xpos) m apos) [] [] pos) X.env = (do
      let ov ← eval (.Name x xpos) X.env
      standAt apos.atName
      let (f, first) ← holding [ov] (getMethod ov m pl)
      callWith pos f first (backTo pos (starEach [] X.env)) (backToKw pos (keywordEach [] X.env))) := by rfl) :
    PV X (.Call (.Attribute (.Name x xpos) m apos) [] [] pos) (cMS i c ns (fun _ => some []) Fn) := by
  refine ⟨_, pe_meth0 (pe_var hN hv hd hcd) cl hm F hr hb .nil pass0 ht, fun G H st env F' Q z r e k => ?_⟩
  obtain ⟨zz, e1, e⟩ := Option.bind_eq_some_iff.mp e
  obtain ⟨xs, e2, e⟩ := Option.bind_eq_some_iff.mp e
  obtain ⟨ds, e3, e4⟩ := Option.bind_eq_some_iff.mp e
  cases e3
  obtain ⟨v, h1, h2⟩ := r.slot i zz (getS_some e1)
  obtain ⟨p, C', dx, vs, F0, rfl, g1, g2, g3, g4, g5, g6, _⟩ := slR_ob e2 h2
  cases lk_one lk g2
  refine ⟨_, h1, p, dx, vs, rfl, g1, look_no (by rw [g4]; exact hno), ?_⟩
  exact cMS_ok (E := L2.E0) r.sub lk (r.off i p (by rw [g6]; exact List.mem_cons_self ..)) g1 g3 g4 g5 .nil e4 fun v G' H' x3 rv => k v G' H' x3 rv
/-! ### methods that change the instance -/
theorem anyA_ex (Fi : Addr → S → List D → Option (D × S)) (s : S) (ds : List D) : ∃ o : Option (D × S), ∀ r, o = some r ↔ ∀ p, Fi p s ds = some r := by
  by_cases h : ∃ r, ∀ p, Fi p s ds = some r
  · obtain ⟨r, h⟩ := h
    refine ⟨some r, fun r' => ⟨fun e => by cases e; exact h, fun e => ?_⟩⟩
    have := h 0
    rw [e 0] at this
    exact this.symm
  · exact ⟨none, fun r => ⟨fun e => (by cases e), fun e => absurd ⟨r, e⟩ h⟩⟩
noncomputable def anyA (Fi : Addr → S → List D → Option (D × S)) (s : S) (ds : List D) : Option (D × S) := (anyA_ex Fi s ds).choose
theorem anyA_all {Fi : Addr → S → List D → Option (D × S)} {s : S} {ds : List D} {r : D × S} (h : anyA Fi s ds = some r) : ∀ p, Fi p s ds = some r := ((anyA_ex Fi s ds).choose_spec r).mp h
theorem anyA_of {Fi : Addr → S → List D → Option (D × S)} {s : S} {ds : List D} {r : D × S} (h : ∀ p, Fi p s ds = some r) : anyA Fi s ds = some r := ((anyA_ex Fi s ds).choose_spec r).mpr h
noncomputable def runI (Fi : Addr → S → List D → Option (D × S)) (z : S) (ds : List D) : Option (D × S) := match z with
  | .at p s => (Fi p s ds).map fun r => (r.1, .at p r.2)
  | s => anyA Fi s ds
noncomputable def mMt (i : Nat) (c : Str) (ns : List Str) (fs : Mo (List D)) (Fi : Addr → S → List D → Option (D × S)) : Mo D := fun env => (getS env i).bind fun z => (obOf c ns z).bind fun _ => (fs env).bind fun x => (getS x.2 i).bind fun z' => (runI Fi z' x.1).map fun r => (r.1, x.2.set i (some r.2))
theorem runI_ok {K : PySem.W.Frag} {G H : Hp} {Fi : Addr → S → List D → Option (D × S)} {z : S} {ds : List D} {d : D} {z1 : S} {p : Addr} {l : List Addr} (sl : SlR K G H (.ref p) z l) (e : runI Fi z ds = some (d, z1)) :
    ∃ s0 s1, SlR K G H (.ref p) s0 l ∧ Fi p s0 ds = some (d, s1) ∧ ∀ {G' H' : Hp} {l' : List Addr}, SlR K G' H' (.ref p) s1 l' → SlR K G' H' (.ref p) z1 l' := by
  cases z with
  | «at» q s =>
    obtain ⟨⟨d', s1⟩, h1, h2⟩ := Option.map_eq_some_iff.mp (show (Fi q s ds).map _ = _ from e)
    cases h2
    cases sl with
    | «at» sl => exact ⟨s, s1, sl, h1, fun h => .at h⟩
  | fz d0 => exact ⟨_, _, sl, anyA_all (show anyA Fi (.fz d0) ds = _ from e) p, id⟩
  | ol xs => exact ⟨_, _, sl, anyA_all (show anyA Fi (.ol xs) ds = _ from e) p, id⟩
  | od t xs => exact ⟨_, _, sl, anyA_all (show anyA Fi (.od t xs) ds = _ from e) p, id⟩
  | ot xs => exact ⟨_, _, sl, anyA_all (show anyA Fi (.ot xs) ds = _ from e) p, id⟩
  | ob a b c => exact ⟨_, _, sl, anyA_all (show anyA Fi (.ob a b c) ds = _ from e) p, id⟩
theorem m_meth (i : Nat) {Fi : Addr → S → List D → Option (D × S)} {x : Str} {xpos : Pos} {fs : Mo (List D)} (lk : Lk X.K c C) (cl : Cls X.K C) (hm : Meth X.K C m f) (F : FnOk X.prog X.w X.K X.mg X.base CX0 k f fd ps (spI X.K Fi)) (hr : Room k X.A) (hb : Binds X.K fd ps []) (ha : MA X (e :: es) fs) (hno : m ∉ ns := by decide +kernel)
    (hN : X.N[i]? = some x := by rfl) (hv : Vis X.env.scope x := by first | exact Or.inl rfl | exact Or.inr (Or.inl rfl) | exact Or.inr (Or.inr rfl))
    (hd : (x == ("__debug__" : Str)) = false := by decide) (hcd : (x == ("__classdict__" : Str)) = false := by decide)
    (hst : starEach (e :: es) X.env = (false, eval e X.env) :: starEach es X.env := by rfl) (hpl : (backTo pos (starEach es X.env)).any (·.1) = false := by rfl)
    (ht : eval (.Call (.Attribute (.Name x xpos) m apos) (e :: es) [] pos) X.env = (do
      let ov ← eval (.Name x xpos) X.env
      standAt apos.atName
      let (f, first) ← holding [ov] (getMethod ov m pl)
      callWith pos f first (backTo pos (starEach (e :: es) X.env)) (backToKw pos (keywordEach [] X.env))) := by rfl) :
    MV X (.Call (.Attribute (.Name x xpos) m apos) (e :: es) [] pos) (mMt i c ns fs Fi) := by
  obtain ⟨t, pa, o⟩ := ha.ex
  refine ⟨_, pe_meth (pe_var hN hv hd hcd) cl hm F hr hb .nil pass0 pa hst hpl ht, fun c0 G H st env F' Q d env' r q e k => ?_⟩
  obtain ⟨z0, h0, e⟩ := Option.bind_eq_some_iff.mp e
  obtain ⟨xs, h0', e⟩ := Option.bind_eq_some_iff.mp e
  obtain ⟨⟨ds, e1⟩, h1, e⟩ := Option.bind_eq_some_iff.mp e
  obtain ⟨zz, h2, e⟩ := Option.bind_eq_some_iff.mp e
  obtain ⟨⟨z, s1⟩, h3, h4⟩ := Option.map_eq_some_iff.mp e
  cases h4
  obtain ⟨v, hv', sl0⟩ := r.slot i z0 (getS_some h0)
  obtain ⟨p, C', dx, vs, F0, rfl, g1, g2, g3, g4, g5, g6, _⟩ := slR_ob h0' sl0
  cases lk_one lk g2
  refine ⟨_, hv', p, dx, vs, rfl, g1, look_no (by rw [g4]; exact hno), o c0 G H st env F' _ ds e1 r q h1 fun vs G1 H1 F1 r1 q1 s1' rv => ?_⟩
  rw [List.append_nil]
  obtain ⟨v', h5, h6⟩ := r1.slot i _ (getS_some h2)
  rw [hv'] at h5
  cases h5
  obtain ⟨s0, s2, k1, k2, k3⟩ := runI_ok h6 h3
  exact ⟨G1, p, vs, s0, F1 i, ds, z, s2, r1.sub, rfl, k1, r1.nd i, r1.off i, rv, k2, fun w G' H' l1 gg gh kp gn sl nd hl rw' =>
    k w G' H' _ (r1.after hv' gg gh kp gn (k3 sl) nd hl) (q1.after gg kp gn fun a m => (hl a m).2) (s1'.trans gg) rw'⟩
theorem m_meth0 (i : Nat) {Fi : Addr → S → List D → Option (D × S)} {x : Str} {xpos : Pos} (lk : Lk X.K c C) (cl : Cls X.K C) (hm : Meth X.K C m f) (F : FnOk X.prog X.w X.K X.mg X.base CX0 k f fd ps (spI X.K Fi)) (hr : Room k X.A) (hb : Binds X.K fd ps []) (hno : m ∉ ns := by decide +kernel)
    (hN : X.N[i]? = some x := by rfl) (hv : Vis X.env.scope x := by first | exact Or.inl rfl | exact Or.inr (Or.inl rfl) | exact Or.inr (Or.inr rfl))
    (hd : (x == ("__debug__" : Str)) = false := by decide) (hcd : (x == ("__classdict__" : Str)) = false := by decide)
    (ht : eval (.Call (.Attribute (.Name x xpos) m apos) [] [] pos) X.env = (do
      let ov ← eval (.Name x xpos) X.env
      standAt apos.atName
      let (f, first) ← holding [ov] (getMethod ov m pl)
      callWith pos f first (backTo pos (starEach [] X.env)) (backToKw pos (keywordEach [] X.env))) := by rfl) :
    MV X (.Call (.Attribute (.Name x xpos) m apos) [] [] pos) (mMt i c ns (pur fun _ => some []) Fi) := by
  refine ⟨_, pe_meth0 (pe_var hN hv hd hcd) cl hm F hr hb .nil pass0 ht, fun c0 G H st env F' Q d env' r q e k => ?_⟩
  obtain ⟨z0, h0, e⟩ := Option.bind_eq_some_iff.mp e
  obtain ⟨xs, h0', e⟩ := Option.bind_eq_some_iff.mp e
  obtain ⟨⟨ds, e1⟩, h1, e⟩ := Option.bind_eq_some_iff.mp e
  cases h1
  obtain ⟨zz, h2, e⟩ := Option.bind_eq_some_iff.mp e
  obtain ⟨⟨z, s1⟩, h3, h4⟩ := Option.map_eq_some_iff.mp e
  cases h4
  obtain ⟨v, hv', sl0⟩ := r.slot i z0 (getS_some h0)
  obtain ⟨p, C', dx, vs, F0, rfl, g1, g2, g3, g4, g5, g6, _⟩ := slR_ob h0' sl0
  cases lk_one lk g2
  obtain ⟨v', h5, h6⟩ := r.slot i _ (getS_some h2)
  rw [hv'] at h5
  cases h5
  obtain ⟨s0, s2, k1, k2, k3⟩ := runI_ok h6 h3
  exact ⟨_, hv', p, dx, vs, rfl, g1, look_no (by rw [g4]; exact hno), G, p, [], s0, F' i, [], z, s2, r.sub, rfl, k1, r.nd i, r.off i, .nil, k2, fun w G' H' l1 gg gh kp gn sl nd hl rw' =>
    k w G' H' _ (r.after hv' gg gh kp gn (k3 sl) nd hl) (q.after gg kp gn fun a m => (hl a m).2) gg rw'⟩
@[simp] def sExM (m : Mo D) : VL.Env → Option Out := fun env => (m env).map fun x => .nx x.2
theorem s_exprM {fm : Mo D} (he : MV X e fm) (hs : swapsWith e none pos.line X.env = pure false := by rfl) : SV X (.Expr e pos) (sExM fm) := by
  obtain ⟨t, p, o⟩ := he.ex
  refine ⟨_, ps_expr p hs, fun c G H st env F E u r q e k => ?_⟩
  obtain ⟨⟨d, e'⟩, e1, e2⟩ := Option.map_eq_some_iff.mp e
  subst e2
  exact o c G H st env F _ d e' r q e1 fun v G' H' F' r' q' s' rv => k G' H' _ _ r' q'
/-! ### making -/
noncomputable def mkS (c : Str) (Fi : Addr → S → List D → Option (D × S)) (ds : List D) : Option S := (anyA Fi (.ob c [] []) ds).bind fun r => match r.1 with
  | .non => some r.2
  | _ => none
theorem mkS_ok {K : PySem.W.Frag} {G H : Hp} {Fi : Addr → S → List D → Option (D × S)} {ds : List D} {s : S} {ws : List V} {x dx : Addr} {Q : VK} {E : XK} (lk : Lk K c C) (sub : Same G H) (rv : RpL K G ws ds) (e : mkS c Fi ds = some s) (hx : H x = none) (hdx : H dx = none) (ne : dx ≠ x)
    (k : ∀ v G' H' l, Ex G H G' H' → SlR K G' H' v s l → l.Nodup → (∀ a ∈ l, H a = none ∧ G' a = none) → Q v H') :
    spI K Fi (.ref x :: ws) (L2.upd (L2.upd H dx (.own x)) x (.ins C dx [])) (fun v H2 => v = .non ∧ Q (.ref x) H2) E := by
  obtain ⟨⟨d, s1⟩, e1, e2⟩ := Option.bind_eq_some_iff.mp (show (anyA Fi (.ob c [] []) ds).bind _ = _ from e)
  cases d <;> try (cases e2; done)
  cases e2
  have up : ∀ b o, H b = some o → (L2.upd (L2.upd H dx (.own x)) x (.ins C dx [])) b = some o := fun b o z => by
    rw [upd_ne (by rintro rfl; rw [hx] at z; cases z), upd_ne (by rintro rfl; rw [hdx] at z; cases z)]
    exact z
  have dn : ∀ b, (L2.upd (L2.upd H dx (.own x)) x (.ins C dx [])) b = none → H b = none := fun b z => by
    cases q : H b with
    | none => rfl
    | some o => rw [up b o q] at z; cases z
  have gx : G x = none := sub.free hx
  refine ⟨G, x, ws, .ob c [] [], [x], ds, .non, s1, fun b o z => up b o (sub _ _ z), rfl, .ob upd_same lk .nil rfl .nil, by simp, fun a m => ?_, rv, anyA_all e1 x, fun v G' H' l1 gg gh kp gn sl nd hl rw' => ?_⟩
  · rw [List.mem_singleton.mp m]; exact gx
  · cases rw'
    refine ⟨rfl, k _ G' H' l1 ⟨fun b o z => kp b o (up b o z) fun m => ?_, gg, gh, fun b z => ?_⟩ sl nd fun a m => ⟨?_, (hl a m).1⟩⟩
    · rw [List.mem_singleton.mp m, hx] at z; cases z
    · rcases gn b z with h | h | h
      · exact .inl h
      · exact .inr (dn b h)
      · rw [List.mem_singleton.mp h]; exact .inr hx
    · rcases (hl a m).2 with h | h
      · rw [List.mem_singleton.mp h]; exact hx
      · exact dn a h
noncomputable def oMk (c : Str) (fs : VL.Env → Option (List D)) (Fi : Addr → S → List D → Option (D × S)) : VL.Env → Option S := fun env => (fs env).bind fun ds => mkS c Fi ds
theorem o_make {Fi : Addr → S → List D → Option (D × S)} {x : Str} {p : Pos} (lk : Lk X.K c C) (M : Mk X.K C f) (F : FnOk X.prog X.w X.K X.mg X.base CX0 k f fd ps (spI X.K Fi)) (hr : Room (k + 1) X.A) (hg : Gl X x) (hm : X.mg x = some (.ref C)) (hb : Binds X.K fd ps [])
    (ha : AV X (e :: es) fs) (hdb : (x == ("__debug__" : Str)) = false := by decide) (he : starEach (e :: es) X.env = (false, eval e X.env) :: starEach es X.env := by rfl) (hpl : (backTo pos (starEach es X.env)).any (·.1) = false := by rfl) :
    PO X (.Call (.Name x p) (e :: es) [] pos) (oMk c fs Fi) := by
  obtain ⟨t, pa, o⟩ := ha.ex
  refine ⟨_, pe_make M F hr hg hm hb .nil pass0 pa hdb he hpl, fun G H st env F' Q d r e k => ?_⟩
  obtain ⟨ds, e1, e2⟩ := Option.bind_eq_some_iff.mp (show (fs env).bind _ = _ from e)
  refine o G H st env F' _ _ r e1 fun vs G1 H1 x1 rv y dy hy hdy ne => ?_
  rw [List.append_nil]
  exact mkS_ok lk x1.gh rv e2 hy hdy ne fun v G' H' l x2 sl nd fr => k v G' H' l (x1.trans x2) sl nd fun a m => ⟨x1.hh.free (fr a m).1, (fr a m).2⟩
end
/-- a method's def -/
structure Dm (K : PySem.W.Frag) (x qual : Str) (st : Stmt) (ps : List Str) (f : Addr) (fd : FuncData) : Prop where
  F : Fun K x qual st f fd
  b : Binds K fd ps []
end VL

set_option Elab.async false
set_option linter.all false
set_option maxRecDepth 100000
/-! TL1: the typed layer: typed data, facts of slots, expressions. -/
namespace TL
open PySem PySem.Spec PyProof.Rows L2 VL
/-- typed data -/
class Ty (α : Type) where
  en : α → D
open Ty (en)
instance : Ty Int := ⟨D.int⟩
instance : Ty Bool := ⟨D.bl⟩
instance : Ty Str := ⟨D.str⟩
instance : Ty D := ⟨fun d => d⟩
instance : Ty Unit := ⟨fun _ => .non⟩
instance {α : Type} [Ty α] : Ty (List α) := ⟨fun xs => .lst (xs.map en)⟩
instance {α β : Type} [Ty α] [Ty β] : Ty (α × β) := ⟨fun p => .tup [en p.1, en p.2]⟩
instance {α : Type} [Ty α] : Ty (Option α) := ⟨fun o => match o with | none => .non | some a => en a⟩
structure T1 (α : Type) where
  a : α
  deriving DecidableEq, Repr
structure T3 (α β γ : Type) where
  a : α
  b : β
  c : γ
  deriving DecidableEq, Repr
structure T4 (α β γ δ : Type) where
  a : α
  b : β
  c : γ
  d : δ
  deriving DecidableEq, Repr
structure T5 (α β γ δ ε : Type) where
  a : α
  b : β
  c : γ
  d : δ
  e : ε
  deriving DecidableEq, Repr
/-- a tuple of any length -/
structure Tup (α : Type) where
  l : List α
  deriving DecidableEq, Repr
/-- a dict; k: keys are tuples -/
structure Dc (κ υ : Type) where
  l : List (κ × υ)
  deriving DecidableEq, Repr
instance {α : Type} [Ty α] : Ty (T1 α) := ⟨fun p => .tup [en p.a]⟩
instance {α β γ : Type} [Ty α] [Ty β] [Ty γ] : Ty (T3 α β γ) := ⟨fun p => .tup [en p.a, en p.b, en p.c]⟩
instance {α β γ δ : Type} [Ty α] [Ty β] [Ty γ] [Ty δ] : Ty (T4 α β γ δ) := ⟨fun p => .tup [en p.a, en p.b, en p.c, en p.d]⟩
instance {α β γ δ ε : Type} [Ty α] [Ty β] [Ty γ] [Ty δ] [Ty ε] : Ty (T5 α β γ δ ε) := ⟨fun p => .tup [en p.a, en p.b, en p.c, en p.d, en p.e]⟩
instance {α : Type} [Ty α] : Ty (Tup α) := ⟨fun p => .tup (p.l.map en)⟩
/-! ### equality -/
class TyEq (α : Type) [Ty α] [DecidableEq α] where
  eq : ∀ a b : α, eqD (en a) (en b) = decide (a = b)
  pl : ∀ a : α, (en a).plain = true
  n : Nat
  dp : ∀ a : α, (en a).dep ≤ n
/-- never None -/
class NonN (α : Type) [Ty α] : Prop where
  nn : ∀ a : α, en a ≠ .non
instance : NonN Int := ⟨fun a h => by cases h⟩
instance : NonN Bool := ⟨fun a h => by cases h⟩
instance : NonN Str := ⟨fun a h => by cases h⟩
instance {α : Type} [Ty α] : NonN (List α) := ⟨fun a h => by cases h⟩
instance {α β : Type} [Ty α] [Ty β] : NonN (α × β) := ⟨fun a h => by cases h⟩
instance {α : Type} [Ty α] : NonN (T1 α) := ⟨fun a h => by cases h⟩
instance {α β γ : Type} [Ty α] [Ty β] [Ty γ] : NonN (T3 α β γ) := ⟨fun a h => by cases h⟩
instance {α β γ δ : Type} [Ty α] [Ty β] [Ty γ] [Ty δ] : NonN (T4 α β γ δ) := ⟨fun a h => by cases h⟩
instance {α β γ δ ε : Type} [Ty α] [Ty β] [Ty γ] [Ty δ] [Ty ε] : NonN (T5 α β γ δ ε) := ⟨fun a h => by cases h⟩
instance {α : Type} [Ty α] : NonN (Tup α) := ⟨fun a h => by cases h⟩
instance : TyEq Int := ⟨fun a b => by show PyData.eqv (.int a) (.int b) = _; simp only [PyData.eqv]; by_cases h : a = b <;> simp [h], fun _ => rfl, 0, fun _ => Nat.le_refl _⟩
instance : TyEq Bool := ⟨fun a b => by cases a <;> cases b <;> rfl, fun _ => rfl, 0, fun _ => Nat.le_refl _⟩
instance : TyEq Str := ⟨fun a b => by show PyData.eqv (.str a) (.str b) = _; simp only [PyData.eqv]; by_cases h : a = b <;> simp [h], fun _ => rfl, 0, fun _ => Nat.le_refl _⟩
theorem plainL_iff : ∀ {xs : List D}, D.plainL xs = true ↔ ∀ x ∈ xs, x.plain = true
  | [] => by simp [D.plainL]
  | x :: xs => by simp [D.plainL, plainL_iff (xs := xs)]
theorem eqL_map {α : Type} [Ty α] [DecidableEq α] [TyEq α] : ∀ xs ys : List α, PyData.eqvAll (D.pyL (xs.map en)) (D.pyL (ys.map en)) = decide (xs = ys)
  | [], [] => by simp [D.pyL, PyData.eqvAll]
  | [], _ :: _ => by simp [D.pyL, PyData.eqvAll]
  | _ :: _, [] => by simp [D.pyL, PyData.eqvAll]
  | x :: xs, y :: ys => by
    have h : PyData.eqv (en x).py (en y).py = decide (x = y) := TyEq.eq x y
    simp only [List.map_cons, D.pyL, PyData.eqvAll, h, eqL_map xs ys, List.cons.injEq, Bool.decide_and]
theorem pl_map {α : Type} [Ty α] [DecidableEq α] [TyEq α] (xs : List α) : D.plainL (xs.map en) = true := plainL_iff.mpr fun x m => by
  obtain ⟨a, _, rfl⟩ := List.mem_map.mp m
  exact TyEq.pl a
theorem dp_map {α : Type} [Ty α] [DecidableEq α] [TyEq α] (xs : List α) : D.depL (xs.map en) ≤ TyEq.n α := D.depL_le.mpr fun x m => by
  obtain ⟨a, _, rfl⟩ := List.mem_map.mp m
  exact TyEq.dp a
instance {α : Type} [Ty α] [DecidableEq α] [TyEq α] : TyEq (List α) where
  eq xs ys := by
    show PyData.eqv (.list _) (.list _) = _
    rw [PyData.eqv]
    exact eqL_map xs ys
  pl xs := pl_map xs
  n := TyEq.n α + 1
  dp xs := by
    show D.depL _ + 1 ≤ _
    have := dp_map xs
    omega
instance {α : Type} [Ty α] [DecidableEq α] [TyEq α] : TyEq (Tup α) where
  eq xs ys := by
    show PyData.eqv (.tuple _) (.tuple _) = _
    rw [PyData.eqv]
    refine (eqL_map xs.l ys.l).trans ?_
    cases xs; cases ys
    simp
  pl xs := pl_map xs.l
  n := TyEq.n α + 1
  dp xs := by
    show D.depL _ + 1 ≤ _
    have := dp_map xs.l
    omega
section
variable {α β γ δ ε : Type} [Ty α] [DecidableEq α] [TyEq α] [Ty β] [DecidableEq β] [TyEq β] [Ty γ] [DecidableEq γ] [TyEq γ] [Ty δ] [DecidableEq δ] [TyEq δ] [Ty ε] [DecidableEq ε] [TyEq ε]
theorem eqv_en (a b : α) : PyData.eqv (en a).py (en b).py = decide (a = b) := TyEq.eq a b
instance : TyEq (T1 α) where
  eq p q := by
    show PyData.eqv (.tuple _) (.tuple _) = _
    cases p; cases q
    simp only [PyData.eqv, D.pyL, PyData.eqvAll, eqv_en, Bool.and_true, T1.mk.injEq]
  pl p := by
    show D.plainL [_] = true
    simp only [D.plainL, TyEq.pl, Bool.and_self]
  n := TyEq.n α + 1
  dp p := by
    show D.depL [_] + 1 ≤ _
    have h1 := TyEq.dp p.a
    simp only [D.depL]
    omega
instance : TyEq (α × β) where
  eq p q := by
    show PyData.eqv (.tuple _) (.tuple _) = _
    cases p; cases q
    simp only [PyData.eqv, D.pyL, PyData.eqvAll, eqv_en, Bool.and_true, Prod.mk.injEq, Bool.decide_and]
  pl p := by
    show D.plainL [_, _] = true
    simp only [D.plainL, TyEq.pl, Bool.and_self]
  n := max (TyEq.n α) (TyEq.n β) + 1
  dp p := by
    show D.depL [_, _] + 1 ≤ _
    have h1 := TyEq.dp p.1
    have h2 := TyEq.dp p.2
    simp only [D.depL]
    omega
instance : TyEq (T3 α β γ) where
  eq p q := by
    show PyData.eqv (.tuple _) (.tuple _) = _
    cases p; cases q
    simp only [PyData.eqv, D.pyL, PyData.eqvAll, eqv_en, Bool.and_true, T3.mk.injEq, Bool.decide_and]
  pl p := by
    show D.plainL [_, _, _] = true
    simp only [D.plainL, TyEq.pl, Bool.and_self]
  n := max (TyEq.n α) (max (TyEq.n β) (TyEq.n γ)) + 1
  dp p := by
    show D.depL [_, _, _] + 1 ≤ _
    have h1 := TyEq.dp p.a
    have h2 := TyEq.dp p.b
    have h3 := TyEq.dp p.c
    simp only [D.depL]
    omega
instance : TyEq (T4 α β γ δ) where
  eq p q := by
    show PyData.eqv (.tuple _) (.tuple _) = _
    cases p; cases q
    simp only [PyData.eqv, D.pyL, PyData.eqvAll, eqv_en, Bool.and_true, T4.mk.injEq, Bool.decide_and]
  pl p := by
    show D.plainL [_, _, _, _] = true
    simp only [D.plainL, TyEq.pl, Bool.and_self]
  n := max (max (TyEq.n α) (TyEq.n δ)) (max (TyEq.n β) (TyEq.n γ)) + 1
  dp p := by
    show D.depL [_, _, _, _] + 1 ≤ _
    have h1 := TyEq.dp p.a
    have h2 := TyEq.dp p.b
    have h3 := TyEq.dp p.c
    have h4 := TyEq.dp p.d
    simp only [D.depL]
    omega
instance : TyEq (T5 α β γ δ ε) where
  eq p q := by
    show PyData.eqv (.tuple _) (.tuple _) = _
    cases p; cases q
    simp only [PyData.eqv, D.pyL, PyData.eqvAll, eqv_en, Bool.and_true, T5.mk.injEq, Bool.decide_and]
  pl p := by
    show D.plainL [_, _, _, _, _] = true
    simp only [D.plainL, TyEq.pl, Bool.and_self]
  n := max (max (TyEq.n α) (max (TyEq.n δ) (TyEq.n ε))) (max (TyEq.n β) (TyEq.n γ)) + 1
  dp p := by
    show D.depL [_, _, _, _, _] + 1 ≤ _
    have h1 := TyEq.dp p.a
    have h2 := TyEq.dp p.b
    have h3 := TyEq.dp p.c
    have h4 := TyEq.dp p.d
    have h5 := TyEq.dp p.e
    simp only [D.depL]
    omega
theorem py_non {d : D} (p : d.plain = true) (h : d ≠ .non) : PyData.eqv .none d.py = false ∧ PyData.eqv d.py .none = false := by
  cases d with
  | non => exact absurd rfl h
  | dic _ _ => cases p
  | obj _ _ _ => cases p
  | hid => cases p
  | _ => exact ⟨by simp [D.py, PyData.eqv], by simp [D.py, PyData.eqv]⟩
instance [NonN α] : TyEq (Option α) where
  eq p q := by
    cases p with
    | none => cases q with
      | none => rfl
      | some b => exact ((py_non (TyEq.pl b) (NonN.nn b)).1).trans (by simp)
    | some a => cases q with
      | none => exact ((py_non (TyEq.pl a) (NonN.nn a)).2).trans (by simp)
      | some b => exact (TyEq.eq a b).trans (by simp)
  pl p := by
    cases p with
    | none => rfl
    | some a => exact TyEq.pl a
  n := TyEq.n α
  dp p := by
    cases p with
    | none => exact Nat.zero_le _
    | some a => exact TyEq.dp a
theorem cmpOk_en (a b : α) (h : TyEq.n α ≤ 40) : cmpOk (en a) (en b) = true := by
  unfold cmpOk
  rw [TyEq.pl a, TyEq.pl b, D.dep_py, D.dep_py]
  have h1 := TyEq.dp a
  simp only [Bool.and_self, Bool.true_and, decide_eq_true_eq]
  omega
theorem dEq_en (a b : α) (h : TyEq.n α ≤ 40) : dEq (en a) (en b) = some (.bl (decide (a = b))) := by
  unfold dEq
  rw [if_pos (cmpOk_en a b h), TyEq.eq]
theorem dNe_en (a b : α) (h : TyEq.n α ≤ 40) : dNe (en a) (en b) = some (.bl (!decide (a = b))) := by
  unfold dNe
  rw [if_pos (cmpOk_en a b h), TyEq.eq]
theorem inD_en (a : α) (xs : List α) : inD (en a) (xs.map en) = decide (a ∈ xs) := by
  unfold inD
  rw [Bool.eq_iff_iff, List.any_eq_true, decide_eq_true_eq]
  constructor
  · rintro ⟨x, m, e⟩
    obtain ⟨b, m', rfl⟩ := List.mem_map.mp m
    rw [TyEq.eq, decide_eq_true_eq] at e
    rw [← e]; exact m'
  · intro m
    exact ⟨en a, List.mem_map.mpr ⟨a, m, rfl⟩, by rw [TyEq.eq]; simp⟩
theorem inOk_en (a : α) (xs : List α) (h : TyEq.n α ≤ 40) : inOk (en a) (xs.map en) = true := by
  unfold inOk
  rw [TyEq.pl a, pl_map xs, D.dep_py, D.depL_py]
  have h1 := TyEq.dp a
  simp only [Bool.and_self, Bool.true_and, decide_eq_true_eq]
  omega
end
/-! ### order -/
class TyOrd (α : Type) [Ty α] [DecidableEq α] extends TyEq α where
  lt : α → α → Bool
  ltOk : ∀ a b : α, ltD (en a) (en b) = lt a b
  al : ∀ a b : α, PySem.W.alike (en a).py (en b).py = true
  ks : (∀ a : α, (en a).key = true) ∨ (∀ a : α, (en a).noKey = true)
  nn : ∀ a : α, en a ≠ .non
instance : TyOrd Int where
  lt a b := decide (a < b)
  ltOk a b := PySem.W.dataLt_int a b
  al a b := by show PySem.W.alike (.int a) (.int b) = true; simp [PySem.W.alike]
  ks := .inr fun _ => rfl
  nn a h := by cases h
instance : TyOrd Str where
  lt a b := decide (a.cps.toList < b.cps.toList)
  ltOk a b := PySem.W.dataLt_str a b
  al a b := by show PySem.W.alike (.str a) (.str b) = true; simp [PySem.W.alike]
  ks := .inr fun _ => rfl
  nn a h := by cases h
section
variable {α β γ δ : Type} [Ty α] [DecidableEq α] [TyOrd α] [Ty β] [DecidableEq β] [TyOrd β] [Ty γ] [DecidableEq γ] [TyOrd γ] [Ty δ] [DecidableEq δ] [TyOrd δ]
/-- x < y, if the rest y else -/
def ltThen (a b : α) (r : Bool) : Bool := if a = b then r else TyOrd.lt a b
theorem lex_cons (a b : α) (xs ys : List PyData) : PyProof.Rows.lexLt PyProof.Rows.itemOrd (PySem.W.keyToksAll ((en a).py :: xs)) (PySem.W.keyToksAll ((en b).py :: ys)) = ltThen a b (PyProof.Rows.lexLt PyProof.Rows.itemOrd (PySem.W.keyToksAll xs) (PySem.W.keyToksAll ys)) := by
  rw [PySem.W.dataLt_cons (TyOrd.al a b), eqv_en]
  unfold ltThen
  by_cases c : a = b
  · rw [if_pos (decide_eq_true c), if_pos c]
  · rw [if_neg (by simpa using c), if_neg c]
    exact TyOrd.ltOk a b
theorem lex_nil : PyProof.Rows.lexLt PyProof.Rows.itemOrd (PySem.W.keyToksAll []) (PySem.W.keyToksAll []) = false := rfl
instance : TyOrd (T1 α) where
  lt p q := ltThen p.a q.a false
  ltOk p q := by
    show PySem.W.dataLt (.tuple [_]) (.tuple [_]) = _
    rw [PySem.W.dataLt_tuple, lex_cons, lex_nil]
  al p q := by
    show PySem.W.alike (.tuple [(en p.a).py]) (.tuple [(en q.a).py]) = true
    simp [PySem.W.alike, PySem.W.alikeAll, TyOrd.al]
  ks := .inl fun _ => rfl
  nn p h := by cases h
instance : TyOrd (α × β) where
  lt p q := ltThen p.1 q.1 (ltThen p.2 q.2 false)
  ltOk p q := by
    show PySem.W.dataLt (.tuple [_, _]) (.tuple [_, _]) = _
    rw [PySem.W.dataLt_tuple, lex_cons, lex_cons, lex_nil]
  al p q := by
    show PySem.W.alike (.tuple [(en p.1).py, (en p.2).py]) (.tuple [(en q.1).py, (en q.2).py]) = true
    simp [PySem.W.alike, PySem.W.alikeAll, TyOrd.al]
  ks := .inl fun _ => rfl
  nn p h := by cases h
instance : TyOrd (T3 α β γ) where
  lt p q := ltThen p.a q.a (ltThen p.b q.b (ltThen p.c q.c false))
  ltOk p q := by
    show PySem.W.dataLt (.tuple [_, _, _]) (.tuple [_, _, _]) = _
    rw [PySem.W.dataLt_tuple, lex_cons, lex_cons, lex_cons, lex_nil]
  al p q := by
    show PySem.W.alike (.tuple [(en p.a).py, (en p.b).py, (en p.c).py]) (.tuple [(en q.a).py, (en q.b).py, (en q.c).py]) = true
    simp [PySem.W.alike, PySem.W.alikeAll, TyOrd.al]
  ks := .inl fun _ => rfl
  nn p h := by cases h
instance : TyOrd (T4 α β γ δ) where
  lt p q := ltThen p.a q.a (ltThen p.b q.b (ltThen p.c q.c (ltThen p.d q.d false)))
  ltOk p q := by
    show PySem.W.dataLt (.tuple [_, _, _, _]) (.tuple [_, _, _, _]) = _
    rw [PySem.W.dataLt_tuple, lex_cons, lex_cons, lex_cons, lex_cons, lex_nil]
  al p q := by
    show PySem.W.alike (.tuple [(en p.a).py, (en p.b).py, (en p.c).py, (en p.d).py]) (.tuple [(en q.a).py, (en q.b).py, (en q.c).py, (en q.d).py]) = true
    simp [PySem.W.alike, PySem.W.alikeAll, TyOrd.al]
  ks := .inl fun _ => rfl
  nn p h := by cases h
def ltL : List α → List α → Bool
  | [], [] => false
  | [], _ :: _ => true
  | _ :: _, [] => false
  | x :: xs, y :: ys => ltThen x y (ltL xs ys)
theorem lex_map : ∀ xs ys : List α, PyProof.Rows.lexLt PyProof.Rows.itemOrd (PySem.W.keyToksAll (D.pyL (xs.map en))) (PySem.W.keyToksAll (D.pyL (ys.map en))) = ltL xs ys
  | [], [] => rfl
  | [], _ :: _ => rfl
  | _ :: _, [] => rfl
  | x :: xs, y :: ys => by
    show PyProof.Rows.lexLt PyProof.Rows.itemOrd (PySem.W.keyToksAll ((en x).py :: D.pyL (xs.map en))) (PySem.W.keyToksAll ((en y).py :: D.pyL (ys.map en))) = _
    rw [lex_cons, lex_map xs ys]; rfl
theorem al_map : ∀ xs ys : List α, PySem.W.alikeAll (D.pyL (xs.map en)) (D.pyL (ys.map en)) = true
  | [], [] => by simp [D.pyL, PySem.W.alikeAll]
  | [], _ :: _ => by simp [D.pyL, PySem.W.alikeAll]
  | _ :: _, [] => by simp [D.pyL, PySem.W.alikeAll]
  | x :: xs, y :: ys => by
    have := al_map xs ys
    simp only [List.map_cons, D.pyL, PySem.W.alikeAll, TyOrd.al, this, Bool.and_self]
instance : TyOrd (List α) where
  lt := ltL
  ltOk p q := by
    show PySem.W.dataLt (.list _) (.list _) = _
    rw [PySem.W.dataLt_list]
    exact lex_map p q
  al p q := by
    show PySem.W.alike (.list _) (.list _) = true
    rw [PySem.W.alike]
    exact al_map p q
  ks := .inr fun _ => rfl
  nn p h := by cases h
/-! sorted, min, max -/
def leT (a b : α) : Bool := !TyOrd.lt b a
theorem leT_eq (a b : α) : leD (en a) (en b) = leT a b := by
  rw [leD_eq, TyOrd.ltOk]; rfl
theorem leT_trans (a b c : α) (h : leT a b = true) (k : leT b c = true) : leT a c = true := by
  rw [← leT_eq] at h k ⊢
  exact leD_tot.trans _ _ _ h k
theorem leT_total (a b : α) : leT a b = true ∨ leT b a = true := by
  rw [← leT_eq, ← leT_eq]
  exact leD_tot.total _ _
def sortT (xs : List α) : List α := xs.mergeSort leT
theorem sortT_perm (xs : List α) : (sortT xs).Perm xs := List.mergeSort_perm _ _
theorem sortT_sorted (xs : List α) : (sortT xs).Pairwise fun a b => leT a b = true := List.pairwise_mergeSort leT_trans (fun a b => by rw [Bool.or_eq_true]; exact leT_total a b) xs
theorem alikeL_en (xs : List α) (h : TyEq.n α ≤ 40) : alikeL (xs.map en) = true := by
  unfold alikeL
  rw [List.all_eq_true]
  intro d m
  obtain ⟨a, _, rfl⟩ := List.mem_map.mp m
  simp only [Bool.and_eq_true, decide_eq_true_eq]
  refine ⟨⟨TyEq.pl a, Nat.le_trans (TyEq.dp a) h⟩, ?_⟩
  rw [List.all_eq_true]
  intro e m'
  obtain ⟨b, _, rfl⟩ := List.mem_map.mp m'
  exact TyOrd.al a b
theorem sortOk_en (xs : List α) (h : TyEq.n α ≤ 40) (hl : xs.length ≤ sizeLine) : sortOk (xs.map en) = true := by
  unfold sortOk
  rw [alikeL_en xs h, List.length_map, Bool.true_and, Bool.and_eq_true, Bool.or_eq_true]
  refine ⟨?_, decide_eq_true hl⟩
  rcases (TyOrd.ks : (∀ a : α, (en a).key = true) ∨ (∀ a : α, (en a).noKey = true)) with k | k
  · refine .inl (List.all_eq_true.mpr fun d m => ?_)
    obtain ⟨a, _, rfl⟩ := List.mem_map.mp m
    exact k a
  · refine .inr (List.all_eq_true.mpr fun d m => ?_)
    obtain ⟨a, _, rfl⟩ := List.mem_map.mp m
    exact k a
theorem sortD_en (xs : List α) : sortD (xs.map en) = (sortT xs).map en := by
  unfold sortD sortT
  rw [List.map_mergeSort (s := leD)]
  intro a _ b _
  exact (leT_eq a b).symm
theorem bestOk_en (xs : List α) (h : TyEq.n α ≤ 40) : bestOk (xs.map en) = true := by
  unfold bestOk
  rw [alikeL_en xs h, Bool.true_and, List.all_eq_true]
  intro d m
  obtain ⟨a, _, rfl⟩ := List.mem_map.mp m
  have := TyOrd.nn a
  split
  · rename_i e; exact absurd e this
  · rfl
def minT1 (x : α) (xs : List α) : α := xs.foldl (fun a y => if TyOrd.lt y a = true then y else a) x
def maxT1 (x : α) (xs : List α) : α := xs.foldl (fun a y => if TyOrd.lt a y = true then y else a) x
theorem minDD_en : ∀ (xs : List α) (x : α), minDD (en x) (xs.map en) = en (minT1 x xs)
  | [], x => rfl
  | y :: ys, x => by
    show minDD (if ltD (en y) (en x) = true then en y else en x) (ys.map en) = _
    have : (if ltD (en y) (en x) = true then en y else en x) = en (if TyOrd.lt y x = true then y else x) := by
      rw [TyOrd.ltOk]; split <;> rfl
    rw [this, minDD_en ys]; rfl
theorem maxDD_en : ∀ (xs : List α) (x : α), maxDD (en x) (xs.map en) = en (maxT1 x xs)
  | [], x => rfl
  | y :: ys, x => by
    show maxDD (if ltD (en x) (en y) = true then en y else en x) (ys.map en) = _
    have : (if ltD (en x) (en y) = true then en y else en x) = en (if TyOrd.lt x y = true then y else x) := by
      rw [TyOrd.ltOk]; split <;> rfl
    rw [this, maxDD_en ys]; rfl
/-- min, max of a list -/
def minT : List α → Option α
  | [] => none
  | x :: xs => some (minT1 x xs)
def maxT : List α → Option α
  | [] => none
  | x :: xs => some (maxT1 x xs)
theorem ltT_irrefl (a : α) : TyOrd.lt a a = false := by rw [← TyOrd.ltOk]; exact ltD_irrefl _
theorem minT1_mem : ∀ (xs : List α) (x : α), minT1 x xs ∈ x :: xs
  | [], x => List.mem_cons_self ..
  | y :: ys, x => by
    have ih := minT1_mem ys (if TyOrd.lt y x = true then y else x)
    show minT1 (if TyOrd.lt y x = true then y else x) ys ∈ _
    rcases List.mem_cons.mp ih with h | h
    · rw [h]; split <;> simp
    · simp [h]
theorem maxT1_mem : ∀ (xs : List α) (x : α), maxT1 x xs ∈ x :: xs
  | [], x => List.mem_cons_self ..
  | y :: ys, x => by
    have ih := maxT1_mem ys (if TyOrd.lt x y = true then y else x)
    show maxT1 (if TyOrd.lt x y = true then y else x) ys ∈ _
    rcases List.mem_cons.mp ih with h | h
    · rw [h]; split <;> simp
    · simp [h]
theorem minT1_le (xs : List α) (x : α) : ∀ y ∈ x :: xs, leT (minT1 x xs) y = true := by
  obtain ⟨k1, k2⟩ := minDD_le (xs.map en) (en x)
  rw [minDD_en] at k1 k2
  intro y hy
  rw [← leT_eq, leD_eq]
  rcases List.mem_cons.mp hy with rfl | hy
  · rw [k1]; rfl
  · rw [k2 _ (List.mem_map.mpr ⟨y, hy, rfl⟩)]; rfl
theorem maxT1_ge (xs : List α) (x : α) : ∀ y ∈ x :: xs, leT y (maxT1 x xs) = true := by
  obtain ⟨k1, k2⟩ := maxDD_ge (xs.map en) (en x)
  rw [maxDD_en] at k1 k2
  intro y hy
  rw [← leT_eq, leD_eq]
  rcases List.mem_cons.mp hy with rfl | hy
  · rw [k1]; rfl
  · rw [k2 _ (List.mem_map.mpr ⟨y, hy, rfl⟩)]; rfl
theorem minT_some {xs : List α} {m : α} (h : minT xs = some m) : m ∈ xs ∧ ∀ y ∈ xs, leT m y = true := by
  cases xs with
  | nil => cases h
  | cons x xs => cases h; exact ⟨minT1_mem xs x, minT1_le xs x⟩
theorem maxT_some {xs : List α} {m : α} (h : maxT xs = some m) : m ∈ xs ∧ ∀ y ∈ xs, leT y m = true := by
  cases xs with
  | nil => cases h
  | cons x xs => cases h; exact ⟨maxT1_mem xs x, maxT1_ge xs x⟩
theorem minT_ne {xs : List α} (h : xs ≠ []) : ∃ m, minT xs = some m := by
  cases xs with
  | nil => exact absurd rfl h
  | cons x xs => exact ⟨_, rfl⟩
theorem maxT_ne {xs : List α} (h : xs ≠ []) : ∃ m, maxT xs = some m := by
  cases xs with
  | nil => exact absurd rfl h
  | cons x xs => exact ⟨_, rfl⟩
theorem dMinA_en {xs : List α} (h : TyEq.n α ≤ 40) {m : α} (e : minT xs = some m) : dMinA [.lst (xs.map en)] = some (en m) := by
  cases xs with
  | nil => cases e
  | cons x xs =>
    cases e
    refine (if_pos (bestOk_en (x :: xs) h)).trans ?_
    rw [minDD_en]
theorem dMaxA_en {xs : List α} (h : TyEq.n α ≤ 40) {m : α} (e : maxT xs = some m) : dMaxA [.lst (xs.map en)] = some (en m) := by
  cases xs with
  | nil => cases e
  | cons x xs =>
    cases e
    refine (if_pos (bestOk_en (x :: xs) h)).trans ?_
    rw [maxDD_en]
theorem dMinA_enT {xs : List α} (h : TyEq.n α ≤ 40) {m : α} (e : minT xs = some m) : dMinA [.tup (xs.map en)] = some (en m) := by
  cases xs with
  | nil => cases e
  | cons x xs =>
    cases e
    refine (if_pos (bestOk_en (x :: xs) h)).trans ?_
    rw [minDD_en]
theorem dMaxA_enT {xs : List α} (h : TyEq.n α ≤ 40) {m : α} (e : maxT xs = some m) : dMaxA [.tup (xs.map en)] = some (en m) := by
  cases xs with
  | nil => cases e
  | cons x xs =>
    cases e
    refine (if_pos (bestOk_en (x :: xs) h)).trans ?_
    rw [maxDD_en]
end
@[simp] theorem leT_int (a b : Int) : leT a b = decide (a ≤ b) := by
  show (!decide (b < a)) = _
  by_cases h : a ≤ b
  · rw [decide_eq_true h, decide_eq_false (by omega)]; rfl
  · rw [decide_eq_false h, decide_eq_true (by omega)]; rfl
end TL

set_option Elab.async false
set_option linter.all false
set_option maxRecDepth 100000
/-! TL2: what is known of the slots; expressions. -/
namespace TL
open PySem PySem.Spec PyProof.Rows L2 VL
open Ty (en)
abbrev Fs := List (Option S)
def Sat (φ : Fs) (env : VL.Env) : Prop := env.length = φ.length ∧ ∀ (i : Nat) (s : S), φ[i]? = some (some s) → env[i]? = some (some s)
theorem Sat.set {φ : Fs} {env : VL.Env} (h : Sat φ env) (i : Nat) (s : S) : Sat (φ.set i (some s)) (env.set i (some s)) := by
  refine ⟨by rw [List.length_set, List.length_set, h.1], fun j t e => ?_⟩
  rcases get_set e with ⟨rfl, hl, q⟩ | ⟨n, q⟩
  · cases q
    rw [List.getElem?_set_self (by rw [h.1]; exact hl)]
  · rw [List.getElem?_set_ne (by omega)]
    exact h.2 j t q
theorem Sat.drop {φ : Fs} {env : VL.Env} (h : Sat φ env) (i : Nat) (x : Option S) : Sat (φ.set i none) (env.set i x) := by
  refine ⟨by rw [List.length_set, List.length_set, h.1], fun j t e => ?_⟩
  rcases get_set e with ⟨rfl, hl, q⟩ | ⟨n, q⟩
  · cases q
  · rw [List.getElem?_set_ne (by omega)]
    exact h.2 j t q
def wipeF (φ : Fs) : List Nat → Fs
  | [] => φ
  | v :: vs => (wipeF φ vs).set v none
theorem Sat.wipe {φ : Fs} {env : VL.Env} (h : Sat φ env) : ∀ vs : List Nat, Sat (wipeF φ vs) (wipeE env vs)
  | [] => h
  | v :: vs => (Sat.wipe h vs).drop v none
/-- what is less known -/
inductive Le : Fs → Fs → Prop
  | nil : Le [] []
  | n {φ ψ : Fs} {x : Option S} : Le φ ψ → Le (x :: φ) (none :: ψ)
  | s {φ ψ : Fs} {x : Option S} : Le φ ψ → Le (x :: φ) (x :: ψ)
theorem Le.len : ∀ {φ ψ : Fs}, Le φ ψ → φ.length = ψ.length
  | _, _, .nil => rfl
  | _, _, .n h => by rw [List.length_cons, List.length_cons, h.len]
  | _, _, .s h => by rw [List.length_cons, List.length_cons, h.len]
theorem Le.get : ∀ {φ ψ : Fs}, Le φ ψ → ∀ (i : Nat) (t : S), ψ[i]? = some (some t) → φ[i]? = some (some t)
  | _, _, .nil, i  , t, e => by simp at e
  | _, _, .n h, 0  , t, e => by simp at e
  | _, _, .n h, i + 1  , t, e => by
    rw [List.getElem?_cons_succ] at e ⊢
    exact Le.get h i t e
  | _, _, .s h, 0  , t, e => e
  | _, _, .s h, i + 1  , t, e => by
    rw [List.getElem?_cons_succ] at e ⊢
    exact Le.get h i t e
theorem Le.sat {φ ψ : Fs} (h : Le φ ψ) {env : VL.Env} (k : Sat φ env) : Sat ψ env := ⟨k.1.trans h.len, fun i t e => k.2 i t (h.get i t e)⟩
theorem Le.refl : ∀ φ : Fs, Le φ φ
  | [] => .nil
  | _ :: φ => .s (Le.refl φ)
theorem Sat.fz {φ : Fs} {env : VL.Env} (h : Sat φ env) {i : Nat} {d : D} (e : φ[i]? = some (some (.fz d))) : getF env i = some d := by
  unfold getF
  rw [h.2 i _ e]
theorem Sat.gs {φ : Fs} {env : VL.Env} (h : Sat φ env) {i : Nat} {s : S} (e : φ[i]? = some (some s)) : getS env i = some s := by
  unfold getS
  rw [h.2 i _ e]
theorem Sat.gw {φ : Fs} {env : VL.Env} (h : Sat φ env) {i : Nat} {s : S} {d : D} (e : φ[i]? = some (some s)) (k : frS s = some d) : getW env i = some d := by
  unfold getW
  rw [h.2 i _ e]
  exact k
/-! ### what is owned -/
def olE {α : Type} [Ty α] (xs : List α) : S := .ol ((xs.map en).map S.fz)
def fzE {α : Type} [Ty α] (a : α) : S := .fz (en a)
@[simp] theorem frS_olE {α : Type} [Ty α] (xs : List α) : frS (olE xs) = some (en xs) := frS_ol _
@[simp] theorem frS_fzE {α : Type} [Ty α] (a : α) : frS (fzE a) = some (en a) := rfl
@[simp] theorem olOf_olE {α : Type} [Ty α] (xs : List α) : olOf (olE xs) = some (xs.map en) := olOf_ol _
/-! ### judgements -/
/-- f is worth R v -/
def GJ {T τ : Type} (φ : Fs) (R : τ → T) (f : VL.Env → Option T) (v : τ) : Prop := ∀ env, Sat φ env → f env = some (R v)
/-- f is worth R of what o is, if it is -/
def GO {T τ : Type} (φ : Fs) (R : τ → T) (f : VL.Env → Option T) (o : Option τ) : Prop := ∀ env, Sat φ env → ∀ v, o = some v → f env = some (R v)
abbrev EV {α : Type} [Ty α] (φ : Fs) (f : VL.Env → Option D) (v : α) : Prop := GJ φ en f v
abbrev EO {α : Type} [Ty α] (φ : Fs) (f : VL.Env → Option D) (o : Option α) : Prop := GO φ en f o
abbrev EB (φ : Fs) (f : VL.Env → Option Bool) (b : Bool) : Prop := GJ φ (fun b => b) f b
abbrev EBo (φ : Fs) (f : VL.Env → Option Bool) (o : Option Bool) : Prop := GO φ (fun b => b) f o
abbrev EL {α : Type} [Ty α] (φ : Fs) (f : VL.Env → Option (List D)) (xs : List α) : Prop := GJ φ (List.map en) f xs
abbrev ELo {α : Type} [Ty α] (φ : Fs) (f : VL.Env → Option (List D)) (o : Option (List α)) : Prop := GO φ (List.map en) f o
abbrev EA (φ : Fs) (f : VL.Env → Option (List D)) (ds : List D) : Prop := GJ φ (fun ds => ds) f ds
theorem GJ.o {T τ : Type} {φ : Fs} {R : τ → T} {f : VL.Env → Option T} {v : τ} (h : GJ φ R f v) : GO φ R f (some v) := fun env s w e => by cases e; exact h env s
theorem g_bind {T τ T' τ' : Type} {φ : Fs} {R : τ → T} {R' : τ' → T'} {f : VL.Env → Option T} {g : VL.Env → Option T'} {o : Option τ'} {k : τ' → Option τ} (hg : GO φ R' g o) (h : ∀ v, GJ φ R' g v → GO φ R f (k v)) : GO φ R f (o.bind k) := fun env s v e => by
  obtain ⟨x, e1, e2⟩ := Option.bind_eq_some_iff.mp e
  exact h x (fun env' s' => hg env' s' x e1) env s v e2
section
variable {α β γ δ ε ρ : Type} [Ty α] [Ty β] [Ty γ] [Ty δ] [Ty ε] [Ty ρ]
variable {φ : Fs} {f g h : VL.Env → Option D} {a : α} {b : β} {c : γ}
/-- as data; in an option -/
theorem ev_d (h : EV φ f a) : EV φ f (en a : D) := h
theorem ev_s (h : EV φ f a) : EV φ f (some a : Option α) := h
theorem ev_nn (h : EV φ f ()) : EV φ f (none : Option α) := h
theorem ev_eq {a' : β} (h : EV φ f a) (e : en a = en a') : EV φ f a' := fun env s => by rw [h env s, e]
theorem eo_d {o : Option α} (h : EO φ f o) : EO φ f (o.map (en : α → D)) := fun env s v e => by
  obtain ⟨x, e1, rfl⟩ := Option.map_eq_some_iff.mp e
  exact h env s x e1
/-- from data -/
class De (α : Type) [Ty α] where
  de : D → Option α
  ok : ∀ {d a}, de d = some a → d = en a
theorem eo_de [De α] {d : D} (h : EV φ f d) : EO φ f (De.de d : Option α) := fun env s v e => by rw [h env s]; exact congrArg some (De.ok e)
theorem ev_n (i : Nat) (e : φ[i]? = some (some (.fz (en a))) := by rfl) : EV φ (dN i) a := fun env s => s.fz e
theorem ev_w (i : Nat) {s : S} (e : φ[i]? = some (some s)) (k : frS s = some (en a)) : EV φ (dW i) a := fun env sa => sa.gw e k
theorem ev_wl (i : Nat) {xs : List α} (e : φ[i]? = some (some (olE xs)) := by rfl) : EV φ (dW i) xs := ev_w i e (frS_olE xs)
theorem ev_k {d : D} (e : d = en a := by rfl) : EV φ (dK d) a := fun env s => by rw [← e]
/-! binary -/
def O2 (g : D → D → Option D) (a : α) (b : β) (c : γ) : Prop := g (en a) (en b) = some (en c)
def O2o (g : D → D → Option D) (a : α) (b : β) (o : Option γ) : Prop := ∀ c, o = some c → g (en a) (en b) = some (en c)
theorem ev_2 {p : D → D → Option D} (hf : EV φ f a) (hg : EV φ g b) (k : O2 p a b c) : EV φ (b2 f g p) c := fun env s => by
  simp only [b2, hf env s, hg env s, Option.bind_some]
  exact k
theorem eo_2 {p : D → D → Option D} {o : Option γ} (hf : EV φ f a) (hg : EV φ g b) (k : O2o p a b o) : EO φ (b2 f g p) o := fun env s v e => by
  simp only [b2, hf env s, hg env s, Option.bind_some]
  exact k v e
theorem ev_ch {p q : D → D → Option D} {x y : Bool} (hf : EV φ f a) (hg : EV φ g b) (hh : EV φ h c) (k : O2 p a b x) (k' : O2 q b c y) : EV φ (vChain f g h p q) (x && y) := fun env s => by
  have k1 : p (en a) (en b) = some (.bl x) := k
  have k2 : q (en b) (en c) = some (.bl y) := k'
  simp only [vChain, hf env s, hg env s, hh env s, Option.bind_some, k1, bOf_bl, k2]
  cases x <;> rfl
end
section
variable {φ : Fs} {f g h : VL.Env → Option D} {a b : Int}
theorem op_add (a b : Int) : O2 dAdd a b (a + b) := rfl
theorem op_sub (a b : Int) : O2 dSub a b (a - b) := rfl
def mulT (a b : Int) : Option Int := if a.natAbs < 2 ^ 64 ∨ b.natAbs < 2 ^ 64 then some (a * b) else none
def divT (a b : Int) : Option Int := if 0 < b ∧ b.natAbs.log2 < 9000 then some (a / b) else none
def modT (a b : Int) : Option Int := if 0 < b then some (a % b) else none
theorem op_mul (a b : Int) : O2o dMul a b (mulT a b) := fun c e => by
  unfold mulT at e
  split at e
  · rename_i h; cases e; exact if_pos h
  · cases e
theorem op_div (a b : Int) : O2o dDiv a b (divT a b) := fun c e => by
  unfold divT at e
  split at e
  · rename_i h; cases e; exact if_pos h
  · cases e
theorem op_mod (a b : Int) : O2o dMod a b (modT a b) := fun c e => by
  unfold modT at e
  split at e
  · rename_i h; cases e; exact if_pos h
  · cases e
theorem op_lt (a b : Int) : O2 dLt a b (decide (a < b)) := rfl
theorem op_le (a b : Int) : O2 dLe a b (decide (a ≤ b)) := rfl
theorem op_gt (a b : Int) : O2 dGt a b (decide (b < a)) := rfl
theorem op_ge (a b : Int) : O2 dGe a b (decide (b ≤ a)) := rfl
theorem ev_neg (h : EV φ f a) : EV φ (dNeg1 f) (-a) := fun env s => by simp only [dNeg1, h env s, Option.bind_some]; rfl
end
section
variable {α β γ δ ε ρ : Type} [Ty α] [Ty β] [Ty γ] [Ty δ] [Ty ε] [Ty ρ]
variable {φ : Fs} {f g h : VL.Env → Option D} {a : α} {b : β} {c : γ}
def addL (xs ys : List α) : Option (List α) := if xs.length + ys.length ≤ sizeLine then some (xs ++ ys) else none
theorem op_addL (xs ys : List α) : O2o dAdd xs ys (addL xs ys) := fun c e => by
  unfold addL at e
  split at e
  · rename_i h
    cases e
    show (if (xs.map en).length + (ys.map en).length ≤ sizeLine then _ else _) = _
    rw [List.length_map, List.length_map, if_pos h, ← List.map_append]; rfl
  · cases e
def addU (xs ys : Tup α) : Option (Tup α) := if xs.l.length + ys.l.length ≤ sizeLine then some ⟨xs.l ++ ys.l⟩ else none
theorem op_addU (xs ys : Tup α) : O2o dAdd xs ys (addU xs ys) := fun c e => by
  unfold addU at e
  split at e
  · rename_i h
    cases e
    show (if (xs.l.map en).length + (ys.l.map en).length ≤ sizeLine then _ else _) = _
    rw [List.length_map, List.length_map, if_pos h, ← List.map_append]; rfl
  · cases e
def mulL (xs : List α) (k : Int) : Option (List α) := if k < 2 ^ 62 ∧ -(2 ^ 62) < k ∧ xs.length * k.toNat ≤ sizeLine then some (List.replicate k.toNat xs).flatten else none
theorem op_mulL (xs : List α) (k : Int) : O2o dMul xs k (mulL xs k) := fun c e => by
  unfold mulL at e
  split at e
  · rename_i h
    cases e
    show (if k < 2 ^ 62 ∧ -(2 ^ 62) < k ∧ (xs.map en).length * k.toNat ≤ sizeLine then _ else _) = _
    rw [List.length_map, if_pos h]
    show some (D.lst _) = some (D.lst _)
    rw [List.map_flatten, List.map_replicate]
  · cases e
theorem atI_en (xs : List α) (i : Int) (x : α) (e : atI xs i = some x) : atI (xs.map en) i = some (en x) := by
  unfold atI at e ⊢
  rw [List.length_map]
  cases h : ixN xs.length i with
  | none => rw [h] at e; cases e
  | some j =>
    rw [h] at e
    have e : xs[j]? = some x := e
    show (xs.map en)[j]? = _
    rw [List.getElem?_map, e]; rfl
theorem op_ix (xs : List α) (i : Int) : O2o dIx xs i (atI xs i) := fun c e => atI_en xs i c e
theorem op_ixU (xs : Tup α) (i : Int) : O2o dIx xs i (atI xs.l i) := fun c e => atI_en xs.l i c e
theorem op_ixD (d : D) (i : Int) : O2o dIx d i (dIx d (.int i) : Option D) := fun c e => e
theorem op_10 (p : T1 α) : O2 dIx p (0 : Int) p.a := rfl
theorem op_20 (p : α × β) : O2 dIx p (0 : Int) p.1 := rfl
theorem op_21 (p : α × β) : O2 dIx p (1 : Int) p.2 := rfl
theorem op_30 (p : T3 α β γ) : O2 dIx p (0 : Int) p.a := rfl
theorem op_31 (p : T3 α β γ) : O2 dIx p (1 : Int) p.b := rfl
theorem op_32 (p : T3 α β γ) : O2 dIx p (2 : Int) p.c := rfl
theorem op_40 (p : T4 α β γ δ) : O2 dIx p (0 : Int) p.a := rfl
theorem op_41 (p : T4 α β γ δ) : O2 dIx p (1 : Int) p.b := rfl
theorem op_42 (p : T4 α β γ δ) : O2 dIx p (2 : Int) p.c := rfl
theorem op_43 (p : T4 α β γ δ) : O2 dIx p (3 : Int) p.d := rfl
theorem op_50 (p : T5 α β γ δ ε) : O2 dIx p (0 : Int) p.a := rfl
theorem op_51 (p : T5 α β γ δ ε) : O2 dIx p (1 : Int) p.b := rfl
theorem op_52 (p : T5 α β γ δ ε) : O2 dIx p (2 : Int) p.c := rfl
theorem op_53 (p : T5 α β γ δ ε) : O2 dIx p (3 : Int) p.d := rfl
theorem op_54 (p : T5 α β γ δ ε) : O2 dIx p (4 : Int) p.e := rfl
/-- a pair of two alike, at a number that is worked out -/
def atP (p : α × α) (i : Int) : Option α := atI [p.1, p.2] i
theorem op_ixP (p : α × α) (i : Int) : O2o dIx p i (atP p i) := fun c e => atI_en [p.1, p.2] i c e
def atP3 (p : T3 α α α) (i : Int) : Option α := atI [p.a, p.b, p.c] i
theorem op_ixP3 (p : T3 α α α) (i : Int) : O2o dIx p i (atP3 p i) := fun c e => atI_en [p.a, p.b, p.c] i c e
theorem ev_ixO (i : Nat) {xs : List α} {k : Int} (e : φ[i]? = some (some (olE xs)) := by rfl) (hk : EV φ g k) : EO φ (getI i g) (atI xs k) := fun env s v q => by
  simp only [getI, s.gs e, hk env s, Option.bind_some]
  show (atI ((xs.map en).map S.fz) k).bind frzOf = _
  have h1 := atI_en xs k v q
  have : atI ((xs.map en).map S.fz) k = some (.fz (en v)) := by
    unfold atI at h1 ⊢
    rw [List.length_map]
    cases h : ixN (xs.map (en : α → D)).length k with
    | none => rw [h] at h1; cases h1
    | some j =>
      rw [h] at h1
      have h1 : (xs.map en)[j]? = some (en v) := h1
      show ((xs.map en).map S.fz)[j]? = _
      rw [List.getElem?_map, h1]; rfl
  rw [this]; rfl
section
variable [DecidableEq α] [TyEq α]
theorem op_eq (a b : α) (h : TyEq.n α ≤ 40 := by decide) : O2 dEq a b (decide (a = b)) := dEq_en a b h
theorem op_ne (a b : α) (h : TyEq.n α ≤ 40 := by decide) : O2 dNe a b (!decide (a = b)) := dNe_en a b h
theorem op_in (a : α) (xs : List α) (h : TyEq.n α ≤ 40 := by decide) : O2 dIn a xs (decide (a ∈ xs)) := by
  show (if inOk (en a) (xs.map en) = true then _ else _) = _
  rw [if_pos (inOk_en a xs h), inD_en]; rfl
theorem op_nin (a : α) (xs : List α) (h : TyEq.n α ≤ 40 := by decide) : O2 dNotIn a xs (!decide (a ∈ xs)) := by
  show (if inOk (en a) (xs.map en) = true then _ else _) = _
  rw [if_pos (inOk_en a xs h), inD_en]; rfl
theorem op_inU (a : α) (xs : Tup α) (h : TyEq.n α ≤ 40 := by decide) : O2 dIn a xs (decide (a ∈ xs.l)) := by
  show (if inOk (en a) (xs.l.map en) = true then _ else _) = _
  rw [if_pos (inOk_en a xs.l h), inD_en]; rfl
theorem op_ninU (a : α) (xs : Tup α) (h : TyEq.n α ≤ 40 := by decide) : O2 dNotIn a xs (!decide (a ∈ xs.l)) := by
  show (if inOk (en a) (xs.l.map en) = true then _ else _) = _
  rw [if_pos (inOk_en a xs.l h), inD_en]; rfl
end
/-! data compared as they stand -/
def eqDT (d e : D) : Option Bool := if cmpOk d e then some (eqD d e) else none
def neDT (d e : D) : Option Bool := if cmpOk d e then some (!eqD d e) else none
theorem op_eqD (d e : D) : O2o dEq d e (eqDT d e) := fun c q => by
  unfold eqDT at q
  show dEq d e = _
  unfold dEq
  split at q
  · rename_i h; cases q; rw [if_pos h]; rfl
  · cases q
theorem op_neD (d e : D) : O2o dNe d e (neDT d e) := fun c q => by
  unfold neDT at q
  show dNe d e = _
  unfold dNe
  split at q
  · rename_i h; cases q; rw [if_pos h]; rfl
  · cases q
/-! None -/
theorem op_is [NonN α] (o : Option α) : O2 dIs o () o.isNone := by
  cases o with
  | none => rfl
  | some a =>
    have := NonN.nn a
    show dIs (en a) .non = some (.bl false)
    revert this
    cases (en a : D) <;> intro h <;> first | rfl | exact absurd rfl h
theorem op_isn [NonN α] (o : Option α) : O2 dIsNot o () o.isSome := by
  cases o with
  | none => rfl
  | some a =>
    have := NonN.nn a
    show dIsNot (en a) .non = some (.bl true)
    revert this
    cases (en a : D) <;> intro h <;> first | rfl | exact absurd rfl h
def nonD : D → Bool
  | .non => true
  | _ => false
theorem op_isD (d : D) : O2 dIs d () (nonD d) := by cases d <;> rfl
theorem op_isnD (d : D) : O2 dIsNot d () (!nonD d) := by cases d <;> rfl
theorem op_isA [NonN α] (a : α) : O2 dIs a () false := op_is (some a)
theorem op_isnA [NonN α] (a : α) : O2 dIsNot a () true := op_isn (some a)
/-! truth -/
class Tru (α : Type) [Ty α] where
  tru : α → Bool
  ok : ∀ a : α, truE (en a) = some (tru a)
instance : Tru Bool := ⟨fun b => b, fun b => rfl⟩
instance : Tru Int := ⟨fun b => b != 0, fun b => rfl⟩
instance : Tru (List α) := ⟨fun xs => !xs.isEmpty, fun xs => by cases xs <;> rfl⟩
instance : Tru (Tup α) := ⟨fun xs => !xs.l.isEmpty, fun xs => by obtain ⟨xs⟩ := xs; cases xs <;> rfl⟩
instance [Tru α] : Tru (Option α) := ⟨fun o => match o with | none => false | some a => Tru.tru a, fun o => by cases o with | none => rfl | some a => exact Tru.ok a⟩
theorem eb_tr [Tru α] (h : EV φ f a) : EB φ (dTr f) (Tru.tru a) := fun env s => by simp only [dTr, h env s, Option.bind_some]; exact Tru.ok a
end
section
variable {φ : Fs} {f g h : VL.Env → Option D} {p q : VL.Env → Option Bool} {a b : Bool} {ob : Option Bool}
theorem eb_tb (h : EV φ f a) : EB φ (tb f) a := fun env s => by simp only [tb, h env s, Option.bind_some]; rfl
theorem eb_and (hp : EB φ p a) (hq : EB φ q b) : EB φ (tAnd2 p q) (a && b) := fun env s => by simp only [tAnd2, hp env s, hq env s, Option.bind_some]; cases a <;> rfl
theorem eb_or (hp : EB φ p a) (hq : EB φ q b) : EB φ (tOr2 p q) (a || b) := fun env s => by simp only [tOr2, hp env s, hq env s, Option.bind_some]; cases a <;> rfl
theorem ebo_and (hp : EB φ p a) (hq : EBo φ q ob) : EBo φ (tAnd2 p q) (if a = true then ob else some false) := fun env s v e => by
  simp only [tAnd2, hp env s, Option.bind_some]
  cases a
  · exact e
  · exact hq env s v e
theorem ebo_or (hp : EB φ p a) (hq : EBo φ q ob) : EBo φ (tOr2 p q) (if a = true then some true else ob) := fun env s v e => by
  simp only [tOr2, hp env s, Option.bind_some]
  cases a
  · exact hq env s v e
  · exact e
theorem eb_not (hp : EB φ p a) : EB φ (tNot1 p) (!a) := fun env s => by simp only [tNot1, hp env s, Option.map_some]
theorem ev_not (hp : EV φ f a) : EV φ (vNot1 f) (!a) := fun env s => by simp only [vNot1, hp env s, Option.bind_some]; rfl
theorem ev_and (hp : EV φ f a) (hq : EV φ g b) : EV φ (vAnd2 f g) (a && b) := fun env s => by simp only [vAnd2, hp env s, hq env s, Option.bind_some]; cases a <;> rfl
theorem ev_or (hp : EV φ f a) (hq : EV φ g b) : EV φ (vOr2 f g) (a || b) := fun env s => by simp only [vOr2, hp env s, hq env s, Option.bind_some]; cases a <;> rfl
theorem eo_and (hp : EV φ f a) (hq : EO φ g ob) : EO φ (vAnd2 f g) (if a = true then ob else some false) := fun env s v e => by
  simp only [vAnd2, hp env s, Option.bind_some]
  cases a
  · cases e; rfl
  · exact hq env s v e
theorem eo_or (hp : EV φ f a) (hq : EO φ g ob) : EO φ (vOr2 f g) (if a = true then some true else ob) := fun env s v e => by
  simp only [vOr2, hp env s, Option.bind_some]
  cases a
  · exact hq env s v e
  · cases e; rfl
end
section
variable {α β γ δ ε ρ : Type} [Ty α] [Ty β] [Ty γ] [Ty δ] [Ty ε] [Ty ρ]
variable {φ : Fs} {f g h : VL.Env → Option D} {a : α} {b : β} {c : γ} {fs : VL.Env → Option (List D)} {ds : List D} {q : VL.Env → Option Bool} {t : Bool}
theorem ev_if {a b : α} (hq : EB φ q t) (hf : EV φ f a) (hg : EV φ g b) : EV φ (vIf q f g) (if t = true then a else b) := fun env s => by
  simp only [vIf, hq env s, Option.bind_some]
  cases t
  · exact hg env s
  · exact hf env s
theorem eo_if {a b : Option α} (hq : EB φ q t) (hf : EO φ f a) (hg : EO φ g b) : EO φ (vIf q f g) (if t = true then a else b) := fun env s v e => by
  simp only [vIf, hq env s, Option.bind_some]
  cases t
  · exact hg env s v e
  · exact hf env s v e
/-! arguments, displays, calls -/
theorem ea_nil : EA φ a0 [] := fun env s => rfl
theorem ea_cons (hf : EV φ f a) (hs : EA φ fs ds) : EA φ (aCons f fs) (en a :: ds) := fun env s => by simp only [aCons, hf env s, hs env s, Option.bind_some]
theorem ev_tup {a : α} (hs : EA φ fs ds) (e : .tup ds = en a := by rfl) (l : ds.length < 1000 := by exact Nat.le_of_ble_eq_true rfl) : EV φ (dTup fs) a := fun env s => by simp only [dTup, hs env s, Option.bind_some]; rw [if_pos l, e]
theorem el_lst {xs : List α} (hs : EA φ fs ds) (e : ds = xs.map en := by rfl) (l : ds.length < 1000 := by exact Nat.le_of_ble_eq_true rfl) : EL φ (dLst fs) xs := fun env s => by simp only [dLst, hs env s, Option.bind_some]; rw [if_pos l, e]
theorem ev_fL {fl : VL.Env → Option (List D)} {xs : List α} (h : EL φ fl xs) : EV φ (fL fl) xs := fun env s => by simp only [fL, h env s, Option.map_some]; rfl
theorem eo_fL {fl : VL.Env → Option (List D)} {o : Option (List α)} (h : ELo φ fl o) : EO φ (fL fl) o := fun env s v e => by simp only [fL, h env s v e, Option.map_some]; rfl
theorem eo_call {F : List D → Option S} {o : Option α} (hs : EA φ fs ds) (k : ∀ r, o = some r → ∃ s, F ds = some s ∧ frS s = some (en r)) : EO φ (cF fs F) o := fun env s v e => by
  obtain ⟨z, k1, k2⟩ := k v e
  simp only [cF, hs env s, Option.bind_some, k1, k2]
theorem eo_callW {F : List D → Option S} {o : Option α} (hs : EA φ fs ds) (k : ∀ r, o = some r → F ds = some (fzE r)) (hc : ∀ r : α, scal (en r) = some (en r)) : EO φ (cW fs F) o := fun env s v e => by
  simp only [cW, hs env s, Option.bind_some, k v e]
  exact hc v
theorem fz_ret {F : List D → Option S} {o : Option α} (k : ∀ r, o = some r → F ds = some (fzE r)) : ∀ r, o = some r → ∃ s, F ds = some s ∧ frS s = some (en r) := fun r e => ⟨_, k r e, rfl⟩
theorem ol_ret {F : List D → Option S} {o : Option (List α)} (k : ∀ r, o = some r → F ds = some (olE r)) : ∀ r, o = some r → ∃ s, F ds = some s ∧ frS s = some (en r) := fun r e => ⟨_, k r e, frS_olE r⟩
theorem ev_cB {p : List D → Option D} (hs : EA φ fs ds) (k : p ds = some (en c)) : EV φ (cB fs p) c := fun env s => by simp only [cB, hs env s, Option.bind_some, k]
theorem eo_cB {p : List D → Option D} {o : Option γ} (hs : EA φ fs ds) (k : ∀ c, o = some c → p ds = some (en c)) : EO φ (cB fs p) o := fun env s v e => by simp only [cB, hs env s, Option.bind_some, k v e]
theorem el_cL {p : List D → Option (List D)} {xs : List γ} (hs : EA φ fs ds) (k : p ds = some (xs.map en)) : EL φ (cL fs p) xs := fun env s => by simp only [cL, hs env s, Option.bind_some, k]
theorem elo_cL {p : List D → Option (List D)} {o : Option (List γ)} (hs : EA φ fs ds) (k : ∀ c, o = some c → p ds = some (c.map en)) : ELo φ (cL fs p) o := fun env s v e => by simp only [cL, hs env s, Option.bind_some, k v e]
/-! built-ins -/
theorem bi_len (xs : List α) : dLen [en xs] = some (en (xs.length : Int)) := by show some (D.int _) = _; rw [List.length_map]; rfl
theorem bi_lenU (xs : Tup α) : dLen [en xs] = some (en (xs.l.length : Int)) := by show some (D.int _) = _; rw [List.length_map]; rfl
theorem bi_sum (xs : List Int) : dSum [en xs] = some (en xs.sum) := by
  show (intsOf (xs.map D.int)).map _ = _
  rw [intsOf_map]; rfl
theorem bi_any (xs : List Bool) : dAny [en xs] = some (en (xs.any _root_.id)) := by
  show (blsOf (xs.map D.bl)).map _ = _
  rw [blsOf_map]; rfl
theorem bi_all (xs : List Bool) : dAll [en xs] = some (en (xs.all _root_.id)) := by
  show (blsOf (xs.map D.bl)).map _ = _
  rw [blsOf_map]; rfl
theorem bi_abs (a : Int) : dAbs [en a] = some (en (a.natAbs : Int)) := rfl
theorem bi_int (a : Int) : dInt [en a] = some (en a) := rfl
def b2i (b : Bool) : Int := if b = true then 1 else 0
theorem bi_intB (b : Bool) : dInt [en b] = some (en (b2i b)) := rfl
theorem bi_min2 (a b : Int) : dMinA [en a, en b] = some (en (min a b)) := rfl
theorem bi_max2 (a b : Int) : dMaxA [en a, en b] = some (en (max a b)) := rfl
theorem bi_minP (p : Int × Int) : dMinA [en p] = some (en (min p.1 p.2)) := dMin_tup2 p.1 p.2
theorem bi_tuple (xs : List α) : dTuple [en xs] = some (en (Tup.mk xs)) := rfl
theorem bi_tupleU (xs : Tup α) : dTuple [en xs] = some (en xs) := rfl
theorem bi_list (xs : List α) : dList [en xs] = some (xs.map en) := rfl
theorem bi_listU (xs : Tup α) : dList [en xs] = some (xs.l.map en) := rfl
section
variable [DecidableEq α] [TyOrd α]
theorem bi_min (xs : List α) (h : TyEq.n α ≤ 40 := by decide) : ∀ c, minT xs = some c → dMinA [en xs] = some (en c) := fun c e => dMinA_en h e
theorem bi_max (xs : List α) (h : TyEq.n α ≤ 40 := by decide) : ∀ c, maxT xs = some c → dMaxA [en xs] = some (en c) := fun c e => dMaxA_en h e
theorem bi_minU (xs : Tup α) (h : TyEq.n α ≤ 40 := by decide) : ∀ c, minT xs.l = some c → dMinA [en xs] = some (en c) := fun c e => dMinA_enT h e
theorem bi_maxU (xs : Tup α) (h : TyEq.n α ≤ 40 := by decide) : ∀ c, maxT xs.l = some c → dMaxA [en xs] = some (en c) := fun c e => dMaxA_enT h e
def sortO (xs : List α) : Option (List α) := if xs.length ≤ sizeLine then some (sortT xs) else none
theorem bi_sort (xs : List α) (h : TyEq.n α ≤ 40 := by decide) : ∀ c, sortO xs = some c → dSorted [en xs] = some (c.map en) := fun c e => by
  unfold sortO at e
  split at e
  · rename_i hl
    cases e
    show (if sortOk (xs.map en) = true then _ else _) = _
    rw [if_pos (sortOk_en xs h hl), sortD_en]
  · cases e
end
theorem ev_isi {x : String} (h : EV φ f a) (e : isTup (en a) = some (.bl t)) : EV φ (dIsi x f) t := fun env s => by simp only [dIsi, h env s, Option.bind_some, e]; rfl
def isTupT (d : D) : Option Bool := (isTup d).bind bOf
theorem eo_isi {x : String} {d : D} (h : EV φ f d) : EO φ (dIsi x f) (isTupT d) := fun env s v e => by
  simp only [dIsi, h env s, Option.bind_some]
  obtain ⟨z, e1, e2⟩ := Option.bind_eq_some_iff.mp e
  rw [show isTup (en d) = isTup d from rfl, e1]
  exact congrArg some (bOf_some e2)
/-! walks -/
def rangeT (lo hi : Int) : List Int := (List.range (hi - lo).toNat).map fun (k : Nat) => lo + (k : Int)
def rngT (n : Int) : Option (List Int) := if n.natAbs ≤ sizeLine then some (rangeT 0 n) else none
def rng2T (a b : Int) : Option (List Int) := if a.natAbs ≤ sizeLine ∧ b.natAbs ≤ 4000000 ∧ (b - a).toNat ≤ sizeLine then some (rangeT a b) else none
def enumT (xs : List α) : List (Int × α) := xs.zipIdx.map fun p => ((p.2 : Int), p.1)
theorem rangeT_en (lo hi : Int) : (rangeT lo hi).map en = rangeD lo (hi - lo).toNat := by
  unfold rangeT
  rw [List.map_map]; rfl
theorem mem_rangeT {lo hi x : Int} : x ∈ rangeT lo hi ↔ lo ≤ x ∧ x < hi := by
  unfold rangeT
  rw [List.mem_map]
  constructor
  · rintro ⟨k, m, rfl⟩
    have := List.mem_range.mp m
    omega
  · rintro ⟨h1, h2⟩
    exact ⟨(x - lo).toNat, List.mem_range.mpr (by omega), by omega⟩
theorem ei_seq {xs : List α} (h : EV φ f xs) : EL φ (iSq f) xs := fun env s => by simp only [iSq, h env s, Option.bind_some]; rfl
theorem ei_tup {xs : Tup α} (h : EV φ f xs) : EL φ (iSq f) xs.l := fun env s => by simp only [iSq, h env s, Option.bind_some]; rfl
theorem ei_pair {p : α × α} (h : EV φ f p) : EL φ (iSq f) [p.1, p.2] := fun env s => by simp only [iSq, h env s, Option.bind_some]; rfl
theorem ei_own (i : Nat) {xs : List α} (e : φ[i]? = some (some (olE xs)) := by rfl) : EL φ (iOw i) xs := fun env s => by simp only [iOw, s.gs e, Option.bind_some]; exact olOf_olE xs
theorem ei_r1 {n : Int} (h : EA φ fs [en n]) : ELo φ (iR1 fs) (rngT n) := fun env s v e => by
  unfold rngT at e
  split at e
  · rename_i hn
    cases e
    simp only [iR1, h env s, Option.bind_some]
    refine (rng1_int hn).trans ?_
    rw [rangeT_en, Int.sub_zero]
  · cases e
theorem ei_r2 {a b : Int} (h : EA φ fs [en a, en b]) : ELo φ (iR2 fs) (rng2T a b) := fun env s v e => by
  unfold rng2T at e
  split at e
  · rename_i hn
    cases e
    simp only [iR2, h env s, Option.bind_some]
    refine (if_pos hn).trans ?_
    rw [rangeT_en]
  · cases e
theorem enumT_en (xs : List α) : (enumT xs).map en = enumD (xs.map en) := by
  unfold enumD enumT
  rw [List.mapIdx_eq_zipIdx_map, List.zipIdx_map, List.map_map, List.map_map]
  rfl
theorem ei_en {xs : List α} (h : EV φ f xs) : EL φ (iEn f) (enumT xs) := fun env s => by
  simp only [iEn, h env s, Option.bind_some]
  show some (enumD (xs.map en)) = _
  rw [enumT_en]
theorem el_rg {n : Int} (h : EV φ f n) : ELo φ (dRgL f) (rngT n) := fun env s v e => by
  unfold rngT at e
  split at e
  · rename_i hn
    cases e
    simp only [dRgL, h env s, Option.bind_some]
    refine (if_pos hn).trans ?_
    rw [rangeT_en, Int.sub_zero]
  · cases e
/-! slices -/
theorem es_0 : GJ φ (fun o : Option Int => o) sl0 none := fun env s => rfl
theorem es_1 {i : Int} (h : EV φ f i) : GJ φ (fun o : Option Int => o) (sl1 f) (some i) := fun env s => by simp only [sl1, h env s, Option.bind_some]; rfl
theorem cutD_map (xs : List α) (lo hi : Option Int) : VL.cutD (xs.map en) lo hi = (VL.cutD xs lo hi).map en := by
  unfold VL.cutD
  rw [List.length_map, List.map_take, List.map_drop]
theorem el_cut {xs : List α} {lo hi : Option Int} {l r : VL.Env → Option (Option Int)} (h : EV φ f xs) (hl : GJ φ (fun o : Option Int => o) l lo) (hr : GJ φ (fun o : Option Int => o) r hi) : EL φ (dCut f l r) (VL.cutD xs lo hi) := fun env s => by
  simp only [dCut, h env s, Option.bind_some, hl env s, hr env s]
  show some (VL.cutD (xs.map en) lo hi) = _
  rw [cutD_map]
/-! targets -/
def TG (φ : Fs) (ft : D → VL.Env → Option VL.Env) (x : α) (ψ : Fs) : Prop := ∀ env, Sat φ env → ∃ env', ft (en x) env = some env' ∧ Sat ψ env'
theorem tg_n (i : Nat) : TG φ (gN i) a (φ.set i (some (.fz (en a)))) := fun env s => ⟨_, rfl, s.set i _⟩
theorem tg_1 {F1 : D → VL.Env → Option VL.Env} {φ1 : Fs} {p : T1 α} (h1 : TG φ F1 p.a φ1) : TG φ (gT (gsC F1 gs0)) p φ1 := fun env s => by
  obtain ⟨e1, k1, s1⟩ := h1 env s
  refine ⟨e1, ?_, s1⟩
  show (F1 (en p.a) env).bind _ = _
  rw [k1]; rfl
theorem tg_2 {F1 F2 : D → VL.Env → Option VL.Env} {φ1 φ2 : Fs} {p : α × β} (h1 : TG φ F1 p.1 φ1) (h2 : TG φ1 F2 p.2 φ2) : TG φ (gT (gsC F1 (gsC F2 gs0))) p φ2 := fun env s => by
  obtain ⟨e1, k1, s1⟩ := h1 env s
  obtain ⟨e2, k2, s2⟩ := h2 e1 s1
  refine ⟨e2, ?_, s2⟩
  show (F1 (en p.1) env).bind _ = _
  rw [k1]
  show (F2 (en p.2) e1).bind _ = _
  rw [k2]; rfl
theorem tg_3 {F1 F2 F3 : D → VL.Env → Option VL.Env} {φ1 φ2 φ3 : Fs} {p : T3 α β γ} (h1 : TG φ F1 p.a φ1) (h2 : TG φ1 F2 p.b φ2) (h3 : TG φ2 F3 p.c φ3) : TG φ (gT (gsC F1 (gsC F2 (gsC F3 gs0)))) p φ3 := fun env s => by
  obtain ⟨e1, k1, s1⟩ := h1 env s
  obtain ⟨e2, k2, s2⟩ := h2 e1 s1
  obtain ⟨e3, k3, s3⟩ := h3 e2 s2
  refine ⟨e3, ?_, s3⟩
  show (F1 (en p.a) env).bind _ = _
  rw [k1]
  show (F2 (en p.b) e1).bind _ = _
  rw [k2]
  show (F3 (en p.c) e2).bind _ = _
  rw [k3]; rfl
theorem tg_4 {F1 F2 F3 F4 : D → VL.Env → Option VL.Env} {φ1 φ2 φ3 φ4 : Fs} {p : T4 α β γ δ} (h1 : TG φ F1 p.a φ1) (h2 : TG φ1 F2 p.b φ2) (h3 : TG φ2 F3 p.c φ3) (h4 : TG φ3 F4 p.d φ4) : TG φ (gT (gsC F1 (gsC F2 (gsC F3 (gsC F4 gs0))))) p φ4 := fun env s => by
  obtain ⟨e1, k1, s1⟩ := h1 env s
  obtain ⟨e2, k2, s2⟩ := h2 e1 s1
  obtain ⟨e3, k3, s3⟩ := h3 e2 s2
  obtain ⟨e4, k4, s4⟩ := h4 e3 s3
  refine ⟨e4, ?_, s4⟩
  show (F1 (en p.a) env).bind _ = _
  rw [k1]
  show (F2 (en p.b) e1).bind _ = _
  rw [k2]
  show (F3 (en p.c) e2).bind _ = _
  rw [k3]
  show (F4 (en p.d) e3).bind _ = _
  rw [k4]; rfl
theorem tg_5 {F1 F2 F3 F4 F5 : D → VL.Env → Option VL.Env} {φ1 φ2 φ3 φ4 φ5 : Fs} {p : T5 α β γ δ ε} (h1 : TG φ F1 p.a φ1) (h2 : TG φ1 F2 p.b φ2) (h3 : TG φ2 F3 p.c φ3) (h4 : TG φ3 F4 p.d φ4) (h5 : TG φ4 F5 p.e φ5) : TG φ (gT (gsC F1 (gsC F2 (gsC F3 (gsC F4 (gsC F5 gs0)))))) p φ5 := fun env s => by
  obtain ⟨e1, k1, s1⟩ := h1 env s
  obtain ⟨e2, k2, s2⟩ := h2 e1 s1
  obtain ⟨e3, k3, s3⟩ := h3 e2 s2
  obtain ⟨e4, k4, s4⟩ := h4 e3 s3
  obtain ⟨e5, k5, s5⟩ := h5 e4 s4
  refine ⟨e5, ?_, s5⟩
  show (F1 (en p.a) env).bind _ = _
  rw [k1]
  show (F2 (en p.b) e1).bind _ = _
  rw [k2]
  show (F3 (en p.c) e2).bind _ = _
  rw [k3]
  show (F4 (en p.d) e3).bind _ = _
  rw [k4]
  show (F5 (en p.e) e4).bind _ = _
  rw [k5]; rfl
/-! comprehensions -/
def compT {α β : Type} (c : α → Option Bool) (g : α → Option β) : List α → Option (List β)
  | [] => some []
  | x :: xs => (c x).bind fun b => if b = true then (g x).bind fun y => (compT c g xs).map (y :: ·) else compT c g xs
def mapT {α β : Type} (g : α → Option β) : List α → Option (List β)
  | [] => some []
  | x :: xs => (g x).bind fun y => (mapT g xs).map (y :: ·)
variable {fi : VL.Env → Option (List D)} {fc : VL.Env → Option Bool} {ft : D → VL.Env → Option VL.Env} {vs : List Nat} {φ1 : α → Fs} {xs : List α}
theorem compD_compT {ft : D → VL.Env → Option VL.Env} {fc : VL.Env → Option Bool} {fe : VL.Env → Option D} {env : VL.Env} {cc : α → Option Bool} {gg : α → Option β} : ∀ {xs : List α} {ys : List β}, (∀ x, ∃ e1, ft (en x) env = some e1 ∧ (∀ b, cc x = some b → fc e1 = some b) ∧ ∀ y, gg x = some y → fe e1 = some (en y)) → compT cc gg xs = some ys → compD ft fc fe env (xs.map en) = some (ys.map en)
  | [], ys, h, e => by cases e; rfl
  | x :: xs, ys, h, e => by
    obtain ⟨e1, k1, k2, k3⟩ := h x
    obtain ⟨b, q1, q2⟩ := Option.bind_eq_some_iff.mp e
    show (ft (en x) env).bind _ = _
    rw [k1]
    show (fc e1).bind _ = _
    rw [k2 b q1]
    show (if b = true then _ else _) = _
    by_cases hb : b = true
    · rw [if_pos hb] at q2 ⊢
      obtain ⟨y, q3, q4⟩ := Option.bind_eq_some_iff.mp q2
      obtain ⟨zs, q5, q6⟩ := Option.map_eq_some_iff.mp q4
      subst q6
      rw [k3 y q3]
      show (compD ft fc fe env (xs.map en)).map _ = _
      rw [compD_compT h q5]; rfl
    · rw [if_neg hb] at q2 ⊢
      exact compD_compT h q2
theorem elo_comp {cc : α → Option Bool} {gg : α → Option β} {fe : VL.Env → Option D} (hi : EL φ fi xs) (ht : ∀ x, TG (wipeF φ vs) ft x (φ1 x)) (hc : ∀ x, EBo (φ1 x) fc (cc x)) (he : ∀ x, EO (φ1 x) fe (gg x)) : ELo φ (dComp vs fi ft fc fe) (compT cc gg xs) := fun env s v e => by
  simp only [dComp, hi env s, Option.bind_some]
  refine compD_compT (fun x => ?_) e
  obtain ⟨e1, k1, k2⟩ := ht x _ (s.wipe vs)
  exact ⟨e1, k1, fun b q => hc x e1 k2 b q, fun y q => he x e1 k2 y q⟩
theorem mapT_comp {g : α → Option β} : ∀ xs : List α, compT (fun _ => some true) g xs = mapT g xs
  | [] => rfl
  | x :: xs => by
    show (g x).bind _ = (g x).bind _
    rw [mapT_comp xs]
theorem elo_map {gg : α → Option β} {fe : VL.Env → Option D} (hi : EL φ fi xs) (ht : ∀ x, TG (wipeF φ vs) ft x (φ1 x)) (he : ∀ x, EO (φ1 x) fe (gg x)) : ELo φ (dComp vs fi ft cY fe) (mapT gg xs) := by
  rw [← mapT_comp]
  exact elo_comp hi ht (fun x env s b e => by cases e; rfl) he
theorem compT_tot {cc : α → Bool} {gg : α → β} : ∀ xs : List α, compT (fun x => some (cc x)) (fun x => some (gg x)) xs = some ((xs.filter cc).map gg)
  | [] => rfl
  | x :: xs => by
    show (if cc x = true then (compT _ _ xs).map _ else compT _ _ xs) = _
    rw [compT_tot xs]
    by_cases h : cc x = true
    · rw [if_pos h, List.filter_cons_of_pos h]; rfl
    · rw [if_neg h, List.filter_cons_of_neg h]
theorem mapT_tot {gg : α → β} : ∀ xs : List α, mapT (fun x => some (gg x)) xs = some (xs.map gg)
  | [] => rfl
  | x :: xs => by
    show (mapT _ xs).map _ = _
    rw [mapT_tot xs]; rfl
theorem el_map {gg : α → β} {fe : VL.Env → Option D} (hi : EL φ fi xs) (ht : ∀ x, TG (wipeF φ vs) ft x (φ1 x)) (he : ∀ x, EV (φ1 x) fe (gg x)) : EL φ (dComp vs fi ft cY fe) (xs.map gg) :=
  fun env s => elo_map hi ht (fun x => (he x).o) env s _ (mapT_tot xs)
theorem el_comp {cc : α → Bool} {gg : α → β} {fe : VL.Env → Option D} (hi : EL φ fi xs) (ht : ∀ x, TG (wipeF φ vs) ft x (φ1 x)) (hc : ∀ x, EB (φ1 x) fc (cc x)) (he : ∀ x, EV (φ1 x) fe (gg x)) : EL φ (dComp vs fi ft fc fe) ((xs.filter cc).map gg) :=
  fun env s => elo_comp hi ht (fun x => (hc x).o) (fun x => (he x).o) env s _ (compT_tot xs)
end
end TL

set_option Elab.async false
set_option linter.all false
set_option maxRecDepth 100000
/-! TL3: statements, typed. -/
namespace TL
open PySem PySem.Spec PyProof.Rows L2 VL
open Ty (en)
inductive Flow (τ σ ρ : Type) where
  | nx (t : τ)
  | bk (s : σ)
  | ct (s : σ)
  | rt (r : ρ)
def FlOk {τ σ ρ : Type} (N : τ → VL.Env → Prop) (B : σ → VL.Env → Prop) (R : ρ → S → VL.Env → Prop) : Flow τ σ ρ → Out → Prop
  | .nx t, .nx e => N t e
  | .bk s, .bk e => B s e
  | .ct s, .ct e => B s e
  | .rt r, .rt s e => R r s e
  | _, _ => False
def BL {τ σ ρ : Type} (φ : Fs) (f : VL.Env → Option Out) (m : Option (Flow τ σ ρ)) (N : τ → VL.Env → Prop) (B : σ → VL.Env → Prop) (R : ρ → S → VL.Env → Prop) : Prop :=
  ∀ env, Sat φ env → ∀ fl, m = some fl → ∃ o, f env = some o ∧ FlOk N B R fl o
def NF {τ : Type} (ψ : τ → Fs) : τ → VL.Env → Prop := fun t e => Sat (ψ t) e
def never {τ : Type} : τ → VL.Env → Prop := fun _ _ => False
/-- a simple statement -/
def SS {τ : Type} (φ : Fs) (f : VL.Env → Option Out) (o : Option τ) (ψ : τ → Fs) : Prop := ∀ env, Sat φ env → ∀ t, o = some t → ∃ env', f env = some (.nx env') ∧ Sat (ψ t) env'
/-- one after the other -/
def sqT {τ τ' σ ρ : Type} (m : Option (Flow τ σ ρ)) (k : τ → Option (Flow τ' σ ρ)) : Option (Flow τ' σ ρ) := m.bind fun fl => match fl with
  | .nx t => k t
  | .bk s => some (.bk s)
  | .ct s => some (.ct s)
  | .rt r => some (.rt r)
@[simp] theorem sqT_nx {τ τ' σ ρ : Type} (t : τ) (k : τ → Option (Flow τ' σ ρ)) : sqT (some (.nx t)) k = k t := rfl
@[simp] theorem sqT_rt {τ τ' σ ρ : Type} (r : ρ) (k : τ → Option (Flow τ' σ ρ)) : sqT (some (.rt r)) k = some (.rt r) := rfl
@[simp] theorem sqT_bk {τ τ' σ ρ : Type} (r : σ) (k : τ → Option (Flow τ' σ ρ)) : sqT (some (.bk r)) k = some (.bk r) := rfl
@[simp] theorem sqT_ct {τ τ' σ ρ : Type} (r : σ) (k : τ → Option (Flow τ' σ ρ)) : sqT (some (.ct r)) k = some (.ct r) := rfl
def loopT {α σ σ' ρ : Type} (body : α → σ → Option (Flow σ σ ρ)) : List α → σ → Option (Flow σ σ' ρ)
  | [], s => some (.nx s)
  | x :: xs, s => (body x s).bind fun fl => match fl with
    | .nx s => loopT body xs s
    | .ct s => loopT body xs s
    | .bk s => some (.nx s)
    | .rt r => some (.rt r)
@[simp] theorem loopT_nil {α σ σ' ρ : Type} (body : α → σ → Option (Flow σ σ ρ)) (s : σ) : (loopT body [] s : Option (Flow σ σ' ρ)) = some (.nx s) := rfl
theorem loopT_nx {α σ σ' ρ : Type} {body : α → σ → Option (Flow σ σ ρ)} {x : α} {xs : List α} {s t : σ} (h : body x s = some (.nx t)) : (loopT body (x :: xs) s : Option (Flow σ σ' ρ)) = loopT body xs t := by
  show (body x s).bind _ = _
  rw [h]; rfl
theorem loopT_ct {α σ σ' ρ : Type} {body : α → σ → Option (Flow σ σ ρ)} {x : α} {xs : List α} {s t : σ} (h : body x s = some (.ct t)) : (loopT body (x :: xs) s : Option (Flow σ σ' ρ)) = loopT body xs t := by
  show (body x s).bind _ = _
  rw [h]; rfl
theorem loopT_bk {α σ σ' ρ : Type} {body : α → σ → Option (Flow σ σ ρ)} {x : α} {xs : List α} {s t : σ} (h : body x s = some (.bk t)) : (loopT body (x :: xs) s : Option (Flow σ σ' ρ)) = some (.nx t) := by
  show (body x s).bind _ = _
  rw [h]; rfl
theorem loopT_rt {α σ σ' ρ : Type} {body : α → σ → Option (Flow σ σ ρ)} {x : α} {xs : List α} {s : σ} {r : ρ} (h : body x s = some (.rt r)) : (loopT body (x :: xs) s : Option (Flow σ σ' ρ)) = some (.rt r) := by
  show (body x s).bind _ = _
  rw [h]; rfl
@[irreducible] def fuelK (n : Nat) : Nat := n
theorem fuelK_eq (n : Nat) : fuelK n = n := by unfold fuelK; rfl
def whT {σ σ' ρ : Type} (c : σ → Option Bool) (body : σ → Option (Flow σ σ ρ)) : Nat → σ → Option (Flow σ σ' ρ)
  | 0, _ => none
  | n + 1, s => (c s).bind fun b => if b = true then (body s).bind fun fl => match fl with
      | .nx s => whT c body n s
      | .ct s => whT c body n s
      | .bk s => some (.nx s)
      | .rt r => some (.rt r)
    else some (.nx s)
section
variable {α β γ : Type} [Ty α] [Ty β] [Ty γ] {τ τ' σ σ' ρ T : Type} {φ φ' : Fs} {f fr fA fB : VL.Env → Option Out} {m mA mB : Option (Flow τ σ ρ)} {N : τ → VL.Env → Prop} {B : σ → VL.Env → Prop} {R : ρ → S → VL.Env → Prop}
variable {fe fk : VL.Env → Option D} {a : α} {b : β} {ψ : τ → Fs}
theorem bl_bind {τ1 : Type} {R' : τ1 → T} {g : VL.Env → Option T} {o : Option τ1} {k : τ1 → Option (Flow τ σ ρ)} (hg : GO φ R' g o) (h : ∀ v, GJ φ R' g v → BL φ f (k v) N B R) : BL φ f (o.bind k) N B R := fun env s fl e => by
  obtain ⟨x, e1, e2⟩ := Option.bind_eq_some_iff.mp e
  exact h x (fun env' s' => hg env' s' x e1) env s fl e2
theorem ss_bind {τ1 : Type} {R' : τ1 → T} {g : VL.Env → Option T} {o : Option τ1} {k : τ1 → Option τ} (hg : GO φ R' g o) (h : ∀ v, GJ φ R' g v → SS φ f (k v) ψ) : SS φ f (o.bind k) ψ := fun env s fl e => by
  obtain ⟨x, e1, e2⟩ := Option.bind_eq_some_iff.mp e
  exact h x (fun env' s' => hg env' s' x e1) env s fl e2
theorem bl_le (h : Le φ φ') (k : BL φ' f m N B R) : BL φ f m N B R := fun env s => k env (h.sat s)
/-! ends -/
theorem nf {ψ : τ → Fs} {t : τ} (h : Le φ (ψ t)) : ∀ env, Sat φ env → NF ψ t env := fun env s => h.sat s
theorem bl_nx {t : τ} (h : ∀ env, Sat φ env → N t env) : BL φ sNx (some (.nx t) : Option (Flow τ σ ρ)) N B R := fun env s fl e => by cases e; exact ⟨_, rfl, h env s⟩
theorem bl_bk {t : σ} (h : ∀ env, Sat φ env → B t env) : BL φ sBk (some (.bk t) : Option (Flow τ σ ρ)) N B R := fun env s fl e => by cases e; exact ⟨_, rfl, h env s⟩
theorem bl_ct {t : σ} (h : ∀ env, Sat φ env → B t env) : BL φ sCt (some (.ct t) : Option (Flow τ σ ρ)) N B R := fun env s fl e => by cases e; exact ⟨_, rfl, h env s⟩
/-- what a def answers: s is R r -/
def RS (Rs : ρ → S) : ρ → S → VL.Env → Prop := fun r s _ => s = Rs r
theorem rs {Rs : ρ → S} {r : ρ} : ∀ env, Sat φ env → RS Rs r (Rs r) env := fun _ _ => rfl
theorem bl_ret {r : ρ} (h : EV φ fe a) (k : ∀ env, Sat φ env → R r (.fz (en a)) env) : BL φ (sRet fe) (some (.rt r) : Option (Flow τ σ ρ)) N B R := fun env s fl e => by
  cases e
  exact ⟨.rt (.fz (en a)) env, by simp only [sRet, h env s, Option.map_some], k env s⟩
theorem bl_ret0 {r : ρ} (k : ∀ env, Sat φ env → R r (.fz .non) env) : BL φ sRet0 (some (.rt r) : Option (Flow τ σ ρ)) N B R := fun env s fl e => by
  cases e
  exact ⟨.rt (.fz .non) env, rfl, k env s⟩
theorem bl_retN (i : Nat) {r : ρ} {z : S} (e : φ[i]? = some (some z)) (k : ∀ env, Sat (φ.set i none) env → R r z env) : BL φ (sRetN i) (some (.rt r) : Option (Flow τ σ ρ)) N B R := fun env s fl q => by
  cases q
  exact ⟨.rt z (env.set i none), by simp only [sRetN, s.gs e, Option.map_some], k _ (s.drop i none)⟩
theorem bl_retO {r : ρ} {z : S} {fo : VL.Env → Option S} (h : ∀ env, Sat φ env → fo env = some z) (k : ∀ env, Sat φ env → R r z env) : BL φ (sRetO fo) (some (.rt r) : Option (Flow τ σ ρ)) N B R := fun env s fl e => by
  cases e
  exact ⟨.rt z env, by simp only [sRetO, h env s, Option.map_some], k env s⟩
/-! sequences -/
theorem bl_ss {o : Option τ'} {ψ : τ' → Fs} {k : τ' → Option (Flow τ σ ρ)} (h : SS φ f o ψ) (hk : ∀ t, BL (ψ t) fr (k t) N B R) : BL φ (sq f fr) (o.bind k) N B R := fun env s fl e => by
  obtain ⟨t, e1, e2⟩ := Option.bind_eq_some_iff.mp e
  obtain ⟨env', q1, q2⟩ := h env s t e1
  obtain ⟨u, q3, q4⟩ := hk t env' q2 fl e2
  exact ⟨u, by simp only [sq, q1, Option.bind_some]; exact q3, q4⟩
theorem bl_ssl {o : Option τ'} {ψ : τ' → Fs} {k : τ' → Option (Flow τ σ ρ)} (h : SS φ f o ψ) (hk : ∀ t, BL (ψ t) sNx (k t) N B R) : BL φ f (o.bind k) N B R := fun env s fl e => by
  obtain ⟨t, e1, e2⟩ := Option.bind_eq_some_iff.mp e
  obtain ⟨env', q1, q2⟩ := h env s t e1
  obtain ⟨u, q3, q4⟩ := hk t env' q2 fl e2
  cases q3
  exact ⟨_, q1, q4⟩
theorem bl_seq {m1 : Option (Flow τ' σ ρ)} {ψ : τ' → Fs} {k : τ' → Option (Flow τ σ ρ)} (h : BL φ f m1 (NF ψ) B R) (hk : ∀ t, BL (ψ t) fr (k t) N B R) : BL φ (sq f fr) (sqT m1 k) N B R := fun env s fl e => by
  obtain ⟨fl1, e1, e2⟩ := Option.bind_eq_some_iff.mp e
  obtain ⟨u, q1, q2⟩ := h env s fl1 e1
  cases fl1 with
  | nx t => cases u with
    | nx env' =>
      obtain ⟨u, q3, q4⟩ := hk t env' q2 fl e2
      exact ⟨u, by simp only [sq, q1, Option.bind_some]; exact q3, q4⟩
    | _ => exact q2.elim
  | bk t => cases u with
    | bk env' => cases e2; exact ⟨.bk env', by simp only [sq, q1, Option.bind_some], q2⟩
    | _ => exact q2.elim
  | ct t => cases u with
    | ct env' => cases e2; exact ⟨.ct env', by simp only [sq, q1, Option.bind_some], q2⟩
    | _ => exact q2.elim
  | rt t => cases u with
    | rt z env' => cases e2; exact ⟨.rt z env', by simp only [sq, q1, Option.bind_some], q2⟩
    | _ => exact q2.elim
theorem sq_nx (f : VL.Env → Option Out) : sq f sNx = f := by
  funext env
  unfold sq
  cases f env with
  | none => rfl
  | some o => cases o <;> rfl
theorem bl_seql {m1 : Option (Flow τ' σ ρ)} {ψ : τ' → Fs} {k : τ' → Option (Flow τ σ ρ)} (h : BL φ f m1 (NF ψ) B R) (hk : ∀ t, BL (ψ t) sNx (k t) N B R) : BL φ f (sqT m1 k) N B R := by
  rw [← sq_nx f]
  exact bl_seq h hk
theorem bl_skip (h : BL φ fr m N B R) : BL φ (sq sNx fr) m N B R := h
/-! if -/
variable {c : VL.Env → Option Bool} {t : Bool}
theorem bl_if (hc : EB φ c t) (hA : BL φ fA mA N B R) (hB : BL φ fB mB N B R) : BL φ (sIf c fA fB) (if t = true then mA else mB) N B R := fun env s fl e => by
  simp only [sIf, hc env s, Option.bind_some]
  cases t
  · exact hB env s fl e
  · exact hA env s fl e
theorem bl_ifA (hc : EB φ c t) (hA : BL φ fA mA never B R) (hB : BL φ (sq fB fr) mB N B R) : BL φ (sq (sIf c fA fB) fr) (if t = true then mA else mB) N B R := fun env s fl e => by
  cases t
  · obtain ⟨u, q1, q2⟩ := hB env s fl e
    refine ⟨u, ?_, q2⟩
    simp only [sq, sIf, hc env s, Option.bind_some]
    exact q1
  · obtain ⟨u, q1, q2⟩ := hA env s fl e
    cases fl with
    | nx t => cases u <;> exact q2.elim
    | bk t => cases u with
      | bk e' => exact ⟨.bk e', by simp only [sq, sIf, hc env s, Option.bind_some, if_true, q1], q2⟩
      | _ => exact q2.elim
    | ct t => cases u with
      | ct e' => exact ⟨.ct e', by simp only [sq, sIf, hc env s, Option.bind_some, if_true, q1], q2⟩
      | _ => exact q2.elim
    | rt t => cases u with
      | rt z e' => exact ⟨.rt z e', by simp only [sq, sIf, hc env s, Option.bind_some, if_true, q1], q2⟩
      | _ => exact q2.elim
theorem bl_ifB (hc : EB φ c t) (hA : BL φ (sq fA fr) mA N B R) (hB : BL φ fB mB never B R) : BL φ (sq (sIf c fA fB) fr) (if t = true then mA else mB) N B R := fun env s fl e => by
  cases t
  · obtain ⟨u, q1, q2⟩ := hB env s fl e
    cases fl with
    | nx t => cases u <;> exact q2.elim
    | bk t => cases u with
      | bk e' => exact ⟨.bk e', by simp only [sq, sIf, hc env s, Option.bind_some, q1]; rfl, q2⟩
      | _ => exact q2.elim
    | ct t => cases u with
      | ct e' => exact ⟨.ct e', by simp only [sq, sIf, hc env s, Option.bind_some, q1]; rfl, q2⟩
      | _ => exact q2.elim
    | rt t => cases u with
      | rt z e' => exact ⟨.rt z e', by simp only [sq, sIf, hc env s, Option.bind_some, q1]; rfl, q2⟩
      | _ => exact q2.elim
  · obtain ⟨u, q1, q2⟩ := hA env s fl e
    refine ⟨u, ?_, q2⟩
    simp only [sq, sIf, hc env s, Option.bind_some]
    exact q1
/-! freezing -/
theorem bl_fzs (i : Nat) {z : S} {d : D} (e : φ[i]? = some (some z)) (k : frS z = some d) (h : BL (φ.set i (some (.fz d))) (sq f fr) m N B R) : BL φ (sq (dFz i f) fr) m N B R := fun env s fl q => by
  obtain ⟨u, q1, q2⟩ := h _ (s.set i (.fz d)) fl q
  refine ⟨u, ?_, q2⟩
  simp only [sq, dFz, frzE, s.gs e, Option.bind_some, k, Option.map_some]
  exact q1
theorem bl_fz (i : Nat) {z : S} {d : D} (e : φ[i]? = some (some z)) (k : frS z = some d) (h : BL (φ.set i (some (.fz d))) f m N B R) : BL φ (dFz i f) m N B R := fun env s fl q => by
  obtain ⟨u, q1, q2⟩ := h _ (s.set i (.fz d)) fl q
  refine ⟨u, ?_, q2⟩
  simp only [dFz, frzE, s.gs e, Option.bind_some, k, Option.map_some]
  exact q1
theorem bl_fzsL (i : Nat) {xs : List α} (e : φ[i]? = some (some (olE xs)) := by rfl) (h : BL (φ.set i (some (.fz (en xs)))) (sq f fr) m N B R) : BL φ (sq (dFz i f) fr) m N B R := bl_fzs i e (frS_olE xs) h
theorem bl_fzL (i : Nat) {xs : List α} (e : φ[i]? = some (some (olE xs)) := by rfl) (h : BL (φ.set i (some (.fz (en xs)))) f m N B R) : BL φ (dFz i f) m N B R := bl_fz i e (frS_olE xs) h
theorem bl_fzsF (i : Nat) (e : φ[i]? = some (some (.fz (en a))) := by rfl) (h : BL (φ.set i (some (.fz (en a)))) (sq f fr) m N B R) : BL φ (sq (dFz i f) fr) m N B R := bl_fzs i e rfl h
theorem bl_fzF (i : Nat) (e : φ[i]? = some (some (.fz (en a))) := by rfl) (h : BL (φ.set i (some (.fz (en a)))) f m N B R) : BL φ (dFz i f) m N B R := bl_fz i e rfl h
/-! simple statements -/
theorem ss_set (i : Nat) {o : Option α} (h : EO φ fe o) : SS φ (sSet i fe) o (fun v => φ.set i (some (.fz (en v)))) := fun env s v e => ⟨_, by simp only [sSet, h env s v e, Option.map_some], s.set i _⟩
theorem ss_setL (i : Nat) {fl : VL.Env → Option (List D)} {o : Option (List α)} (h : ELo φ fl o) : SS φ (sSetO i (oL fl)) o (fun v => φ.set i (some (olE v))) := fun env s v e => ⟨env.set i (some (olE v)), by simp only [sSetO, oL, h env s v e, Option.map_some]; rfl, s.set i _⟩
theorem ss_setF (i : Nat) {o : Option α} (h : EO φ fe o) : SS φ (sSetO i (oFz fe)) o (fun v => φ.set i (some (.fz (en v)))) := fun env s v e => ⟨_, by simp only [sSetO, oFz, h env s v e, Option.map_some], s.set i _⟩
theorem ss_setC (i : Nat) {fs : VL.Env → Option (List D)} {ds : List D} {F : List D → Option S} {o : Option τ} {Rs : τ → S} (hs : EA φ fs ds) (k : ∀ r, o = some r → F ds = some (Rs r)) : SS φ (sSetO i (oCall fs F)) o (fun v => φ.set i (some (Rs v))) := fun env s v e => ⟨_, by simp only [sSetO, oCall, hs env s, Option.bind_some, k v e, Option.map_some], s.set i _⟩
theorem ss_setO (i : Nat) {fo : VL.Env → Option S} {z : S} (h : ∀ env, Sat φ env → fo env = some z) : SS φ (sSetO i fo) (some ()) (fun _ => φ.set i (some z)) := fun env s v e => ⟨_, by simp only [sSetO, h env s, Option.map_some], s.set i _⟩
def apT (xs : List α) (x : α) : Option (List α) := if xs.length < sizeLine then some (xs ++ [x]) else none
theorem ss_app (i : Nat) {xs : List α} (e : φ[i]? = some (some (olE xs)) := by rfl) (h : EV φ fe a) : SS φ (sApp i (oFz fe)) (apT xs a) (fun v => φ.set i (some (olE v))) := fun env s v q => by
  unfold apT at q
  split at q
  · rename_i hl
    cases q
    refine ⟨_, ?_, s.set i _⟩
    simp only [sApp, s.gs e, oFz, h env s, Option.bind_some, Option.map_some]
    show (if ((xs.map en).map S.fz).length < sizeLine then _ else _ : Option S).map _ = _
    rw [List.length_map, List.length_map, if_pos hl]
    show some (Out.nx (env.set i (some (S.ol _)))) = some (Out.nx (env.set i (some (S.ol _))))
    rw [List.map_append, List.map_append]; rfl
  · cases q
theorem ss_ext (i : Nat) {xs ys : List α} (e : φ[i]? = some (some (olE xs)) := by rfl) (h : EV φ fe ys) : SS φ (sExt i fe) (addL xs ys) (fun v => φ.set i (some (olE v))) := fun env s v q => by
  unfold addL at q
  split at q
  · rename_i hl
    cases q
    refine ⟨_, ?_, s.set i _⟩
    simp only [sExt, s.gs e, h env s, Option.bind_some, olOf_olE]
    show (if (xs.map en).length + (ys.map en).length ≤ sizeLine then _ else _ : Option Out) = _
    rw [List.length_map, List.length_map, if_pos hl, ← List.map_append]; rfl
  · cases q
def putT {α : Type} (xs : List α) (k : Int) (x : α) : Option (List α) := (ixN xs.length k).map fun j => xs.set j x
theorem ss_putL (i : Nat) {xs : List α} {k : Int} (e : φ[i]? = some (some (olE xs)) := by rfl) (hk : EV φ fk k) (h : EV φ fe a) : SS φ (sPutL i fk fe) (putT xs k a) (fun v => φ.set i (some (olE v))) := fun env s v q => by
  obtain ⟨j, q1, rfl⟩ := Option.map_eq_some_iff.mp q
  refine ⟨_, ?_, s.set i _⟩
  simp only [sPutL, s.gs e, h env s, hk env s, Option.bind_some, olOf_olE]
  show (ixN (xs.map en).length k).map _ = _
  rw [List.length_map, q1]
  show some (Out.nx (env.set i (some (S.ol _)))) = some (Out.nx (env.set i (some (S.ol _))))
  simp only [List.map_set]
theorem ss_aug (i : Nat) {g : Int → Int → Int} {a b : Int} (e : φ[i]? = some (some (.fz (en a))) := by rfl) (h : EV φ fe b) : SS φ (sAug i g fe) (some (g a b)) (fun v => φ.set i (some (.fz (en v)))) := fun env s v q => by
  cases q
  refine ⟨_, ?_, s.set i _⟩
  simp only [sAug, s.fz e, h env s, Option.bind_some]
  rfl
theorem ss_par (i j : Nat) {fs : VL.Env → Option (List D)} (h : EA φ fs [en a, en b]) : SS φ (sPar i j fs) (some (a, b)) (fun t => (φ.set i (some (.fz (en t.1)))).set j (some (.fz (en t.2)))) := fun env s v q => by
  cases q
  exact ⟨_, by simp only [sPar, h env s, Option.bind_some], (s.set i _).set j _⟩
theorem ss_tg {ft : D → VL.Env → Option VL.Env} {o : Option α} {ψ : α → Fs} (h : EO φ fe o) (ht : ∀ v, TG φ ft v (ψ v)) : SS φ (sTg ft fe) o ψ := fun env s v e => by
  obtain ⟨e1, k1, k2⟩ := ht v env s
  exact ⟨e1, by simp only [sTg, h env s v e, Option.bind_some, k1, Option.map_some], k2⟩
/-! loops -/
variable {xs : List α} {s0 : σ'} {body : α → σ' → Option (Flow σ' σ' ρ)} {ψs : σ' → Fs} {ψ1 : α → σ' → Fs} {fi : VL.Env → Option (List D)} {ft : D → VL.Env → Option VL.Env} {fb : VL.Env → Option Out}
def aftD (ft : D → VL.Env → Option VL.Env) (fb : VL.Env → Option Out) (ds : List D) : Out → Option Out
  | .nx e2 => forD ft fb ds e2
  | .ct e2 => forD ft fb ds e2
  | .bk e2 => some (.nx e2)
  | .rt s e2 => some (.rt s e2)
theorem forD_loopT {R : ρ → S → VL.Env → Prop} (ht : ∀ x s, TG (ψs s) ft x (ψ1 x s)) (hb : ∀ x s, BL (ψ1 x s) fb (body x s) (NF ψs) (NF ψs) R) : ∀ (xs : List α) (s : σ') (env : VL.Env), Sat (ψs s) env → ∀ fl : Flow σ' σ ρ, loopT body xs s = some fl → ∃ o, forD ft fb (xs.map en) env = some o ∧ FlOk (NF ψs) B R fl o
  | [], s, env, h, fl, e => by cases e; exact ⟨.nx env, rfl, h⟩
  | x :: xs, s, env, h, fl, e => by
    obtain ⟨fl1, e1, e2⟩ := Option.bind_eq_some_iff.mp (show (body x s).bind _ = _ from e)
    obtain ⟨env1, k1, k2⟩ := ht x s env h
    obtain ⟨u, k3, k4⟩ := hb x s env1 k2 fl1 e1
    have hu : forD ft fb ((x :: xs).map en) env = (fb env1).bind (aftD ft fb (xs.map en)) := by
      show (ft (en x) env).bind _ = _
      rw [k1]; rfl
    rw [hu, k3]
    show ∃ o, aftD ft fb (xs.map en) u = some o ∧ _
    cases fl1 with
    | nx t => cases u with
      | nx e' => exact forD_loopT ht hb xs t e' k4 fl e2
      | _ => exact k4.elim
    | ct t => cases u with
      | ct e' => exact forD_loopT ht hb xs t e' k4 fl e2
      | _ => exact k4.elim
    | bk t => cases u with
      | bk e' => cases e2; exact ⟨.nx e', rfl, k4⟩
      | _ => exact k4.elim
    | rt t => cases u with
      | rt z e' => cases e2; exact ⟨.rt z e', rfl, k4⟩
      | _ => exact k4.elim
theorem bl_for {R : ρ → S → VL.Env → Prop} (hi : EL φ fi xs) (h0 : Le φ (ψs s0)) (ht : ∀ x s, TG (ψs s) ft x (ψ1 x s)) (hb : ∀ x s, BL (ψ1 x s) fb (body x s) (NF ψs) (NF ψs) R) : BL φ (sFor fi ft fb) (loopT body xs s0 : Option (Flow σ' σ ρ)) (NF ψs) B R := fun env s fl e => by
  simp only [sFor, hi env s, Option.bind_some]
  exact forD_loopT ht hb xs s0 env (h0.sat s) fl e
theorem whD_whT {R : ρ → S → VL.Env → Prop} {cc : σ' → Option Bool} {wb : σ' → Option (Flow σ' σ' ρ)} (hc : ∀ s, EBo (ψs s) c (cc s)) (hb : ∀ s, BL (ψs s) fb (wb s) (NF ψs) (NF ψs) R) : ∀ (n : Nat) (s : σ') (env : VL.Env), Sat (ψs s) env → ∀ fl : Flow σ' σ ρ, whT cc wb n s = some fl → ∃ o, whD c fb n env = some o ∧ FlOk (NF ψs) B R fl o
  | 0, s, env, h, fl, e => by cases e
  | n + 1, s, env, h, fl, e => by
    obtain ⟨b, e0, e⟩ := Option.bind_eq_some_iff.mp (show (cc s).bind _ = _ from e)
    have hcb := hc s env h b e0
    show ∃ o, (c env).bind _ = some o ∧ _
    rw [hcb]
    cases b with
    | false =>
      cases e
      exact ⟨.nx env, rfl, h⟩
    | true =>
      obtain ⟨fl1, e1, e2⟩ := Option.bind_eq_some_iff.mp (show (wb s).bind _ = _ from e)
      obtain ⟨u, k3, k4⟩ := hb s env h fl1 e1
      show ∃ o, (fb env).bind _ = some o ∧ _
      rw [k3]
      cases fl1 with
      | nx t => cases u with
        | nx e' => exact whD_whT hc hb n t e' k4 fl e2
        | _ => exact k4.elim
      | ct t => cases u with
        | ct e' => exact whD_whT hc hb n t e' k4 fl e2
        | _ => exact k4.elim
      | bk t => cases u with
        | bk e' => cases e2; exact ⟨.nx e', rfl, k4⟩
        | _ => exact k4.elim
      | rt t => cases u with
        | rt z e' => cases e2; exact ⟨.rt z e', rfl, k4⟩
        | _ => exact k4.elim
theorem bl_wh {R : ρ → S → VL.Env → Prop} {cc : σ' → Option Bool} {wb : σ' → Option (Flow σ' σ' ρ)} {nf : VL.Env → Nat} {n : Nat} (hn : ∀ env, Sat φ env → nf env = n) (h0 : Le φ (ψs s0)) (hc : ∀ s, EBo (ψs s) c (cc s)) (hb : ∀ s, BL (ψs s) fb (wb s) (NF ψs) (NF ψs) R) : BL φ (sWh nf c fb) (whT cc wb n s0 : Option (Flow σ' σ ρ)) (NF ψs) B R := fun env s fl e => by
  simp only [sWh, hn env s]
  exact whD_whT hc hb n s0 env (h0.sat s) fl e
end
/-! ### defs -/
def ansT {ρ : Type} (m : Option (Flow Unit Empty ρ)) : Option ρ := m.bind fun fl => match fl with
  | .rt r => some r
  | _ => none
@[simp] theorem ansT_rt {ρ : Type} (r : ρ) : ansT (some (.rt r)) = some r := rfl
/-- None at the end -/
def ansN {ρ : Type} (d : ρ) (m : Option (Flow Unit Empty ρ)) : Option ρ := m.bind fun fl => match fl with
  | .rt r => some r
  | .nx _ => some d
  | _ => none
theorem fn_r {ρ : Type} {np n : Nat} {fb : VL.Env → Option Out} {ds : List D} {m : Option (Flow Unit Empty ρ)} {Rs : ρ → S} {N : Unit → VL.Env → Prop} {B : Empty → VL.Env → Prop} (hl : ds.length = np) (h : BL (startE n ds) fb m N B (RS Rs)) : ∀ r, ansT m = some r → fnS np n fb ds = some (Rs r) := fun r e => by
  obtain ⟨fl, e1, e2⟩ := Option.bind_eq_some_iff.mp (show m.bind _ = _ from e)
  obtain ⟨u, k1, k2⟩ := h (startE n ds) ⟨rfl, fun _ _ e => e⟩ fl e1
  unfold fnS
  rw [if_pos hl, k1]
  cases fl with
  | rt r' => cases u with
    | rt z e' => cases e2; exact congrArg some k2
    | _ => exact k2.elim
  | _ => cases e2
theorem fn_rN {ρ : Type} {np n : Nat} {fb : VL.Env → Option Out} {ds : List D} {m : Option (Flow Unit Empty ρ)} {Rs : ρ → S} {d : ρ} {N : Unit → VL.Env → Prop} {B : Empty → VL.Env → Prop} (hl : ds.length = np) (hd : Rs d = .fz .non) (h : BL (startE n ds) fb m N B (RS Rs)) : ∀ r, ansN d m = some r → fnS np n fb ds = some (Rs r) := fun r e => by
  obtain ⟨fl, e1, e2⟩ := Option.bind_eq_some_iff.mp (show m.bind _ = _ from e)
  obtain ⟨u, k1, k2⟩ := h (startE n ds) ⟨rfl, fun _ _ e => e⟩ fl e1
  unfold fnS
  rw [if_pos hl, k1]
  cases fl with
  | rt r' => cases u with
    | rt z e' => cases e2; exact congrArg some k2
    | _ => exact k2.elim
  | nx t => cases u with
    | nx e' => cases e2; exact congrArg some hd.symm
    | _ => exact k2.elim
  | _ => cases e2
end TL

set_option Elab.async false
set_option linter.all false
set_option maxRecDepth 100000
/-! TL4: what draws, typed: predicates of what is drawn. -/
namespace TL
open PySem PySem.Spec PyProof.Rows L2 VL
open Ty (en)
abbrev Dr (α : Type) := (α → Prop) → Prop
def ret {α : Type} (a : α) : Dr α := fun Q => Q a
def bnd {α β : Type} (m : Dr α) (k : α → Dr β) : Dr β := fun Q => m fun a => k a Q
def lift {α : Type} (o : Option α) : Dr α := fun Q => ∃ a, o = some a ∧ Q a
def takeT (m : Int) : Dr Int := fun Q => 0 < m ∧ m.natAbs < 2 ^ 64 ∧ ∀ x, 0 ≤ x → x < m → Q x
@[simp] theorem bnd_ret {α β : Type} (a : α) (k : α → Dr β) : bnd (ret a) k = k a := funext fun _ => propext ⟨id, id⟩
@[simp] theorem bnd_bnd {α β γ : Type} (m : Dr α) (k : α → Dr β) (l : β → Dr γ) : bnd (bnd m k) l = bnd m fun a => bnd (k a) l := funext fun _ => propext ⟨id, id⟩
@[simp] theorem lift_some {α : Type} (a : α) : lift (some a) = ret a := by
  funext Q
  exact propext ⟨fun ⟨_, e, q⟩ => by cases e; exact q, fun q => ⟨a, rfl, q⟩⟩
theorem lift_of {α : Type} {o : Option α} {a : α} {Q : α → Prop} (e : o = some a) (q : Q a) : lift o Q := ⟨a, e, q⟩
/-- what is left of the draws -/
structure DSt where
  n : Int
  cs : List Int
  h : cs ≠ []
def atS (p : Addr) (st : DSt) : S := .at p (stS st.n st.cs)
abbrev Fs2 := DSt → Fs
def GM {T τ : Type} (φ : Fs2) (R : τ → T) (f : Mo T) (m : Dr τ) : Prop :=
  ∀ env st, Sat (φ st) env → ∀ Q : τ → Prop, m Q → ∃ v env' st', f env = some (R v, env') ∧ Sat (φ st') env' ∧ Q v
def BM {τ σ ρ : Type} (φ : Fs2) (f : VL.Env → Option Out) (m : Dr (Flow τ σ ρ)) (N : τ → VL.Env → Prop) (B : σ → VL.Env → Prop) (R : ρ → S → VL.Env → Prop) : Prop :=
  ∀ env st, Sat (φ st) env → ∀ Q, m Q → ∃ o fl, f env = some o ∧ FlOk N B R fl o ∧ Q fl
def SM {τ : Type} (φ : Fs2) (f : VL.Env → Option Out) (m : Dr τ) (ψ : τ → Fs2) : Prop :=
  ∀ env st, Sat (φ st) env → ∀ Q : τ → Prop, m Q → ∃ v env' st', f env = some (.nx env') ∧ Sat (ψ v st') env' ∧ Q v
def NM {τ : Type} (ψ : τ → Fs2) : τ → VL.Env → Prop := fun t e => ∃ st, Sat (ψ t st) e
def bndF {τ τ' σ ρ : Type} (m : Dr (Flow τ σ ρ)) (k : τ → Dr (Flow τ' σ ρ)) : Dr (Flow τ' σ ρ) := fun Q => m fun fl => match fl with
  | .nx t => k t Q
  | .bk s => Q (.bk s)
  | .ct s => Q (.ct s)
  | .rt r => Q (.rt r)
@[simp] theorem bndF_nx {τ τ' σ ρ : Type} (t : τ) (k : τ → Dr (Flow τ' σ ρ)) : bndF (ret (.nx t)) k = k t := rfl
@[simp] theorem bndF_rt {τ τ' σ ρ : Type} (t : ρ) (k : τ → Dr (Flow τ' σ ρ)) : bndF (ret (.rt t)) k = ret (.rt t) := rfl
def loopDr {α σ σ' ρ : Type} (body : α → σ → Dr (Flow σ σ ρ)) : List α → σ → Dr (Flow σ σ' ρ)
  | [], s => ret (.nx s)
  | x :: xs, s => fun Q => body x s fun fl => match fl with
    | .nx s => loopDr body xs s Q
    | .ct s => loopDr body xs s Q
    | .bk s => Q (.nx s)
    | .rt r => Q (.rt r)
def compDr {α β : Type} (c : α → Dr Bool) (g : α → Dr β) : List α → Dr (List β)
  | [] => ret []
  | x :: xs => bnd (c x) fun b => if b = true then bnd (g x) fun y => bnd (compDr c g xs) fun ys => ret (y :: ys) else compDr c g xs
/-- monotone -/
def Mono {α : Type} (m : Dr α) : Prop := ∀ {Q R : α → Prop}, (∀ a, Q a → R a) → m Q → m R
section
variable {α β γ : Type} [Ty α] [Ty β] [Ty γ] {τ τ' σ σ' ρ T T' : Type} {φ : Fs2}
theorem gm_pur {R : τ → T} {f : VL.Env → Option T} {v : τ} (h : ∀ st, GJ (φ st) R f v) : GM φ R (pur f) (ret v) := fun env st s Q q => ⟨v, env, st, by simp only [pur, h st env s, Option.map_some], s, q⟩
theorem gm_puro {R : τ → T} {f : VL.Env → Option T} {o : Option τ} (h : ∀ st, GO (φ st) R f o) : GM φ R (pur f) (lift o) := fun env st s Q ⟨v, e, q⟩ => ⟨v, env, st, by simp only [pur, h st env s v e, Option.map_some], s, q⟩
theorem gm_eq {R : τ → T} {f : Mo T} {m : Dr τ} {R' : τ' → T} {w : τ → τ'} (h : GM φ R f m) (e : ∀ v, R v = R' (w v)) : GM φ R' f (bnd m fun v => ret (w v)) := fun env st s Q q => by
  obtain ⟨v, env', st', h1, h2, h3⟩ := h env st s _ q
  exact ⟨w v, env', st', by rw [h1, e], h2, h3⟩
theorem gm_d {f : Mo D} {m : Dr α} (h : GM φ en f m) : GM φ (fun d : D => d) f (bnd m fun v => ret (en v)) := gm_eq h fun v => rfl
theorem gm_2 {fa fb : Mo D} {g : D → D → Option D} {ma : Dr α} {mb : Dr β} {r : α → β → γ} (ha : GM φ en fa ma) (hb : GM φ en fb mb) (k : ∀ a b, O2 g a b (r a b)) : GM φ en (m2 fa fb g) (bnd ma fun a => bnd mb fun b => ret (r a b)) := fun env st s Q q => by
  obtain ⟨a, e1, s1, h1, h2, h3⟩ := ha env st s _ q
  obtain ⟨b, e2, s2, h4, h5, h6⟩ := hb e1 s1 h2 _ h3
  have := k a b
  exact ⟨_, e2, s2, by simp only [m2, h1, h4, Option.bind_some, show g (en a) (en b) = some (en (r a b)) from k a b, Option.map_some], h5, h6⟩
theorem gm_2o {fa fb : Mo D} {g : D → D → Option D} {ma : Dr α} {mb : Dr β} {r : α → β → Option γ} (ha : GM φ en fa ma) (hb : GM φ en fb mb) (k : ∀ a b, O2o g a b (r a b)) : GM φ en (m2 fa fb g) (bnd ma fun a => bnd mb fun b => lift (r a b)) := fun env st s Q q => by
  obtain ⟨a, e1, s1, h1, h2, h3⟩ := ha env st s _ q
  obtain ⟨b, e2, s2, h4, h5, ⟨v, h6, h7⟩⟩ := hb e1 s1 h2 _ h3
  exact ⟨_, e2, s2, by simp only [m2, h1, h4, Option.bind_some, k a b v h6, Option.map_some], h5, h7⟩
theorem gm_tb {f : Mo D} {m : Dr Bool} (h : GM φ en f m) : GM φ (fun b : Bool => b) (mtb f) m := fun env st s Q q => by
  obtain ⟨a, e1, s1, h1, h2, h3⟩ := h env st s _ q
  exact ⟨a, e1, s1, by simp only [mtb, h1, Option.bind_some]; rfl, h2, h3⟩
section
variable {f g : Mo Bool} {ma mb : Dr Bool}
theorem gm_and (ha : GM φ (fun b : Bool => b) f ma) (hb : GM φ (fun b : Bool => b) g mb) : GM φ (fun b : Bool => b) (mAnd f g) (bnd ma fun a => if a = true then mb else ret false) := fun env st s Q q => by
  obtain ⟨a, e1, s1, h1, h2, h3⟩ := ha env st s _ q
  cases a
  · exact ⟨false, e1, s1, by simp only [mAnd, h1, Option.bind_some]; rfl, h2, h3⟩
  · obtain ⟨b, e2, s2, h4, h5, h6⟩ := hb e1 s1 h2 _ h3
    exact ⟨b, e2, s2, by simp only [mAnd, h1, Option.bind_some, if_true, h4], h5, h6⟩
theorem gm_or (ha : GM φ (fun b : Bool => b) f ma) (hb : GM φ (fun b : Bool => b) g mb) : GM φ (fun b : Bool => b) (mOr f g) (bnd ma fun a => if a = true then ret true else mb) := fun env st s Q q => by
  obtain ⟨a, e1, s1, h1, h2, h3⟩ := ha env st s _ q
  cases a
  · obtain ⟨b, e2, s2, h4, h5, h6⟩ := hb e1 s1 h2 _ h3
    exact ⟨b, e2, s2, by simp only [mOr, h1, Option.bind_some]; exact h4, h5, h6⟩
  · exact ⟨true, e1, s1, by simp only [mOr, h1, Option.bind_some, if_true], h2, h3⟩
theorem gm_not (ha : GM φ (fun b : Bool => b) f ma) : GM φ (fun b : Bool => b) (mNot f) (bnd ma fun a => ret (!a)) := fun env st s Q q => by
  obtain ⟨a, e1, s1, h1, h2, h3⟩ := ha env st s _ q
  exact ⟨_, e1, s1, by simp only [mNot, h1, Option.map_some], h2, h3⟩
theorem gm_if {p q : Mo D} {mp mq : Dr α} (ha : GM φ (fun b : Bool => b) f ma) (hp : GM φ en p mp) (hq : GM φ en q mq) : GM φ en (mIf f p q) (bnd ma fun a => if a = true then mp else mq) := fun env st s Q q => by
  obtain ⟨a, e1, s1, h1, h2, h3⟩ := ha env st s _ q
  cases a
  · obtain ⟨b, e2, s2, h4, h5, h6⟩ := hq e1 s1 h2 _ h3
    exact ⟨b, e2, s2, by simp only [mIf, h1, Option.bind_some]; exact h4, h5, h6⟩
  · obtain ⟨b, e2, s2, h4, h5, h6⟩ := hp e1 s1 h2 _ h3
    exact ⟨b, e2, s2, by simp only [mIf, h1, Option.bind_some, if_true]; exact h4, h5, h6⟩
end
/-! arguments, calls -/
theorem ma_nil : GM φ (fun _ : Unit => ([] : List D)) mA0 (ret ()) := fun env st s Q q => ⟨(), env, st, rfl, s, q⟩
theorem ma_cons {f : Mo D} {fs : Mo (List D)} {ma : Dr α} {mb : Dr τ} {ds : τ → List D} (ha : GM φ en f ma) (hb : GM φ ds fs mb) : GM φ (fun t : α × τ => en t.1 :: ds t.2) (maC f fs) (bnd ma fun a => bnd mb fun t => ret (a, t)) := fun env st s Q q => by
  obtain ⟨a, e1, s1, h1, h2, h3⟩ := ha env st s _ q
  obtain ⟨b, e2, s2, h4, h5, h6⟩ := hb e1 s1 h2 _ h3
  exact ⟨(a, b), e2, s2, by simp only [maC, h1, h4, Option.bind_some, Option.map_some], h5, h6⟩
theorem gm_tup {fs : Mo (List D)} {m : Dr τ} {ds : τ → List D} {v : τ → α} (h : GM φ ds fs m) (e : ∀ t, D.tup (ds t) = en (v t)) (l : ∀ t, (ds t).length < 1000) : GM φ en (mTup fs) (bnd m fun t => ret (v t)) := fun env st s Q q => by
  obtain ⟨a, e1, s1, h1, h2, h3⟩ := h env st s _ q
  exact ⟨_, e1, s1, by simp only [mTup, h1, Option.bind_some, if_pos (l a), e a], h2, h3⟩
theorem gm_lst {fs : Mo (List D)} {m : Dr τ} {ds : τ → List D} {v : τ → α} (h : GM φ ds fs m) (e : ∀ t, D.lst (ds t) = en (v t)) (l : ∀ t, (ds t).length < 1000) : GM φ en (mLst fs) (bnd m fun t => ret (v t)) := fun env st s Q q => by
  obtain ⟨a, e1, s1, h1, h2, h3⟩ := h env st s _ q
  exact ⟨_, e1, s1, by simp only [mLst, h1, Option.bind_some, if_pos (l a), e a], h2, h3⟩
theorem gm_B {fs : Mo (List D)} {m : Dr τ} {ds : τ → List D} {g : List D → Option T} {R : τ' → T} {v : τ → τ'} (h : GM φ ds fs m) (e : ∀ t, g (ds t) = some (R (v t))) : GM φ R (mB fs g) (bnd m fun t => ret (v t)) := fun env st s Q q => by
  obtain ⟨a, e1, s1, h1, h2, h3⟩ := h env st s _ q
  exact ⟨_, e1, s1, by simp only [mB, h1, Option.bind_some, e a, Option.map_some], h2, h3⟩
theorem gm_Bo {fs : Mo (List D)} {m : Dr τ} {ds : τ → List D} {g : List D → Option T} {R : τ' → T} {o : τ → Option τ'} (h : GM φ ds fs m) (e : ∀ t c, o t = some c → g (ds t) = some (R c)) : GM φ R (mB fs g) (bnd m fun t => lift (o t)) := fun env st s Q q => by
  obtain ⟨a, e1, s1, h1, h2, ⟨c, h3, h4⟩⟩ := h env st s _ q
  exact ⟨c, e1, s1, by simp only [mB, h1, Option.bind_some, e a c h3, Option.map_some], h2, h4⟩
theorem gm_call {fs : Mo (List D)} {m : Dr τ} {ds : τ → List D} {F : List D → Option S} {o : τ → Option α} (h : GM φ ds fs m) (k : ∀ t r, o t = some r → ∃ s, F (ds t) = some s ∧ frS s = some (en r)) : GM φ en (mCall fs F) (bnd m fun t => lift (o t)) :=
  gm_Bo h fun t c e => by
    obtain ⟨z, k1, k2⟩ := k t c e
    show (F (ds t)).bind frS = _
    rw [k1]
    exact k2
/-! draws -/
theorem gm_take (i : Nat) {p : Addr} {fs : Mo (List D)} {m : Dr τ} {ds : τ → List D} {v : τ → Int} (h : GM φ ds fs m) (e : ∀ t, ds t = [en (v t)]) (hs : ∀ st, (φ st)[i]? = some (some (atS p st)) := by intro st; rfl) (hu : ∀ st st', (φ st).set i (some (atS p st')) = φ st' := by intro st st'; rfl) :
    GM φ en (mI i fs takeS) (bnd m fun t => takeT (v t)) := fun env st s Q q => by
  obtain ⟨a, e1, s1, h1, h2, h3, h4, h5⟩ := h env st s _ q
  have g1 := s1
  have gs0 : getS env i = some (atS p st) := s.gs (hs st)
  have gs1 : getS e1 i = some (atS p s1) := h2.gs (hs s1)
  have hn := (takeF_ne (n := s1.n) (m := v a) s1.h)
  refine ⟨(takeF s1.n s1.cs (v a)).1, e1.set i (some (atS p ⟨(takeF s1.n s1.cs (v a)).2.1, (takeF s1.n s1.cs (v a)).2.2, hn⟩)), ⟨(takeF s1.n s1.cs (v a)).2.1, (takeF s1.n s1.cs (v a)).2.2, hn⟩, ?_, ?_, h5 _ (takeF_lt h3).1 (takeF_lt h3).2⟩
  · simp only [mI, gs0, h1, gs1, Option.bind_some, e a]
    show (atOf (.at p (stS s1.n s1.cs))).bind _ = _
    simp only [atOf_at, Option.bind_some]
    show (takeS p (stS s1.n s1.cs) [.int (v a)]).map _ = _
    rw [takeS_eq h3 h4 s1.h]
    rfl
  · have := h2.set i (atS p ⟨(takeF s1.n s1.cs (v a)).2.1, (takeF s1.n s1.cs (v a)).2.2, hn⟩)
    rwa [hu] at this
/-- a def that draws -/
def IOk (I : Addr → S → List D → Option (D × S)) (ds : List D) (m : Dr α) : Prop := ∀ (p : Addr) (st : DSt) (Q : α → Prop), m Q → ∃ (r : α) (st' : DSt), I p (stS st.n st.cs) ds = some (en r, stS st'.n st'.cs) ∧ Q r
theorem gm_I (i : Nat) {p : Addr} {fs : Mo (List D)} {m : Dr τ} {ds : τ → List D} {I : Addr → S → List D → Option (D × S)} {w : τ → Dr α} (h : GM φ ds fs m) (k : ∀ t, IOk I (ds t) (w t)) (hs : ∀ st, (φ st)[i]? = some (some (atS p st)) := by intro st; rfl) (hu : ∀ st st', (φ st).set i (some (atS p st')) = φ st' := by intro st st'; rfl) :
    GM φ en (mI i fs I) (bnd m w) := fun env st s Q q => by
  obtain ⟨a, e1, s1, h1, h2, h3⟩ := h env st s _ q
  have gs0 : getS env i = some (atS p st) := s.gs (hs st)
  have gs1 : getS e1 i = some (atS p s1) := h2.gs (hs s1)
  obtain ⟨r, s2, h4, h5⟩ := k a p s1 Q h3
  refine ⟨r, e1.set i (some (atS p s2)), s2, ?_, ?_, h5⟩
  · simp only [mI, gs0, h1, gs1, Option.bind_some]
    show (atOf (.at p (stS s1.n s1.cs))).bind _ = _
    simp only [atOf_at, Option.bind_some, h4, Option.map_some]
    rfl
  · have := h2.set i (atS p s2)
    rwa [hu] at this
/-! comprehensions that draw -/
theorem compM_compDr {vs : List Nat} {ft : D → VL.Env → Option VL.Env} {fc : Mo Bool} {fe : Mo D} {φ' : Fs2} {φ1 : α → Fs2} {cc : α → Dr Bool} {gg : α → Dr β} (ht : ∀ x st, TG (φ' st) ft x (φ1 x st)) (hw : ∀ x st, Le (wipeF (φ1 x st) vs) (φ' st)) (hc : ∀ x, GM (φ1 x) (fun b : Bool => b) fc (cc x)) (he : ∀ x, GM (φ1 x) en fe (gg x)) :
    ∀ (xs : List α) (env : VL.Env) (st : DSt), Sat (φ' st) env → ∀ Q : List β → Prop, compDr cc gg xs Q → ∃ (ys : List β) (env' : VL.Env) (st' : DSt), compM vs ft fc fe (xs.map en) env = some (ys.map en, env') ∧ Sat (φ' st') env' ∧ Q ys
  | [], env, st, s, Q, q => ⟨[], env, st, rfl, s, q⟩
  | x :: xs, env, st, s, Q, q => by
    obtain ⟨e1, k1, k2⟩ := ht x st env s
    obtain ⟨b, e2, s2, h1, h2, h3⟩ := hc x e1 st k2 _ q
    show ∃ (ys : List β) (env' : VL.Env) (st' : DSt), (ft (en x) env).bind _ = some (ys.map en, env') ∧ _
    rw [k1]
    show ∃ (ys : List β) (env' : VL.Env) (st' : DSt), (fc e1).bind _ = some (ys.map en, env') ∧ _
    rw [h1]
    cases b with
    | false =>
      have h3 : compDr cc gg xs Q := h3
      exact compM_compDr ht hw hc he xs (wipeE e2 vs) s2 ((hw x s2).sat (h2.wipe vs)) Q h3
    | true =>
      have h3 : gg x (fun y => bnd (compDr cc gg xs) (fun ys => ret (y :: ys)) Q) := h3
      obtain ⟨y, e3, s3, h4, h5, h6⟩ := he x e2 s2 h2 _ h3
      have h6 : compDr cc gg xs (fun ys => Q (y :: ys)) := h6
      obtain ⟨ys, e4, s4, h7, h8, h9⟩ := compM_compDr ht hw hc he xs (wipeE e3 vs) s3 ((hw x s3).sat (h5.wipe vs)) _ h6
      refine ⟨y :: ys, e4, s4, ?_, h8, h9⟩
      show (fe e2).bind _ = _
      rw [h4]
      show (compM vs ft fc fe (xs.map en) (wipeE e3 vs)).map _ = _
      rw [h7]; rfl
theorem gm_comp {vs : List Nat} {fi : Mo (List D)} {ft : D → VL.Env → Option VL.Env} {fc : Mo Bool} {fe : Mo D} {φ1 : α → Fs2} {mi : Dr (List α)} {cc : α → Dr Bool} {gg : α → Dr β} (hi : GM φ (List.map en) fi mi) (h0 : ∀ st, Le (wipeF (φ st) vs) (φ st)) (ht : ∀ x st, TG (φ st) ft x (φ1 x st)) (hw : ∀ x st, Le (wipeF (φ1 x st) vs) (φ st))
    (hc : ∀ x, GM (φ1 x) (fun b : Bool => b) fc (cc x)) (he : ∀ x, GM (φ1 x) en fe (gg x)) : GM φ (en : List β → D) (mComp vs fi ft fc fe) (bnd mi fun xs => compDr cc gg xs) := fun env st s Q q => by
  obtain ⟨xs, e1, s1, h1, h2, h3⟩ := hi env st s _ q
  obtain ⟨ys, e2, s2, h4, h5, h6⟩ := compM_compDr ht hw hc he xs (wipeE e1 vs) s1 ((h0 s1).sat (h2.wipe vs)) Q h3
  exact ⟨ys, e2, s2, by simp only [mComp, h1, Option.bind_some, h4, Option.map_some]; rfl, h5, h6⟩
theorem gm_mY : GM φ (fun b : Bool => b) mY (ret true) := fun env st s Q q => ⟨true, env, st, rfl, s, q⟩
theorem gm_sq {f : Mo D} {m : Dr (List α)} (h : GM φ en f m) : GM φ (List.map en) (mSq f) m := fun env st s Q q => by
  obtain ⟨xs, e1, s1, h1, h2, h3⟩ := h env st s _ q
  exact ⟨xs, e1, s1, by simp only [mSq, h1, Option.bind_some]; rfl, h2, h3⟩
theorem gm_r1 {fs : Mo (List D)} {m : Dr τ} {ds : τ → List D} {v : τ → Int} (h : GM φ ds fs m) (e : ∀ t, ds t = [en (v t)]) : GM φ (List.map en) (mB fs rng1) (bnd m fun t => lift (rngT (v t))) := gm_Bo h fun t c q => by
  rw [e]
  unfold rngT at q
  split at q
  · rename_i hn
    cases q
    refine (rng1_int hn).trans ?_
    rw [rangeT_en, Int.sub_zero]
  · cases q
/-! statements -/
variable {f fr fA fB : VL.Env → Option Out} {m mA mB : Dr (Flow τ σ ρ)} {N : τ → VL.Env → Prop} {B : σ → VL.Env → Prop} {R : ρ → S → VL.Env → Prop}
theorem nm {ψ : τ → Fs2} {t : τ} {φ : Fs} (st : DSt) (h : Le φ (ψ t st)) : ∀ env, Sat φ env → NM ψ t env := fun env s => ⟨st, h.sat s⟩
theorem bm_bl {m : Option (Flow τ σ ρ)} (h : ∀ st, BL (φ st) f m N B R) : BM φ f (lift m) N B R := fun env st s Q ⟨fl, e, q⟩ => by
  obtain ⟨o, h1, h2⟩ := h st env s fl e
  exact ⟨o, fl, h1, h2, q⟩
theorem bm_blr {fl : Flow τ σ ρ} (h : ∀ st, BL (φ st) f (some fl) N B R) : BM φ f (ret fl) N B R := fun env st s Q q => by
  obtain ⟨o, h1, h2⟩ := h st env s fl rfl
  exact ⟨o, fl, h1, h2, q⟩
theorem sm_ss {o : Option τ} {ψ : τ → Fs2} (h : ∀ st, SS (φ st) f o (fun t => ψ t st)) : SM φ f (lift o) ψ := fun env st s Q ⟨v, e, q⟩ => by
  obtain ⟨e1, h1, h2⟩ := h st env s v e
  exact ⟨v, e1, st, h1, h2, q⟩
theorem sm_set (i : Nat) {fe : Mo D} {m : Dr α} (h : GM φ en fe m) : SM φ (sSetM i fe) m (fun v st => (φ st).set i (some (.fz (en v)))) := fun env st s Q q => by
  obtain ⟨v, e1, s1, h1, h2, h3⟩ := h env st s Q q
  exact ⟨v, _, s1, by simp only [sSetM, h1, Option.map_some], h2.set i _, h3⟩
theorem sm_tg {fe : Mo D} {ft : D → VL.Env → Option VL.Env} {m : Dr α} {ψ : α → Fs2} (h : GM φ en fe m) (ht : ∀ v st, TG (φ st) ft v (ψ v st)) : SM φ (sTgM ft fe) m ψ := fun env st s Q q => by
  obtain ⟨v, e1, s1, h1, h2, h3⟩ := h env st s Q q
  obtain ⟨e2, h4, h5⟩ := ht v s1 e1 h2
  exact ⟨v, e2, s1, by simp only [sTgM, h1, Option.bind_some, h4, Option.map_some], h5, h3⟩
theorem sm_par (i j : Nat) {fs : Mo (List D)} {m : Dr τ} {ds : τ → List D} {u : τ → α} {v : τ → β} (h : GM φ ds fs m) (e : ∀ t, ds t = [en (u t), en (v t)]) : SM φ (sParM i j fs) m (fun t st => ((φ st).set i (some (.fz (en (u t))))).set j (some (.fz (en (v t))))) := fun env st s Q q => by
  obtain ⟨t, e1, s1, h1, h2, h3⟩ := h env st s Q q
  exact ⟨t, _, s1, by simp only [sParM, h1, Option.bind_some, e t], (h2.set i _).set j _, h3⟩
theorem sm_app (i : Nat) {fe : Mo D} {m : Dr α} {xs : List α} (e : ∀ st, (φ st)[i]? = some (some (olE xs)) := by intro st; rfl) (h : GM φ en fe m) : SM φ (sAppM i fe) (bnd m fun v => lift (apT xs v)) (fun v st => (φ st).set i (some (olE v))) := fun env st s Q q => by
  obtain ⟨a, e1, s1, h1, h2, v, h3, h4⟩ := h env st s _ q
  unfold apT at h3
  split at h3
  · rename_i hl
    cases h3
    refine ⟨_, e1.set i (some (olE (xs ++ [a]))), s1, ?_, h2.set i _, h4⟩
    simp only [sAppM, s.gs (e st), olOf_olE, Option.bind_some, h1, h2.gs (e s1), List.length_map, if_pos hl]
    show some (Out.nx (e1.set i (some (S.ol _)))) = some (Out.nx (e1.set i (some (S.ol _))))
    simp only [List.map_append, List.map_cons, List.map_nil]
  · cases h3
theorem sm_putL (i : Nat) {fe : Mo D} {fk : VL.Env → Option D} {m : Dr α} {xs : List α} {k : Int} (e : ∀ st, (φ st)[i]? = some (some (olE xs)) := by intro st; rfl) (hk : ∀ st, EV (φ st) fk k) (h : GM φ en fe m) : SM φ (sPutLM i fk fe) (bnd m fun v => lift (putT xs k v)) (fun v st => (φ st).set i (some (olE v))) := fun env st s Q q => by
  obtain ⟨a, e1, s1, h1, h2, v, h3, h4⟩ := h env st s _ q
  obtain ⟨j, q1, rfl⟩ := Option.map_eq_some_iff.mp h3
  refine ⟨_, e1.set i (some (olE (xs.set j a))), s1, ?_, h2.set i _, h4⟩
  simp only [sPutLM, h1, Option.bind_some, h2.gs (e s1), olOf_olE, hk s1 e1 h2]
  show (ixN (xs.map en).length k).map _ = _
  rw [List.length_map, q1]
  show some (Out.nx (e1.set i (some (S.ol _)))) = some (Out.nx (e1.set i (some (S.ol _))))
  simp only [List.map_set]
theorem bm_sm {m : Dr τ'} {ψ : τ' → Fs2} {k : τ' → Dr (Flow τ σ ρ)} (h : SM φ f m ψ) (hk : ∀ t, BM (ψ t) fr (k t) N B R) : BM φ (sq f fr) (bnd m k) N B R := fun env st s Q q => by
  obtain ⟨t, e1, s1, h1, h2, h3⟩ := h env st s _ q
  obtain ⟨o, fl, h4, h5, h6⟩ := hk t e1 s1 h2 Q h3
  exact ⟨o, fl, by simp only [sq, h1, Option.bind_some]; exact h4, h5, h6⟩
theorem bm_sml {m : Dr τ'} {ψ : τ' → Fs2} {k : τ' → Dr (Flow τ σ ρ)} (h : SM φ f m ψ) (hk : ∀ t, BM (ψ t) sNx (k t) N B R) : BM φ f (bnd m k) N B R := by
  rw [← sq_nx f]
  exact bm_sm h hk
theorem bm_seq {m1 : Dr (Flow τ' σ ρ)} {ψ : τ' → Fs2} {k : τ' → Dr (Flow τ σ ρ)} (h : BM φ f m1 (NM ψ) B R) (hk : ∀ t, BM (ψ t) fr (k t) N B R) : BM φ (sq f fr) (bndF m1 k) N B R := fun env st s Q q => by
  obtain ⟨u, fl, h1, h2, h3⟩ := h env st s _ q
  cases fl with
  | nx t => cases u with
    | nx env' =>
      obtain ⟨s', h2⟩ := h2
      obtain ⟨o, fl, h4, h5, h6⟩ := hk t env' s' h2 Q h3
      exact ⟨o, fl, by simp only [sq, h1, Option.bind_some]; exact h4, h5, h6⟩
    | _ => exact h2.elim
  | bk t => cases u with
    | bk env' => exact ⟨.bk env', .bk t, by simp only [sq, h1, Option.bind_some], h2, h3⟩
    | _ => exact h2.elim
  | ct t => cases u with
    | ct env' => exact ⟨.ct env', .ct t, by simp only [sq, h1, Option.bind_some], h2, h3⟩
    | _ => exact h2.elim
  | rt t => cases u with
    | rt z env' => exact ⟨.rt z env', .rt t, by simp only [sq, h1, Option.bind_some], h2, h3⟩
    | _ => exact h2.elim
theorem bm_seql {m1 : Dr (Flow τ' σ ρ)} {ψ : τ' → Fs2} {k : τ' → Dr (Flow τ σ ρ)} (h : BM φ f m1 (NM ψ) B R) (hk : ∀ t, BM (ψ t) sNx (k t) N B R) : BM φ f (bndF m1 k) N B R := by
  rw [← sq_nx f]
  exact bm_seq h hk
theorem bm_skip (h : BM φ fr m N B R) : BM φ (sq sNx fr) m N B R := h
theorem bm_ret {fe : Mo D} {m : Dr α} {r : α → ρ} (h : GM φ en fe m) (k : ∀ v st env, Sat (φ st) env → R (r v) (.fz (en v)) env) : BM φ (sRetM fe) (bnd m fun v => ret (.rt (r v)) : Dr (Flow τ σ ρ)) N B R := fun env st s Q q => by
  obtain ⟨v, e1, s1, h1, h2, h3⟩ := h env st s _ q
  exact ⟨.rt (.fz (en v)) e1, .rt (r v), by simp only [sRetM, h1, Option.map_some], k v s1 e1 h2, h3⟩
section
variable {c : VL.Env → Option Bool} {t : Bool}
theorem bm_if (hc : ∀ st, EB (φ st) c t) (hA : BM φ fA mA N B R) (hB : BM φ fB mB N B R) : BM φ (sIf c fA fB) (if t = true then mA else mB) N B R := fun env st s Q q => by
  simp only [sIf, hc st env s, Option.bind_some]
  cases t
  · exact hB env st s Q q
  · exact hA env st s Q q
theorem bm_ends {u : VL.Env → Option Out} {env : VL.Env} {fl : Flow τ σ ρ} {o : Out} {Q : Flow τ σ ρ → Prop} (h1 : f env = some o) (h2 : FlOk never B R fl o) (h3 : Q fl) : ∃ o fl, sq f fr env = some o ∧ FlOk N B R fl o ∧ Q fl := by
  cases fl with
  | nx t => cases o <;> exact h2.elim
  | bk t => cases o with
    | bk env' => exact ⟨.bk env', .bk t, by simp only [sq, h1, Option.bind_some], h2, h3⟩
    | _ => exact h2.elim
  | ct t => cases o with
    | ct env' => exact ⟨.ct env', .ct t, by simp only [sq, h1, Option.bind_some], h2, h3⟩
    | _ => exact h2.elim
  | rt t => cases o with
    | rt z env' => exact ⟨.rt z env', .rt t, by simp only [sq, h1, Option.bind_some], h2, h3⟩
    | _ => exact h2.elim
theorem bm_ifA (hc : ∀ st, EB (φ st) c t) (hA : BM φ fA mA never B R) (hB : BM φ (sq fB fr) mB N B R) : BM φ (sq (sIf c fA fB) fr) (if t = true then mA else mB) N B R := fun env st s Q q => by
  cases t
  · obtain ⟨o, fl, h1, h2, h3⟩ := hB env st s Q q
    exact ⟨o, fl, by simp only [sq, sIf, hc st env s, Option.bind_some]; exact h1, h2, h3⟩
  · obtain ⟨o, fl, h1, h2, h3⟩ := hA env st s Q q
    exact bm_ends (f := sIf c fA fB) (u := fA) (by simp only [sIf, hc st env s, Option.bind_some, if_true, h1]) h2 h3
theorem bm_ifB (hc : ∀ st, EB (φ st) c t) (hA : BM φ (sq fA fr) mA N B R) (hB : BM φ fB mB never B R) : BM φ (sq (sIf c fA fB) fr) (if t = true then mA else mB) N B R := fun env st s Q q => by
  cases t
  · obtain ⟨o, fl, h1, h2, h3⟩ := hB env st s Q q
    exact bm_ends (f := sIf c fA fB) (u := fB) (by simp only [sIf, hc st env s, Option.bind_some, h1]; rfl) h2 h3
  · obtain ⟨o, fl, h1, h2, h3⟩ := hA env st s Q q
    exact ⟨o, fl, by simp only [sq, sIf, hc st env s, Option.bind_some]; exact h1, h2, h3⟩
/-- a test that may fail ahead of a statement -/
theorem bm_bind {τ1 : Type} {R' : τ1 → T} {g : VL.Env → Option T} {o : Option τ1} {k : τ1 → Dr (Flow τ σ ρ)} (hg : ∀ st, GO (φ st) R' g o) (h : ∀ v, (∀ st, GJ (φ st) R' g v) → BM φ f (k v) N B R) : BM φ f (bnd (lift o) k) N B R := fun env st s Q ⟨x, e1, e2⟩ =>
  h x (fun st' env' s' => hg st' env' s' x e1) env st s Q e2
end
section
variable {c : Mo Bool} {mc : Dr Bool}
theorem bm_ifM (hc : GM φ (fun b : Bool => b) c mc) (hA : BM φ fA mA N B R) (hB : BM φ fB mB N B R) : BM φ (sIfM c fA fB) (bnd mc fun t => if t = true then mA else mB) N B R := fun env st s Q q => by
  obtain ⟨b, e1, s1, h1, h2, h3⟩ := hc env st s _ q
  simp only [sIfM, h1, Option.bind_some]
  cases b
  · exact hB e1 s1 h2 Q h3
  · exact hA e1 s1 h2 Q h3
theorem bm_ifMA (hc : GM φ (fun b : Bool => b) c mc) (hA : BM φ fA mA never B R) (hB : BM φ (sq fB fr) mB N B R) : BM φ (sq (sIfM c fA fB) fr) (bnd mc fun t => if t = true then mA else mB) N B R := fun env st s Q q => by
  obtain ⟨b, e1, s1, h1, h2, h3⟩ := hc env st s _ q
  cases b
  · obtain ⟨o, fl, h4, h5, h6⟩ := hB e1 s1 h2 Q h3
    exact ⟨o, fl, by simp only [sq, sIfM, h1, Option.bind_some]; exact h4, h5, h6⟩
  · obtain ⟨o, fl, h4, h5, h6⟩ := hA e1 s1 h2 Q h3
    exact bm_ends (f := sIfM c fA fB) (u := fA) (by simp only [sIfM, h1, Option.bind_some, if_true, h4]) h5 h6
theorem bm_ifMB (hc : GM φ (fun b : Bool => b) c mc) (hA : BM φ (sq fA fr) mA N B R) (hB : BM φ fB mB never B R) : BM φ (sq (sIfM c fA fB) fr) (bnd mc fun t => if t = true then mA else mB) N B R := fun env st s Q q => by
  obtain ⟨b, e1, s1, h1, h2, h3⟩ := hc env st s _ q
  cases b
  · obtain ⟨o, fl, h4, h5, h6⟩ := hB e1 s1 h2 Q h3
    exact bm_ends (f := sIfM c fA fB) (u := fB) (by simp only [sIfM, h1, Option.bind_some, h4]; rfl) h5 h6
  · obtain ⟨o, fl, h4, h5, h6⟩ := hA e1 s1 h2 Q h3
    exact ⟨o, fl, by simp only [sq, sIfM, h1, Option.bind_some]; exact h4, h5, h6⟩
end
/-! freezing -/
theorem bm_fzs (i : Nat) {z : S} {d : D} (e : ∀ st, (φ st)[i]? = some (some z)) (k : frS z = some d) (h : BM (fun st => (φ st).set i (some (.fz d))) (sq f fr) m N B R) : BM φ (sq (dFz i f) fr) m N B R := fun env st s Q q => by
  obtain ⟨o, fl, q1, q2⟩ := h _ st (s.set i (.fz d)) Q q
  refine ⟨o, fl, ?_, q2⟩
  simp only [sq, dFz, frzE, s.gs (e st), Option.bind_some, k, Option.map_some]
  exact q1
theorem bm_fz (i : Nat) {z : S} {d : D} (e : ∀ st, (φ st)[i]? = some (some z)) (k : frS z = some d) (h : BM (fun st => (φ st).set i (some (.fz d))) f m N B R) : BM φ (dFz i f) m N B R := fun env st s Q q => by
  obtain ⟨o, fl, q1, q2⟩ := h _ st (s.set i (.fz d)) Q q
  refine ⟨o, fl, ?_, q2⟩
  simp only [dFz, frzE, s.gs (e st), Option.bind_some, k, Option.map_some]
  exact q1
theorem bm_fzsL (i : Nat) {xs : List α} (e : ∀ st, (φ st)[i]? = some (some (olE xs)) := by intro st; rfl) (h : BM (fun st => (φ st).set i (some (.fz (en xs)))) (sq f fr) m N B R) : BM φ (sq (dFz i f) fr) m N B R := bm_fzs i e (frS_olE xs) h
theorem bm_fzL (i : Nat) {xs : List α} (e : ∀ st, (φ st)[i]? = some (some (olE xs)) := by intro st; rfl) (h : BM (fun st => (φ st).set i (some (.fz (en xs)))) f m N B R) : BM φ (dFz i f) m N B R := bm_fz i e (frS_olE xs) h
theorem bm_fzsF (i : Nat) {a : α} (e : ∀ st, (φ st)[i]? = some (some (.fz (en a))) := by intro st; rfl) (h : BM (fun st => (φ st).set i (some (.fz (en a)))) (sq f fr) m N B R) : BM φ (sq (dFz i f) fr) m N B R := bm_fzs i e rfl h
theorem bm_fzF (i : Nat) {a : α} (e : ∀ st, (φ st)[i]? = some (some (.fz (en a))) := by intro st; rfl) (h : BM (fun st => (φ st).set i (some (.fz (en a)))) f m N B R) : BM φ (dFz i f) m N B R := bm_fz i e rfl h
theorem bm_le {φ' : Fs2} (h : ∀ st, Le (φ st) (φ' st)) (k : BM φ' f m N B R) : BM φ f m N B R := fun env st s => k env st ((h st).sat s)
/-! loops -/
variable {s0 : σ'} {body : α → σ' → Dr (Flow σ' σ' ρ)} {ψs : σ' → Fs2} {ψ1 : α → σ' → Fs2} {ft : D → VL.Env → Option VL.Env} {fb : VL.Env → Option Out}
theorem forD_loopDr {R : ρ → S → VL.Env → Prop} (ht : ∀ x s st, TG (ψs s st) ft x (ψ1 x s st)) (hb : ∀ x s, BM (ψ1 x s) fb (body x s) (NM ψs) (NM ψs) R) : ∀ (xs : List α) (s : σ') (env : VL.Env) (st : DSt), Sat (ψs s st) env → ∀ Q : Flow σ' σ ρ → Prop, loopDr body xs s Q → ∃ o fl, forD ft fb (xs.map en) env = some o ∧ FlOk (NM ψs) B R fl o ∧ Q fl
  | [], s, env, st, h, Q, q => ⟨.nx env, .nx s, rfl, ⟨st, h⟩, q⟩
  | x :: xs, s, env, st, h, Q, q => by
    obtain ⟨env1, k1, k2⟩ := ht x s st env h
    obtain ⟨u, fl1, k3, k4, k5⟩ := hb x s env1 st k2 _ q
    have hu : forD ft fb ((x :: xs).map en) env = (fb env1).bind (aftD ft fb (xs.map en)) := by
      show (ft (en x) env).bind _ = _
      rw [k1]; rfl
    rw [hu, k3]
    show ∃ o fl, aftD ft fb (xs.map en) u = some o ∧ _
    cases fl1 with
    | nx t => cases u with
      | nx e' =>
        obtain ⟨s', k4⟩ := k4
        exact forD_loopDr ht hb xs t e' s' k4 Q k5
      | _ => exact k4.elim
    | ct t => cases u with
      | ct e' =>
        obtain ⟨s', k4⟩ := k4
        exact forD_loopDr ht hb xs t e' s' k4 Q k5
      | _ => exact k4.elim
    | bk t => cases u with
      | bk e' => exact ⟨.nx e', .nx t, rfl, k4, k5⟩
      | _ => exact k4.elim
    | rt t => cases u with
      | rt z e' => exact ⟨.rt z e', .rt t, rfl, k4, k5⟩
      | _ => exact k4.elim
theorem bm_for {xs : List α} {fi : VL.Env → Option (List D)} {R : ρ → S → VL.Env → Prop} (hi : ∀ st, EL (φ st) fi xs) (h0 : ∀ st, Le (φ st) (ψs s0 st)) (ht : ∀ x s st, TG (ψs s st) ft x (ψ1 x s st)) (hb : ∀ x s, BM (ψ1 x s) fb (body x s) (NM ψs) (NM ψs) R) : BM φ (sFor fi ft fb) (loopDr body xs s0 : Dr (Flow σ' σ ρ)) (NM ψs) B R := fun env st s Q q => by
  simp only [sFor, hi st env s, Option.bind_some]
  exact forD_loopDr ht hb xs s0 env st ((h0 st).sat s) Q q
theorem bm_forM {fi : Mo (List D)} {mi : Dr (List α)} {R : ρ → S → VL.Env → Prop} (hi : GM φ (List.map en) fi mi) (h0 : ∀ st, Le (φ st) (ψs s0 st)) (ht : ∀ x s st, TG (ψs s st) ft x (ψ1 x s st)) (hb : ∀ x s, BM (ψ1 x s) fb (body x s) (NM ψs) (NM ψs) R) : BM φ (sForM fi ft fb) (bnd mi fun xs => loopDr body xs s0 : Dr (Flow σ' σ ρ)) (NM ψs) B R := fun env st s Q q => by
  obtain ⟨xs, e1, s1, h1, h2, h3⟩ := hi env st s _ q
  simp only [sForM, h1, Option.bind_some]
  exact forD_loopDr ht hb xs s0 e1 s1 ((h0 s1).sat h2) Q h3
end
/-! ### defs that draw; the law -/
def ansM {ρ : Type} (m : Dr (Flow Unit Empty ρ)) : Dr ρ := fun Q => m fun fl => match fl with
  | .rt r => Q r
  | _ => False
/-- the answer is frozen, the state stands in slot 0 -/
def RM {ρ : Type} [Ty ρ] (p : Addr) (i : Nat) : ρ → S → VL.Env → Prop := fun r s e => s = .fz (en r) ∧ ∃ st, getS e i = some (atS p st)
theorem rm {ρ : Type} [Ty ρ] {p : Addr} {i : Nat} {r : ρ} {φ : Fs} (st : DSt) (h : φ[i]? = some (some (atS p st)) := by rfl) : ∀ env, Sat φ env → RM p i r (.fz (en r)) env := fun env s => ⟨rfl, st, s.gs h⟩
theorem fn_I {ρ : Type} [Ty ρ] {np n : Nat} {fb : VL.Env → Option Out} {ds : List D} {m : Dr (Flow Unit Empty ρ)} {N : Unit → VL.Env → Prop} {B : Empty → VL.Env → Prop} (hl : ds.length + 1 = np) (hn : np ≤ n)
    (h : ∀ p, BM (fun st => some (atS p st) :: (ds.map (fun d => some (S.fz d)) ++ List.replicate (n - np) none)) fb m N B (RM p 0)) : IOk (fnI np n fb) ds (ansM m) := fun p st Q q => by
  obtain ⟨o, fl, h1, h2, h3⟩ := h p (some (atS p st) :: (ds.map (fun d => some (S.fz d)) ++ List.replicate (n - np) none)) st ⟨rfl, fun _ _ e => e⟩ _ q
  cases fl with
  | rt r => cases o with
    | rt z e' =>
      obtain ⟨rfl, st', h4⟩ := h2
      refine ⟨r, st', ?_, h3⟩
      unfold fnI
      rw [if_pos ⟨hl, hn⟩]
      show (fb (some (atS p st) :: (ds.map (fun d => some (S.fz d)) ++ List.replicate (n - np) none))).bind _ = _
      rw [h1]
      show (VL.slotAt e' p).map _ = _
      unfold VL.slotAt
      rw [h4]
      simp only [atS, Option.bind_some, atOf_at, if_true, Option.map_some]
    | _ => exact h2.elim
  | _ => exact h3.elim
theorem law_of {n : Nat} {fb : VL.Env → Option Out} {m : Dr (Flow Unit Empty Bool)} {N : Unit → VL.Env → Prop} {B : Empty → VL.Env → Prop}
    (h : ∀ p, BM (fun st => none :: some (atS p st) :: List.replicate (n - 2) none) fb m N B (RM p 1)) (q : ansM m (fun b => b = true)) : LawTrue n fb := fun p cs hc => by
  obtain ⟨o, fl, h1, h2, h3⟩ := h p (lawE n p cs) ⟨0, cs, hc⟩ ⟨rfl, fun _ _ e => e⟩ _ q
  cases fl with
  | rt r => cases o with
    | rt z e' =>
      obtain ⟨rfl, _⟩ := h2
      cases h3
      exact ⟨e', h1⟩
    | _ => exact h2.elim
  | _ => exact h3.elim
end TL

set_option Elab.async false
set_option linter.all false
set_option maxRecDepth 100000
/-! TL5: options narrowed, data read as typed, answers as they are frozen. -/
namespace TL
open PySem PySem.Spec PyProof.Rows L2 VL
open Ty (en)
section
variable {α β γ δ ε : Type} [Ty α] [Ty β] [Ty γ] [Ty δ] [Ty ε] {φ : Fs} {f : VL.Env → Option D}
theorem eo_get {o : Option α} (h : EV φ f o) : EO φ f o := fun env s v e => by rw [h env s, e]; rfl
/-- all there -/
def castL {α : Type} : List (Option α) → Option (List α)
  | [] => some []
  | none :: _ => none
  | some a :: xs => (castL xs).map (a :: ·)
theorem castL_en : ∀ {xs : List (Option α)} {ys : List α}, castL xs = some ys → (en xs : D) = en ys := by
  intro xs ys h
  show D.lst _ = D.lst _
  congr 1
  induction xs generalizing ys with
  | nil => cases h; rfl
  | cons x xs ih =>
    cases x with
    | none => cases h
    | some a =>
      obtain ⟨zs, h1, rfl⟩ := Option.map_eq_some_iff.mp h
      rw [List.map_cons, List.map_cons, ih h1]; rfl
theorem eo_castL {xs : List (Option α)} (h : EV φ f xs) : EO φ f (castL xs) := fun env s v e => by rw [h env s, castL_en e]
theorem elo_castL {fl : VL.Env → Option (List D)} {xs : List (Option α)} (h : EL φ fl xs) : ELo φ fl (castL xs) := fun env s v e => by
  rw [h env s]
  have := castL_en e
  exact congrArg some (D.lst.inj this)
theorem scS_of {s : S} {d : D} (h : frS s = some d) (k : scal d = some d) : scS s = some d := by
  cases s with
  | fz e => cases h; exact k
  | ol xs => obtain ⟨_, rfl⟩ := frS_some h; cases k
  | od t xs => obtain ⟨_, rfl⟩ := frS_some h; cases k
  | ot xs => obtain ⟨_, rfl⟩ := frS_some h; cases k
  | ob _ _ _ => obtain ⟨_, rfl⟩ := frS_some h; cases k
  | «at» _ _ => obtain ⟨q, _⟩ := frS_some h; cases q
theorem eo_callW2 {fs : VL.Env → Option (List D)} {ds : List D} {F : List D → Option S} {o : Option α} (hs : EA φ fs ds) (k : ∀ r, o = some r → ∃ s, F ds = some s ∧ frS s = some (en r)) (hc : ∀ r : α, scal (en r) = some (en r)) : EO φ (cW fs F) o := fun env s v e => by
  obtain ⟨z, k1, k2⟩ := k v e
  simp only [cW, hs env s, Option.bind_some, k1]
  exact scS_of k2 (hc v)
theorem castL_map (xs : List α) : castL (xs.map some) = some xs := by
  induction xs with
  | nil => rfl
  | cons x xs ih => show (castL (xs.map some)).map _ = _; rw [ih]; rfl
/-! constants -/
theorem op_mulc1 (a b : Int) (h : a.natAbs < 2 ^ 64) : O2 dMul a b (a * b) := op_mul a b _ (if_pos (.inl h))
theorem op_mulc2 (a b : Int) (h : b.natAbs < 2 ^ 64) : O2 dMul a b (a * b) := op_mul a b _ (if_pos (.inr h))
theorem op_divc (a b : Int) (h : 0 < b) (h' : b.natAbs.log2 < 9000) : O2 dDiv a b (a / b) := op_div a b _ (if_pos ⟨h, h'⟩)
theorem op_modc (a b : Int) (h : 0 < b) : O2 dMod a b (a % b) := op_mod a b _ (if_pos h)
/-! data read -/
instance : De Int := ⟨fun d => match d with | .int i => some i | _ => none, by
  intro d a h
  cases d <;> first | (cases h; rfl) | cases h⟩
instance : De Bool := ⟨fun d => match d with | .bl i => some i | _ => none, by
  intro d a h
  cases d <;> first | (cases h; rfl) | cases h⟩
instance : De Str := ⟨fun d => match d with | .str i => some i | _ => none, by
  intro d a h
  cases d <;> first | (cases h; rfl) | cases h⟩
instance : De D := ⟨fun d => some d, fun h => by cases h; rfl⟩
def deL [De α] : List D → Option (List α)
  | [] => some []
  | d :: ds => (De.de d).bind fun a => (deL ds).map (a :: ·)
theorem deL_ok [De α] : ∀ {ds : List D} {xs : List α}, deL ds = some xs → ds = xs.map en
  | [], xs, h => by cases h; rfl
  | d :: ds, xs, h => by
    obtain ⟨a, h1, h2⟩ := Option.bind_eq_some_iff.mp (show (De.de d : Option α).bind _ = _ from h)
    obtain ⟨ys, h3, rfl⟩ := Option.map_eq_some_iff.mp h2
    rw [List.map_cons, ← deL_ok h3, ← De.ok h1]
def lstD : D → Option (List D)
  | .lst ds => some ds
  | _ => none
def tupD : D → Option (List D)
  | .tup ds => some ds
  | _ => none
theorem lstD_ok {d : D} {ds : List D} (h : lstD d = some ds) : d = .lst ds := by cases d <;> first | (cases h; rfl) | cases h
theorem tupD_ok {d : D} {ds : List D} (h : tupD d = some ds) : d = .tup ds := by cases d <;> first | (cases h; rfl) | cases h
instance [De α] : De (List α) := ⟨fun d => (lstD d).bind deL, fun {d a} h => by
  obtain ⟨ds, h1, h2⟩ := Option.bind_eq_some_iff.mp h
  rw [lstD_ok h1, deL_ok h2]; rfl⟩
instance [De α] : De (Tup α) := ⟨fun d => (tupD d).bind fun ds => (deL ds).map Tup.mk, fun {d a} h => by
  obtain ⟨ds, h1, h2⟩ := Option.bind_eq_some_iff.mp h
  obtain ⟨xs, h3, rfl⟩ := Option.map_eq_some_iff.mp h2
  rw [tupD_ok h1, deL_ok h3]; rfl⟩
def de1 [De α] : List D → Option (T1 α)
  | [a] => (De.de a).bind fun a => some ⟨a⟩
  | _ => none
def de2 [De α] [De β] : List D → Option (α × β)
  | [a, b] => (De.de a).bind fun a => (De.de b).bind fun b => some (a, b)
  | _ => none
def de3 [De α] [De β] [De γ] : List D → Option (T3 α β γ)
  | [a, b, c] => (De.de a).bind fun a => (De.de b).bind fun b => (De.de c).bind fun c => some ⟨a, b, c⟩
  | _ => none
def de4 [De α] [De β] [De γ] [De δ] : List D → Option (T4 α β γ δ)
  | [a, b, c, d] => (De.de a).bind fun a => (De.de b).bind fun b => (De.de c).bind fun c => (De.de d).bind fun d => some ⟨a, b, c, d⟩
  | _ => none
def de5 [De α] [De β] [De γ] [De δ] [De ε] : List D → Option (T5 α β γ δ ε)
  | [a, b, c, d, e] => (De.de a).bind fun a => (De.de b).bind fun b => (De.de c).bind fun c => (De.de d).bind fun d => (De.de e).bind fun e => some ⟨a, b, c, d, e⟩
  | _ => none
instance [De α] : De (T1 α) := ⟨fun d => (tupD d).bind de1, fun {d p} h => by
  obtain ⟨ds, h1, h2⟩ := Option.bind_eq_some_iff.mp h
  rw [tupD_ok h1]
  unfold de1 at h2
  split at h2
  · obtain ⟨a, k1, h2⟩ := Option.bind_eq_some_iff.mp h2
    cases h2
    rw [De.ok k1]; rfl
  · cases h2⟩
instance [De α] [De β] : De (α × β) := ⟨fun d => (tupD d).bind de2, fun {d p} h => by
  obtain ⟨ds, h1, h2⟩ := Option.bind_eq_some_iff.mp h
  rw [tupD_ok h1]
  unfold de2 at h2
  split at h2
  · obtain ⟨a, k1, h2⟩ := Option.bind_eq_some_iff.mp h2
    obtain ⟨b, k2, h2⟩ := Option.bind_eq_some_iff.mp h2
    cases h2
    rw [De.ok k1, De.ok k2]; rfl
  · cases h2⟩
instance [De α] [De β] [De γ] : De (T3 α β γ) := ⟨fun d => (tupD d).bind de3, fun {d p} h => by
  obtain ⟨ds, h1, h2⟩ := Option.bind_eq_some_iff.mp h
  rw [tupD_ok h1]
  unfold de3 at h2
  split at h2
  · obtain ⟨a, k1, h2⟩ := Option.bind_eq_some_iff.mp h2
    obtain ⟨b, k2, h2⟩ := Option.bind_eq_some_iff.mp h2
    obtain ⟨c, k3, h2⟩ := Option.bind_eq_some_iff.mp h2
    cases h2
    rw [De.ok k1, De.ok k2, De.ok k3]; rfl
  · cases h2⟩
instance [De α] [De β] [De γ] [De δ] : De (T4 α β γ δ) := ⟨fun d => (tupD d).bind de4, fun {d p} h => by
  obtain ⟨ds, h1, h2⟩ := Option.bind_eq_some_iff.mp h
  rw [tupD_ok h1]
  unfold de4 at h2
  split at h2
  · obtain ⟨a, k1, h2⟩ := Option.bind_eq_some_iff.mp h2
    obtain ⟨b, k2, h2⟩ := Option.bind_eq_some_iff.mp h2
    obtain ⟨c, k3, h2⟩ := Option.bind_eq_some_iff.mp h2
    obtain ⟨d, k4, h2⟩ := Option.bind_eq_some_iff.mp h2
    cases h2
    rw [De.ok k1, De.ok k2, De.ok k3, De.ok k4]; rfl
  · cases h2⟩
instance [De α] [De β] [De γ] [De δ] [De ε] : De (T5 α β γ δ ε) := ⟨fun d => (tupD d).bind de5, fun {d p} h => by
  obtain ⟨ds, h1, h2⟩ := Option.bind_eq_some_iff.mp h
  rw [tupD_ok h1]
  unfold de5 at h2
  split at h2
  · obtain ⟨a, k1, h2⟩ := Option.bind_eq_some_iff.mp h2
    obtain ⟨b, k2, h2⟩ := Option.bind_eq_some_iff.mp h2
    obtain ⟨c, k3, h2⟩ := Option.bind_eq_some_iff.mp h2
    obtain ⟨d, k4, h2⟩ := Option.bind_eq_some_iff.mp h2
    obtain ⟨e, k5, h2⟩ := Option.bind_eq_some_iff.mp h2
    cases h2
    rw [De.ok k1, De.ok k2, De.ok k3, De.ok k4, De.ok k5]; rfl
  · cases h2⟩
instance [De α] : De (Option α) := ⟨fun d => match d with | .non => some none | d => (De.de d).map some, fun {d p} h => by
  split at h
  · cases h; rfl
  · obtain ⟨a, k1, rfl⟩ := Option.map_eq_some_iff.mp h
    exact De.ok (α := α) k1⟩
/-- what is typed reads as itself -/
class DeE (α : Type) [Ty α] extends De α where
  ee : ∀ a : α, de (en a) = some a
instance : DeE Int := ⟨fun a => rfl⟩
instance : DeE Bool := ⟨fun a => rfl⟩
instance : DeE Str := ⟨fun a => rfl⟩
instance : DeE D := ⟨fun a => rfl⟩
theorem deL_en [DeE α] : ∀ xs : List α, deL (xs.map en) = some xs
  | [] => rfl
  | x :: xs => by
    show (De.de (en x) : Option α).bind _ = _
    rw [DeE.ee, Option.bind_some, deL_en xs]; rfl
instance [DeE α] : DeE (List α) := ⟨fun a => deL_en a⟩
instance [DeE α] : DeE (Tup α) := ⟨fun a => by show (deL (a.l.map en)).map Tup.mk = _; rw [deL_en]; rfl⟩
instance [DeE α] : DeE (T1 α) := ⟨fun p => by show (De.de (en p.a) : Option α).bind _ = _; rw [DeE.ee]; rfl⟩
instance [DeE α] [DeE β] : DeE (α × β) := ⟨fun p => by show (De.de (en p.1) : Option α).bind _ = _; rw [DeE.ee, Option.bind_some, DeE.ee]; rfl⟩
instance [DeE α] [DeE β] [DeE γ] : DeE (T3 α β γ) := ⟨fun p => by show (De.de (en p.a) : Option α).bind _ = _; rw [DeE.ee, Option.bind_some, DeE.ee, Option.bind_some, DeE.ee]; rfl⟩
instance [DeE α] [DeE β] [DeE γ] [DeE δ] : DeE (T4 α β γ δ) := ⟨fun p => by show (De.de (en p.a) : Option α).bind _ = _; rw [DeE.ee, Option.bind_some, DeE.ee, Option.bind_some, DeE.ee, Option.bind_some, DeE.ee]; rfl⟩
instance [DeE α] [DeE β] [DeE γ] [DeE δ] [DeE ε] : DeE (T5 α β γ δ ε) := ⟨fun p => by show (De.de (en p.a) : Option α).bind _ = _; rw [DeE.ee, Option.bind_some, DeE.ee, Option.bind_some, DeE.ee, Option.bind_some, DeE.ee, Option.bind_some, DeE.ee]; rfl⟩
instance [DeE α] [NonN α] : DeE (Option α) := ⟨fun p => by
  cases p with
  | none => rfl
  | some a =>
    have h1 := NonN.nn a
    have h2 := DeE.ee a
    show (match (en a : D) with | .non => some none | d => (De.de d).map some) = _
    revert h1 h2
    generalize (en a : D) = d
    intro h1 h2
    cases d <;> first | exact absurd rfl h1 | (simp only [h2]; rfl)⟩
end
section
variable {τ τ' σ ρ : Type} {φ : Fs} {f : VL.Env → Option Out} {m : Option (Flow τ σ ρ)} {N N' : τ → VL.Env → Prop} {B : σ → VL.Env → Prop} {R : ρ → S → VL.Env → Prop}
theorem bl_mono (h : ∀ t e, N t e → N' t e) (k : BL φ f m N B R) : BL φ f m N' B R := fun env s fl e => by
  obtain ⟨o, h1, h2⟩ := k env s fl e
  refine ⟨o, h1, ?_⟩
  cases fl <;> cases o <;> first | exact h _ _ h2 | exact h2
/-- what a def answers, frozen -/
def RF {ρ : Type} [Ty ρ] : ρ → S → VL.Env → Prop := fun r s _ => frS s = some (en r)
theorem rf {ρ : Type} [Ty ρ] {r : ρ} {s : S} {φ : Fs} (h : frS s = some (en r) := by rfl) : ∀ env, Sat φ env → RF r s env := fun _ _ => h
theorem rfl_ {α : Type} [Ty α] {xs : List α} {φ : Fs} : ∀ env, Sat φ env → RF xs (olE xs) env := fun _ _ => frS_olE xs
theorem rflo {α : Type} [Ty α] {xs : List α} {φ : Fs} : ∀ env, Sat φ env → RF (some xs) (olE xs) env := fun _ _ => frS_olE xs
theorem fn_f {ρ : Type} [Ty ρ] {np n : Nat} {fb : VL.Env → Option Out} {ds : List D} {m : Option (Flow Unit Empty ρ)} {N : Unit → VL.Env → Prop} {B : Empty → VL.Env → Prop} (hl : ds.length = np) (h : BL (startE n ds) fb m N B RF) : ∀ r, ansT m = some r → ∃ s, fnS np n fb ds = some s ∧ frS s = some (en r) := fun r e => by
  obtain ⟨fl, e1, e2⟩ := Option.bind_eq_some_iff.mp (show m.bind _ = _ from e)
  obtain ⟨u, k1, k2⟩ := h (startE n ds) ⟨rfl, fun _ _ e => e⟩ fl e1
  unfold fnS
  rw [if_pos hl, k1]
  cases fl with
  | rt r' => cases u with
    | rt z e' => cases e2; exact ⟨z, rfl, k2⟩
    | _ => exact k2.elim
  | _ => cases e2
theorem fn_fN {ρ : Type} [Ty ρ] {np n : Nat} {fb : VL.Env → Option Out} {ds : List D} {m : Option (Flow Unit Empty ρ)} {d : ρ} {N : Unit → VL.Env → Prop} {B : Empty → VL.Env → Prop} (hl : ds.length = np) (hd : (en d : D) = .non) (h : BL (startE n ds) fb m N B RF) : ∀ r, ansN d m = some r → ∃ s, fnS np n fb ds = some s ∧ frS s = some (en r) := fun r e => by
  obtain ⟨fl, e1, e2⟩ := Option.bind_eq_some_iff.mp (show m.bind _ = _ from e)
  obtain ⟨u, k1, k2⟩ := h (startE n ds) ⟨rfl, fun _ _ e => e⟩ fl e1
  unfold fnS
  rw [if_pos hl, k1]
  cases fl with
  | rt r' => cases u with
    | rt z e' => cases e2; exact ⟨z, rfl, k2⟩
    | _ => exact k2.elim
  | nx t => cases u with
    | nx e' => cases e2; exact ⟨_, rfl, by rw [hd]; rfl⟩
    | _ => exact k2.elim
  | _ => cases e2
end
section
variable {α : Type} [Ty α] {τ : Type} {φ : Fs2}
theorem sm_ext (i : Nat) {fe : Mo D} {m : Dr (List α)} {xs : List α} (e : ∀ st, (φ st)[i]? = some (some (olE xs)) := by intro st; rfl) (h : GM φ en fe m) : SM φ (sExtM i fe) (bnd m fun v => lift (addL xs v)) (fun v st => (φ st).set i (some (olE v))) := fun env st s Q q => by
  obtain ⟨a, e1, s1, h1, h2, v, h3, h4⟩ := h env st s _ q
  unfold addL at h3
  split at h3
  · rename_i hl
    cases h3
    refine ⟨_, e1.set i (some (olE (xs ++ a))), s1, ?_, h2.set i _, h4⟩
    simp only [sExtM, s.gs (e st), olOf_olE, Option.bind_some, h1, h2.gs (e s1)]
    show (if (xs.map en).length + (a.map en).length ≤ sizeLine then _ else _ : Option Out) = _
    rw [List.length_map, List.length_map, if_pos hl, ← List.map_append]; rfl
  · cases h3
theorem bi_sortM [DecidableEq α] [TyOrd α] (xs : List α) (h : TyEq.n α ≤ 40 := by decide) : ∀ c, sortO xs = some c → (dSorted [en xs]).map D.lst = some (en c) := fun c e => by rw [bi_sort xs h c e]; rfl
end
section
variable {α β : Type} [Ty α] [Ty β] {φ : Fs} {f : VL.Env → Option D} {fs : VL.Env → Option (List D)}
theorem ei_rv {xs : List α} (h : EV φ f xs) : EL φ (iRv f) xs.reverse := fun env s => by
  simp only [iRv, h env s, Option.bind_some]
  show some (xs.map en).reverse = _
  rw [List.map_reverse]
theorem ei_zp {xs : List α} {ys : List β} (h : EA φ fs [en xs, en ys]) : EL φ (iZp fs) (List.zip xs ys) := fun env s => by
  simp only [iZp, h env s, Option.bind_some]
  show some (zipD (xs.map en) (ys.map en)) = _
  congr 1
  unfold zipD List.zip
  rw [List.zipWith_map, List.map_zipWith]
  rfl
/-! slices of tuples -/
theorem ev_cutU {xs : Tup α} {lo hi : Option Int} {l r : VL.Env → Option (Option Int)} (h : EV φ f xs) (hl : GJ φ (fun o : Option Int => o) l lo) (hr : GJ φ (fun o : Option Int => o) r hi) : EV φ (dCutU f l r) (Tup.mk (VL.cutD xs.l lo hi)) := fun env s => by
  simp only [dCutU, h env s, Option.bind_some, hl env s, hr env s]
  show some (D.tup (VL.cutD (xs.l.map en) lo hi)) = _
  rw [cutD_map]; rfl
theorem ev_cutD {ds : List D} {v : α} {d : β} {lo hi : Option Int} {l r : VL.Env → Option (Option Int)} (h : EV φ f d) (hl : GJ φ (fun o : Option Int => o) l lo) (hr : GJ φ (fun o : Option Int => o) r hi) (e : en d = .tup ds) (k : .tup (VL.cutD ds lo hi) = en v) : EV φ (dCutU f l r) v := fun env s => by
  simp only [dCutU, h env s, Option.bind_some, hl env s, hr env s, e]
  show some (D.tup (VL.cutD ds lo hi)) = _
  rw [k]
end
theorem el_rev {α : Type} [Ty α] {φ : Fs} {f : VL.Env → Option D} {xs : List α} (h : EV φ f xs) : EL φ (dRev f) xs.reverse := fun env s => by
  simp only [dRev, h env s, Option.bind_some]
  show some (xs.map en).reverse = _
  rw [List.map_reverse]
/-! repr -/
def reprT {α : Type} [Ty α] (a : α) : Option Str := if showOk (en a) = true then some (en a).py.shown else none
theorem bi_repr {α : Type} [Ty α] (a : α) : ∀ c, reprT a = some c → dRepr [en a] = some (en c) := fun c e => by
  unfold reprT at e
  split at e
  · rename_i h
    cases e
    exact if_pos h
  · cases e
end TL

set_option Elab.async false
set_option linter.all false
set_option maxRecDepth 100000
/-! TL6: reasoning about the typed mirrors. -/
namespace TL
open PySem PySem.Spec PyProof.Rows L2 VL
open Ty (en)
theorem szl : sizeLine = 16777216 := rfl
section
variable {α β γ σ σ' ρ τ τ' : Type}
@[simp] theorem bnd_app (m : Dr α) (k : α → Dr β) (Q : β → Prop) : bnd m k Q = m fun a => k a Q := propext ⟨id, id⟩
@[simp] theorem ret_app (a : α) (Q : α → Prop) : ret a Q = Q a := propext ⟨id, id⟩
theorem takeT_i {m : Int} {Q : Int → Prop} (h : 0 < m) (h' : m.natAbs < 2 ^ 64) (k : ∀ x, 0 ≤ x → x < m → Q x) : takeT m Q := ⟨h, h', k⟩
theorem lift_i {o : Option α} {a : α} {Q : α → Prop} (e : o = some a) (q : Q a) : lift o Q := ⟨a, e, q⟩
def afF (k : τ → Dr (Flow τ' σ ρ)) (Q : Flow τ' σ ρ → Prop) : Flow τ σ ρ → Prop
  | .nx t => k t Q
  | .bk s => Q (.bk s)
  | .ct s => Q (.ct s)
  | .rt r => Q (.rt r)
@[simp] theorem bndF_app (m : Dr (Flow τ σ ρ)) (k : τ → Dr (Flow τ' σ ρ)) (Q : Flow τ' σ ρ → Prop) : bndF m k Q = m (afF k Q) := by
  unfold bndF
  congr 1
  funext fl
  cases fl <;> rfl
/-- a walk that draws -/
theorem loopDr_i {body : α → σ → Dr (Flow σ σ ρ)} (hm : ∀ x s, Mono (body x s)) {Q : Flow σ σ' ρ → Prop} (I : List α → σ → Prop) : ∀ {xs done : List α} {s : σ}, I done s →
    (∀ pre x post s, done ++ xs = pre ++ x :: post → I pre s → body x s fun fl => match fl with
      | .nx s' => I (pre ++ [x]) s'
      | .ct s' => I (pre ++ [x]) s'
      | .bk s' => Q (.nx s')
      | .rt r => Q (.rt r)) → (∀ s, I (done ++ xs) s → Q (.nx s)) → loopDr body xs s Q
  | [], done, s, h0, _, he => he s (by rwa [List.append_nil])
  | x :: xs, done, s, h0, hs, he => by
    have h1 := hs done x xs s rfl h0
    show body x s _
    refine hm x s (fun fl h => ?_) h1
    have go : ∀ s', I (done ++ [x]) s' → loopDr body xs s' Q := fun s' h' => loopDr_i hm I h' (fun pre y post s e i => hs pre y post s (by rw [← e, List.append_assoc]; rfl) i) (fun s i => he s (by rw [List.append_assoc] at i; exact i))
    cases fl with
    | nx s' => exact go s' h
    | ct s' => exact go s' h
    | bk s' => exact h
    | rt r => exact h
/-- the same, no counting -/
theorem loopDr_u {body : α → σ → Dr (Flow σ σ ρ)} {Q : Flow σ σ' ρ → Prop} (I : σ → Prop) : ∀ {xs : List α} {s : σ}, I s →
    (∀ x ∈ xs, ∀ s, I s → ∀ R : Flow σ σ ρ → Prop, (∀ s', I s' → R (.nx s')) → (∀ s', I s' → R (.ct s')) → (∀ s', Q (.nx s') → R (.bk s')) → (∀ r, Q (.rt r) → R (.rt r)) → body x s R) → (∀ s, I s → Q (.nx s)) → loopDr body xs s Q
  | [], s, h0, _, he => he s h0
  | x :: xs, s, h0, hs, he => by
    have go : ∀ s', I s' → loopDr body xs s' Q := fun s' h' => loopDr_u I h' (fun y m => hs y (List.mem_cons_of_mem _ m)) he
    show body x s _
    exact hs x (List.mem_cons_self ..) s h0 _ (fun s' h => go s' h) (fun s' h => go s' h) (fun s' h => h) (fun r h => h)
theorem loopDr_k {body : α → σ → Dr (Flow σ σ ρ)} {Q : Flow σ σ' ρ → Prop} (I : List α → σ → Prop) : ∀ {xs done : List α} {s : σ}, I done s →
    (∀ pre x post s, done ++ xs = pre ++ x :: post → I pre s → ∀ R : Flow σ σ ρ → Prop, (∀ s', I (pre ++ [x]) s' → R (.nx s')) → (∀ s', I (pre ++ [x]) s' → R (.ct s')) → (∀ s', Q (.nx s') → R (.bk s')) → (∀ r, Q (.rt r) → R (.rt r)) → body x s R) → (∀ s, I (done ++ xs) s → Q (.nx s)) → loopDr body xs s Q
  | [], done, s, h0, _, he => he s (by rwa [List.append_nil])
  | x :: xs, done, s, h0, hs, he => by
    have go : ∀ s', I (done ++ [x]) s' → loopDr body xs s' Q := fun s' h' => loopDr_k I h' (fun pre y post s e i => hs pre y post s (by rw [← e, List.append_assoc]; rfl) i) (fun s i => he s (by rw [List.append_assoc] at i; exact i))
    show body x s _
    exact hs done x xs s rfl h0 _ (fun s' h => go s' h) (fun s' h => go s' h) (fun s' h => h) (fun r h => h)
def anF (Q : ρ → Prop) : Flow Unit Empty ρ → Prop
  | .rt r => Q r
  | _ => False
@[simp] theorem anF_rt (Q : ρ → Prop) (r : ρ) : anF Q (.rt r) = Q r := propext ⟨id, id⟩
theorem ansM_app (m : Dr (Flow Unit Empty ρ)) (Q : ρ → Prop) : ansM m Q = m (anF Q) := propext ⟨id, id⟩
@[simp] theorem afF_nx (k : τ → Dr (Flow τ' σ ρ)) (Q : Flow τ' σ ρ → Prop) (t : τ) : afF k Q (.nx t) = k t Q := propext ⟨id, id⟩
@[simp] theorem afF_rt (k : τ → Dr (Flow τ' σ ρ)) (Q : Flow τ' σ ρ → Prop) (t : ρ) : afF k Q (.rt t) = Q (.rt t) := propext ⟨id, id⟩
/-- a comprehension that draws, no test -/
theorem compDr_i {g : α → Dr β} {Q : List β → Prop} (P : β → Prop) : ∀ {xs : List α}, (∀ x ∈ xs, ∀ R : β → Prop, (∀ y, P y → R y) → g x R) → (∀ ys, ys.length = xs.length → (∀ y ∈ ys, P y) → Q ys) → compDr (fun _ => ret true) g xs Q
  | [], _, h => h [] rfl (fun y m => by cases m)
  | x :: xs, hg, h => by
    show g x _
    refine hg x (List.mem_cons_self ..) _ fun y hy => ?_
    show compDr _ g xs _
    refine compDr_i P (fun z m => hg z (List.mem_cons_of_mem _ m)) fun ys hl hp => ?_
    refine h (y :: ys) (by rw [List.length_cons, List.length_cons, hl]) fun z m => ?_
    rcases List.mem_cons.mp m with rfl | m
    · exact hy
    · exact hp z m
/-! ### pure walks -/
theorem loopT_ok {body : α → σ → Option (Flow σ σ ρ)} {P : Flow σ σ' ρ → Prop} (I : List α → σ → Prop) : ∀ {xs done : List α} {s : σ}, I done s →
    (∀ pre x post s, done ++ xs = pre ++ x :: post → I pre s → ∃ fl, body x s = some fl ∧ match fl with
      | .nx s' => I (pre ++ [x]) s'
      | .ct s' => I (pre ++ [x]) s'
      | .bk s' => P (.nx s')
      | .rt r => P (.rt r)) → (∀ s, I (done ++ xs) s → P (.nx s)) → ∃ fl, loopT body xs s = some fl ∧ P fl
  | [], done, s, h0, _, he => ⟨.nx s, rfl, he s (by rwa [List.append_nil])⟩
  | x :: xs, done, s, h0, hs, he => by
    obtain ⟨fl, h1, h2⟩ := hs done x xs s rfl h0
    have go : ∀ s', I (done ++ [x]) s' → ∃ fl, (loopT body xs s' : Option (Flow σ σ' ρ)) = some fl ∧ P fl := fun s' h' => loopT_ok I h' (fun pre y post s e i => hs pre y post s (by rw [← e, List.append_assoc]; rfl) i) (fun s i => he s (by rw [List.append_assoc] at i; exact i))
    cases fl with
    | nx s' => rw [loopT_nx h1]; exact go s' h2
    | ct s' => rw [loopT_ct h1]; exact go s' h2
    | bk s' => rw [loopT_bk h1]; exact ⟨_, rfl, h2⟩
    | rt r => rw [loopT_rt h1]; exact ⟨_, rfl, h2⟩
theorem loopT_fold {body : α → σ → Option (Flow σ σ ρ)} {f : σ → α → σ} : ∀ {xs : List α} {s : σ}, (∀ x ∈ xs, ∀ s, body x s = some (.nx (f s x))) → (loopT body xs s : Option (Flow σ σ' ρ)) = some (.nx (xs.foldl f s))
  | [], s, _ => rfl
  | x :: xs, s, h => by
    rw [loopT_nx (h x (List.mem_cons_self ..) s)]
    exact loopT_fold fun y m => h y (List.mem_cons_of_mem _ m)
theorem loopT_foldJ {body : α → σ → Option (Flow σ σ ρ)} {f : σ → α → σ} (J : σ → Prop) : ∀ {xs : List α} {s : σ}, J s → (∀ x ∈ xs, ∀ s, J s → body x s = some (.nx (f s x)) ∧ J (f s x)) → (loopT body xs s : Option (Flow σ σ' ρ)) = some (.nx (xs.foldl f s)) ∧ J (xs.foldl f s)
  | [], s, h0, _ => ⟨rfl, h0⟩
  | x :: xs, s, h0, h => by
    obtain ⟨h1, h2⟩ := h x (List.mem_cons_self ..) s h0
    rw [loopT_nx h1]
    exact loopT_foldJ J h2 fun y m => h y (List.mem_cons_of_mem _ m)
theorem loopT_map {γ : Type} {body : β → σ → Option (Flow σ σ ρ)} {g : α → β} : ∀ {xs : List α} {s : σ}, (loopT body (xs.map g) s : Option (Flow σ σ' ρ)) = loopT (fun x => body (g x)) xs s
  | [], s => rfl
  | x :: xs, s => by
    show (body (g x) s).bind _ = (body (g x) s).bind _
    congr 1
    funext fl
    cases fl with
    | nx t => exact loopT_map (γ := γ)
    | ct t => exact loopT_map (γ := γ)
    | bk t => rfl
    | rt t => rfl
/-- what a walk that only looks for the first comes to -/
def foundF {σ' ρ : Type} : Option ρ → Flow Unit σ' ρ
  | none => .nx ()
  | some z => .rt z
theorem found_ans {ρ : Type} {o : Option ρ} {k : Unit → Option (Flow Unit Empty ρ)} {d : ρ} (h : ansT (k ()) = some d) : ansT (sqT (some (foundF o)) k) = some (o.getD d) := by
  cases o with
  | none => exact h
  | some z => rfl
/-- nothing carried: the first that answers -/
theorem loopT_find {body : α → Unit → Option (Flow Unit Unit ρ)} {r : α → Option ρ} : ∀ {xs : List α}, (∀ x ∈ xs, body x () = some (foundF (r x))) → (loopT body xs () : Option (Flow Unit σ' ρ)) = some (foundF (xs.findSome? r))
  | [], _ => rfl
  | x :: xs, h => by
    have h1 := h x (List.mem_cons_self ..)
    rw [List.findSome?_cons]
    cases e : r x with
    | none =>
      rw [e] at h1
      rw [loopT_nx h1]
      exact loopT_find fun y m => h y (List.mem_cons_of_mem _ m)
    | some z =>
      rw [e] at h1
      rw [loopT_rt h1]; rfl
/-- a while loop, by a number that falls -/
theorem whT_ok {c : σ → Option Bool} {body : σ → Option (Flow σ σ ρ)} {P : Flow σ σ' ρ → Prop} (I : σ → Prop) (μ : σ → Nat) : ∀ {n : Nat} {s : σ}, I s → μ s < n →
    (∀ s, I s → c s = some false → P (.nx s)) → (∀ s, I s → ∃ b, c s = some b) →
    (∀ s, I s → c s = some true → ∃ fl, body s = some fl ∧ match fl with
      | .nx s' => I s' ∧ μ s' < μ s
      | .ct s' => I s' ∧ μ s' < μ s
      | .bk s' => P (.nx s')
      | .rt r => P (.rt r)) → ∃ fl, whT c body n s = some fl ∧ P fl
  | 0, s, _, h, _, _, _ => absurd h (Nat.not_lt_zero _)
  | n + 1, s, h0, hn, hf, hc, hb => by
    obtain ⟨b, e⟩ := hc s h0
    show ∃ fl, (c s).bind _ = some fl ∧ P fl
    rw [e]
    cases b with
    | false => exact ⟨.nx s, rfl, hf s h0 e⟩
    | true =>
      obtain ⟨fl, h1, h2⟩ := hb s h0 e
      show ∃ fl, (body s).bind _ = some fl ∧ P fl
      rw [h1]
      cases fl with
      | nx s' => exact whT_ok I μ h2.1 (by have := h2.2; omega) hf hc hb
      | ct s' => exact whT_ok I μ h2.1 (by have := h2.2; omega) hf hc hb
      | bk s' => exact ⟨_, rfl, h2⟩
      | rt r => exact ⟨_, rfl, h2⟩
/-! ### comprehensions -/
theorem mapT_some {g : α → Option β} {f : α → β} : ∀ {xs : List α}, (∀ x ∈ xs, g x = some (f x)) → mapT g xs = some (xs.map f)
  | [], _ => rfl
  | x :: xs, h => by
    show (g x).bind _ = _
    rw [h x (List.mem_cons_self ..), Option.bind_some, mapT_some fun y m => h y (List.mem_cons_of_mem _ m)]; rfl
theorem compT_some {c : α → Option Bool} {b : α → Bool} {g : α → Option β} {f : α → β} : ∀ {xs : List α}, (∀ x ∈ xs, c x = some (b x)) → (∀ x ∈ xs, b x = true → g x = some (f x)) → compT c g xs = some ((xs.filter b).map f)
  | [], _, _ => rfl
  | x :: xs, hc, hg => by
    show (c x).bind _ = _
    rw [hc x (List.mem_cons_self ..), Option.bind_some]
    have ih := compT_some (c := c) (b := b) (g := g) (f := f) (fun y m => hc y (List.mem_cons_of_mem _ m)) (fun y m => hg y (List.mem_cons_of_mem _ m))
    by_cases h : b x = true
    · rw [if_pos h, hg x (List.mem_cons_self ..) h, Option.bind_some, ih, List.filter_cons_of_pos h]; rfl
    · rw [if_neg h, ih, List.filter_cons_of_neg h]
/-! ### items -/
theorem atI_pos {xs : List α} {i : Int} (h : 0 ≤ i) : atI xs i = xs[i.toNat]? := by
  have := atI_nat xs i.toNat
  rwa [Int.toNat_of_nonneg h] at this
theorem atI_ok {xs : List α} {i : Int} (h : 0 ≤ i) (h' : i < xs.length) : ∃ x, atI xs i = some x ∧ xs[i.toNat]? = some x := by
  have hi : i.toNat < xs.length := by omega
  exact ⟨xs[i.toNat], by rw [atI_pos h, List.getElem?_eq_getElem hi], List.getElem?_eq_getElem hi⟩
theorem pick_i {xs : List α} {i : Int} {Q : α → Prop} (h : 0 ≤ i) (h' : i < xs.length) (q : ∀ x ∈ xs, Q x) : lift (atI xs i) Q := by
  obtain ⟨x, h1, h2⟩ := atI_ok h h'
  exact lift_i h1 (q x (List.mem_of_getElem? h2))
theorem atI_mem {xs : List α} {i : Int} {x : α} (h : atI xs i = some x) : x ∈ xs := by
  unfold atI at h
  cases e : ixN xs.length i with
  | none => rw [e] at h; cases h
  | some j => rw [e] at h; exact List.mem_of_getElem? h
theorem atI_neg1 (xs : List α) : atI xs (-1) = xs.getLast? := by
  unfold atI
  cases xs with
  | nil => rfl
  | cons x xs =>
    have : ixN (x :: xs).length (-1) = some xs.length := by
      unfold ixN
      rw [if_neg (by omega), if_pos (by rw [List.length_cons]; omega)]
      congr 1
      rw [List.length_cons]; omega
    rw [this]
    show (x :: xs)[xs.length]? = _
    rw [List.getLast?_eq_getElem?, List.length_cons]; rfl
theorem putT_ok {xs : List α} {i : Int} {x : α} (h : 0 ≤ i) (h' : i < xs.length) : putT xs i x = some (xs.set i.toNat x) := by
  unfold putT
  have := ixN_nat xs.length i.toNat
  rw [Int.toNat_of_nonneg h, if_pos (by omega)] at this
  rw [this]; rfl
theorem rngT_ok {n : Int} (h : n.natAbs ≤ 16777216) : rngT n = some (rangeT 0 n) := if_pos h
theorem rng2T_ok {a b : Int} (h : a.natAbs ≤ 4000000) (h' : b.natAbs ≤ 4000000) : rng2T a b = some (rangeT a b) := if_pos ⟨by rw [szl]; omega, h', by rw [szl]; omega⟩
theorem rangeT_len (a b : Int) : (rangeT a b).length = (b - a).toNat := by
  unfold rangeT
  rw [List.length_map, List.length_range]
theorem rangeT_nodup (a b : Int) : (rangeT a b).Nodup := by
  unfold rangeT
  refine List.Pairwise.map _ (fun x y h => ?_) List.nodup_range
  omega
theorem rangeT_nat (n : Nat) : rangeT 0 (n : Int) = (List.range n).map fun (k : Nat) => (k : Int) := by
  unfold rangeT
  rw [Int.sub_zero, Int.toNat_natCast]
  refine List.map_congr_left fun k _ => by omega
theorem rangeT_get {a b : Int} {k : Nat} (h : k < (b - a).toNat) : (rangeT a b)[k]? = some (a + (k : Int)) := by
  unfold rangeT
  rw [List.getElem?_map, List.getElem?_range h]; rfl
theorem rangeT_split {a b : Int} {pre post : List Int} {x : Int} (h : rangeT a b = pre ++ x :: post) : x = a + pre.length ∧ pre.length < (b - a).toNat := by
  have h1 : (rangeT a b)[pre.length]? = some x := by rw [h]; simp
  have hl : pre.length < (b - a).toNat := by
    have := congrArg List.length h
    rw [rangeT_len] at this
    simp at this
    omega
  rw [rangeT_get hl] at h1
  exact ⟨(Option.some.inj h1).symm, hl⟩
theorem enumT_get {xs : List α} {k : Nat} {p : Int × α} (h : (enumT xs)[k]? = some p) : p.1 = k ∧ xs[k]? = some p.2 := by
  unfold enumT at h
  rw [List.getElem?_map, List.getElem?_zipIdx] at h
  cases e : xs[k]? with
  | none => rw [e] at h; cases h
  | some x =>
    rw [e] at h
    cases h
    exact ⟨by simp, rfl⟩
theorem enumT_mem {xs : List α} {p : Int × α} : p ∈ enumT xs ↔ 0 ≤ p.1 ∧ xs[p.1.toNat]? = some p.2 := by
  constructor
  · intro h
    obtain ⟨k, hk⟩ := List.getElem?_of_mem h
    obtain ⟨h1, h2⟩ := enumT_get hk
    rw [h1]
    exact ⟨Int.natCast_nonneg _, by rw [Int.toNat_natCast]; exact h2⟩
  · rintro ⟨h1, h2⟩
    unfold enumT
    rw [List.mem_map]
    refine ⟨(p.2, p.1.toNat), ?_, ?_⟩
    · rw [List.mem_zipIdx_iff_getElem?]; exact h2
    · obtain ⟨i, x⟩ := p
      simp only [Prod.mk.injEq, and_true]
      omega
theorem enumT_len (xs : List α) : (enumT xs).length = xs.length := by
  unfold enumT
  rw [List.length_map, List.length_zipIdx]
theorem enumT_fst (xs : List α) : (enumT xs).map (·.1) = rangeT 0 (xs.length : Int) := by
  rw [rangeT_nat]
  unfold enumT
  rw [List.map_map]
  have : (fun (p : α × Nat) => ((p.2 : Int))) = (fun (k : Nat) => (k : Int)) ∘ Prod.snd := rfl
  show List.map (fun (p : α × Nat) => ((p.2 : Int))) xs.zipIdx = _
  rw [this, ← List.map_map, List.zipIdx_map_snd, List.range_eq_range']
theorem mulT_l {a b : Int} (h : a.natAbs < 2 ^ 64) : mulT a b = some (a * b) := if_pos (.inl h)
theorem mulT_r {a b : Int} (h : b.natAbs < 2 ^ 64) : mulT a b = some (a * b) := if_pos (.inr h)
theorem addL_ok {xs ys : List α} (h : xs.length + ys.length ≤ 16777216) : addL xs ys = some (xs ++ ys) := if_pos h
theorem apT_ok {xs : List α} {x : α} (h : xs.length < 16777216) : apT xs x = some (xs ++ [x]) := if_pos h
theorem sortO_ok [Ty α] [DecidableEq α] [TyOrd α] {xs : List α} (h : xs.length ≤ 16777216) : sortO xs = some (sortT xs) := if_pos h
theorem cut_to (xs : List α) {j : Int} (h : 0 ≤ j) : VL.cutD xs none (some j) = xs.take j.toNat := by
  have := VL.cutD_to xs j.toNat
  rwa [Int.toNat_of_nonneg h] at this
theorem cut_from (xs : List α) {j : Int} (h : 0 ≤ j) : VL.cutD xs (some j) none = xs.drop j.toNat := by
  have := VL.cutD_from xs j.toNat
  rwa [Int.toNat_of_nonneg h] at this
theorem minT_int {xs : List Int} {m : Int} (h1 : m ∈ xs) (h2 : ∀ x ∈ xs, m ≤ x) : minT xs = some m := by
  obtain ⟨z, hz⟩ := minT_ne (List.ne_nil_of_mem h1)
  obtain ⟨k1, k2⟩ := minT_some hz
  have a := h2 z k1
  have b := k2 m h1
  rw [leT_int, decide_eq_true_eq] at b
  rw [hz]; congr 1; omega
theorem maxT_int {xs : List Int} {m : Int} (h1 : m ∈ xs) (h2 : ∀ x ∈ xs, x ≤ m) : maxT xs = some m := by
  obtain ⟨z, hz⟩ := maxT_ne (List.ne_nil_of_mem h1)
  obtain ⟨k1, k2⟩ := maxT_some hz
  have a := h2 z k1
  have b := k2 m h1
  rw [leT_int, decide_eq_true_eq] at b
  rw [hz]; congr 1; omega
end
/-! ### data compared -/
section
variable {α : Type} [Ty α] [DecidableEq α] [TyEq α]
theorem eqDT_en (a b : α) (h : TyEq.n α ≤ 40 := by decide) : eqDT (en a) (en b) = some (decide (a = b)) := by
  unfold eqDT
  rw [if_pos (cmpOk_en a b h), TyEq.eq]
theorem neDT_en (a b : α) (h : TyEq.n α ≤ 40 := by decide) : neDT (en a) (en b) = some (!decide (a = b)) := by
  unfold neDT
  rw [if_pos (cmpOk_en a b h), TyEq.eq]
end
theorem eqDT_str (a b : Str) : eqDT (en a) (en b) = some (decide (a = b)) := eqDT_en a b
theorem neDT_str (a b : Str) : neDT (en a) (en b) = some (!decide (a = b)) := neDT_en a b
theorem eqDT_int (a b : Int) : eqDT (en a) (en b) = some (decide (a = b)) := eqDT_en a b
theorem cmpOk_self {d : D} (h : d.nb = true) (k : d.dep ≤ 40) : cmpOk d d = true := cmpOk_of h h k
theorem neDT_self {d : D} (h : d.nb = true) (k : d.dep ≤ 40) : neDT d d = some false := by
  unfold neDT
  rw [if_pos (cmpOk_of h h k), eqD_self h]; rfl
theorem eqDT_self {d : D} (h : d.nb = true) (k : d.dep ≤ 40) : eqDT d d = some true := by
  unfold eqDT
  rw [if_pos (cmpOk_of h h k), eqD_self h]
/-! ### the length of what is shown -/
mutual
/-- how long the text of d may be -/
def wtD : D → Nat
  | .non => 4
  | .bl _ => 5
  | .int _ => 70
  | .str x => (reprText x).length
  | .lst xs => 3 + wtL xs
  | .tup xs => 3 + wtL xs
  | .dic _ _ => 4
  | .obj _ _ _ => 4
  | .hid => 4
def wtL : List D → Nat
  | [] => 0
  | x :: xs => wtD x + 2 + wtL xs
end
mutual
/-- ints below 2^200, no dicts, no bools -/
def smD : D → Bool
  | .int i => decide (i.natAbs < 2 ^ 200)
  | .lst xs => smL xs
  | .tup xs => smL xs
  | .dic _ _ => false
  | .obj _ _ _ => false
  | .hid => false
  | _ => true
def smL : List D → Bool
  | [] => true
  | x :: xs => smD x && smL xs
end
mutual
theorem smD_show : ∀ d : D, smD d = true → d.py.showable = true ∧ d.py.shown.length ≤ wtD d
  | .non, _ => ⟨rfl, by decide +kernel⟩
  | .bl b, _ => ⟨rfl, by cases b <;> decide +kernel⟩
  | .int i, h => by
    have h : i.natAbs < 2 ^ 200 := of_decide_eq_true h
    have hl : i.natAbs.log2 < 200 := PySem.Flt.log2_lt_of (by decide) h
    refine ⟨?_, ?_⟩
    · show decide (i.natAbs.log2 < 1920) = true
      exact decide_eq_true (by omega)
    · show (Str.ofString (toString i)).length ≤ 70
      have h10 : i.natAbs < 10 ^ 61 := Nat.lt_trans h (by decide)
      have := PySem.int_text_length_le10 (k := 61) (by decide) h10
      rw [PySem.ofString_length]
      omega
  | .str x, _ => ⟨rfl, Nat.le_refl _⟩
  | .lst xs, h => by
    obtain ⟨h1, h2⟩ := smL_show xs h
    refine ⟨by show (PyData.list _).showable = true; simpa [PyData.showable] using h1, ?_⟩
    show (PyData.shown (.list _)).length ≤ 3 + wtL xs
    simp only [PyData.shown]
    have := PySem.listText_len_le (PyData.shownAll (D.pyL xs))
    omega
  | .tup xs, h => by
    obtain ⟨h1, h2⟩ := smL_show xs h
    refine ⟨by show (PyData.tuple _).showable = true; simpa [PyData.showable] using h1, ?_⟩
    show (PyData.shown (.tuple _)).length ≤ 3 + wtL xs
    simp only [PyData.shown]
    have := PySem.tupleText_len_le (PyData.shownAll (D.pyL xs))
    omega
  | .dic _ _, h => by cases h
  | .obj _ _ _, h => by cases h
  | .hid, h => by cases h
theorem smL_show : ∀ xs : List D, smL xs = true → PyData.showableAll (D.pyL xs) = true ∧ ((PyData.shownAll (D.pyL xs)).map (·.length)).sum + 2 * (PyData.shownAll (D.pyL xs)).length ≤ wtL xs
  | [], _ => ⟨rfl, Nat.le_refl _⟩
  | x :: xs, h => by
    have q : smD x = true ∧ smL xs = true := by simpa [smL] using h
    obtain ⟨h1, h2⟩ := smD_show x q.1
    obtain ⟨h3, h4⟩ := smL_show xs q.2
    refine ⟨by simp [D.pyL, PyData.showableAll, h1, h3], ?_⟩
    simp only [D.pyL, PyData.shownAll, List.map_cons, List.sum_cons, List.length_cons, wtL]
    omega
end
theorem showOk_of {d : D} (h1 : d.nb = true) (h2 : smD d = true) (h3 : wtD d ≤ 16777216) (h4 : d.dep ≤ 40) : showOk d = true := by
  unfold showOk
  obtain ⟨k1, k2⟩ := smD_show d h2
  rw [D.nb_plain d h1, k1, decide_eq_true h4, decide_eq_true (show d.py.shown.length ≤ sizeLine by rw [szl]; omega)]; rfl
theorem smL_iff : ∀ {xs : List D}, smL xs = true ↔ ∀ x ∈ xs, smD x = true
  | [] => by simp [smL]
  | x :: xs => by simp [smL, smL_iff (xs := xs)]
theorem wtL_le {w : Nat} : ∀ {xs : List D}, (∀ x ∈ xs, wtD x ≤ w) → wtL xs ≤ (w + 2) * xs.length
  | [], _ => Nat.zero_le _
  | x :: xs, h => by
    have h1 := h x (List.mem_cons_self ..)
    have h2 := wtL_le (xs := xs) fun y m => h y (List.mem_cons_of_mem _ m)
    simp only [wtL, List.length_cons]
    rw [Nat.mul_add]
    omega
theorem wt_ints (ns : List Int) : wtD (en ns : D) = 3 + 72 * ns.length := by
  show 3 + wtL (ns.map D.int) = _
  congr 1
  induction ns with
  | nil => rfl
  | cons n ns ih =>
    simp only [List.map_cons, wtL, wtD, ih, List.length_cons]
    omega
theorem sm_ints {ns : List Int} (h : ∀ n ∈ ns, n.natAbs < 2 ^ 200) : smD (en ns : D) = true := smL_iff.mpr fun x m => by
  obtain ⟨n, hn, rfl⟩ := List.mem_map.mp m
  exact decide_eq_true (h n hn)
theorem nb_ints (ns : List Int) : (en ns : D).nb = true := D.nbL_iff.mpr fun x m => by
  obtain ⟨n, hn, rfl⟩ := List.mem_map.mp m
  rfl
theorem reprT_of {α : Type} [Ty α] {a : α} (h : showOk (en a) = true) : reprT a = some (en a).py.shown := if_pos h
end TL

set_option Elab.async false
set_option linter.all false
set_option maxRecDepth 100000
/-! TL7: sets, index, default, and/or with draws. -/
namespace TL
open PySem PySem.Spec PyProof.Rows L2 VL
open Ty (en)
section
variable {α : Type} [Ty α] [DecidableEq α] [TyOrd α] {φ : Fs} {f g : VL.Env → Option D}
class TyLin (α : Type) [Ty α] [DecidableEq α] [TyOrd α] : Prop where
  lin : ∀ a b : α, a = b ∨ TyOrd.lt a b = true ∨ TyOrd.lt b a = true
instance : TyLin Int := ⟨fun a b => by
  show a = b ∨ decide (a < b) = true ∨ decide (b < a) = true
  simp only [decide_eq_true_eq]
  rcases Int.lt_trichotomy a b with h | h | h
  · exact .inr (.inl h)
  · exact .inl h
  · exact .inr (.inr h)⟩
theorem ltThen_lin {β : Type} [Ty β] [DecidableEq β] [TyOrd β] [TyLin β] (a b : β) {p : Prop} {x y : Bool} (h : p ∨ x = true ∨ y = true) : (a = b ∧ p) ∨ ltThen a b x = true ∨ ltThen b a y = true := by
  unfold ltThen
  by_cases c : a = b
  · subst c
    rw [if_pos rfl, if_pos rfl]
    rcases h with h | h
    · exact .inl ⟨rfl, h⟩
    · exact .inr h
  · rw [if_neg c, if_neg (Ne.symm c)]
    rcases TyLin.lin a b with h | h
    · exact absurd h c
    · exact .inr h
instance {β : Type} [TyLin α] [Ty β] [DecidableEq β] [TyOrd β] [TyLin β] : TyLin (α × β) := ⟨fun a b => by
  show a = b ∨ ltThen a.1 b.1 (ltThen a.2 b.2 false) = true ∨ ltThen b.1 a.1 (ltThen b.2 a.2 false) = true
  rcases ltThen_lin a.1 b.1 (ltThen_lin a.2 b.2 (Or.inl (a := True) trivial)) with ⟨h, h2, _⟩ | h
  · exact .inl (Prod.ext h h2)
  · exact .inr h⟩
/-- sorted(set(xs)) -/
def setT (xs : List α) : Option (List α) := if xs.length < 64 then some (sortT (ddup xs)) else none
class TySet (α : Type) [Ty α] [DecidableEq α] [TyOrd α] : Prop where
  so : ∀ xs : List α, xs.length < 64 → setSo (xs.map en) = some ((sortT (ddup xs)).map en)
instance : TySet Int := ⟨fun xs h => by
  show setSo (xs.map D.int) = _
  unfold setSo
  rw [intsOf_map]
  dsimp only
  rw [if_pos h]
  exact congrArg some (sortD_en (ddup xs))⟩
theorem ddup_map {β γ : Type} [DecidableEq β] [DecidableEq γ] {k : β → γ} (inj : ∀ a b, k a = k b → a = b) : ∀ xs : List β, ddup (xs.map k) = (ddup xs).map k
  | [] => rfl
  | x :: xs => by
    have e : k x ∈ xs.map k ↔ x ∈ xs := ⟨fun m => by obtain ⟨y, m, e⟩ := List.mem_map.mp m; rwa [← inj _ _ e], fun m => List.mem_map.mpr ⟨x, m, rfl⟩⟩
    show (if k x ∈ xs.map k then ddup (xs.map k) else k x :: ddup (xs.map k)) = (if x ∈ xs then ddup xs else x :: ddup xs).map k
    rw [ddup_map inj xs]
    by_cases c : x ∈ xs
    · rw [if_pos (e.mpr c), if_pos c]
    · rw [if_neg fun q => c (e.mp q), if_neg c]; rfl
theorem TySet.ofTup [TyLin α] (ti : α → List Int) (he : ∀ a : α, en a = encT (ti a)) (inj : ∀ a b, ti a = ti b → a = b) (hn : TyEq.n α ≤ 40) : TySet α := ⟨fun xs h => by
  have e : xs.map (en (α := α)) = (xs.map ti).map encT := by rw [List.map_map]; exact List.map_congr_left fun a _ => he a
  have e2 : ((ddup xs).map (en (α := α))) = (ddup (xs.map ti)).map encT := by rw [ddup_map inj, List.map_map]; exact List.map_congr_left fun a _ => he a
  cases xs with
  | nil => simp [setSo, intsOf, ddup, sortD, sortT]
  | cons x xs =>
    unfold setSo
    have hi : intsOf ((x :: xs).map (en (α := α))) = none := by
      rw [List.map_cons, he x]
      rfl
    rw [hi]
    dsimp only
    rw [e, tupsIs_map, Option.bind_some, if_pos, ← e2, sortD_en]
    refine ⟨by rw [List.length_map]; exact h, by rw [← e]; exact sortOk_en _ hn (by rw [sizeLine_eq]; omega), fun a ha b hb => ?_⟩
    obtain ⟨p, _, rfl⟩ := List.mem_map.mp ha
    obtain ⟨q, _, rfl⟩ := List.mem_map.mp hb
    rw [← he p, ← he q, TyOrd.ltOk, TyOrd.ltOk]
    rcases TyLin.lin p q with z | z
    · exact .inl (by rw [z])
    · exact .inr z⟩
instance : TySet (Int × Int) := TySet.ofTup (fun p => [p.1, p.2]) (fun _ => rfl) (fun a b h => by simp only [List.cons.injEq, and_true] at h; exact Prod.ext h.1 h.2) (by decide)
theorem elo_set [TySet α] {xs : List α} (h : EV φ f xs) : ELo φ (dSetSo f) (setT xs) := fun env s v e => by
  unfold setT at e
  split at e
  · rename_i hl
    cases e
    simp only [dSetSo, h env s, Option.bind_some]
    exact TySet.so xs hl
  · cases e
theorem elo_setI {xs : List Int} (h : EV φ f xs) : ELo φ (dSetSoI f) (setT xs) := fun env s v e => by
  unfold setT at e
  split at e
  · rename_i hl
    cases e
    simp only [dSetSoI, h env s, Option.bind_some]
    show (intsOf (xs.map D.int)).bind _ = _
    rw [intsOf_map, Option.bind_some, if_pos hl]
    exact congrArg some (sortD_en (ddup xs))
  · cases e
def lenSetT (xs : List Int) : Option Int := if xs.length < 2000 then some ((ddup xs).length : Int) else none
theorem eo_lenSet {xs : List Int} (h : EV φ f xs) : EO φ (dLenSet f) (lenSetT xs) := fun env s v e => by
  unfold lenSetT at e
  split at e
  · rename_i hl
    cases e
    simp only [dLenSet, h env s, Option.bind_some]
    show (intsOf (xs.map D.int)).bind _ = _
    rw [intsOf_map, Option.bind_some, if_pos hl]
    rfl
  · cases e
/-! index -/
class TyLay (α : Type) [Ty α] : Prop where
  lay : ∀ a : α, (en a).py.canLay0 = true
  dp : ∀ a : α, (en a).py.depth ≤ 60
instance : TyLay Int := ⟨fun _ => rfl, fun _ => by show PyData.depth (.int _) ≤ 60; simp [PyData.depth]⟩
def idxT {β : Type} [DecidableEq β] (x : β) : List β → Option Nat
  | [] => none
  | y :: ys => if y = x then some 0 else (idxT x ys).map (· + 1)
theorem idxD_en (x : α) : ∀ xs : List α, idxD (en x) (xs.map en) = idxT x xs
  | [] => rfl
  | y :: ys => by
    show (if PyData.eqv (en y).py (en x).py = true then some 0 else (idxD (en x) (ys.map en)).map (· + 1)) = _
    rw [eqv_en, idxD_en x ys]
    show _ = (if y = x then some 0 else (idxT x ys).map (· + 1))
    by_cases c : y = x
    · rw [if_pos (decide_eq_true c), if_pos c]
    · rw [if_neg (by simpa using c), if_neg c]
def indexT {β : Type} [DecidableEq β] (xs : List β) (x : β) : Option Int := (idxT x xs).map fun (j : Nat) => (j : Int)
theorem layL [TyLay α] : ∀ xs : List α, PyData.canLayAll0 (D.pyL (xs.map en)) = true ∧ PyData.depthAll (D.pyL (xs.map en)) ≤ 60
  | [] => by simp [D.pyL, PyData.canLayAll0, PyData.depthAll]
  | x :: xs => by
    have := layL xs
    have h1 := TyLay.lay x
    have h2 := TyLay.dp x
    simp only [List.map_cons, D.pyL, PyData.canLayAll0, PyData.depthAll, h1, this.1, Bool.and_self, true_and]
    omega
theorem op_index [TyLay α] (xs : List α) (x : α) : O2o dIndex xs x (indexT xs x) := fun c e => by
  obtain ⟨j, h1, rfl⟩ := Option.map_eq_some_iff.mp e
  show (if (D.plain (.lst (xs.map en)) && D.plain (en x) && SeqAt.shaped (D.py (.lst (xs.map en))) && SeqAt.shaped (en x).py) = true then (idxD (en x) (xs.map en)).map fun (j : Nat) => D.int (j : Int) else none) = _
  have hl := layL xs
  rw [if_pos, idxD_en, h1]
  · rfl
  · have h1 := TyLay.lay x
    have h2 := TyLay.dp x
    have a1 : D.plain (.lst (xs.map en)) = true := pl_map xs
    have a2 : SeqAt.shaped (D.py (.lst (xs.map en))) = true := by
      show SeqAt.shaped (.list (D.pyL (xs.map en))) = true
      unfold SeqAt.shaped
      simp only [PyData.canLay0, PyData.depth, hl.1, Bool.true_and]
      have := hl.2
      exact decide_eq_true (by omega)
    have a3 : SeqAt.shaped (en x).py = true := by
      unfold SeqAt.shaped
      simp only [h1, Bool.true_and]
      exact decide_eq_true (by omega)
    rw [a1, a2, a3, TyEq.pl]; rfl
/-! default -/
def minDfT (xs : List α) (z : α) : Option α := if xs.isEmpty then some z else minT xs
theorem op_minDf (xs : List α) (z : α) (h : TyEq.n α ≤ 40 := by decide) : O2o dMinDf xs z (minDfT xs z) := fun c e => by
  cases xs with
  | nil => cases e; rfl
  | cons x xs => exact dMinA_en h (show minT (x :: xs) = some c from e)
end
def powT (a b : Int) : Option Int := if CPow a b then some (a ^ b.toNat) else none
theorem op_pow (a b : Int) : O2o dPow a b (powT a b) := fun c e => by
  unfold powT at e
  show (if CPow a b then some (D.int (a ^ b.toNat)) else none) = _
  split at e
  · rename_i h
    cases e
    rw [if_pos h]; rfl
  · cases e
section
variable {φ : Fs2} {f g : Mo D} {ma mb : Dr Bool}
theorem gm_and2 (ha : GM φ (en (α := Bool)) f ma) (hb : GM φ (en (α := Bool)) g mb) : GM φ (en (α := Bool)) (mAnd2 f g) (bnd ma fun a => if a = true then mb else ret false) := fun env st s Q q => by
  obtain ⟨a, e1, s1, h1, h2, h3⟩ := ha env st s _ q
  cases a
  · exact ⟨false, e1, s1, by simp only [mAnd2, h1, Option.bind_some]; rfl, h2, h3⟩
  · obtain ⟨b, e2, s2, h4, h5, h6⟩ := hb e1 s1 h2 _ h3
    exact ⟨b, e2, s2, by simp only [mAnd2, h1, Option.bind_some]; exact h4, h5, h6⟩
theorem gm_or2 (ha : GM φ (en (α := Bool)) f ma) (hb : GM φ (en (α := Bool)) g mb) : GM φ (en (α := Bool)) (mOr2 f g) (bnd ma fun a => if a = true then ret true else mb) := fun env st s Q q => by
  obtain ⟨a, e1, s1, h1, h2, h3⟩ := ha env st s _ q
  cases a
  · obtain ⟨b, e2, s2, h4, h5, h6⟩ := hb e1 s1 h2 _ h3
    exact ⟨b, e2, s2, by simp only [mOr2, h1, Option.bind_some]; exact h4, h5, h6⟩
  · exact ⟨true, e1, s1, by simp only [mOr2, h1, Option.bind_some]; rfl, h2, h3⟩
end
end TL

set_option Elab.async false
set_option linter.all false
set_option maxRecDepth 100000
/-! TL8: reasoning backwards: what is wanted behind is brought ahead. -/
namespace TL
open PySem PySem.Spec PyProof.Rows L2 VL
open Ty (en)
section
variable {α β γ σ σ' ρ τ τ' : Type}
theorem lift_bind' (o : Option α) (f : α → Option β) : lift (o.bind f) = bnd (lift o) fun a => lift (f a) := by
  funext Q
  cases o with
  | none => exact propext ⟨fun ⟨_, e, _⟩ => (by cases e), fun ⟨_, e, _⟩ => (by cases e)⟩
  | some a => exact propext ⟨fun h => ⟨a, rfl, h⟩, fun ⟨b, e, h⟩ => by cases e; exact h⟩
theorem lift_map' (o : Option α) (f : α → β) : lift (o.map f) = bnd (lift o) fun a => ret (f a) := by
  funext Q
  cases o with
  | none => exact propext ⟨fun ⟨_, e, _⟩ => (by cases e), fun ⟨_, e, _⟩ => (by cases e)⟩
  | some a => exact propext ⟨fun ⟨b, e, h⟩ => by cases e; exact ⟨a, rfl, h⟩, fun ⟨b, e, h⟩ => by cases e; exact ⟨_, rfl, h⟩⟩
theorem lift_ite' (c : Prop) [Decidable c] (a b : Option α) : lift (if c then a else b) = if c then lift a else lift b := by
  by_cases h : c
  · rw [if_pos h, if_pos h]
  · rw [if_neg h, if_neg h]
theorem ite_app' (c : Prop) [Decidable c] (a b : Dr α) (Q : α → Prop) : (if c then a else b) Q = if c then a Q else b Q := by
  by_cases h : c
  · rw [if_pos h, if_pos h]
  · rw [if_neg h, if_neg h]
theorem lift_sqT' (m : Option (Flow τ σ ρ)) (k : τ → Option (Flow τ' σ ρ)) : lift (sqT m k) = bndF (lift m) fun t => lift (k t) := by
  funext Q
  unfold sqT bndF
  cases m with
  | none => exact propext ⟨fun ⟨_, e, _⟩ => (by cases e), fun ⟨_, e, _⟩ => (by cases e)⟩
  | some fl =>
    refine propext ⟨fun h => ⟨fl, rfl, ?_⟩, fun ⟨b, e, h⟩ => ?_⟩
    · cases fl with
      | nx t => exact h
      | bk t => obtain ⟨_, e, h⟩ := h; cases e; exact h
      | ct t => obtain ⟨_, e, h⟩ := h; cases e; exact h
      | rt t => obtain ⟨_, e, h⟩ := h; cases e; exact h
    · cases e
      cases fl with
      | nx t => exact h
      | bk t => exact ⟨_, rfl, h⟩
      | ct t => exact ⟨_, rfl, h⟩
      | rt t => exact ⟨_, rfl, h⟩
theorem lift_ansT' (m : Option (Flow Unit Empty ρ)) : lift (ansT m) = ansM (lift m) := by
  funext Q
  unfold ansT ansM
  cases m with
  | none => exact propext ⟨fun ⟨_, e, _⟩ => (by cases e), fun ⟨_, e, _⟩ => (by cases e)⟩
  | some fl =>
    refine propext ⟨fun h => ⟨fl, rfl, ?_⟩, fun ⟨b, e, h⟩ => ?_⟩
    · cases fl with
      | nx t => obtain ⟨_, e, _⟩ := h; cases e
      | bk t => exact t.elim
      | ct t => exact t.elim
      | rt t => obtain ⟨_, e, h⟩ := h; cases e; exact h
    · cases e
      cases fl with
      | nx t => exact h.elim
      | bk t => exact t.elim
      | ct t => exact t.elim
      | rt t => exact ⟨_, rfl, h⟩
/-- what is wanted at the end, None if nothing is told -/
def anN (d : ρ) (Q : ρ → Prop) : Flow Unit Empty ρ → Prop
  | .rt r => Q r
  | .nx _ => Q d
  | _ => False
theorem anN_rt (d : ρ) (Q : ρ → Prop) (r : ρ) : anN d Q (.rt r) = Q r := propext ⟨id, id⟩
theorem anN_nx (d : ρ) (Q : ρ → Prop) (r : Unit) : anN d Q (.nx r) = Q d := propext ⟨id, id⟩
theorem lift_ansN' (d : ρ) (m : Option (Flow Unit Empty ρ)) (Q : ρ → Prop) : lift (ansN d m) Q = lift m (anN d Q) := by
  unfold ansN
  cases m with
  | none => exact propext ⟨fun ⟨_, e, _⟩ => (by cases e), fun ⟨_, e, _⟩ => (by cases e)⟩
  | some fl =>
    refine propext ⟨fun h => ⟨fl, rfl, ?_⟩, fun ⟨b, e, h⟩ => ?_⟩
    · cases fl with
      | nx t => obtain ⟨_, e, h⟩ := h; cases e; exact h
      | bk t => exact t.elim
      | ct t => exact t.elim
      | rt t => obtain ⟨_, e, h⟩ := h; cases e; exact h
    · cases e
      cases fl with
      | nx t => exact ⟨_, rfl, h⟩
      | bk t => exact t.elim
      | ct t => exact t.elim
      | rt t => exact ⟨_, rfl, h⟩
theorem not_tt {b : Bool} : ((!b) = true) = (b = false) := by cases b <;> simp
theorem not_ff {b : Bool} : ((!b) = false) = (b = true) := by cases b <;> simp
theorem dec_tt {p : Prop} [Decidable p] : (decide p = true) = p := decide_eq_true_eq
theorem dec_ff {p : Prop} [Decidable p] : ((decide p = false) = ¬ p) := propext decide_eq_false_iff_not
/-- branches, and what follows them -/
def jn (m : Option (Flow τ σ ρ)) (k : τ → Option (Flow τ' σ ρ)) (Q : Flow τ' σ ρ → Prop) : Prop := lift (sqT m k) Q
theorem lift_jn (m : Option (Flow τ σ ρ)) (k : τ → Option (Flow τ' σ ρ)) (Q : Flow τ' σ ρ → Prop) : lift (sqT m k) Q = jn m k Q := propext ⟨id, id⟩
theorem jn_of {m : Option (Flow τ σ ρ)} {k : τ → Option (Flow τ' σ ρ)} {Q : Flow τ' σ ρ → Prop} (h : lift m (afF (fun t => lift (k t)) Q)) : jn m k Q := by
  unfold jn
  rw [lift_sqT', bndF_app]
  exact h
theorem jn_P {m : Option (Flow τ σ ρ)} {k : τ → Option (Flow τ' σ ρ)} {Q : Flow τ' σ ρ → Prop} (P : τ → Prop)
    (h : ∀ R : Flow τ σ ρ → Prop, (∀ t, P t → R (.nx t)) → (∀ s, Q (.bk s) → R (.bk s)) → (∀ s, Q (.ct s) → R (.ct s)) → (∀ r, Q (.rt r) → R (.rt r)) → lift m R) (hk : ∀ t, P t → lift (k t) Q) : jn m k Q := by
  refine jn_of ?_
  exact h _ (fun t p => hk t p) (fun _ q => q) (fun _ q => q) (fun _ q => q)
/-- all the rules, for simp only -/
theorem wpr : (∀ {α β : Type} (o : Option α) (f : α → Option β), lift (o.bind f) = bnd (lift o) fun a => lift (f a))
    ∧ (∀ {α β : Type} (o : Option α) (f : α → β), lift (o.map f) = bnd (lift o) fun a => ret (f a))
    ∧ (∀ {α : Type} (c : Prop) [Decidable c] (a b : Option α), lift (if c then a else b) = if c then lift a else lift b)
    ∧ (∀ {α : Type} (c : Prop) [Decidable c] (a b : Dr α) (Q : α → Prop), (if c then a else b) Q = if c then a Q else b Q)
    ∧ (∀ {τ τ' σ ρ : Type} (m : Option (Flow τ σ ρ)) (k : τ → Option (Flow τ' σ ρ)), lift (sqT m k) = bndF (lift m) fun t => lift (k t))
    ∧ (∀ {ρ : Type} (m : Option (Flow Unit Empty ρ)), lift (ansT m) = ansM (lift m))
    ∧ (∀ {ρ : Type} (d : ρ) (m : Option (Flow Unit Empty ρ)) (Q : ρ → Prop), lift (ansN d m) Q = lift m (anN d Q))
    ∧ (∀ {ρ : Type} (m : Dr (Flow Unit Empty ρ)) (Q : ρ → Prop), ansM m Q = m (anF Q))
    ∧ (∀ {α β : Type} (a : α) (k : α → Dr β), bnd (ret a) k = k a)
    ∧ (∀ {α β γ : Type} (m : Dr α) (k : α → Dr β) (l : β → Dr γ), bnd (bnd m k) l = bnd m fun a => bnd (k a) l)
    ∧ (∀ {α β : Type} (m : Dr α) (k : α → Dr β) (Q : β → Prop), bnd m k Q = m fun a => k a Q)
    ∧ (∀ {α : Type} (a : α) (Q : α → Prop), ret a Q = Q a)
    ∧ (∀ {α : Type} (a : α), lift (some a) = ret a)
    ∧ (∀ {τ τ' σ ρ : Type} (m : Dr (Flow τ σ ρ)) (k : τ → Dr (Flow τ' σ ρ)) (Q : Flow τ' σ ρ → Prop), bndF m k Q = m (afF k Q))
    ∧ (∀ {τ τ' σ ρ : Type} (k : τ → Dr (Flow τ' σ ρ)) (Q : Flow τ' σ ρ → Prop) (t : τ), afF k Q (.nx t) = k t Q)
    ∧ (∀ {τ τ' σ ρ : Type} (k : τ → Dr (Flow τ' σ ρ)) (Q : Flow τ' σ ρ → Prop) (t : ρ), afF k Q (.rt t) = Q (.rt t))
    ∧ (∀ {ρ : Type} (Q : ρ → Prop) (r : ρ), anF Q (.rt r) = Q r)
    ∧ (∀ {ρ : Type} (d : ρ) (Q : ρ → Prop) (r : ρ), anN d Q (.rt r) = Q r)
    ∧ (∀ {ρ : Type} (d : ρ) (Q : ρ → Prop) (r : Unit), anN d Q (.nx r) = Q d)
    ∧ (∀ {b : Bool}, ((!b) = true) = (b = false))
    ∧ (∀ {p : Prop} [Decidable p], (decide p = true) = p)
    ∧ (∀ {p : Prop} [Decidable p], (decide p = false) = ¬ p) :=
  ⟨lift_bind', lift_map', lift_ite', ite_app', lift_sqT', lift_ansT', lift_ansN', ansM_app, bnd_ret, bnd_bnd, bnd_app, ret_app, lift_some, bndF_app, afF_nx, afF_rt, anF_rt, anN_rt, anN_nx, not_tt, dec_tt, dec_ff⟩
/-- all the rules, where branches meet only once -/
theorem wpj : (∀ {α β : Type} (o : Option α) (f : α → Option β), lift (o.bind f) = bnd (lift o) fun a => lift (f a))
    ∧ (∀ {α β : Type} (o : Option α) (f : α → β), lift (o.map f) = bnd (lift o) fun a => ret (f a))
    ∧ (∀ {α : Type} (c : Prop) [Decidable c] (a b : Option α), lift (if c then a else b) = if c then lift a else lift b)
    ∧ (∀ {α : Type} (c : Prop) [Decidable c] (a b : Dr α) (Q : α → Prop), (if c then a else b) Q = if c then a Q else b Q)
    ∧ (∀ {τ τ' σ ρ : Type} (m : Option (Flow τ σ ρ)) (k : τ → Option (Flow τ' σ ρ)) (Q : Flow τ' σ ρ → Prop), lift (sqT m k) Q = jn m k Q)
    ∧ (∀ {ρ : Type} (m : Option (Flow Unit Empty ρ)), lift (ansT m) = ansM (lift m))
    ∧ (∀ {ρ : Type} (d : ρ) (m : Option (Flow Unit Empty ρ)) (Q : ρ → Prop), lift (ansN d m) Q = lift m (anN d Q))
    ∧ (∀ {ρ : Type} (m : Dr (Flow Unit Empty ρ)) (Q : ρ → Prop), ansM m Q = m (anF Q))
    ∧ (∀ {α β : Type} (a : α) (k : α → Dr β), bnd (ret a) k = k a)
    ∧ (∀ {α β γ : Type} (m : Dr α) (k : α → Dr β) (l : β → Dr γ), bnd (bnd m k) l = bnd m fun a => bnd (k a) l)
    ∧ (∀ {α β : Type} (m : Dr α) (k : α → Dr β) (Q : β → Prop), bnd m k Q = m fun a => k a Q)
    ∧ (∀ {α : Type} (a : α) (Q : α → Prop), ret a Q = Q a)
    ∧ (∀ {α : Type} (a : α), lift (some a) = ret a)
    ∧ (∀ {τ τ' σ ρ : Type} (m : Dr (Flow τ σ ρ)) (k : τ → Dr (Flow τ' σ ρ)) (Q : Flow τ' σ ρ → Prop), bndF m k Q = m (afF k Q))
    ∧ (∀ {τ τ' σ ρ : Type} (k : τ → Dr (Flow τ' σ ρ)) (Q : Flow τ' σ ρ → Prop) (t : τ), afF k Q (.nx t) = k t Q)
    ∧ (∀ {τ τ' σ ρ : Type} (k : τ → Dr (Flow τ' σ ρ)) (Q : Flow τ' σ ρ → Prop) (t : ρ), afF k Q (.rt t) = Q (.rt t))
    ∧ (∀ {ρ : Type} (Q : ρ → Prop) (r : ρ), anF Q (.rt r) = Q r)
    ∧ (∀ {ρ : Type} (d : ρ) (Q : ρ → Prop) (r : ρ), anN d Q (.rt r) = Q r)
    ∧ (∀ {ρ : Type} (d : ρ) (Q : ρ → Prop) (r : Unit), anN d Q (.nx r) = Q d)
    ∧ (∀ {b : Bool}, ((!b) = true) = (b = false))
    ∧ (∀ {p : Prop} [Decidable p], (decide p = true) = p)
    ∧ (∀ {p : Prop} [Decidable p], (decide p = false) = ¬ p) :=
  ⟨lift_bind', lift_map', lift_ite', ite_app', lift_jn, lift_ansT', lift_ansN', ansM_app, bnd_ret, bnd_bnd, bnd_app, ret_app, lift_some, bndF_app, afF_nx, afF_rt, anF_rt, anN_rt, anN_nx, not_tt, dec_tt, dec_ff⟩
/-- the rules, with no branch taken apart -/
theorem wpk : (∀ {α β : Type} (o : Option α) (f : α → Option β), lift (o.bind f) = bnd (lift o) fun a => lift (f a))
    ∧ (∀ {α β : Type} (o : Option α) (f : α → β), lift (o.map f) = bnd (lift o) fun a => ret (f a))
    ∧ (∀ {τ τ' σ ρ : Type} (m : Option (Flow τ σ ρ)) (k : τ → Option (Flow τ' σ ρ)) (Q : Flow τ' σ ρ → Prop), lift (sqT m k) Q = jn m k Q)
    ∧ (∀ {ρ : Type} (m : Option (Flow Unit Empty ρ)), lift (ansT m) = ansM (lift m))
    ∧ (∀ {ρ : Type} (d : ρ) (m : Option (Flow Unit Empty ρ)) (Q : ρ → Prop), lift (ansN d m) Q = lift m (anN d Q))
    ∧ (∀ {ρ : Type} (m : Dr (Flow Unit Empty ρ)) (Q : ρ → Prop), ansM m Q = m (anF Q))
    ∧ (∀ {α β : Type} (a : α) (k : α → Dr β), bnd (ret a) k = k a)
    ∧ (∀ {α β γ : Type} (m : Dr α) (k : α → Dr β) (l : β → Dr γ), bnd (bnd m k) l = bnd m fun a => bnd (k a) l)
    ∧ (∀ {α β : Type} (m : Dr α) (k : α → Dr β) (Q : β → Prop), bnd m k Q = m fun a => k a Q)
    ∧ (∀ {α : Type} (a : α) (Q : α → Prop), ret a Q = Q a)
    ∧ (∀ {α : Type} (a : α), lift (some a) = ret a)
    ∧ (∀ {τ τ' σ ρ : Type} (m : Dr (Flow τ σ ρ)) (k : τ → Dr (Flow τ' σ ρ)) (Q : Flow τ' σ ρ → Prop), bndF m k Q = m (afF k Q))
    ∧ (∀ {τ τ' σ ρ : Type} (k : τ → Dr (Flow τ' σ ρ)) (Q : Flow τ' σ ρ → Prop) (t : τ), afF k Q (.nx t) = k t Q)
    ∧ (∀ {τ τ' σ ρ : Type} (k : τ → Dr (Flow τ' σ ρ)) (Q : Flow τ' σ ρ → Prop) (t : ρ), afF k Q (.rt t) = Q (.rt t))
    ∧ (∀ {ρ : Type} (Q : ρ → Prop) (r : ρ), anF Q (.rt r) = Q r)
    ∧ (∀ {ρ : Type} (d : ρ) (Q : ρ → Prop) (r : ρ), anN d Q (.rt r) = Q r)
    ∧ (∀ {ρ : Type} (d : ρ) (Q : ρ → Prop) (r : Unit), anN d Q (.nx r) = Q d)
    ∧ (∀ {b : Bool}, ((!b) = true) = (b = false))
    ∧ (∀ {p : Prop} [Decidable p], (decide p = true) = p)
    ∧ (∀ {p : Prop} [Decidable p], (decide p = false) = ¬ p) :=
  ⟨lift_bind', lift_map', lift_jn, lift_ansT', lift_ansN', ansM_app, bnd_ret, bnd_bnd, bnd_app, ret_app, lift_some, bndF_app, afF_nx, afF_rt, anF_rt, anN_rt, anN_nx, not_tt, dec_tt, dec_ff⟩
theorem ifL {c : Prop} [Decidable c] {a b : Option α} {Q : α → Prop} (h : c → lift a Q) (k : ¬ c → lift b Q) : lift (if c then a else b) Q := by
  by_cases x : c
  · rw [if_pos x]; exact h x
  · rw [if_neg x]; exact k x
theorem ifY {c : Prop} [Decidable c] {a b : Option α} {Q : α → Prop} (x : c) (h : lift a Q) : lift (if c then a else b) Q := by rw [if_pos x]; exact h
theorem ifN {c : Prop} [Decidable c] {a b : Option α} {Q : α → Prop} (x : ¬ c) (h : lift b Q) : lift (if c then a else b) Q := by rw [if_neg x]; exact h
theorem condB (P : Prop) {m : Option Bool} {Q : Bool → Prop} (h : lift m fun t => (t = true ↔ P)) (k : ∀ t : Bool, (t = true ↔ P) → Q t) : lift m Q := by
  obtain ⟨t, e, i⟩ := h
  exact ⟨t, e, k t i⟩
/-- a test, by what it tells -/
theorem condL (P : Prop) {m : Option Bool} {a b : Option α} {Q : α → Prop} (h : lift m fun t => (t = true ↔ P)) (hx : P → lift a Q) (hy : ¬ P → lift b Q) : lift m fun t => lift (if t = true then a else b) Q := by
  obtain ⟨t, e, i⟩ := h
  refine ⟨t, e, ?_⟩
  show lift (if t = true then a else b) Q
  by_cases c : t = true
  · rw [if_pos c]; exact hx (i.mp c)
  · rw [if_neg c]; exact hy fun p => c (i.mpr p)
/-! the rules that ask -/
theorem iteP {c : Prop} [Decidable c] {a b : Prop} (h : c → a) (k : ¬ c → b) : if c then a else b := by
  by_cases x : c
  · rw [if_pos x]; exact h x
  · rw [if_neg x]; exact k x
theorem iteY {c : Prop} [Decidable c] {a b : Prop} (x : c) (h : a) : if c then a else b := by rw [if_pos x]; exact h
theorem iteN {c : Prop} [Decidable c] {a b : Prop} (x : ¬ c) (h : b) : if c then a else b := by rw [if_neg x]; exact h
theorem lift_mono {o : Option α} {P Q : α → Prop} (h : lift o P) (k : ∀ a, P a → Q a) : lift o Q := by
  obtain ⟨a, e, p⟩ := h
  exact ⟨a, e, k a p⟩
theorem lift_to {o : Option α} {a : α} (h : lift o fun x => x = a) : o = some a := by
  obtain ⟨_, e, rfl⟩ := h
  exact e
theorem lift_is {o : Option α} {a : α} (h : o = some a) : lift o fun x => x = a := ⟨a, h, rfl⟩
/-- a walk, with what is done so far -/
theorem loopL {body : α → σ → Option (Flow σ σ ρ)} {Q : Flow σ σ' ρ → Prop} (I : List α → σ → Prop) {xs : List α} {s : σ} (h0 : I [] s)
    (hs : ∀ pre x post s, xs = pre ++ x :: post → I pre s → ∀ R : Flow σ σ ρ → Prop, (∀ s', I (pre ++ [x]) s' → R (.nx s')) → (∀ s', I (pre ++ [x]) s' → R (.ct s')) → (∀ s', Q (.nx s') → R (.bk s')) → (∀ r, Q (.rt r) → R (.rt r)) → lift (body x s) R)
    (he : ∀ s, I xs s → Q (.nx s)) : lift (loopT body xs s) Q := by
  refine loopT_ok (P := Q) I (done := []) h0 (fun pre x post s e i => ?_) (fun s i => he s i)
  exact hs pre x post s e i (fun fl => match fl with
      | .nx s' => I (pre ++ [x]) s'
      | .ct s' => I (pre ++ [x]) s'
      | .bk s' => Q (.nx s')
      | .rt r => Q (.rt r)) (fun _ h => h) (fun _ h => h) (fun _ h => h) (fun _ h => h)
/-- the same, no counting -/
theorem loopLu {body : α → σ → Option (Flow σ σ ρ)} {Q : Flow σ σ' ρ → Prop} (I : σ → Prop) {xs : List α} {s : σ} (h0 : I s)
    (hs : ∀ x ∈ xs, ∀ s, I s → ∀ R : Flow σ σ ρ → Prop, (∀ s', I s' → R (.nx s')) → (∀ s', I s' → R (.ct s')) → (∀ s', Q (.nx s') → R (.bk s')) → (∀ r, Q (.rt r) → R (.rt r)) → lift (body x s) R)
    (he : ∀ s, I s → Q (.nx s)) : lift (loopT body xs s) Q :=
  loopL (fun _ => I) h0 (fun pre x post s e i => hs x (by rw [e]; simp) s i) he
/-- a walk that folds -/
theorem loopLf {body : α → σ → Option (Flow σ σ ρ)} {Q : Flow σ σ' ρ → Prop} (f : σ → α → σ) (J : σ → Prop) {xs : List α} {s : σ} (h0 : J s)
    (hs : ∀ x ∈ xs, ∀ s, J s → J (f s x) ∧ lift (body x s) fun fl => fl = .nx (f s x)) (he : J (xs.foldl f s) → Q (.nx (xs.foldl f s))) : lift (loopT body xs s) Q := by
  obtain ⟨e, j⟩ := loopT_foldJ (σ' := σ') J h0 (xs := xs) (f := f) (body := body) fun x m s j => ⟨lift_to (hs x m s j).2, (hs x m s j).1⟩
  exact ⟨_, e, he j⟩
/-- a walk that looks for the first -/
theorem loopLs {body : α → Unit → Option (Flow Unit Unit ρ)} {Q : Flow Unit σ' ρ → Prop} (r : α → Option ρ) {xs : List α}
    (hs : ∀ x ∈ xs, lift (body x ()) fun fl => fl = foundF (r x)) (he : Q (foundF (xs.findSome? r))) : lift (loopT body xs ()) Q :=
  ⟨_, loopT_find fun x m => lift_to (hs x m), he⟩
theorem whL {c : σ → Option Bool} {body : σ → Option (Flow σ σ ρ)} {Q : Flow σ σ' ρ → Prop} (I : σ → Prop) (μ : σ → Nat) {n : Nat} {s : σ} (h0 : I s) (hn : μ s < n)
    (hc : ∀ s, I s → lift (c s) fun b => (b = false → Q (.nx s)) ∧ (b = true → ∀ R : Flow σ σ ρ → Prop, (∀ s', I s' → μ s' < μ s → R (.nx s')) → (∀ s', I s' → μ s' < μ s → R (.ct s')) → (∀ s', Q (.nx s') → R (.bk s')) → (∀ r, Q (.rt r) → R (.rt r)) → lift (body s) R)) :
    lift (whT c body n s) Q := by
  refine whT_ok (P := Q) I μ h0 hn (fun s i e => ?_) (fun s i => ?_) fun s i e => ?_
  · obtain ⟨b, e', h1, _⟩ := hc s i
    rw [e] at e'; cases e'
    exact h1 rfl
  · obtain ⟨b, e', _⟩ := hc s i
    exact ⟨b, e'⟩
  · obtain ⟨b, e', _, h2⟩ := hc s i
    rw [e] at e'; cases e'
    exact h2 rfl (fun fl => match fl with
      | .nx s' => I s' ∧ μ s' < μ s
      | .ct s' => I s' ∧ μ s' < μ s
      | .bk s' => Q (.nx s')
      | .rt r => Q (.rt r)) (fun _ h h' => ⟨h, h'⟩) (fun _ h h' => ⟨h, h'⟩) (fun _ h => h) (fun _ h => h)
theorem mapL {g : α → Option β} {Q : List β → Prop} (f : α → β) {xs : List α} (h : ∀ x ∈ xs, lift (g x) fun y => y = f x) (q : Q (xs.map f)) : lift (mapT g xs) Q :=
  ⟨_, mapT_some fun x m => lift_to (h x m), q⟩
theorem compL {c : α → Option Bool} {g : α → Option β} {Q : List β → Prop} (b : α → Bool) (f : α → β) {xs : List α} (hc : ∀ x ∈ xs, lift (c x) fun y => y = b x) (h : ∀ x ∈ xs, b x = true → lift (g x) fun y => y = f x)
    (q : Q ((xs.filter b).map f)) : lift (compT c g xs) Q :=
  ⟨_, compT_some (fun x m => lift_to (hc x m)) fun x m e => lift_to (h x m e), q⟩
inductive All2 (P : α → β → Prop) : List α → List β → Prop
  | nil : All2 P [] []
  | cons {x : α} {y : β} {xs : List α} {ys : List β} : P x y → All2 P xs ys → All2 P (x :: xs) (y :: ys)
/-- a comprehension, told by what holds of each -/
theorem mapLP {g : α → Option β} (P : α → β → Prop) : ∀ {xs : List α} {Q : List β → Prop}, (∀ x ∈ xs, lift (g x) (P x)) → (∀ ys, All2 P xs ys → Q ys) → lift (mapT g xs) Q
  | [], Q, _, q => ⟨[], rfl, q [] .nil⟩
  | x :: xs, Q, h, q => by
    obtain ⟨y, e, p⟩ := h x (List.mem_cons_self ..)
    obtain ⟨ys, e', p'⟩ := mapLP P (Q := fun ys => All2 P xs ys) (fun z m => h z (List.mem_cons_of_mem _ m)) fun ys f => f
    refine ⟨y :: ys, ?_, q _ (.cons p p')⟩
    show (g x).bind _ = _
    rw [e, Option.bind_some, e']; rfl
theorem rngL {n : Int} {Q : List Int → Prop} (h : n.natAbs ≤ 16777216) (q : Q (rangeT 0 n)) : lift (rngT n) Q := ⟨_, rngT_ok h, q⟩
theorem rng2L {a b : Int} {Q : List Int → Prop} (h : a.natAbs ≤ 4000000) (h' : b.natAbs ≤ 4000000) (q : Q (rangeT a b)) : lift (rng2T a b) Q := ⟨_, rng2T_ok h h', q⟩
theorem atL {xs : List α} {i : Int} {Q : α → Prop} (h : 0 ≤ i) (h' : i < xs.length) (q : ∀ x, xs[i.toNat]? = some x → Q x) : lift (atI xs i) Q := by
  obtain ⟨x, e, e'⟩ := atI_ok h h'
  exact ⟨x, e, q x e'⟩
theorem at1L {xs : List α} {Q : α → Prop} (h : xs ≠ []) (q : ∀ x, xs.getLast? = some x → Q x) : lift (atI xs (-1)) Q := by
  obtain ⟨x, e⟩ : ∃ x, xs.getLast? = some x := ⟨_, List.getLast?_eq_some_getLast h⟩
  exact ⟨x, by rw [atI_neg1]; exact e, q x e⟩
theorem addLL {xs ys : List α} {Q : List α → Prop} (h : xs.length + ys.length ≤ 16777216) (q : Q (xs ++ ys)) : lift (addL xs ys) Q := ⟨_, addL_ok h, q⟩
theorem apL {xs : List α} {x : α} {Q : List α → Prop} (h : xs.length < 16777216) (q : Q (xs ++ [x])) : lift (apT xs x) Q := ⟨_, apT_ok h, q⟩
theorem putL {xs : List α} {i : Int} {x : α} {Q : List α → Prop} (h : 0 ≤ i) (h' : i < xs.length) (q : Q (xs.set i.toNat x)) : lift (putT xs i x) Q := ⟨_, putT_ok h h', q⟩
theorem mulLl {a b : Int} {Q : Int → Prop} (h : a.natAbs < 2 ^ 64) (q : Q (a * b)) : lift (mulT a b) Q := ⟨_, mulT_l h, q⟩
theorem mulLr {a b : Int} {Q : Int → Prop} (h : b.natAbs < 2 ^ 64) (q : Q (a * b)) : lift (mulT a b) Q := ⟨_, mulT_r h, q⟩
section
variable [Ty α] [DecidableEq α] [TyOrd α]
theorem sortL {xs : List α} {Q : List α → Prop} (h : xs.length ≤ 16777216) (q : Q (sortT xs)) : lift (sortO xs) Q := ⟨_, sortO_ok h, q⟩
theorem minL {xs : List α} {Q : α → Prop} (h : xs ≠ []) (q : ∀ m, m ∈ xs → (∀ y ∈ xs, leT m y = true) → Q m) : lift (minT xs) Q := by
  obtain ⟨m, e⟩ := minT_ne h
  obtain ⟨h1, h2⟩ := minT_some e
  exact ⟨m, e, q m h1 h2⟩
theorem maxL {xs : List α} {Q : α → Prop} (h : xs ≠ []) (q : ∀ m, m ∈ xs → (∀ y ∈ xs, leT y m = true) → Q m) : lift (maxT xs) Q := by
  obtain ⟨m, e⟩ := maxT_ne h
  obtain ⟨h1, h2⟩ := maxT_some e
  exact ⟨m, e, q m h1 h2⟩
theorem setL {xs : List α} {Q : List α → Prop} (h : xs.length < 64) (q : Q (sortT (ddup xs))) : lift (setT xs) Q := ⟨_, if_pos h, q⟩
end
theorem leT_int' (a b : Int) : leT a b = true ↔ a ≤ b := by rw [leT_int, decide_eq_true_eq]
theorem minLi {xs : List Int} {Q : Int → Prop} (h : xs ≠ []) (q : ∀ m, m ∈ xs → (∀ y ∈ xs, m ≤ y) → Q m) : lift (minT xs) Q :=
  minL h fun m h1 h2 => q m h1 fun y hy => (leT_int' m y).mp (h2 y hy)
theorem maxLi {xs : List Int} {Q : Int → Prop} (h : xs ≠ []) (q : ∀ m, m ∈ xs → (∀ y ∈ xs, y ≤ m) → Q m) : lift (maxT xs) Q :=
  maxL h fun m h1 h2 => q m h1 fun y hy => (leT_int' y m).mp (h2 y hy)
end
end TL

set_option Elab.async false
set_option linter.all false
set_option maxRecDepth 100000
/-! TL9: instances of own classes, typed. -/
namespace TL
open PySem PySem.Spec PyProof.Rows L2 VL
open Ty (en)
section
variable {α β γ ρ C : Type} [Ty α] [Ty β] [Ty γ] {φ : Fs} {f : VL.Env → Option D} {fs : VL.Env → Option (List D)} {c : Str} {ns : List Str}
theorem ev_fld (j : Nat) {x : α} {a : β} {ds : List D} (h : EV φ f x) (e : (en x : D) = .obj c ns ds) (e2 : ds[j]? = some (en a)) : EV φ (dFld c ns j f) a := fun env s => by
  simp only [dFld, h env s, Option.bind_some, e]
  show (obD c ns (.obj c ns ds)).bind _ = _
  rw [obD_obj]
  exact e2
theorem ev_fldS (i j : Nat) {p : Addr} {a : β} {xs : List S} (e : φ[i]? = some (some (.at p (.ob c ns xs)))) (e2 : xs[j]? = some (.fz (en a))) : EV φ (dFldS i c ns j) a := fun env s => by
  simp only [dFldS, s.gs e, Option.bind_some, obOf_at, e2]; rfl
theorem eo_cM {x : α} {ds xs : List D} {Fn : List D → Option S} {o : Option β} (h : EV φ f x) (e : (en x : D) = .obj c ns xs) (ha : EA φ fs ds) (k : ∀ r, o = some r → ∃ s, Fn (en x :: ds) = some s ∧ frS s = some (en r)) : EO φ (cM c ns f fs Fn) o := fun env s v q => by
  obtain ⟨z, k1, k2⟩ := k v q
  rw [e] at k1
  simp only [cM, oM, h env s, ha env s, Option.bind_some, e, mS, obD_obj, k1, k2]
theorem eo_cMS (i : Nat) {p : Addr} {ds : List D} {x : α} {xs : List S} {Fn : List D → Option S} [DecidableEq β] [TyEq β] {o : Option β} (e : φ[i]? = some (some (.at p (.ob c ns xs)))) (e2 : (en x : D) = .obj c ns (xs.map hidS)) (ha : EA φ fs ds) (k : ∀ r, o = some r → ∃ s, Fn (en x :: ds) = some s ∧ frS s = some (en r)) : EO φ (cMS i c ns fs Fn) o := fun env s v q => by
  obtain ⟨z, k1, k2⟩ := k v q
  rw [e2] at k1
  simp only [cMS, s.gs e, Option.bind_some, obOf_at, ha env s, cMSf, k1, k2]
  exact if_pos (TyEq.pl v)
/-! making -/
theorem mk_of {Fi : Addr → S → List D → Option (D × S)} {ds : List D} {z : S} (k : ∀ p, Fi p (.ob c [] []) ds = some (.non, z)) : mkS c Fi ds = some z := by
  unfold mkS
  rw [anyA_of k]; rfl
theorem ss_mk (i : Nat) {Fi : Addr → S → List D → Option (D × S)} {ds : List D} {ob : C → S} {o : Option (Unit × C)} (ha : EA φ fs ds) (k : ∀ r, o = some r → ∀ p, Fi p (.ob c [] []) ds = some (en r.1, ob r.2)) : SS φ (sSetO i (oMk c fs Fi)) o (fun v => φ.set i (some (ob v.2))) := fun env s v q =>
  ⟨_, by simp only [sSetO, oMk, ha env s, Option.bind_some, mk_of (k v q), Option.map_some], s.set i _⟩
theorem eo_mk [Ty C] {Fi : Addr → S → List D → Option (D × S)} {ds : List D} {ob : C → S} {o : Option (Unit × C)} (ha : EA φ fs ds) (k : ∀ r, o = some r → ∀ p, Fi p (.ob c [] []) ds = some (en r.1, ob r.2)) (hf : ∀ x : C, frS (ob x) = some (en x) := by intro x; rfl) : EO φ (fun env => (oMk c fs Fi env).bind frS) (o.map Prod.snd) := fun env s v q => by
  obtain ⟨w, q1, rfl⟩ := Option.map_eq_some_iff.mp q
  simp only [oMk, ha env s, Option.bind_some, mk_of (k w q1)]
  exact hf _
/-! methods that change the instance -/
theorem mt_at {env : VL.Env} (i : Nat) {p : Addr} {xs : List S} {ds : List D} {Fi : Addr → S → List D → Option (D × S)} {d : D} {z : S} (s : Sat φ env) (ha : EA φ fs ds) (e : φ[i]? = some (some (.at p (.ob c ns xs)))) (k : Fi p (.ob c ns xs) ds = some (d, z)) : mMt i c ns (pur fs) Fi env = some (d, env.set i (some (.at p z))) := by
  unfold mMt
  simp only [s.gs e, Option.bind_some, obOf_at, pur, ha env s, Option.map_some, VL.runI, k]
theorem mt_ob {env : VL.Env} (i : Nat) {xs : List S} {ds : List D} {Fi : Addr → S → List D → Option (D × S)} {d : D} {z : S} (s : Sat φ env) (ha : EA φ fs ds) (e : φ[i]? = some (some (.ob c ns xs))) (k : ∀ p, Fi p (.ob c ns xs) ds = some (d, z)) : mMt i c ns (pur fs) Fi env = some (d, env.set i (some z)) := by
  unfold mMt
  simp only [s.gs e, Option.bind_some, obOf_ob, pur, ha env s, Option.map_some, VL.runI, anyA_of k]
theorem ss_exA [Ty ρ] (i : Nat) {p : Addr} {xs : List S} {ds : List D} {Fi : Addr → S → List D → Option (D × S)} {ob : C → S} {o : Option (ρ × C)} (e : φ[i]? = some (some (.at p (.ob c ns xs)))) (ha : EA φ fs ds) (k : ∀ r, o = some r → ∀ p, Fi p (.ob c ns xs) ds = some (en r.1, ob r.2)) :
    SS φ (sExM (mMt i c ns (pur fs) Fi)) o (fun r => φ.set i (some (.at p (ob r.2)))) := fun env s v q =>
  ⟨_, by simp only [sExM, mt_at i s ha e (k v q p), Option.map_some], s.set i _⟩
theorem ss_exO [Ty ρ] (i : Nat) {xs : List S} {ds : List D} {Fi : Addr → S → List D → Option (D × S)} {ob : C → S} {o : Option (ρ × C)} (e : φ[i]? = some (some (.ob c ns xs))) (ha : EA φ fs ds) (k : ∀ r, o = some r → ∀ p, Fi p (.ob c ns xs) ds = some (en r.1, ob r.2)) :
    SS φ (sExM (mMt i c ns (pur fs) Fi)) o (fun r => φ.set i (some (ob r.2))) := fun env s v q =>
  ⟨_, by simp only [sExM, mt_ob i s ha e (k v q), Option.map_some], s.set i _⟩
theorem ss_seA [Ty ρ] (j i : Nat) {p : Addr} {xs : List S} {ds : List D} {Fi : Addr → S → List D → Option (D × S)} {ob : C → S} {o : Option (ρ × C)} (e : φ[i]? = some (some (.at p (.ob c ns xs)))) (ha : EA φ fs ds) (k : ∀ r, o = some r → ∀ p, Fi p (.ob c ns xs) ds = some (en r.1, ob r.2)) :
    SS φ (sSetM j (mMt i c ns (pur fs) Fi)) o (fun r => (φ.set i (some (.at p (ob r.2)))).set j (some (.fz (en r.1)))) := fun env s v q =>
  ⟨_, by simp only [sSetM, mt_at i s ha e (k v q p), Option.map_some], (s.set i _).set j _⟩
theorem ss_seO [Ty ρ] (j i : Nat) {xs : List S} {ds : List D} {Fi : Addr → S → List D → Option (D × S)} {ob : C → S} {o : Option (ρ × C)} (e : φ[i]? = some (some (.ob c ns xs))) (ha : EA φ fs ds) (k : ∀ r, o = some r → ∀ p, Fi p (.ob c ns xs) ds = some (en r.1, ob r.2)) :
    SS φ (sSetM j (mMt i c ns (pur fs) Fi)) o (fun r => (φ.set i (some (ob r.2))).set j (some (.fz (en r.1)))) := fun env s v q =>
  ⟨_, by simp only [sSetM, mt_ob i s ha e (k v q), Option.map_some], (s.set i _).set j _⟩
/-! fields written: in a method -/
theorem ss_fldR (i j : Nat) {p : Addr} {xs : List S} {o : Option α} (e : φ[i]? = some (some (.at p (.ob c ns xs)))) (h : EO φ f o) (hj : j < xs.length := by exact Nat.le_of_ble_eq_true rfl) :
    SS φ (sFldR i c ns j (oFz f)) o (fun v => φ.set i (some (.at p (.ob c ns (xs.set j (.fz (en v))))))) := fun env s v q =>
  ⟨_, by simp only [sFldR, oFz, h env s v q, Option.map_some, Option.bind_some, s.gs e, obOf_at, if_pos hj]; rfl, s.set i _⟩
theorem ss_fldN (i : Nat) {p : Addr} {g : Str} {xs : List S} {o : Option α} (e : φ[i]? = some (some (.at p (.ob c ns xs)))) (h : EO φ f o) :
    SS φ (sFldN i c ns g (oFz f)) o (fun v => φ.set i (some (.at p (.ob c (ns ++ [g]) (xs ++ [.fz (en v)]))))) := fun env s v q =>
  ⟨_, by simp only [sFldN, oFz, h env s v q, Option.map_some, Option.bind_some, s.gs e, obOf_at]; rfl, s.set i _⟩
theorem ss_fldRL (i j : Nat) {p : Addr} {xs : List S} {fl : VL.Env → Option (List D)} {o : Option (List α)} (e : φ[i]? = some (some (.at p (.ob c ns xs)))) (h : ELo φ fl o) (hj : j < xs.length := by exact Nat.le_of_ble_eq_true rfl) :
    SS φ (sFldR i c ns j (oL fl)) o (fun v => φ.set i (some (.at p (.ob c ns (xs.set j (olE v)))))) := fun env s v q =>
  ⟨_, by simp only [sFldR, oL, h env s v q, Option.map_some, Option.bind_some, s.gs e, obOf_at, if_pos hj]; rfl, s.set i _⟩
theorem ss_fldNL (i : Nat) {p : Addr} {g : Str} {xs : List S} {fl : VL.Env → Option (List D)} {o : Option (List α)} (e : φ[i]? = some (some (.at p (.ob c ns xs)))) (h : ELo φ fl o) :
    SS φ (sFldN i c ns g (oL fl)) o (fun v => φ.set i (some (.at p (.ob c (ns ++ [g]) (xs ++ [olE v]))))) := fun env s v q =>
  ⟨_, by simp only [sFldN, oL, h env s v q, Option.map_some, Option.bind_some, s.gs e, obOf_at]; rfl, s.set i _⟩
end
theorem op_addT {α β γ : Type} [Ty α] [Ty β] [Ty γ] {x : α} {y : β} {z : γ} {xs ys : List D} (e1 : (en x : D) = .tup xs) (e2 : (en y : D) = .tup ys) (e3 : (en z : D) = .tup (xs ++ ys)) (hl : xs.length + ys.length ≤ 1000 := by exact Nat.le_of_ble_eq_true rfl) : O2 dAdd x y z := by
  show dAdd (en x) (en y) = some (en z)
  rw [e1, e2, e3]
  exact if_pos (Nat.le_trans hl (by decide))
/-! defs that change self -/
section
variable {ρ C : Type} [Ty ρ]
def RI (p : Addr) (ob : C → S) : ρ × C → S → VL.Env → Prop := fun r s e => s = .fz (en r.1) ∧ e[0]? = some (some (.at p (ob r.2)))
def NI (p : Addr) (ob : C → S) : C → VL.Env → Prop := fun x e => e[0]? = some (some (.at p (ob x)))
theorem ri {p : Addr} {ob : C → S} {r : ρ × C} {φ : Fs} {z : S} (h : φ[0]? = some (some (.at p (ob r.2))) := by rfl) (e : z = .fz (en r.1) := by rfl) : ∀ env, Sat φ env → RI p ob r z env := fun env s => ⟨e, s.2 0 _ h⟩
theorem ni {p : Addr} {ob : C → S} {x : C} {φ : Fs} (h : φ[0]? = some (some (.at p (ob x))) := by rfl) : ∀ env, Sat φ env → NI p ob x env := fun env s => s.2 0 _ h
def ansI (d : ρ) (m : Option (Flow C Empty (ρ × C))) : Option (ρ × C) := m.bind fun fl => match fl with
  | .rt r => some r
  | .nx x => some (d, x)
  | _ => none
theorem fn_o {np n : Nat} {fb : VL.Env → Option Out} {ds : List D} {s0 : S} {m : Option (Flow C Empty (ρ × C))} {d : ρ} {ob : C → S} {B : Empty → VL.Env → Prop} (hl : ds.length + 1 = np) (hn : np ≤ n) (hd : (en d : D) = .non)
    (h : ∀ p, BL (some (.at p s0) :: (ds.map (fun d => some (S.fz d)) ++ List.replicate (n - np) none)) fb m (NI p ob) B (RI p ob)) : ∀ r, ansI d m = some r → ∀ p, fnI np n fb p s0 ds = some (en r.1, ob r.2) := fun r e p => by
  obtain ⟨fl, e1, e2⟩ := Option.bind_eq_some_iff.mp (show m.bind _ = _ from e)
  obtain ⟨u, k1, k2⟩ := h p _ ⟨rfl, fun _ _ e => e⟩ fl e1
  unfold fnI
  rw [if_pos ⟨hl, hn⟩, k1]
  have sl : ∀ {e' : VL.Env} {x : C}, e'[0]? = some (some (.at p (ob x))) → VL.slotAt e' p = some (ob x) := fun {e' x} hz => by
    unfold VL.slotAt getS
    rw [hz]
    simp only [Option.bind_some, atOf_at, if_true]
  cases fl with
  | rt r' => cases u with
    | rt z e' =>
      cases e2
      obtain ⟨rfl, h2⟩ := k2
      show (VL.slotAt e' p).map _ = _
      rw [sl h2]; rfl
    | _ => exact k2.elim
  | nx t => cases u with
    | nx e' =>
      cases e2
      show (VL.slotAt e' p).map _ = _
      rw [sl k2, hd]; rfl
    | _ => exact k2.elim
  | _ => cases e2
/-! reasoning -/
def anI (d : ρ) (Q : ρ × C → Prop) : Flow C Empty (ρ × C) → Prop
  | .rt r => Q r
  | .nx x => Q (d, x)
  | _ => False
theorem anI_rt (d : ρ) (Q : ρ × C → Prop) (r : ρ × C) : anI d Q (.rt r) = Q r := propext ⟨id, id⟩
theorem anI_nx (d : ρ) (Q : ρ × C → Prop) (r : C) : anI d Q (.nx r) = Q (d, r) := propext ⟨id, id⟩
end
theorem lift_ansI {ρ C : Type} [Ty ρ] (d : ρ) (m : Option (Flow C Empty (ρ × C))) (Q : ρ × C → Prop) : lift (ansI d m) Q = lift m (anI d Q) := by
  unfold ansI
  cases m with
  | none => exact propext ⟨fun ⟨_, e, _⟩ => (by cases e), fun ⟨_, e, _⟩ => (by cases e)⟩
  | some fl =>
    refine propext ⟨fun h => ⟨fl, rfl, ?_⟩, fun ⟨b, e, h⟩ => ?_⟩
    · cases fl with
      | nx t => obtain ⟨_, e, h⟩ := h; cases e; exact h
      | bk t => exact t.elim
      | ct t => exact t.elim
      | rt t => obtain ⟨_, e, h⟩ := h; cases e; exact h
    · cases e
      cases fl with
      | nx t => exact ⟨_, rfl, h⟩
      | bk t => exact t.elim
      | ct t => exact t.elim
      | rt t => exact ⟨_, rfl, h⟩
theorem wpo : (∀ {ρ C : Type} [Ty ρ] (d : ρ) (m : Option (Flow C Empty (ρ × C))) (Q : ρ × C → Prop), lift (ansI d m) Q = lift m (anI d Q))
    ∧ (∀ {ρ C : Type} [Ty ρ] (d : ρ) (Q : ρ × C → Prop) (r : ρ × C), anI d Q (.rt r) = Q r)
    ∧ (∀ {ρ C : Type} [Ty ρ] (d : ρ) (Q : ρ × C → Prop) (r : C), anI d Q (.nx r) = Q (d, r)) := ⟨lift_ansI, anI_rt, anI_nx⟩
end TL

set_option Elab.async false
set_option linter.all false
set_option maxRecDepth 100000
/-! TL10: plain facts of lists. -/
namespace TL
open PySem PySem.Spec PyProof.Rows L2 VL
theorem nodup_len_le : ∀ (n : Nat) {xs : List Int}, xs.Nodup → (∀ x ∈ xs, 0 ≤ x ∧ x < n) → xs.length ≤ n
  | 0, xs, _, h => by
    cases xs with
    | nil => exact Nat.le_refl _
    | cons x xs => have := h x (List.mem_cons_self ..); omega
  | n + 1, xs, nd, h => by
    have h1 : (xs.filter fun x => decide (x ≠ (n : Int))).length ≤ n := nodup_len_le n (nd.filter _) fun x m => by
      have := List.mem_filter.mp m
      have h2 := h x this.1
      have h3 : x ≠ (n : Int) := by simpa using this.2
      omega
    have h2 : xs.length ≤ (xs.filter fun x => decide (x ≠ (n : Int))).length + 1 := by
      clear h1 h
      induction xs with
      | nil => simp
      | cons x xs ih =>
        rw [List.nodup_cons] at nd
        by_cases c : x = (n : Int)
        · have e : xs.filter (fun x => decide (x ≠ (n : Int))) = xs := List.filter_eq_self.mpr fun y m => by
            have : y ≠ (n : Int) := by rintro rfl; exact nd.1 (by rw [c]; exact m)
            simpa using this
          rw [List.filter_cons_of_neg (by simpa using c), e, List.length_cons]
          omega
        · have := ih nd.2
          rw [List.filter_cons_of_pos (by simpa using c), List.length_cons, List.length_cons]
          omega
    omega
theorem sum_perm' {c d : List Int} (h : c.Perm d) : c.sum = d.sum := by
  induction h with
  | nil => rfl
  | cons x _ ih => simp only [List.sum_cons, ih]
  | swap x y l => simp only [List.sum_cons]; omega
  | trans _ _ h1 h2 => exact h1.trans h2
theorem sum_le_map {α : Type} {f g : α → Int} : ∀ {xs : List α}, (∀ x ∈ xs, f x ≤ g x) → (xs.map f).sum ≤ (xs.map g).sum
  | [], _ => Int.le_refl _
  | x :: xs, h => by
    have := sum_le_map (f := f) (g := g) (xs := xs) fun y m => h y (List.mem_cons_of_mem _ m)
    have := h x (List.mem_cons_self ..)
    simp only [List.map_cons, List.sum_cons]
    omega
theorem sum_add_map {α : Type} {f g : α → Int} (xs : List α) : (xs.map fun x => f x + g x).sum = (xs.map f).sum + (xs.map g).sum := by
  induction xs with
  | nil => rfl
  | cons x xs ih => simp only [List.map_cons, List.sum_cons, ih]; omega
theorem sum_nonneg' {α : Type} {f : α → Int} : ∀ {xs : List α}, (∀ x ∈ xs, 0 ≤ f x) → 0 ≤ (xs.map f).sum
  | [], _ => Int.le_refl _
  | x :: xs, h => by
    have := sum_nonneg' (f := f) (xs := xs) fun y m => h y (List.mem_cons_of_mem _ m)
    have := h x (List.mem_cons_self ..)
    simp only [List.map_cons, List.sum_cons]
    omega
theorem sum_mem_le {α : Type} {f : α → Int} : ∀ {xs : List α}, (∀ x ∈ xs, 0 ≤ f x) → ∀ x ∈ xs, f x ≤ (xs.map f).sum
  | x :: xs, h, y, m => by
    have h1 := sum_nonneg' (f := f) (xs := xs) fun y m => h y (List.mem_cons_of_mem _ m)
    have h2 := h x (List.mem_cons_self ..)
    simp only [List.map_cons, List.sum_cons]
    rcases List.mem_cons.mp m with rfl | m
    · omega
    · have := sum_mem_le (f := f) (fun y m => h y (List.mem_cons_of_mem _ m)) y m
      omega
theorem sum_le_mul' {α : Type} {f : α → Int} {t : Int} : ∀ {xs : List α}, (∀ x ∈ xs, f x ≤ t) → (xs.map f).sum ≤ t * xs.length
  | [], _ => by simp
  | x :: xs, h => by
    have := sum_le_mul' (f := f) (t := t) (xs := xs) fun y m => h y (List.mem_cons_of_mem _ m)
    have := h x (List.mem_cons_self ..)
    simp only [List.map_cons, List.sum_cons, List.length_cons, Int.natCast_add, Int.mul_add]
    omega
theorem perm_of {c d : List Int} (hc : c.Nodup) (hd : d.Nodup) (h : ∀ x, x ∈ c ↔ x ∈ d) : c.Perm d := (List.perm_ext_iff_of_nodup hc hd).mpr h
theorem minT_same {xs ys : List Int} (h : ∀ x, x ∈ xs ↔ x ∈ ys) : minT xs = minT ys := by
  by_cases c : xs = []
  · have : ys = [] := by
      cases ys with
      | nil => rfl
      | cons y ys => have := (h y).mpr (List.mem_cons_self ..); rw [c] at this; cases this
    rw [c, this]
  · obtain ⟨m, e⟩ := minT_ne c
    obtain ⟨h1, h2⟩ := minT_some e
    rw [e]
    exact (minT_int ((h m).mp h1) fun y hy => (leT_int' m y).mp (h2 y ((h y).mpr hy))).symm
theorem minT_nil : minT ([] : List Int) = none := rfl
theorem minT_none {xs : List Int} (h : minT xs = none) : xs = [] := by
  cases xs with
  | nil => rfl
  | cons x xs =>
    obtain ⟨m, e⟩ := minT_ne (List.cons_ne_nil x xs)
    rw [e] at h; cases h
theorem minT_is {xs : List Int} {m : Int} (h : minT xs = some m) : m ∈ xs ∧ ∀ y ∈ xs, m ≤ y := by
  obtain ⟨h1, h2⟩ := minT_some h
  exact ⟨h1, fun y hy => (leT_int' m y).mp (h2 y hy)⟩
theorem maxT_is {xs : List Int} {m : Int} (h : maxT xs = some m) : m ∈ xs ∧ ∀ y ∈ xs, y ≤ m := by
  obtain ⟨h1, h2⟩ := maxT_some h
  exact ⟨h1, fun y hy => (leT_int' y m).mp (h2 y hy)⟩
theorem ddup_id {α : Type} [DecidableEq α] : ∀ {xs : List α}, xs.Nodup → ddup xs = xs
  | [], _ => rfl
  | x :: xs, h => by
    rw [List.nodup_cons] at h
    show (if x ∈ xs then ddup xs else x :: ddup xs) = _
    rw [if_neg h.1, ddup_id h.2]
theorem sortT_id' {xs : List Int} (h : xs.Pairwise (· ≤ ·)) : sortT xs = xs := List.mergeSort_of_pairwise (h.imp fun {a b} q => (leT_int' a b).mpr q)
theorem sortT_le' (xs : List Int) : (sortT xs).Pairwise (· ≤ ·) := (sortT_sorted xs).imp fun {a b} q => (leT_int' a b).mp q
theorem sortT_lt {xs : List Int} (h : xs.Nodup) : (sortT xs).Pairwise (· < ·) := by
  have nd : (sortT xs).Nodup := (sortT_perm xs).nodup_iff.mpr h
  exact List.Pairwise.imp₂ (fun a b h1 h2 => by have : a ≠ b := h2; omega) (sortT_le' xs) nd
theorem pw_lt_id {r : List Int} (h : r.Pairwise (· < ·)) : r.Nodup ∧ sortT (ddup r) = r := by
  have nd : r.Nodup := h.imp fun h e => by omega
  exact ⟨nd, by rw [ddup_id nd, sortT_id' (h.imp fun h => by omega)]⟩
theorem sort_ddup_lt (xs : List Int) : (sortT (ddup xs)).Pairwise (· < ·) := sortT_lt (nodup_ddup xs)
theorem mem_sortT {xs : List Int} {x : Int} : x ∈ sortT xs ↔ x ∈ xs := (sortT_perm xs).mem_iff
/-- a rising list is one that is told as its neighbours rise -/
theorem rising_iff {xs : List Int} : xs.Pairwise (· < ·) ↔ ∀ i : Nat, ∀ a b : Int, xs[i]? = some a → xs[i + 1]? = some b → a < b := by
  constructor
  · intro h i a b ha hb
    obtain ⟨h1, h2⟩ := List.getElem?_eq_some_iff.mp ha
    obtain ⟨h3, h4⟩ := List.getElem?_eq_some_iff.mp hb
    have := List.pairwise_iff_getElem.mp h i (i + 1) h1 h3 (by omega)
    rw [h2, h4] at this
    exact this
  · intro h
    induction xs with
    | nil => exact .nil
    | cons x xs ih =>
      have ih' := ih fun i a b ha hb => h (i + 1) a b (by simpa using ha) (by simpa using hb)
      refine List.pairwise_cons.mpr ⟨fun y m => ?_, ih'⟩
      cases xs with
      | nil => cases m
      | cons z zs =>
        have h0 := h 0 x z rfl rfl
        rcases List.mem_cons.mp m with rfl | m
        · exact h0
        · have := (List.pairwise_cons.mp ih').1 y m
          omega
end TL

set_option maxHeartbeats 4000000
namespace Law
open PySem PyProof.Rows L2 VL
def topS (i : Nat) : Stmt := PySem.Challenge.pw_foldwright_k56_sizes_by_all_sets.main.body.getD i (.Pass ⟨0, 0, 0, 0⟩)
abbrev s_served : Stmt := topS 1
abbrev s_price_of : Stmt := topS 2
abbrev s_raised : Stmt := topS 3
abbrev s_shown : Stmt := topS 4
abbrev s_Choice_dead : Stmt := inClass (topS 5) 1
abbrev s_Choice_go : Stmt := inClass (topS 5) 2
abbrev s_Choice_prove : Stmt := inClass (topS 5) 3
abbrev s_Choice_init : Stmt := inClass (topS 5) 0
abbrev s_sizes : Stmt := topS 6
abbrev s_shares_right : Stmt := topS 7
abbrev s_tree_fault : Stmt := topS 8
abbrev s_sizes_fault : Stmt := topS 9
abbrev s_waste_costs : Stmt := topS 10
abbrev s__law_state : Stmt := topS 12
abbrev s__law_take : Stmt := topS 13
abbrev s__law_shop : Stmt := topS 14
abbrev s__law_cost : Stmt := topS 15
abbrev s__law_tree_fault : Stmt := topS 16
abbrev s__law_fault : Stmt := topS 17
abbrev s__law_full : Stmt := topS 18
abbrev s_law : Stmt := topS 19
theorem sc_served : FnScope ["costs", "options", "part", "told", "option"] ["costs", "options", "part"] (defScope s_served) := ⟨rfl, rfl, rfl, by decide +kernel, rfl, by decide +kernel, by decide +kernel⟩
theorem sc_price_of : FnScope ["prices", "costs", "options", "total", "option", "part", "least"] ["prices", "costs", "options"] (defScope s_price_of) := ⟨rfl, rfl, rfl, by decide +kernel, rfl, by decide +kernel, by decide +kernel⟩
theorem sc_raised : FnScope ["prices", "costs", "taken", "left", "rest", "shares", "part", "row", "able", "option", "cost", "level"] ["prices", "costs", "taken", "left"] (defScope s_raised) := ⟨rfl, rfl, rfl, by decide +kernel, rfl, by decide +kernel, by decide +kernel⟩
theorem sc_shown : FnScope ["prices", "costs", "taken", "shares", "option"] ["prices", "costs", "taken", "shares"] (defScope s_shown) := ⟨rfl, rfl, rfl, by decide +kernel, rfl, by decide +kernel, by decide +kernel⟩
theorem sc_Choice_dead : FnScope ["self", "left", "part", "row", "option", "cost"] ["self", "left"] (defScope s_Choice_dead) := ⟨rfl, rfl, rfl, by decide +kernel, rfl, by decide +kernel, by decide +kernel⟩
theorem sc_Choice_go : FnScope ["self", "taken", "left", "shares", "cost", "free", "option"] ["self", "taken", "left"] (defScope s_Choice_go) := ⟨rfl, rfl, rfl, by decide +kernel, rfl, by decide +kernel, by decide +kernel⟩
theorem sc_Choice_prove : FnScope ["self", "taken", "left", "part", "shares", "free", "option", "one"] ["self", "taken", "left"] (defScope s_Choice_prove) := ⟨rfl, rfl, rfl, by decide +kernel, rfl, by decide +kernel, by decide +kernel⟩
theorem sc_Choice_init : FnScope ["self", "prices", "costs"] ["self", "prices", "costs"] (defScope s_Choice_init) := ⟨rfl, rfl, rfl, by decide +kernel, rfl, by decide +kernel, by decide +kernel⟩
theorem sc_sizes : FnScope ["prices", "costs", "search", "tree"] ["prices", "costs"] (defScope s_sizes) := ⟨rfl, rfl, rfl, by decide +kernel, rfl, by decide +kernel, by decide +kernel⟩
theorem sc_shares_right : FnScope ["prices", "costs", "taken", "left", "bound", "shares", "option", "price", "over", "part", "row"] ["prices", "costs", "taken", "left", "bound", "shares"] (defScope s_shares_right) := ⟨rfl, rfl, rfl, by decide +kernel, rfl, by decide +kernel, by decide +kernel⟩
theorem sc_tree_fault : FnScope ["prices", "costs", "taken", "left", "bound", "path", "tree", "inside", "dead", "option", "cost", "word", "one", "other", "fault"] ["prices", "costs", "taken", "left", "bound", "path", "tree"] (defScope s_tree_fault) := ⟨rfl, rfl, rfl, by decide +kernel, rfl, by decide +kernel, by decide +kernel⟩
theorem sc_sizes_fault : FnScope ["prices", "costs", "told", "fault", "word", "options", "cost", "tree", "rising", "at", "option", "part"] ["prices", "costs", "told"] (defScope s_sizes_fault) := ⟨rfl, rfl, rfl, by decide +kernel, rfl, by decide +kernel, by decide +kernel⟩
theorem sc_waste_costs : FnScope ["parts", "plates", "found", "wide", "high", "row", "width", "height", "fits"] ["parts", "plates"] (defScope s_waste_costs) := ⟨rfl, rfl, rfl, by decide +kernel, rfl, by decide +kernel, by decide +kernel⟩
theorem sc__law_state : FnScope ["script", "cells", "cell"] ["script"] (defScope s__law_state) := ⟨rfl, rfl, rfl, by decide +kernel, rfl, by decide +kernel, by decide +kernel⟩
theorem sc__law_take : FnScope ["state", "most", "cells", "at", "cell", "mixed"] ["state", "most"] (defScope s__law_take) := ⟨rfl, rfl, rfl, by decide +kernel, rfl, by decide +kernel, by decide +kernel⟩
theorem sc__law_shop : FnScope ["state", "most", "prices", "k", "rare", "costs", "price", "row", "one"] ["state", "most"] (defScope s__law_shop) := ⟨rfl, rfl, rfl, by decide +kernel, rfl, by decide +kernel, by decide +kernel⟩
theorem sc__law_cost : FnScope ["prices", "costs", "options", "total", "k", "row", "able"] ["prices", "costs", "options"] (defScope s__law_cost) := ⟨rfl, rfl, rfl, by decide +kernel, rfl, by decide +kernel, by decide +kernel⟩
theorem sc__law_tree_fault : FnScope ["prices", "costs", "taken", "left", "bound", "path", "tree", "good", "k", "shares", "over", "p", "word", "one", "other", "found"] ["prices", "costs", "taken", "left", "bound", "path", "tree"] (defScope s__law_tree_fault) := ⟨rfl, rfl, rfl, by decide +kernel, rfl, by decide +kernel, by decide +kernel⟩
theorem sc__law_fault : FnScope ["prices", "costs", "told", "found", "word", "options", "cost", "tree", "k", "p"] ["prices", "costs", "told"] (defScope s__law_fault) := ⟨rfl, rfl, rfl, by decide +kernel, rfl, by decide +kernel, by decide +kernel⟩
theorem sc__law_full : FnScope ["prices", "costs", "taken", "left", "p", "k", "free", "row", "one"] ["prices", "costs", "taken", "left"] (defScope s__law_full) := ⟨rfl, rfl, rfl, by decide +kernel, rfl, by decide +kernel, by decide +kernel⟩
theorem sc_law : FnScope ["script", "state", "prices", "costs", "kept", "sets", "k", "row", "good", "told", "tree", "best", "plates", "parts", "due", "wide", "high", "a", "b"] ["script"] (defScope s_law) := ⟨rfl, rfl, rfl, by decide +kernel, rfl, by decide +kernel, by decide +kernel⟩
noncomputable section
def nm_Choice : List Str := ["prices", "costs", "best", "cost"]
def d_served : VL.Env → Option Out :=
  (sq (sSet 3 (fL (dComp [4] (iSq (dN 1)) (gN 4) (tb (b2 (b2 (b2 (dN 0) (dN 2) dIx) (dN 4) dIx) (dK .non) dIsNot)) (b2 (b2 (dN 0) (dN 2) dIx) (dN 4) dIx))))
    (sRet (vIf (dTr (dN 3)) (cB (aCons (dN 3) a0) dMinA) (dK .non))))
def F_served : List D → Option S := fnS 3 5 d_served
def d_price_of : VL.Env → Option Out :=
  (sq (sSet 3 (cB (aCons (fL (dComp [4] (iSq (dN 2)) (gN 4) cY (b2 (dN 0) (dN 4) dIx))) a0) dSum))
    (sq (sFor (iR1 (aCons (cB (aCons (dN 1) a0) dLen) a0)) (gN 5) (sq (sSet 6 (cF (aCons (dN 1) (aCons (dN 2) (aCons (dN 5) a0))) F_served))
    (sq (sIf (tb (b2 (dN 6) (dK .non) dIs)) (sRet (dK .non)) sNx)
    (sSet 3 (b2 (dN 3) (dN 6) dAdd)))))
    (sRet (dN 3))))
def F_price_of : List D → Option S := fnS 3 7 d_price_of
def d_raised : VL.Env → Option Out :=
  (sq (sSetO 4 (oL (cL (aCons (dN 0) a0) dList)))
    (sq (sSetO 5 (oL (dLst a0)))
    (sq (sFor (iEn (dN 1)) (gT (gsC (gN 6) (gsC (gN 7) gs0))) (sq (sSet 8 (fL (dComp [9, 10] (iEn (dN 7)) (gT (gsC (gN 9) (gsC (gN 10) gs0))) (tAnd2 (tb (b2 (dN 10) (dK .non) dIsNot)) (tb (b2 (dN 9) (dN 3) dNotIn))) (dN 9))))
    (sq (sSet 11 (b2 (fL (dComp [9] (iSq (dN 8)) (gN 9) cY (b2 (b2 (dN 7) (dN 9) dIx) (vIf (tb (b2 (dN 9) (dN 2) dIn)) (dK (.int 0)) (getI 4 (dN 9))) dAdd))) (dK (.int 0)) dMinDf))
    (sq (sApp 5 (oFz (dN 11)))
    (sFor (iSq (dN 8)) (gN 9) (sIf (tAnd2 (tb (b2 (dN 9) (dN 2) dNotIn)) (tb (b2 (b2 (dN 7) (dN 9) dIx) (dN 11) dLt))) (sPutL 4 (dN 9) (b2 (getI 4 (dN 9)) (b2 (dN 11) (b2 (dN 7) (dN 9) dIx) dSub) dSub)) sNx))))))
    (sRetN 5))))
def F_raised : List D → Option S := fnS 4 12 d_raised
def d_shown : VL.Env → Option Out :=
  (sRet (b2 (cB (aCons (fL (dComp [4] (iSq (dN 2)) (gN 4) cY (b2 (dN 0) (dN 4) dIx))) a0) dSum) (cB (aCons (dN 3) a0) dSum) dAdd))
def F_shown : List D → Option S := fnS 4 5 d_shown
def d_Choice_dead : VL.Env → Option Out :=
  (sq (sFor (iEn (dFld "Choice" nm_Choice 1 (dN 0))) (gT (gsC (gN 2) (gsC (gN 3) gs0))) (sIf (dTr (cB (aCons (fL (dComp [4, 5] (iEn (dN 3)) (gT (gsC (gN 4) (gsC (gN 5) gs0))) cY (vOr2 (b2 (dN 5) (dK .non) dIs) (b2 (dN 4) (dN 1) dIn)))) a0) dAll)) (sRet (dN 2)) sNx))
    (sRet (dK .non)))
def F_Choice_dead : List D → Option S := fnS 2 6 d_Choice_dead
def d_Choice_go (If : Addr → S → List D → Option (D × S)) : VL.Env → Option Out :=
  (sq (sIf (tb (b2 (cMS 0 "Choice" nm_Choice (aCons (dN 2) a0) F_Choice_dead) (dK .non) dIsNot)) sRet0 sNx)
    (sq (sSet 3 (cF (aCons (dFldS 0 "Choice" nm_Choice 0) (aCons (dFldS 0 "Choice" nm_Choice 1) (aCons (dN 1) (aCons (dN 2) a0)))) F_raised))
    (sq (sIf (tAnd2 (tb (b2 (dFldS 0 "Choice" nm_Choice 3) (dK .non) dIsNot)) (tb (b2 (cF (aCons (dFldS 0 "Choice" nm_Choice 0) (aCons (dFldS 0 "Choice" nm_Choice 1) (aCons (dN 1) (aCons (dN 3) a0)))) F_shown) (dFldS 0 "Choice" nm_Choice 3) dGe))) sRet0 sNx)
    (sq (sSet 4 (cF (aCons (dFldS 0 "Choice" nm_Choice 0) (aCons (dFldS 0 "Choice" nm_Choice 1) (aCons (dN 1) a0))) F_price_of))
    (sq (sIf (tAnd2 (tb (b2 (dN 4) (dK .non) dIsNot)) (tOr2 (tb (b2 (dFldS 0 "Choice" nm_Choice 3) (dK .non) dIs)) (tb (b2 (dN 4) (dFldS 0 "Choice" nm_Choice 3) dLt)))) (sq (sFldR 0 "Choice" nm_Choice 2 (oFz (fL (cL (aCons (dN 1) a0) dSorted))))
    (sFldR 0 "Choice" nm_Choice 3 (oFz (dN 4)))) sNx)
    (sq (sSet 5 (fL (dComp [6] (iR1 (aCons (cB (aCons (dFldS 0 "Choice" nm_Choice 0) a0) dLen) a0)) (gN 6) (tAnd2 (tb (b2 (dN 6) (dN 1) dNotIn)) (tb (b2 (dN 6) (dN 2) dNotIn))) (dN 6))))
    (sIf (dTr (dN 5)) (sq (sExM (mMt 0 "Choice" nm_Choice (pur (aCons (b2 (dN 1) (fL (dLst (aCons (b2 (dN 5) (dK (.int 0)) dIx) a0))) dAdd) (aCons (dN 2) a0))) If))
    (sExM (mMt 0 "Choice" nm_Choice (pur (aCons (dN 1) (aCons (b2 (dN 2) (fL (dLst (aCons (b2 (dN 5) (dK (.int 0)) dIx) a0))) dAdd) a0))) If))) sNx)))))))
def I_Choice_go : Nat → Addr → S → List D → Option (D × S)
  | 0, _, _, _ => none
  | n + 1, p, s, ds => fnI 3 7 (d_Choice_go (I_Choice_go n)) p s ds
def d_Choice_prove (Ff : List D → Option S) : VL.Env → Option Out :=
  (sq (sSet 3 (cM "Choice" nm_Choice (dN 0) (aCons (dN 2) a0) F_Choice_dead))
    (sq (sIf (tb (b2 (dN 3) (dK .non) dIsNot)) (sRet (dTup (aCons (dK (.str "dead")) (aCons (dN 3) a0)))) sNx)
    (sq (sSet 4 (cF (aCons (dFld "Choice" nm_Choice 0 (dN 0)) (aCons (dFld "Choice" nm_Choice 1 (dN 0)) (aCons (dN 1) (aCons (dN 2) a0)))) F_raised))
    (sq (sIf (tAnd2 (tb (b2 (dFld "Choice" nm_Choice 3 (dN 0)) (dK .non) dIsNot)) (tb (b2 (cF (aCons (dFld "Choice" nm_Choice 0 (dN 0)) (aCons (dFld "Choice" nm_Choice 1 (dN 0)) (aCons (dN 1) (aCons (dN 4) a0)))) F_shown) (dFld "Choice" nm_Choice 3 (dN 0)) dGe))) (sRet (dTup (aCons (dK (.str "shares")) (aCons (dN 4) a0)))) sNx)
    (sq (sSet 5 (fL (dComp [6] (iR1 (aCons (cB (aCons (dFld "Choice" nm_Choice 0 (dN 0)) a0) dLen) a0)) (gN 6) (tAnd2 (tb (b2 (dN 6) (dN 1) dNotIn)) (tb (b2 (dN 6) (dN 2) dNotIn))) (dN 6))))
    (sq (sSet 7 (cM "Choice" nm_Choice (dN 0) (aCons (b2 (dN 1) (fL (dLst (aCons (b2 (dN 5) (dK (.int 0)) dIx) a0))) dAdd) (aCons (dN 2) a0)) Ff))
    (sRet (dTup (aCons (dK (.str "size")) (aCons (b2 (dN 5) (dK (.int 0)) dIx) (aCons (dN 7) (aCons (cM "Choice" nm_Choice (dN 0) (aCons (dN 1) (aCons (b2 (dN 2) (fL (dLst (aCons (b2 (dN 5) (dK (.int 0)) dIx) a0))) dAdd) a0)) Ff) a0))))))))))))
def F_Choice_prove : Nat → List D → Option S
  | 0, _ => none
  | n + 1, ds => fnS 3 8 (d_Choice_prove (F_Choice_prove n)) ds
def d_Choice_init : VL.Env → Option Out :=
  (sq (sFldN 0 "Choice" [] "prices" (oFz (dN 1)))
    (sq (sFldN 0 "Choice" ["prices"] "costs" (oFz (dN 2)))
    (sq (sFldN 0 "Choice" ["prices", "costs"] "best" (oFz (dK .non)))
    (sFldN 0 "Choice" ["prices", "costs", "best"] "cost" (oFz (dK .non))))))
def I_Choice_init : Addr → S → List D → Option (D × S) := fnI 3 3 d_Choice_init
def d_sizes : VL.Env → Option Out :=
  (sq (sSetO 2 (oMk "Choice" (aCons (dN 0) (aCons (dN 1) a0)) I_Choice_init))
    (sq (sExM (mMt 2 "Choice" nm_Choice (pur (aCons (fL (dLst a0)) (aCons (fL (dLst a0)) a0))) (I_Choice_go 12)))
    (sq (dFz 2 (sSet 3 (cM "Choice" nm_Choice (dN 2) (aCons (fL (dLst a0)) (aCons (fL (dLst a0)) a0)) (F_Choice_prove 12))))
    (dFz 2 (sRet (vIf (tb (b2 (dFld "Choice" nm_Choice 2 (dN 2)) (dK .non) dIs)) (dTup (aCons (dK (.str "never")) (aCons (dN 3) a0))) (dTup (aCons (dK (.str "sizes")) (aCons (dFld "Choice" nm_Choice 2 (dN 2)) (aCons (dFld "Choice" nm_Choice 3 (dN 2)) (aCons (dN 3) a0)))))))))))
def F_sizes : List D → Option S := fnS 2 4 d_sizes
def d_shares_right : VL.Env → Option Out :=
  (sq (sIf (tOr2 (tb (b2 (dN 4) (dK .non) dIs)) (tb (b2 (cB (aCons (dN 5) a0) dLen) (cB (aCons (dN 1) a0) dLen) dNe))) (sRet (dK (.bl false))) sNx)
    (sq (sFor (iEn (dN 0)) (gT (gsC (gN 6) (gsC (gN 7) gs0))) (sIf (tb (b2 (dN 6) (dN 3) dNotIn)) (sq (sSet 8 (dK (.int 0)))
    (sq (sFor (iEn (dN 1)) (gT (gsC (gN 9) (gsC (gN 10) gs0))) (sIf (tb (b2 (b2 (dN 10) (dN 6) dIx) (dK .non) dIsNot)) (sSet 8 (b2 (dN 8) (cB (aCons (dK (.int 0)) (aCons (b2 (b2 (dN 5) (dN 9) dIx) (b2 (dN 10) (dN 6) dIx) dSub) a0)) dMaxA) dAdd)) sNx))
    (sIf (tb (b2 (dN 8) (vIf (tb (b2 (dN 6) (dN 2) dIn)) (dK (.int 0)) (dN 7)) dGt)) (sRet (dK (.bl false))) sNx))) sNx))
    (sRet (b2 (cF (aCons (dN 0) (aCons (dN 1) (aCons (dN 2) (aCons (dN 5) a0)))) F_shown) (dN 4) dGe))))
def F_shares_right : List D → Option S := fnS 6 11 d_shares_right
def d_tree_fault (Ff : List D → Option S) : VL.Env → Option Out :=
  (sq (sIf (tb (b2 (b2 (dN 6) (dK (.int 0)) dIx) (dK (.str "dead")) dEq)) (sq (sSet 7 (vChain (dK (.int 0)) (b2 (dN 6) (dK (.int 1)) dIx) (cB (aCons (dN 1) a0) dLen) dLe dLt))
    (sq (sSet 8 (vAnd2 (dN 7) (cB (aCons (fL (dComp [9, 10] (iEn (b2 (dN 1) (b2 (dN 6) (dK (.int 1)) dIx) dIx)) (gT (gsC (gN 9) (gsC (gN 10) gs0))) cY (vOr2 (b2 (dN 10) (dK .non) dIs) (b2 (dN 9) (dN 3) dIn)))) a0) dAll)))
    (sRet (vIf (dTr (dN 8)) (dK .non) (dTup (aCons (dK (.str "dead")) (aCons (dN 5) a0))))))) sNx)
    (sq (sIf (tb (b2 (b2 (dN 6) (dK (.int 0)) dIx) (dK (.str "shares")) dEq)) (sRet (vIf (dTr (cF (aCons (dN 0) (aCons (dN 1) (aCons (dN 2) (aCons (dN 3) (aCons (dN 4) (aCons (b2 (dN 6) (dK (.int 1)) dIx) a0)))))) F_shares_right)) (dK .non) (dTup (aCons (dK (.str "shares")) (aCons (dN 5) a0))))) sNx)
    (sq (sTg (gT (gsC (gN 11) (gsC (gN 9) (gsC (gN 12) (gsC (gN 13) gs0))))) (dN 6))
    (sq (sIf (tOr2 (tNot1 (tb (vChain (dK (.int 0)) (dN 9) (cB (aCons (dN 0) a0) dLen) dLe dLt))) (tOr2 (tb (b2 (dN 9) (dN 2) dIn)) (tb (b2 (dN 9) (dN 3) dIn)))) (sRet (dTup (aCons (dK (.str "size")) (aCons (dN 5) a0)))) sNx)
    (sq (sSet 14 (cF (aCons (dN 0) (aCons (dN 1) (aCons (b2 (dN 2) (fL (dLst (aCons (dN 9) a0))) dAdd) (aCons (dN 3) (aCons (dN 4) (aCons (b2 (dN 5) (fL (dLst (aCons (dTup (aCons (dN 9) (aCons (dK (.int 1)) a0))) a0))) dAdd) (aCons (dN 12) a0))))))) Ff))
    (sq (sIf (tb (b2 (dN 14) (dK .non) dIsNot)) (sRet (dN 14)) sNx)
    (sRet (cF (aCons (dN 0) (aCons (dN 1) (aCons (dN 2) (aCons (b2 (dN 3) (fL (dLst (aCons (dN 9) a0))) dAdd) (aCons (dN 4) (aCons (b2 (dN 5) (fL (dLst (aCons (dTup (aCons (dN 9) (aCons (dK (.int 0)) a0))) a0))) dAdd) (aCons (dN 13) a0))))))) Ff))))))))
def F_tree_fault : Nat → List D → Option S
  | 0, _ => none
  | n + 1, ds => fnS 7 15 (d_tree_fault (F_tree_fault n)) ds
def d_sizes_fault : VL.Env → Option Out :=
  (sq (sIf (tb (b2 (b2 (dN 2) (dK (.int 0)) dIx) (dK (.str "never")) dEq)) (sq (sSet 3 (cF (aCons (dN 0) (aCons (dN 1) (aCons (fL (dLst a0)) (aCons (fL (dLst a0)) (aCons (dK .non) (aCons (fL (dLst a0)) (aCons (b2 (dN 2) (dK (.int 1)) dIx) a0))))))) (F_tree_fault 12)))
    (sRet (vIf (tb (b2 (dN 3) (dK .non) dIs)) (dK .non) (dTup (aCons (dK (.str "tree")) (aCons (dN 3) a0)))))) sNx)
    (sq (sTg (gT (gsC (gN 4) (gsC (gN 5) (gsC (gN 6) (gsC (gN 7) gs0))))) (dN 2))
    (sq (sSet 8 (cB (aCons (fL (dComp [9] (iR1 (aCons (b2 (cB (aCons (dN 5) a0) dLen) (dK (.int 1)) dSub) a0)) (gN 9) cY (b2 (b2 (dN 5) (dN 9) dIx) (b2 (dN 5) (b2 (dN 9) (dK (.int 1)) dAdd) dIx) dLt))) a0) dAll))
    (sq (sIf (tOr2 (tNot1 (dTr (dN 8))) (tNot1 (dTr (cB (aCons (fL (dComp [10] (iSq (dN 5)) (gN 10) cY (vChain (dK (.int 0)) (dN 10) (cB (aCons (dN 0) a0) dLen) dLe dLt))) a0) dAll)))) (sRet (dTup (aCons (dK (.str "options")) a0))) sNx)
    (sq (sFor (iR1 (aCons (cB (aCons (dN 1) a0) dLen) a0)) (gN 11) (sIf (tb (b2 (cF (aCons (dN 1) (aCons (dN 5) (aCons (dN 11) a0))) F_served) (dK .non) dIs)) (sRet (dTup (aCons (dK (.str "part")) (aCons (dN 11) a0)))) sNx))
    (sq (sIf (tb (b2 (cF (aCons (dN 0) (aCons (dN 1) (aCons (dN 5) a0))) F_price_of) (dN 6) dNe)) (sRet (dTup (aCons (dK (.str "cost")) a0))) sNx)
    (sq (sSet 3 (cF (aCons (dN 0) (aCons (dN 1) (aCons (fL (dLst a0)) (aCons (fL (dLst a0)) (aCons (dN 6) (aCons (fL (dLst a0)) (aCons (dN 7) a0))))))) (F_tree_fault 12)))
    (sRet (vIf (tb (b2 (dN 3) (dK .non) dIs)) (dK .non) (dTup (aCons (dK (.str "tree")) (aCons (dN 3) a0))))))))))))
def F_sizes_fault : List D → Option S := fnS 3 12 d_sizes_fault
def d_waste_costs : VL.Env → Option Out :=
  (sq (sSetO 2 (oL (dLst a0)))
    (sq (sFor (iSq (dN 0)) (gT (gsC (gN 3) (gsC (gN 4) gs0))) (sq (sSetO 5 (oL (dLst a0)))
    (sq (sFor (iSq (dN 1)) (gT (gsC (gN 6) (gsC (gN 7) gs0))) (sq (sSet 8 (vOr2 (vAnd2 (b2 (dN 3) (dN 6) dLe) (b2 (dN 4) (dN 7) dLe)) (vAnd2 (b2 (dN 4) (dN 6) dLe) (b2 (dN 3) (dN 7) dLe))))
    (sApp 5 (oFz (vIf (dTr (dN 8)) (b2 (b2 (dN 6) (dN 7) dMul) (b2 (dN 3) (dN 4) dMul) dSub) (dK .non))))))
    (dFz 5 (sApp 2 (oFz (dN 5)))))))
    (sRetN 2)))
def F_waste_costs : List D → Option S := fnS 2 9 d_waste_costs
def d__law_shop : VL.Env → Option Out :=
  (sq (sSetM 2 (mComp [3] (mB (maC (mI 0 (maC (pur (b2 (dN 1) (dK (.int 1)) dAdd)) mA0) takeS) mA0) rng1) (gN 3) mY (m2 (mLst (maC (pur (dK (.int 0))) (maC (mI 0 (maC (pur (dK (.int 9))) mA0) takeS) (maC (mI 0 (maC (pur (dK (.int 40))) mA0) takeS) mA0)))) (mI 0 (maC (pur (dK (.int 3))) mA0) takeS) dIx)))
    (sq (sSetM 4 (m2 (pur (fL (dLst (aCons (dK (.int 2)) (aCons (dK (.int 5)) a0))))) (mI 0 (maC (pur (dK (.int 2))) mA0) takeS) dIx))
    (sq (sSetO 5 (oL (dLst a0)))
    (sq (sForM (mB (maC (mI 0 (maC (pur (dK (.int 7))) mA0) takeS) mA0) rng1) (gN 3) (sAppM 5 (mComp [6] (pur (iSq (dN 2))) (gN 6) mY (mIf (mtb (m2 (mI 0 (maC (pur (dN 4)) mA0) takeS) (pur (dK (.int 0))) dEq)) (pur (dK .non)) (mI 0 (maC (pur (dK (.int 20))) mA0) takeS)))))
    (sq (sIfM (mtb (m2 (mI 0 (maC (pur (dK (.int 4))) mA0) takeS) (pur (dK (.int 0))) dGt)) (sSetO 5 (oL (dComp [7] (iOw 5) (gN 7) (tb (b2 (cB (aCons (fL (dComp [8] (iSq (dN 7)) (gN 8) (tb (b2 (dN 8) (dK .non) dIsNot)) (dN 8))) a0) dLen) (dK (.int 0)) dGt)) (dN 7)))) sNx)
    (dFz 5 (sRet (dTup (aCons (dN 2) (aCons (dN 5) a0))))))))))
def I__law_shop : Addr → S → List D → Option (D × S) := fnI 2 9 d__law_shop
def d__law_cost : VL.Env → Option Out :=
  (sq (sSet 3 (cB (aCons (fL (dComp [4] (iSq (dN 2)) (gN 4) cY (b2 (dN 0) (dN 4) dIx))) a0) dSum))
    (sq (sFor (iSq (dN 1)) (gN 5) (sq (sSet 6 (fL (dComp [4] (iSq (dN 2)) (gN 4) (tb (b2 (b2 (dN 5) (dN 4) dIx) (dK .non) dIsNot)) (b2 (dN 5) (dN 4) dIx))))
    (sq (sIf (tb (b2 (cB (aCons (dN 6) a0) dLen) (dK (.int 0)) dEq)) (sRet (dK .non)) sNx)
    (sSet 3 (b2 (dN 3) (cB (aCons (dN 6) a0) dMinA) dAdd)))))
    (sRet (dN 3))))
def F__law_cost : List D → Option S := fnS 3 7 d__law_cost
def d__law_tree_fault (Ff : List D → Option S) : VL.Env → Option Out :=
  (sq (sIf (tb (b2 (b2 (dN 6) (dK (.int 0)) dIx) (dK (.str "dead")) dEq)) (sq (sSet 7 (vAnd2 (vChain (dK (.int 0)) (b2 (dN 6) (dK (.int 1)) dIx) (cB (aCons (dN 1) a0) dLen) dLe dLt) (b2 (cB (aCons (fL (dComp [8] (iR1 (aCons (cB (aCons (dN 0) a0) dLen) a0)) (gN 8) (tAnd2 (tb (b2 (b2 (b2 (dN 1) (b2 (dN 6) (dK (.int 1)) dIx) dIx) (dN 8) dIx) (dK .non) dIsNot)) (tb (b2 (dN 8) (dN 3) dNotIn))) (dN 8))) a0) dLen) (dK (.int 0)) dEq)))
    (sRet (vIf (dTr (dN 7)) (dK .non) (dTup (aCons (dK (.str "dead")) (aCons (dN 5) a0)))))) sNx)
    (sq (sIf (tb (b2 (b2 (dN 6) (dK (.int 0)) dIx) (dK (.str "shares")) dEq)) (sq (sSet 9 (b2 (dN 6) (dK (.int 1)) dIx))
    (sq (sIf (tOr2 (tb (b2 (dN 4) (dK .non) dIs)) (tb (b2 (cB (aCons (dN 9) a0) dLen) (cB (aCons (dN 1) a0) dLen) dNe))) (sRet (dTup (aCons (dK (.str "shares")) (aCons (dN 5) a0)))) sNx)
    (sq (sFor (iR1 (aCons (cB (aCons (dN 0) a0) dLen) a0)) (gN 8) (sq (sSet 10 (cB (aCons (fL (dComp [11] (iR1 (aCons (cB (aCons (dN 1) a0) dLen) a0)) (gN 11) (tb (b2 (b2 (b2 (dN 1) (dN 11) dIx) (dN 8) dIx) (dK .non) dIsNot)) (cB (aCons (dK (.int 0)) (aCons (b2 (b2 (dN 9) (dN 11) dIx) (b2 (b2 (dN 1) (dN 11) dIx) (dN 8) dIx) dSub) a0)) dMaxA))) a0) dSum))
    (sIf (tAnd2 (tb (b2 (dN 8) (dN 3) dNotIn)) (tb (b2 (dN 10) (vIf (tb (b2 (dN 8) (dN 2) dIn)) (dK (.int 0)) (b2 (dN 0) (dN 8) dIx)) dGt))) (sRet (dTup (aCons (dK (.str "shares")) (aCons (dN 5) a0)))) sNx)))
    (sRet (vIf (tb (b2 (b2 (cB (aCons (fL (dComp [8] (iSq (dN 2)) (gN 8) cY (b2 (dN 0) (dN 8) dIx))) a0) dSum) (cB (aCons (dN 9) a0) dSum) dAdd) (dN 4) dGe)) (dK .non) (dTup (aCons (dK (.str "shares")) (aCons (dN 5) a0)))))))) sNx)
    (sq (sTg (gT (gsC (gN 12) (gsC (gN 8) (gsC (gN 13) (gsC (gN 14) gs0))))) (dN 6))
    (sq (sIf (tOr2 (tNot1 (tb (vChain (dK (.int 0)) (dN 8) (cB (aCons (dN 0) a0) dLen) dLe dLt))) (tOr2 (tb (b2 (dN 8) (dN 2) dIn)) (tb (b2 (dN 8) (dN 3) dIn)))) (sRet (dTup (aCons (dK (.str "size")) (aCons (dN 5) a0)))) sNx)
    (sq (sSet 15 (cF (aCons (dN 0) (aCons (dN 1) (aCons (b2 (dN 2) (fL (dLst (aCons (dN 8) a0))) dAdd) (aCons (dN 3) (aCons (dN 4) (aCons (b2 (dN 5) (fL (dLst (aCons (dTup (aCons (dN 8) (aCons (dK (.int 1)) a0))) a0))) dAdd) (aCons (dN 13) a0))))))) Ff))
    (sRet (vIf (tb (b2 (dN 15) (dK .non) dIsNot)) (dN 15) (cF (aCons (dN 0) (aCons (dN 1) (aCons (dN 2) (aCons (b2 (dN 3) (fL (dLst (aCons (dN 8) a0))) dAdd) (aCons (dN 4) (aCons (b2 (dN 5) (fL (dLst (aCons (dTup (aCons (dN 8) (aCons (dK (.int 0)) a0))) a0))) dAdd) (aCons (dN 14) a0))))))) Ff))))))))
def F__law_tree_fault : Nat → List D → Option S
  | 0, _ => none
  | n + 1, ds => fnS 7 16 (d__law_tree_fault (F__law_tree_fault n)) ds
def d__law_fault : VL.Env → Option Out :=
  (sq (sIf (tb (b2 (b2 (dN 2) (dK (.int 0)) dIx) (dK (.str "never")) dEq)) (sq (sSet 3 (cF (aCons (dN 0) (aCons (dN 1) (aCons (fL (dLst a0)) (aCons (fL (dLst a0)) (aCons (dK .non) (aCons (fL (dLst a0)) (aCons (b2 (dN 2) (dK (.int 1)) dIx) a0))))))) (F__law_tree_fault 12)))
    (sRet (vIf (tb (b2 (dN 3) (dK .non) dIs)) (dK .non) (dTup (aCons (dK (.str "tree")) (aCons (dN 3) a0)))))) sNx)
    (sq (sTg (gT (gsC (gN 4) (gsC (gN 5) (gsC (gN 6) (gsC (gN 7) gs0))))) (dN 2))
    (sq (sIf (tOr2 (tb (b2 (dN 5) (fL (dSetSo (dN 5))) dNe)) (tb (b2 (cB (aCons (fL (dComp [8] (iSq (dN 5)) (gN 8) (tNot1 (tb (vChain (dK (.int 0)) (dN 8) (cB (aCons (dN 0) a0) dLen) dLe dLt))) (dN 8))) a0) dLen) (dK (.int 0)) dGt))) (sRet (dTup (aCons (dK (.str "options")) a0))) sNx)
    (sq (sFor (iR1 (aCons (cB (aCons (dN 1) a0) dLen) a0)) (gN 9) (sIf (tb (b2 (cB (aCons (fL (dComp [8] (iSq (dN 5)) (gN 8) (tb (b2 (b2 (b2 (dN 1) (dN 9) dIx) (dN 8) dIx) (dK .non) dIsNot)) (dN 8))) a0) dLen) (dK (.int 0)) dEq)) (sRet (dTup (aCons (dK (.str "part")) (aCons (dN 9) a0)))) sNx))
    (sq (sIf (tb (b2 (cF (aCons (dN 0) (aCons (dN 1) (aCons (dN 5) a0))) F__law_cost) (dN 6) dNe)) (sRet (dTup (aCons (dK (.str "cost")) a0))) sNx)
    (sq (sSet 3 (cF (aCons (dN 0) (aCons (dN 1) (aCons (fL (dLst a0)) (aCons (fL (dLst a0)) (aCons (dN 6) (aCons (fL (dLst a0)) (aCons (dN 7) a0))))))) (F__law_tree_fault 12)))
    (sRet (vIf (tb (b2 (dN 3) (dK .non) dIs)) (dK .non) (dTup (aCons (dK (.str "tree")) (aCons (dN 3) a0)))))))))))
def F__law_fault : List D → Option S := fnS 3 10 d__law_fault
def d__law_full (Ff : List D → Option S) : VL.Env → Option Out :=
  (sq (sFor (iR1 (aCons (cB (aCons (dN 1) a0) dLen) a0)) (gN 4) (sIf (tb (b2 (cB (aCons (fL (dComp [5] (iR1 (aCons (cB (aCons (dN 0) a0) dLen) a0)) (gN 5) (tAnd2 (tb (b2 (b2 (b2 (dN 1) (dN 4) dIx) (dN 5) dIx) (dK .non) dIsNot)) (tb (b2 (dN 5) (dN 3) dNotIn))) (dN 5))) a0) dLen) (dK (.int 0)) dEq)) (sRet (dTup (aCons (dK (.str "dead")) (aCons (dN 4) a0)))) sNx))
    (sq (sSet 6 (fL (dComp [5] (iR1 (aCons (cB (aCons (dN 0) a0) dLen) a0)) (gN 5) (tAnd2 (tb (b2 (dN 5) (dN 2) dNotIn)) (tb (b2 (dN 5) (dN 3) dNotIn))) (dN 5))))
    (sq (sIf (tb (b2 (cB (aCons (dN 6) a0) dLen) (dK (.int 0)) dEq)) (sRet (dTup (aCons (dK (.str "shares")) (aCons (fL (dComp [7] (iSq (dN 1)) (gN 7) cY (cB (aCons (fL (dComp [5] (iSq (dN 2)) (gN 5) (tb (b2 (b2 (dN 7) (dN 5) dIx) (dK .non) dIsNot)) (b2 (dN 7) (dN 5) dIx))) a0) dMinA))) a0)))) sNx)
    (sq (sSet 8 (cF (aCons (dN 0) (aCons (dN 1) (aCons (b2 (dN 2) (fL (dLst (aCons (b2 (dN 6) (dK (.int 0)) dIx) a0))) dAdd) (aCons (dN 3) a0)))) Ff))
    (sRet (dTup (aCons (dK (.str "size")) (aCons (b2 (dN 6) (dK (.int 0)) dIx) (aCons (dN 8) (aCons (cF (aCons (dN 0) (aCons (dN 1) (aCons (dN 2) (aCons (b2 (dN 3) (fL (dLst (aCons (b2 (dN 6) (dK (.int 0)) dIx) a0))) dAdd) a0)))) Ff) a0))))))))))
def F__law_full : Nat → List D → Option S
  | 0, _ => none
  | n + 1, ds => fnS 4 9 (d__law_full (F__law_full n)) ds
def d_law : VL.Env → Option Out :=
  (sq (sTgM (gT (gsC (gN 2) (gsC (gN 3) gs0))) (mI 1 (maC (pur (dK (.int 7))) mA0) I__law_shop))
    (sq (sSet 4 (cB (aCons (dTup (aCons (dN 2) (aCons (dN 3) a0))) a0) dRepr))
    (sq (sSet 5 (fL (dLst (aCons (fL (dLst a0)) a0))))
    (sq (sFor (iR1 (aCons (cB (aCons (dN 2) a0) dLen) a0)) (gN 6) (sSet 5 (b2 (dN 5) (fL (dComp [7] (iSq (dN 5)) (gN 7) cY (b2 (dN 7) (fL (dLst (aCons (dN 6) a0))) dAdd))) dAdd)))
    (sq (sSet 8 (fL (dComp [7] (iSq (dN 5)) (gN 7) (tb (b2 (cF (aCons (dN 2) (aCons (dN 3) (aCons (dN 7) a0))) F__law_cost) (dK .non) dIsNot)) (dN 7))))
    (sq (sSet 9 (cF (aCons (dN 2) (aCons (dN 3) a0)) F_sizes))
    (sq (sIf (tOr2 (tNot1 (dTr (dIsi "tuple" (dN 9)))) (tOr2 (tb (b2 (b2 (dN 9) (dK (.int 0)) dIx) (vIf (tb (b2 (cB (aCons (dN 8) a0) dLen) (dK (.int 0)) dGt)) (dK (.str "sizes")) (dK (.str "never"))) dNe)) (tb (b2 (cB (aCons (dTup (aCons (dN 2) (aCons (dN 3) a0))) a0) dRepr) (dN 4) dNe)))) (sRet (dK (.bl false))) sNx)
    (sq (sIf (tOr2 (tb (b2 (cF (aCons (dN 2) (aCons (dN 3) (aCons (dN 9) a0))) F__law_fault) (dK .non) dIsNot)) (tb (b2 (cF (aCons (dN 2) (aCons (dN 3) (aCons (dN 9) a0))) F_sizes_fault) (dK .non) dIsNot))) (sRet (dK (.bl false))) sNx)
    (sq (sSet 10 (cF (aCons (dN 2) (aCons (dN 3) (aCons (fL (dLst a0)) (aCons (fL (dLst a0)) a0)))) (F__law_full 12)))
    (sq (sIf (tb (b2 (cB (aCons (dN 8) a0) dLen) (dK (.int 0)) dEq)) (sRet (b2 (cF (aCons (dN 2) (aCons (dN 3) (aCons (dTup (aCons (dK (.str "never")) (aCons (dN 10) a0))) a0))) F_sizes_fault) (dK .non) dIs)) sNx)
    (sq (sSet 11 (cB (aCons (fL (dComp [7] (iSq (dN 8)) (gN 7) cY (cF (aCons (dN 2) (aCons (dN 3) (aCons (dN 7) a0))) F__law_cost))) a0) dMinA))
    (sq (sIf (tOr2 (tb (b2 (b2 (dN 9) (dK (.int 2)) dIx) (dN 11) dNe)) (tb (b2 (cF (aCons (dN 2) (aCons (dN 3) (aCons (b2 (dCutU (dN 9) sl0 (sl1 (dK (.int 3)))) (dTup (aCons (dN 10) a0)) dAdd) a0))) F_sizes_fault) (dK .non) dIsNot))) (sRet (dK (.bl false))) sNx)
    (sq (sFor (iSq (dN 8)) (gN 7) (sIf (tAnd2 (tb (b2 (cF (aCons (dN 2) (aCons (dN 3) (aCons (dN 7) a0))) F__law_cost) (dN 11) dEq)) (tb (b2 (cF (aCons (dN 2) (aCons (dN 3) (aCons (dTup (aCons (dK (.str "sizes")) (aCons (dN 7) (aCons (dN 11) (aCons (b2 (dN 9) (dK (.int 3)) dIx) a0))))) a0))) F_sizes_fault) (dK .non) dIsNot))) (sRet (dK (.bl false))) sNx))
    (sq (sSetM 12 (mComp [6] (mB (maC (mI 1 (maC (pur (dK (.int 4))) mA0) takeS) mA0) rng1) (gN 6) mY (mTup (maC (m2 (pur (dK (.int 1))) (mI 1 (maC (pur (dK (.int 9))) mA0) takeS) dAdd) (maC (m2 (pur (dK (.int 1))) (mI 1 (maC (pur (dK (.int 9))) mA0) takeS) dAdd) mA0)))))
    (sq (sSetM 13 (mComp [6] (mB (maC (mI 1 (maC (pur (dK (.int 4))) mA0) takeS) mA0) rng1) (gN 6) mY (mTup (maC (m2 (pur (dK (.int 1))) (mI 1 (maC (pur (dK (.int 9))) mA0) takeS) dAdd) (maC (m2 (pur (dK (.int 1))) (mI 1 (maC (pur (dK (.int 9))) mA0) takeS) dAdd) mA0)))))
    (sq (sSetO 14 (oL (dLst a0)))
    (sq (sFor (iSq (dN 13)) (gT (gsC (gN 15) (gsC (gN 16) gs0))) (sApp 14 (oFz (fL (dComp [17, 18] (iSq (dN 12)) (gT (gsC (gN 17) (gsC (gN 18) gs0))) cY (vIf (tAnd2 (tb (b2 (cB (aCons (dN 17) (aCons (dN 18) a0)) dMinA) (cB (aCons (dN 15) (aCons (dN 16) a0)) dMinA) dGe)) (tb (b2 (cB (aCons (dN 17) (aCons (dN 18) a0)) dMaxA) (cB (aCons (dN 15) (aCons (dN 16) a0)) dMaxA) dGe))) (b2 (b2 (dN 17) (dN 18) dMul) (b2 (dN 15) (dN 16) dMul) dSub) (dK .non)))))))
    (sRet (vAnd2 (b2 (cF (aCons (dN 13) (aCons (dN 12) a0)) F_waste_costs) (dW 14) dEq) (b2 (cB (aCons (dTup (aCons (dN 2) (aCons (dN 3) a0))) a0) dRepr) (dN 4) dEq))))))))))))))))))))
end
/-- what the top has written -/
structure TX (K : PySem.W.Frag) (mg : Str → Option Value) (fa : Nat → Addr) (fda : Nat → FuncData) (fc : Nat → Addr) : Prop where
  b_min : mg "min" = none
  b_sum : mg "sum" = none
  b_len : mg "len" = none
  b_range : mg "range" = none
  b_list : mg "list" = none
  b_enumerate : mg "enumerate" = none
  b_all : mg "all" = none
  b_sorted : mg "sorted" = none
  b_max : mg "max" = none
  b_set : mg "set" = none
  b_repr : mg "repr" = none
  b_isinstance : mg "isinstance" = none
  b_tuple : mg "tuple" = none
  b_abs : mg "abs" = none
  b_int : mg "int" = none
  c_Choice : Lk K "Choice" (fc 0)
  k_Choice : Cls K (fc 0)
  g_Choice : mg "Choice" = some (.ref (fc 0))
  n_Choice_prices : NoAttr K (fc 0) "prices"
  n_Choice_costs : NoAttr K (fc 0) "costs"
  n_Choice_best : NoAttr K (fc 0) "best"
  n_Choice_cost : NoAttr K (fc 0) "cost"
  d_served : Df K mg "served" s_served ["costs", "options", "part"] (fa 0) (fda 0)
  d_price_of : Df K mg "price_of" s_price_of ["prices", "costs", "options"] (fa 1) (fda 1)
  d_raised : Df K mg "raised" s_raised ["prices", "costs", "taken", "left"] (fa 2) (fda 2)
  d_shown : Df K mg "shown" s_shown ["prices", "costs", "taken", "shares"] (fa 3) (fda 3)
  d_Choice_dead : Dm K "dead" "Choice.dead" s_Choice_dead ["self", "left"] (fa 4) (fda 4)
  m_Choice_dead : Meth K (fc 0) "dead" (fa 4)
  d_Choice_go : Dm K "go" "Choice.go" s_Choice_go ["self", "taken", "left"] (fa 5) (fda 5)
  m_Choice_go : Meth K (fc 0) "go" (fa 5)
  d_Choice_prove : Dm K "prove" "Choice.prove" s_Choice_prove ["self", "taken", "left"] (fa 6) (fda 6)
  m_Choice_prove : Meth K (fc 0) "prove" (fa 6)
  d_Choice_init : Dm K "__init__" "Choice.__init__" s_Choice_init ["self", "prices", "costs"] (fa 7) (fda 7)
  m_Choice_init : Mk K (fc 0) (fa 7)
  d_sizes : Df K mg "sizes" s_sizes ["prices", "costs"] (fa 8) (fda 8)
  d_shares_right : Df K mg "shares_right" s_shares_right ["prices", "costs", "taken", "left", "bound", "shares"] (fa 9) (fda 9)
  d_tree_fault : Df K mg "tree_fault" s_tree_fault ["prices", "costs", "taken", "left", "bound", "path", "tree"] (fa 10) (fda 10)
  d_sizes_fault : Df K mg "sizes_fault" s_sizes_fault ["prices", "costs", "told"] (fa 11) (fda 11)
  d_waste_costs : Df K mg "waste_costs" s_waste_costs ["parts", "plates"] (fa 12) (fda 12)
  d__law_state : Df K mg "_law_state" s__law_state ["script"] (fa 13) (fda 13)
  d__law_take : Df K mg "_law_take" s__law_take ["state", "most"] (fa 14) (fda 14)
  d__law_shop : Df K mg "_law_shop" s__law_shop ["state", "most"] (fa 15) (fda 15)
  d__law_cost : Df K mg "_law_cost" s__law_cost ["prices", "costs", "options"] (fa 16) (fda 16)
  d__law_tree_fault : Df K mg "_law_tree_fault" s__law_tree_fault ["prices", "costs", "taken", "left", "bound", "path", "tree"] (fa 17) (fda 17)
  d__law_fault : Df K mg "_law_fault" s__law_fault ["prices", "costs", "told"] (fa 18) (fda 18)
  d__law_full : Df K mg "_law_full" s__law_full ["prices", "costs", "taken", "left"] (fa 19) (fda 19)
  d_law : Df K mg "law" s_law ["script"] (fa 20) (fda 20)

end Law
set_option Elab.async false
set_option linter.all false
set_option maxRecDepth 100000
set_option maxHeartbeats 4000000
namespace Law
open PySem PyProof.Rows L2 VL TL
open Ty (en)
structure C_Choice where
  prices : (List Int)
  costs : (List (List (Option Int)))
  best : (Option (List Int))
  cost : (Option Int)
  deriving DecidableEq
instance : Ty C_Choice := ⟨fun x => .obj "Choice" nm_Choice [en x.prices, en x.costs, en x.best, en x.cost]⟩
def ob_Choice (x : C_Choice) : S := .ob "Choice" nm_Choice [.fz (en (x.prices : (List Int))), .fz (en (x.costs : (List (List (Option Int))))), .fz (en (x.best : (Option (List Int)))), .fz (en (x.cost : (Option Int)))]
def T_served (costs : (List (List (Option Int)))) (options : (List Int)) (part : Int) : Option (Option Int) := ansT (
  ((compT (fun (x1 : Int) => (atI costs part).bind fun v2 => (atI v2 x1).bind fun v4 => some v4.isSome) (fun (x1 : Int) => (atI costs part).bind fun v6 => (atI v6 x1).bind fun v8 => v8) options).bind fun v12 => some v12).bind fun told_14 => (if (!told_14.isEmpty) = true then (minT told_14).bind fun v15 => some (some v15 : (Option Int)) else some (none : (Option Int))).bind fun v17 => some (.rt v17))
theorem r_served (costs : (List (List (Option Int)))) (options : (List Int)) (part : Int) : ∀ r, T_served costs options part = some r → ∃ s, F_served [en costs, en options, en part] = some s ∧ frS s = some (en r) := by
  refine fn_f (N := fun _ _ => True) (B := fun _ _ => True) rfl ?_
  exact (bl_ss (ss_set 3 (g_bind (elo_comp (cc := fun (x1 : Int) => (atI costs part).bind fun v2 => (atI v2 x1).bind fun v4 => some v4.isSome) (gg := fun (x1 : Int) => (atI costs part).bind fun v6 => (atI v6 x1).bind fun v8 => v8) (ei_seq (ev_n 1)) (fun (x1 : Int) => (tg_n 4)) (fun (x1 : Int) => (g_bind (eo_2 (ev_n 0) (ev_n 2) (op_ix costs part)) fun v2 h3 => (g_bind (eo_2 h3 (ev_n 4) (op_ix v2 x1)) fun v4 h5 => (GJ.o (eb_tb (ev_2 h5 (ev_k (a := ())) (op_isn v4))))))) (fun (x1 : Int) => (g_bind (eo_2 (ev_n 0) (ev_n 2) (op_ix costs part)) fun v6 h7 => (g_bind (eo_2 h7 (ev_n 4) (op_ix v6 x1)) fun v8 h9 => (eo_get h9))))) fun v12 h13 => (GJ.o (ev_fL h13)))) (fun told_14 => (bl_bind (eo_if (eb_tr (a := (told_14 : (List Int))) (ev_n 3)) (g_bind (eo_cB (ea_cons (ev_n 3) ea_nil) (bi_min told_14)) fun v15 h16 => (GJ.o (ev_s h16))) (GJ.o (ev_nn (ev_k (a := ()))))) fun v17 h18 => (bl_ret h18 rf))))
def T_price_of (prices : (List Int)) (costs : (List (List (Option Int)))) (options : (List Int)) : Option (Option Int) := ansT (
  ((mapT (fun (x1 : Int) => atI prices x1) options).bind fun v4 => some v4.sum).bind fun total_6 => (rngT (costs.length : Int)).bind fun v7 => sqT (loopT (fun (x10 : Int) (s9 : Int) => (T_served costs options x10).bind fun least_13 => if least_13.isNone = true then some (.rt (none : (Option Int))) else ((least_13).bind fun v14 => some (s9 + v14)).bind fun total_16 => some (.nx total_16)) v7 total_6) fun t17 => some (.rt (some t17 : (Option Int))))
theorem r_price_of (prices : (List Int)) (costs : (List (List (Option Int)))) (options : (List Int)) : ∀ r, T_price_of prices costs options = some r → ∃ s, F_price_of [en prices, en costs, en options] = some s ∧ frS s = some (en r) := by
  refine fn_f (N := fun _ _ => True) (B := fun _ _ => True) rfl ?_
  exact (bl_ss (ss_set 3 (g_bind (elo_map (gg := fun (x1 : Int) => atI prices x1) (ei_seq (ev_n 2)) (fun (x1 : Int) => (tg_n 4)) (fun (x1 : Int) => (eo_2 (ev_n 0) (ev_n 4) (op_ix prices x1)))) fun v4 h5 => (GJ.o (ev_cB (ea_cons (ev_fL h5) ea_nil) (bi_sum v4))))) (fun total_6 => (bl_bind (ei_r1 (ea_cons (ev_cB (ea_cons (ev_n 1) ea_nil) (bi_len costs)) ea_nil)) fun v7 h8 => (bl_seq (ψ := fun (t17 : Int) => [some (.fz (en (prices : (List Int)))), some (.fz (en (costs : (List (List (Option Int)))))), some (.fz (en (options : (List Int)))), some (.fz (en (t17 : Int))), none, none, none]) (bl_for (ψs := fun (s9 : Int) => [some (.fz (en (prices : (List Int)))), some (.fz (en (costs : (List (List (Option Int)))))), some (.fz (en (options : (List Int)))), some (.fz (en (s9 : Int))), none, none, none]) (body := fun (x10 : Int) (s9 : Int) => (T_served costs options x10).bind fun least_13 => if least_13.isNone = true then some (.rt (none : (Option Int))) else ((least_13).bind fun v14 => some (s9 + v14)).bind fun total_16 => some (.nx total_16)) h8 (.s (.s (.s (.s (.n (.n (.n .nil))))))) (fun x10 s9 => (tg_n 5)) (fun x10 s9 => (bl_ss (ss_set 6 (eo_call (ea_cons (ev_n 1) (ea_cons (ev_n 2) (ea_cons (ev_n 5) ea_nil))) (r_served costs options x10))) (fun least_13 => (bl_ifA (eb_tb (ev_2 (ev_n 6) (ev_k (a := ())) (op_is least_13))) (bl_ret (ev_nn (ev_k (a := ()))) rf) (bl_skip (bl_ssl (ss_set 3 (g_bind (eo_get (ev_n 6)) fun v14 h15 => (GJ.o (ev_2 (ev_n 3) h15 (op_add s9 v14))))) (fun total_16 => (bl_nx (nf (.s (.s (.s (.s (.n (.n (.n .nil))))))))))))))))) (fun t17 => (bl_ret (ev_s (ev_n 3)) rf))))))
def T_raised (prices : (List Int)) (costs : (List (List (Option Int)))) (taken : (List Int)) (left : (List Int)) : Option (List Int) := ansT (
  (some prices).bind fun rest_1 => (some ([] : List Int)).bind fun shares_2 => sqT (loopT (fun (x4 : (Int × (List (Option Int)))) (s3 : (List Int) × (List Int)) => (some (List.map (fun (x5 : (Int × (Option Int))) => x5.1) (List.filter (fun (x5 : (Int × (Option Int))) => (x5.2.isSome && (!decide (x5.1 ∈ left)))) (enumT x4.2)))).bind fun able_6 => ((mapT (fun (x7 : Int) => (atI x4.2 x7).bind fun v8 => (if (decide (x7 ∈ taken)) = true then some (0 : Int) else atI s3.2 x7).bind fun v12 => (v8).bind fun v14 => some (v14 + v12)) able_6).bind fun v16 => minDfT v16 (0 : Int)).bind fun level_20 => (apT s3.1 level_20).bind fun shares_21 => sqT (loopT (fun (x23 : Int) (s22 : (List Int)) => (if (!decide (x23 ∈ taken)) = true then (atI x4.2 x23).bind fun v24 => (v24).bind fun v26 => some (decide (v26 < level_20)) else some false).bind fun v28 => if v28 = true then ((atI s22 x23).bind fun v30 => (atI x4.2 x23).bind fun v32 => (v32).bind fun v34 => putT s22 x23 (v30 - (level_20 - v34))).bind fun y_36 => some (.nx y_36) else some (.nx s22)) able_6 s3.2) fun t37 => some (.nx (shares_21, t37))) (enumT costs) (shares_2, rest_1)) fun t38 => some (.rt t38.1))
theorem r_raised (prices : (List Int)) (costs : (List (List (Option Int)))) (taken : (List Int)) (left : (List Int)) : ∀ r, T_raised prices costs taken left = some r → F_raised [en prices, en costs, en taken, en left] = some (olE r) := by
  refine fn_r (N := fun _ _ => True) (B := fun _ _ => True) (Rs := (olE : (List Int) → S)) rfl ?_
  exact (bl_ss (ss_setL 4 (GJ.o (el_cL (ea_cons (ev_n 0) ea_nil) (bi_list _)))) (fun rest_1 => (bl_ss (ss_setL 5 (GJ.o (el_lst (xs := ([] : List Int)) ea_nil))) (fun shares_2 => (bl_seq (ψ := fun (t38 : (List Int) × (List Int)) => [some (.fz (en (prices : (List Int)))), some (.fz (en (costs : (List (List (Option Int)))))), some (.fz (en (taken : (List Int)))), some (.fz (en (left : (List Int)))), some (olE (t38.2 : (List Int))), some (olE (t38.1 : (List Int))), none, none, none, none, none, none]) (bl_for (ψs := fun (s3 : (List Int) × (List Int)) => [some (.fz (en (prices : (List Int)))), some (.fz (en (costs : (List (List (Option Int)))))), some (.fz (en (taken : (List Int)))), some (.fz (en (left : (List Int)))), some (olE (s3.2 : (List Int))), some (olE (s3.1 : (List Int))), none, none, none, none, none, none]) (body := fun (x4 : (Int × (List (Option Int)))) (s3 : (List Int) × (List Int)) => (some (List.map (fun (x5 : (Int × (Option Int))) => x5.1) (List.filter (fun (x5 : (Int × (Option Int))) => (x5.2.isSome && (!decide (x5.1 ∈ left)))) (enumT x4.2)))).bind fun able_6 => ((mapT (fun (x7 : Int) => (atI x4.2 x7).bind fun v8 => (if (decide (x7 ∈ taken)) = true then some (0 : Int) else atI s3.2 x7).bind fun v12 => (v8).bind fun v14 => some (v14 + v12)) able_6).bind fun v16 => minDfT v16 (0 : Int)).bind fun level_20 => (apT s3.1 level_20).bind fun shares_21 => sqT (loopT (fun (x23 : Int) (s22 : (List Int)) => (if (!decide (x23 ∈ taken)) = true then (atI x4.2 x23).bind fun v24 => (v24).bind fun v26 => some (decide (v26 < level_20)) else some false).bind fun v28 => if v28 = true then ((atI s22 x23).bind fun v30 => (atI x4.2 x23).bind fun v32 => (v32).bind fun v34 => putT s22 x23 (v30 - (level_20 - v34))).bind fun y_36 => some (.nx y_36) else some (.nx s22)) able_6 s3.2) fun t37 => some (.nx (shares_21, t37))) (ei_en (ev_n 1)) (.s (.s (.s (.s (.s (.s (.n (.n (.n (.n (.n (.n .nil)))))))))))) (fun x4 s3 => (tg_2 (tg_n 6) (tg_n 7))) (fun x4 s3 => (bl_ss (ss_set 8 (GJ.o (ev_fL (el_comp (cc := fun (x5 : (Int × (Option Int))) => (x5.2.isSome && (!decide (x5.1 ∈ left)))) (gg := fun (x5 : (Int × (Option Int))) => x5.1) (ei_en (ev_n 7)) (fun (x5 : (Int × (Option Int))) => (tg_2 (tg_n 9) (tg_n 10))) (fun (x5 : (Int × (Option Int))) => (eb_and (eb_tb (ev_2 (ev_n 10) (ev_k (a := ())) (op_isn x5.2))) (eb_tb (ev_2 (ev_n 9) (ev_n 3) (op_nin (α := Int) x5.1 left))))) (fun (x5 : (Int × (Option Int))) => (ev_n 9)))))) (fun able_6 => (bl_ss (ss_set 11 (g_bind (elo_map (gg := fun (x7 : Int) => (atI x4.2 x7).bind fun v8 => (if (decide (x7 ∈ taken)) = true then some (0 : Int) else atI s3.2 x7).bind fun v12 => (v8).bind fun v14 => some (v14 + v12)) (ei_seq (ev_n 8)) (fun (x7 : Int) => (tg_n 9)) (fun (x7 : Int) => (g_bind (eo_2 (ev_n 7) (ev_n 9) (op_ix x4.2 x7)) fun v8 h9 => (g_bind (eo_if (eb_tb (ev_2 (ev_n 9) (ev_n 2) (op_in (α := Int) x7 taken))) (GJ.o (ev_k (a := (0 : Int)))) (ev_ixO 4 rfl (ev_n 9))) fun v12 h13 => (g_bind (eo_get h9) fun v14 h15 => (GJ.o (ev_2 h15 h13 (op_add v14 v12)))))))) fun v16 h17 => (eo_2 (ev_fL h17) (ev_k (a := (0 : Int))) (op_minDf v16 (0 : Int))))) (fun level_20 => (bl_ss (ss_app 5 rfl (ev_n 11)) (fun shares_21 => (bl_seql (ψ := fun (t37 : (List Int)) => [some (.fz (en (prices : (List Int)))), some (.fz (en (costs : (List (List (Option Int)))))), some (.fz (en (taken : (List Int)))), some (.fz (en (left : (List Int)))), some (olE (t37 : (List Int))), some (olE (shares_21 : (List Int))), some (.fz (en (x4.1 : Int))), some (.fz (en (x4.2 : (List (Option Int))))), some (.fz (en (able_6 : (List Int)))), none, none, some (.fz (en (level_20 : Int)))]) (bl_for (ψs := fun (s22 : (List Int)) => [some (.fz (en (prices : (List Int)))), some (.fz (en (costs : (List (List (Option Int)))))), some (.fz (en (taken : (List Int)))), some (.fz (en (left : (List Int)))), some (olE (s22 : (List Int))), some (olE (shares_21 : (List Int))), some (.fz (en (x4.1 : Int))), some (.fz (en (x4.2 : (List (Option Int))))), some (.fz (en (able_6 : (List Int)))), none, none, some (.fz (en (level_20 : Int)))]) (body := fun (x23 : Int) (s22 : (List Int)) => (if (!decide (x23 ∈ taken)) = true then (atI x4.2 x23).bind fun v24 => (v24).bind fun v26 => some (decide (v26 < level_20)) else some false).bind fun v28 => if v28 = true then ((atI s22 x23).bind fun v30 => (atI x4.2 x23).bind fun v32 => (v32).bind fun v34 => putT s22 x23 (v30 - (level_20 - v34))).bind fun y_36 => some (.nx y_36) else some (.nx s22)) (ei_seq (ev_n 8)) (.s (.s (.s (.s (.s (.s (.s (.s (.s (.n (.n (.s .nil)))))))))))) (fun x23 s22 => (tg_n 9)) (fun x23 s22 => (bl_bind (ebo_and (eb_tb (ev_2 (ev_n 9) (ev_n 2) (op_nin (α := Int) x23 taken))) (g_bind (eo_2 (ev_n 7) (ev_n 9) (op_ix x4.2 x23)) fun v24 h25 => (g_bind (eo_get h25) fun v26 h27 => (GJ.o (eb_tb (ev_2 h27 (ev_n 11) (op_lt v26 level_20))))))) fun v28 h29 => (bl_if h29 (bl_ssl (ss_bind (ev_ixO 4 rfl (ev_n 9)) fun v30 h31 => (ss_bind (eo_2 (ev_n 7) (ev_n 9) (op_ix x4.2 x23)) fun v32 h33 => (ss_bind (eo_get h33) fun v34 h35 => (ss_putL 4 rfl (ev_n 9) (ev_2 h31 (ev_2 (ev_n 11) h35 (op_sub level_20 v34)) (op_sub v30 (level_20 - v34))))))) (fun y_36 => (bl_nx (nf (.s (.s (.s (.s (.s (.s (.s (.s (.s (.n (.n (.s .nil)))))))))))))))) (bl_nx (nf (.s (.s (.s (.s (.s (.s (.s (.s (.s (.n (.n (.s .nil)))))))))))))))))) (fun t37 => (bl_nx (nf (.s (.s (.s (.s (.s (.s (.n (.n (.n (.n (.n (.n .nil)))))))))))))))))))))))) (fun t38 => (bl_retN 5 rfl rs)))))))
def T_shown (prices : (List Int)) (costs : (List (List (Option Int)))) (taken : (List Int)) (shares : (List Int)) : Option Int := ansT (
  (mapT (fun (x1 : Int) => atI prices x1) taken).bind fun v4 => some (.rt (v4.sum + shares.sum)))
theorem r_shown (prices : (List Int)) (costs : (List (List (Option Int)))) (taken : (List Int)) (shares : (List Int)) : ∀ r, T_shown prices costs taken shares = some r → ∃ s, F_shown [en prices, en costs, en taken, en shares] = some s ∧ frS s = some (en r) := by
  refine fn_f (N := fun _ _ => True) (B := fun _ _ => True) rfl ?_
  exact (bl_bind (elo_map (gg := fun (x1 : Int) => atI prices x1) (ei_seq (ev_n 2)) (fun (x1 : Int) => (tg_n 4)) (fun (x1 : Int) => (eo_2 (ev_n 0) (ev_n 4) (op_ix prices x1)))) fun v4 h5 => (bl_ret (ev_2 (ev_cB (ea_cons (ev_fL h5) ea_nil) (bi_sum v4)) (ev_cB (ea_cons (ev_n 3) ea_nil) (bi_sum shares)) (op_add v4.sum shares.sum)) rf))
def T_Choice_dead (self : C_Choice) (left : (List Int)) : Option (Option Int) := ansT (
  sqT (loopT (fun (x2 : (Int × (List (Option Int)))) (s1 : Unit) => if ((List.map (fun (x3 : (Int × (Option Int))) => (x3.2.isNone || (decide (x3.1 ∈ left)))) (enumT x2.2)).all id) = true then some (.rt (some x2.1 : (Option Int))) else some (.nx ())) (enumT self.costs) ()) fun t4 => some (.rt (none : (Option Int))))
theorem r_Choice_dead (self : C_Choice) (left : (List Int)) : ∀ r, T_Choice_dead self left = some r → ∃ s, F_Choice_dead [en self, en left] = some s ∧ frS s = some (en r) := by
  refine fn_f (N := fun _ _ => True) (B := fun _ _ => True) rfl ?_
  exact (bl_seq (ψ := fun (t4 : Unit) => [some (.fz (en (self : C_Choice))), some (.fz (en (left : (List Int)))), none, none, none, none]) (bl_for (ψs := fun (s1 : Unit) => [some (.fz (en (self : C_Choice))), some (.fz (en (left : (List Int)))), none, none, none, none]) (body := fun (x2 : (Int × (List (Option Int)))) (s1 : Unit) => if ((List.map (fun (x3 : (Int × (Option Int))) => (x3.2.isNone || (decide (x3.1 ∈ left)))) (enumT x2.2)).all id) = true then some (.rt (some x2.1 : (Option Int))) else some (.nx ())) (ei_en (ev_fld 1 (x := (self : C_Choice)) (a := (self.costs : (List (List (Option Int))))) (ev_n 0) rfl rfl)) (.s (.s (.n (.n (.n (.n .nil)))))) (fun x2 s1 => (tg_2 (tg_n 2) (tg_n 3))) (fun x2 s1 => (bl_if (eb_tr (a := (((List.map (fun (x3 : (Int × (Option Int))) => (x3.2.isNone || (decide (x3.1 ∈ left)))) (enumT x2.2)).all id) : Bool)) (ev_cB (ea_cons (ev_fL (el_map (gg := fun (x3 : (Int × (Option Int))) => (x3.2.isNone || (decide (x3.1 ∈ left)))) (ei_en (ev_n 3)) (fun (x3 : (Int × (Option Int))) => (tg_2 (tg_n 4) (tg_n 5))) (fun (x3 : (Int × (Option Int))) => (ev_or (ev_2 (ev_n 5) (ev_k (a := ())) (op_is x3.2)) (ev_2 (ev_n 4) (ev_n 1) (op_in (α := Int) x3.1 left)))))) ea_nil) (bi_all (List.map (fun (x3 : (Int × (Option Int))) => (x3.2.isNone || (decide (x3.1 ∈ left)))) (enumT x2.2))))) (bl_ret (ev_s (ev_n 2)) rf) (bl_nx (nf (.s (.s (.n (.n (.n (.n .nil))))))))))) (fun t4 => (bl_ret (ev_nn (ev_k (a := ()))) rf)))
def T_Choice_go : Nat → C_Choice → (List Int) → (List Int) → Option (Unit × C_Choice)
  | 0, _, _, _ => none
  | fu + 1, self, taken, left => ansI () (
  (T_Choice_dead self left).bind fun v1 => if v1.isSome = true then some (.rt ((), self)) else (T_raised self.prices self.costs taken left).bind fun shares_5 => (if self.cost.isSome = true then (T_shown self.prices self.costs taken shares_5).bind fun v6 => (self.cost).bind fun v8 => some (decide (v8 ≤ v6)) else some false).bind fun v10 => if v10 = true then some (.rt ((), self)) else (T_price_of self.prices self.costs taken).bind fun cost_14 => (if cost_14.isSome = true then if self.cost.isNone = true then some true else (cost_14).bind fun v15 => (self.cost).bind fun v17 => some (decide (v15 < v17)) else some false).bind fun v21 => sqT (if v21 = true then ((sortO taken).bind fun v27 => some (some v27 : (Option (List Int)))).bind fun best_29 => (some cost_14).bind fun cost_30 => some (.nx (C_Choice.mk ((C_Choice.mk self.prices self.costs best_29 self.cost).prices) ((C_Choice.mk self.prices self.costs best_29 self.cost).costs) ((C_Choice.mk self.prices self.costs best_29 self.cost).best) cost_30)) else some (.nx self)) fun t31 => ((rngT (t31.prices.length : Int)).bind fun v32 => some (List.map (fun (x34 : Int) => x34) (List.filter (fun (x34 : Int) => ((!decide (x34 ∈ taken)) && (!decide (x34 ∈ left)))) v32))).bind fun free_35 => if (!free_35.isEmpty) = true then ((atI free_35 (0 : Int)).bind fun v36 => (addL taken [v36]).bind fun v38 => T_Choice_go fu t31 v38 left).bind fun self_40 => ((atI free_35 (0 : Int)).bind fun v41 => (addL left [v41]).bind fun v43 => T_Choice_go fu self_40.2 taken v43).bind fun self_45 => some (.nx self_45.2) else some (.nx t31))
theorem r_Choice_go : ∀ (fu : Nat) (self : C_Choice) (taken : (List Int)) (left : (List Int)), ∀ r, T_Choice_go fu self taken left = some r → ∀ p, I_Choice_go fu p (ob_Choice self) [en taken, en left] = some (en r.1, ob_Choice r.2)
  | 0, self, taken, left => fun r e => by cases e
  | fu + 1, self, taken, left => by
    refine fn_o (ob := ob_Choice) (B := fun _ _ => True) rfl (by decide) rfl (fun p => ?_)
    exact (bl_bind (eo_cMS 0 (x := (self : C_Choice)) rfl rfl (ea_cons (ev_n 2) ea_nil) (r_Choice_dead self left)) fun v1 h2 => (bl_ifA (eb_tb (ev_2 h2 (ev_k (a := ())) (op_isn v1))) (bl_ret0 ri) (bl_skip (bl_ss (ss_set 3 (eo_call (ea_cons (ev_fldS 0 0 (a := (self.prices : (List Int))) rfl rfl) (ea_cons (ev_fldS 0 1 (a := (self.costs : (List (List (Option Int))))) rfl rfl) (ea_cons (ev_n 1) (ea_cons (ev_n 2) ea_nil)))) (ol_ret (r_raised self.prices self.costs taken left)))) (fun shares_5 => (bl_bind (ebo_and (eb_tb (ev_2 (ev_fldS 0 3 (a := (self.cost : (Option Int))) rfl rfl) (ev_k (a := ())) (op_isn self.cost))) (g_bind (eo_call (ea_cons (ev_fldS 0 0 (a := (self.prices : (List Int))) rfl rfl) (ea_cons (ev_fldS 0 1 (a := (self.costs : (List (List (Option Int))))) rfl rfl) (ea_cons (ev_n 1) (ea_cons (ev_n 3) ea_nil)))) (r_shown self.prices self.costs taken shares_5)) fun v6 h7 => (g_bind (eo_get (ev_fldS 0 3 (a := (self.cost : (Option Int))) rfl rfl)) fun v8 h9 => (GJ.o (eb_tb (ev_2 h7 h9 (op_ge v6 v8))))))) fun v10 h11 => (bl_ifA h11 (bl_ret0 ri) (bl_skip (bl_ss (ss_set 4 (eo_call (ea_cons (ev_fldS 0 0 (a := (self.prices : (List Int))) rfl rfl) (ea_cons (ev_fldS 0 1 (a := (self.costs : (List (List (Option Int))))) rfl rfl) (ea_cons (ev_n 1) ea_nil))) (r_price_of self.prices self.costs taken))) (fun cost_14 => (bl_bind (ebo_and (eb_tb (ev_2 (ev_n 4) (ev_k (a := ())) (op_isn cost_14))) (ebo_or (eb_tb (ev_2 (ev_fldS 0 3 (a := (self.cost : (Option Int))) rfl rfl) (ev_k (a := ())) (op_is self.cost))) (g_bind (eo_get (ev_n 4)) fun v15 h16 => (g_bind (eo_get (ev_fldS 0 3 (a := (self.cost : (Option Int))) rfl rfl)) fun v17 h18 => (GJ.o (eb_tb (ev_2 h16 h18 (op_lt v15 v17)))))))) fun v21 h22 => (bl_seq (ψ := fun (t31 : C_Choice) => [some (.at p (ob_Choice t31)), some (.fz (en (taken : (List Int)))), some (.fz (en (left : (List Int)))), some (.fz (en (shares_5 : (List Int)))), some (.fz (en (cost_14 : (Option Int)))), none, none]) (bl_if h22 (bl_ss (ss_fldR 0 2 rfl (g_bind (elo_cL (ea_cons (ev_n 1) ea_nil) (bi_sort taken)) fun v27 h28 => (GJ.o (ev_s (ev_fL h28))))) (fun best_29 => (bl_ssl (ss_fldR 0 3 rfl (GJ.o (ev_n 4))) (fun cost_30 => (bl_nx (nf (.s (.s (.s (.s (.s (.n (.n .nil))))))))))))) (bl_nx (nf (.s (.s (.s (.s (.s (.n (.n .nil)))))))))) (fun t31 => (bl_ss (ss_set 5 (g_bind (ei_r1 (ea_cons (ev_cB (ea_cons (ev_fldS 0 0 (a := (t31.prices : (List Int))) rfl rfl) ea_nil) (bi_len t31.prices)) ea_nil)) fun v32 h33 => (GJ.o (ev_fL (el_comp (cc := fun (x34 : Int) => ((!decide (x34 ∈ taken)) && (!decide (x34 ∈ left)))) (gg := fun (x34 : Int) => x34) h33 (fun (x34 : Int) => (tg_n 6)) (fun (x34 : Int) => (eb_and (eb_tb (ev_2 (ev_n 6) (ev_n 1) (op_nin (α := Int) x34 taken))) (eb_tb (ev_2 (ev_n 6) (ev_n 2) (op_nin (α := Int) x34 left))))) (fun (x34 : Int) => (ev_n 6))))))) (fun free_35 => (bl_if (eb_tr (a := (free_35 : (List Int))) (ev_n 5)) (bl_ss (ss_bind (eo_2 (ev_n 5) (ev_k (a := (0 : Int))) (op_ix free_35 (0 : Int))) fun v36 h37 => (ss_bind (eo_2 (ev_n 1) (ev_fL (el_lst (xs := ([v36] : List Int)) (ea_cons h37 ea_nil))) (op_addL taken [v36])) fun v38 h39 => (ss_exA (ob := ob_Choice) 0 rfl (ea_cons h39 (ea_cons (ev_n 2) ea_nil)) (r_Choice_go fu t31 v38 left)))) (fun self_40 => (bl_ssl (ss_bind (eo_2 (ev_n 5) (ev_k (a := (0 : Int))) (op_ix free_35 (0 : Int))) fun v41 h42 => (ss_bind (eo_2 (ev_n 2) (ev_fL (el_lst (xs := ([v41] : List Int)) (ea_cons h42 ea_nil))) (op_addL left [v41])) fun v43 h44 => (ss_exA (ob := ob_Choice) 0 rfl (ea_cons (ev_n 1) (ea_cons h44 ea_nil)) (r_Choice_go fu self_40.2 taken v43)))) (fun self_45 => (bl_nx ni))))) (bl_nx ni)))))))))))))))))
def T_Choice_prove : Nat → C_Choice → (List Int) → (List Int) → Option D
  | 0, _, _, _ => none
  | fu + 1, self, taken, left => ansT (
  (T_Choice_dead self left).bind fun part_3 => if part_3.isSome = true then some (.rt (.tup [en (("dead" : Str) : Str), en (part_3 : (Option Int))] : D)) else (T_raised self.prices self.costs taken left).bind fun shares_6 => (if self.cost.isSome = true then (T_shown self.prices self.costs taken shares_6).bind fun v7 => (self.cost).bind fun v9 => some (decide (v9 ≤ v7)) else some false).bind fun v11 => if v11 = true then some (.rt (.tup [en (("shares" : Str) : Str), en (shares_6 : (List Int))] : D)) else ((rngT (self.prices.length : Int)).bind fun v13 => some (List.map (fun (x15 : Int) => x15) (List.filter (fun (x15 : Int) => ((!decide (x15 ∈ taken)) && (!decide (x15 ∈ left)))) v13))).bind fun free_16 => ((atI free_16 (0 : Int)).bind fun v17 => (addL taken [v17]).bind fun v19 => T_Choice_prove fu self v19 left).bind fun one_23 => (atI free_16 (0 : Int)).bind fun v24 => (atI free_16 (0 : Int)).bind fun v26 => (addL left [v26]).bind fun v28 => (T_Choice_prove fu self taken v28).bind fun v30 => some (.rt (.tup [en (("size" : Str) : Str), en (v24 : Int), one_23, v30] : D)))
theorem r_Choice_prove : ∀ (fu : Nat) (self : C_Choice) (taken : (List Int)) (left : (List Int)), ∀ r, T_Choice_prove fu self taken left = some r → ∃ s, F_Choice_prove fu [en self, en taken, en left] = some s ∧ frS s = some (en r)
  | 0, self, taken, left => fun r e => by cases e
  | fu + 1, self, taken, left => by
    refine fn_f (N := fun _ _ => True) (B := fun _ _ => True) rfl ?_
    exact (bl_ss (ss_set 3 (eo_cM (x := (self : C_Choice)) (ev_n 0) rfl (ea_cons (ev_n 2) ea_nil) (r_Choice_dead self left))) (fun part_3 => (bl_ifA (eb_tb (ev_2 (ev_n 3) (ev_k (a := ())) (op_isn part_3))) (bl_ret (ev_tup (a := (.tup [en (("dead" : Str) : Str), en (part_3 : (Option Int))] : D)) (ea_cons (ev_k (a := ("dead" : Str))) (ea_cons (ev_n 3) ea_nil))) rf) (bl_skip (bl_ss (ss_set 4 (eo_call (ea_cons (ev_fld 0 (x := (self : C_Choice)) (a := (self.prices : (List Int))) (ev_n 0) rfl rfl) (ea_cons (ev_fld 1 (x := (self : C_Choice)) (a := (self.costs : (List (List (Option Int))))) (ev_n 0) rfl rfl) (ea_cons (ev_n 1) (ea_cons (ev_n 2) ea_nil)))) (ol_ret (r_raised self.prices self.costs taken left)))) (fun shares_6 => (bl_bind (ebo_and (eb_tb (ev_2 (ev_fld 3 (x := (self : C_Choice)) (a := (self.cost : (Option Int))) (ev_n 0) rfl rfl) (ev_k (a := ())) (op_isn self.cost))) (g_bind (eo_call (ea_cons (ev_fld 0 (x := (self : C_Choice)) (a := (self.prices : (List Int))) (ev_n 0) rfl rfl) (ea_cons (ev_fld 1 (x := (self : C_Choice)) (a := (self.costs : (List (List (Option Int))))) (ev_n 0) rfl rfl) (ea_cons (ev_n 1) (ea_cons (ev_n 4) ea_nil)))) (r_shown self.prices self.costs taken shares_6)) fun v7 h8 => (g_bind (eo_get (ev_fld 3 (x := (self : C_Choice)) (a := (self.cost : (Option Int))) (ev_n 0) rfl rfl)) fun v9 h10 => (GJ.o (eb_tb (ev_2 h8 h10 (op_ge v7 v9))))))) fun v11 h12 => (bl_ifA h12 (bl_ret (ev_tup (a := (.tup [en (("shares" : Str) : Str), en (shares_6 : (List Int))] : D)) (ea_cons (ev_k (a := ("shares" : Str))) (ea_cons (ev_n 4) ea_nil))) rf) (bl_skip (bl_ss (ss_set 5 (g_bind (ei_r1 (ea_cons (ev_cB (ea_cons (ev_fld 0 (x := (self : C_Choice)) (a := (self.prices : (List Int))) (ev_n 0) rfl rfl) ea_nil) (bi_len self.prices)) ea_nil)) fun v13 h14 => (GJ.o (ev_fL (el_comp (cc := fun (x15 : Int) => ((!decide (x15 ∈ taken)) && (!decide (x15 ∈ left)))) (gg := fun (x15 : Int) => x15) h14 (fun (x15 : Int) => (tg_n 6)) (fun (x15 : Int) => (eb_and (eb_tb (ev_2 (ev_n 6) (ev_n 1) (op_nin (α := Int) x15 taken))) (eb_tb (ev_2 (ev_n 6) (ev_n 2) (op_nin (α := Int) x15 left))))) (fun (x15 : Int) => (ev_n 6))))))) (fun free_16 => (bl_ss (ss_set 7 (g_bind (eo_2 (ev_n 5) (ev_k (a := (0 : Int))) (op_ix free_16 (0 : Int))) fun v17 h18 => (g_bind (eo_2 (ev_n 1) (ev_fL (el_lst (xs := ([v17] : List Int)) (ea_cons h18 ea_nil))) (op_addL taken [v17])) fun v19 h20 => (eo_cM (x := (self : C_Choice)) (ev_n 0) rfl (ea_cons h20 (ea_cons (ev_n 2) ea_nil)) (r_Choice_prove fu self v19 left))))) (fun one_23 => (bl_bind (eo_2 (ev_n 5) (ev_k (a := (0 : Int))) (op_ix free_16 (0 : Int))) fun v24 h25 => (bl_bind (eo_2 (ev_n 5) (ev_k (a := (0 : Int))) (op_ix free_16 (0 : Int))) fun v26 h27 => (bl_bind (eo_2 (ev_n 2) (ev_fL (el_lst (xs := ([v26] : List Int)) (ea_cons h27 ea_nil))) (op_addL left [v26])) fun v28 h29 => (bl_bind (eo_cM (x := (self : C_Choice)) (ev_n 0) rfl (ea_cons (ev_n 1) (ea_cons h29 ea_nil)) (r_Choice_prove fu self taken v28)) fun v30 h31 => (bl_ret (ev_tup (a := (.tup [en (("size" : Str) : Str), en (v24 : Int), one_23, v30] : D)) (ea_cons (ev_k (a := ("size" : Str))) (ea_cons h25 (ea_cons (ev_n 7) (ea_cons h31 ea_nil))))) rf))))))))))))))))))
def T_Choice_init (prices : (List Int)) (costs : (List (List (Option Int)))) : Option (Unit × C_Choice) := ansI () (
  (some prices).bind fun prices_1 => (some costs).bind fun costs_2 => (some (none : (Option (List Int)))).bind fun best_3 => (some (none : (Option Int))).bind fun cost_4 => some (.nx (C_Choice.mk prices_1 costs_2 best_3 cost_4)))
theorem r_Choice_init (prices : (List Int)) (costs : (List (List (Option Int)))) : ∀ r, T_Choice_init prices costs = some r → ∀ p, I_Choice_init p (.ob "Choice" [] []) [en prices, en costs] = some (en r.1, ob_Choice r.2) := by
  refine fn_o (ob := ob_Choice) (B := fun _ _ => True) rfl (by decide) rfl (fun p => ?_)
  exact (bl_ss (ss_fldN 0 rfl (GJ.o (ev_n 1))) (fun prices_1 => (bl_ss (ss_fldN 0 rfl (GJ.o (ev_n 2))) (fun costs_2 => (bl_ss (ss_fldN 0 rfl (GJ.o (ev_nn (ev_k (a := ()))))) (fun best_3 => (bl_ssl (ss_fldN 0 rfl (GJ.o (ev_nn (ev_k (a := ()))))) (fun cost_4 => (bl_nx ni)))))))))
def T_sizes (prices : (List Int)) (costs : (List (List (Option Int)))) : Option D := ansT (
  (T_Choice_init prices costs).bind fun search_1 => (T_Choice_go 12 search_1.2 ([] : List Int) ([] : List Int)).bind fun search_2 => (T_Choice_prove 12 search_2.2 ([] : List Int) ([] : List Int)).bind fun tree_5 => some (.rt (if search_2.2.best.isNone = true then (.tup [en (("never" : Str) : Str), tree_5] : D) else (.tup [en (("sizes" : Str) : Str), en (search_2.2.best : (Option (List Int))), en (search_2.2.cost : (Option Int)), tree_5] : D))))
theorem r_sizes (prices : (List Int)) (costs : (List (List (Option Int)))) : ∀ r, T_sizes prices costs = some r → ∃ s, F_sizes [en prices, en costs] = some s ∧ frS s = some (en r) := by
  refine fn_f (N := fun _ _ => True) (B := fun _ _ => True) rfl ?_
  exact (bl_ss (ss_mk 2 (ob := ob_Choice) (ea_cons (ev_n 0) (ea_cons (ev_n 1) ea_nil)) (r_Choice_init prices costs)) (fun search_1 => (bl_ss (ss_exO (ob := ob_Choice) 2 rfl (ea_cons (ev_fL (el_lst (xs := ([] : List Int)) ea_nil)) (ea_cons (ev_fL (el_lst (xs := ([] : List Int)) ea_nil)) ea_nil)) (r_Choice_go 12 search_1.2 ([] : List Int) ([] : List Int))) (fun search_2 => (bl_fzs 2 rfl (rfl : frS (ob_Choice search_2.2) = some (en (search_2.2 : C_Choice))) (bl_ss (ss_set 3 (eo_cM (x := (search_2.2 : C_Choice)) (ev_n 2) rfl (ea_cons (ev_fL (el_lst (xs := ([] : List Int)) ea_nil)) (ea_cons (ev_fL (el_lst (xs := ([] : List Int)) ea_nil)) ea_nil)) (r_Choice_prove 12 search_2.2 ([] : List Int) ([] : List Int)))) (fun tree_5 => (bl_fzF 2 rfl (bl_ret (ev_if (eb_tb (ev_2 (ev_fld 2 (x := (search_2.2 : C_Choice)) (a := (search_2.2.best : (Option (List Int)))) (ev_n 2) rfl rfl) (ev_k (a := ())) (op_is search_2.2.best))) (ev_tup (a := (.tup [en (("never" : Str) : Str), tree_5] : D)) (ea_cons (ev_k (a := ("never" : Str))) (ea_cons (ev_n 3) ea_nil))) (ev_tup (a := (.tup [en (("sizes" : Str) : Str), en (search_2.2.best : (Option (List Int))), en (search_2.2.cost : (Option Int)), tree_5] : D)) (ea_cons (ev_k (a := ("sizes" : Str))) (ea_cons (ev_fld 2 (x := (search_2.2 : C_Choice)) (a := (search_2.2.best : (Option (List Int)))) (ev_n 2) rfl rfl) (ea_cons (ev_fld 3 (x := (search_2.2 : C_Choice)) (a := (search_2.2.cost : (Option Int))) (ev_n 2) rfl rfl) (ea_cons (ev_n 3) ea_nil)))))) rf)))))))))
def T_shares_right (prices : (List Int)) (costs : (List (List (Option Int)))) (taken : (List Int)) (left : (List Int)) (bound : (Option Int)) (shares : (List Int)) : Option Bool := ansT (
  if (bound.isNone || (!decide ((shares.length : Int) = (costs.length : Int)))) = true then some (.rt false) else sqT (loopT (fun (x2 : (Int × Int)) (s1 : Unit) => if (!decide (x2.1 ∈ left)) = true then (some (0 : Int)).bind fun over_3 => sqT (loopT (fun (x5 : (Int × (List (Option Int)))) (s4 : Int) => (atI x5.2 x2.1).bind fun v6 => if v6.isSome = true then ((atI shares x5.1).bind fun v8 => (atI x5.2 x2.1).bind fun v10 => (v10).bind fun v12 => some (s4 + (max (0 : Int) (v8 - v12)))).bind fun over_14 => some (.nx over_14) else some (.nx s4)) (enumT costs) over_3) fun t15 => if (decide ((if (decide (x2.1 ∈ taken)) = true then (0 : Int) else x2.2) < t15)) = true then some (.rt false) else some (.nx ()) else some (.nx ())) (enumT prices) ()) fun t16 => (T_shown prices costs taken shares).bind fun v17 => (bound).bind fun v19 => some (.rt (decide (v19 ≤ v17))))
theorem r_shares_right (prices : (List Int)) (costs : (List (List (Option Int)))) (taken : (List Int)) (left : (List Int)) (bound : (Option Int)) (shares : (List Int)) : ∀ r, T_shares_right prices costs taken left bound shares = some r → ∃ s, F_shares_right [en prices, en costs, en taken, en left, en bound, en shares] = some s ∧ frS s = some (en r) := by
  refine fn_f (N := fun _ _ => True) (B := fun _ _ => True) rfl ?_
  exact (bl_ifA (eb_or (eb_tb (ev_2 (ev_n 4) (ev_k (a := ())) (op_is bound))) (eb_tb (ev_2 (ev_cB (ea_cons (ev_n 5) ea_nil) (bi_len shares)) (ev_cB (ea_cons (ev_n 1) ea_nil) (bi_len costs)) (op_ne (α := Int) (shares.length : Int) (costs.length : Int))))) (bl_ret (ev_k (a := false)) rf) (bl_skip (bl_seq (ψ := fun (t16 : Unit) => [some (.fz (en (prices : (List Int)))), some (.fz (en (costs : (List (List (Option Int)))))), some (.fz (en (taken : (List Int)))), some (.fz (en (left : (List Int)))), some (.fz (en (bound : (Option Int)))), some (.fz (en (shares : (List Int)))), none, none, none, none, none]) (bl_for (ψs := fun (s1 : Unit) => [some (.fz (en (prices : (List Int)))), some (.fz (en (costs : (List (List (Option Int)))))), some (.fz (en (taken : (List Int)))), some (.fz (en (left : (List Int)))), some (.fz (en (bound : (Option Int)))), some (.fz (en (shares : (List Int)))), none, none, none, none, none]) (body := fun (x2 : (Int × Int)) (s1 : Unit) => if (!decide (x2.1 ∈ left)) = true then (some (0 : Int)).bind fun over_3 => sqT (loopT (fun (x5 : (Int × (List (Option Int)))) (s4 : Int) => (atI x5.2 x2.1).bind fun v6 => if v6.isSome = true then ((atI shares x5.1).bind fun v8 => (atI x5.2 x2.1).bind fun v10 => (v10).bind fun v12 => some (s4 + (max (0 : Int) (v8 - v12)))).bind fun over_14 => some (.nx over_14) else some (.nx s4)) (enumT costs) over_3) fun t15 => if (decide ((if (decide (x2.1 ∈ taken)) = true then (0 : Int) else x2.2) < t15)) = true then some (.rt false) else some (.nx ()) else some (.nx ())) (ei_en (ev_n 0)) (.s (.s (.s (.s (.s (.s (.n (.n (.n (.n (.n .nil))))))))))) (fun x2 s1 => (tg_2 (tg_n 6) (tg_n 7))) (fun x2 s1 => (bl_if (eb_tb (ev_2 (ev_n 6) (ev_n 3) (op_nin (α := Int) x2.1 left))) (bl_ss (ss_set 8 (GJ.o (ev_k (a := (0 : Int))))) (fun over_3 => (bl_seq (ψ := fun (t15 : Int) => [some (.fz (en (prices : (List Int)))), some (.fz (en (costs : (List (List (Option Int)))))), some (.fz (en (taken : (List Int)))), some (.fz (en (left : (List Int)))), some (.fz (en (bound : (Option Int)))), some (.fz (en (shares : (List Int)))), some (.fz (en (x2.1 : Int))), some (.fz (en (x2.2 : Int))), some (.fz (en (t15 : Int))), none, none]) (bl_for (ψs := fun (s4 : Int) => [some (.fz (en (prices : (List Int)))), some (.fz (en (costs : (List (List (Option Int)))))), some (.fz (en (taken : (List Int)))), some (.fz (en (left : (List Int)))), some (.fz (en (bound : (Option Int)))), some (.fz (en (shares : (List Int)))), some (.fz (en (x2.1 : Int))), some (.fz (en (x2.2 : Int))), some (.fz (en (s4 : Int))), none, none]) (body := fun (x5 : (Int × (List (Option Int)))) (s4 : Int) => (atI x5.2 x2.1).bind fun v6 => if v6.isSome = true then ((atI shares x5.1).bind fun v8 => (atI x5.2 x2.1).bind fun v10 => (v10).bind fun v12 => some (s4 + (max (0 : Int) (v8 - v12)))).bind fun over_14 => some (.nx over_14) else some (.nx s4)) (ei_en (ev_n 1)) (.s (.s (.s (.s (.s (.s (.s (.s (.s (.n (.n .nil))))))))))) (fun x5 s4 => (tg_2 (tg_n 9) (tg_n 10))) (fun x5 s4 => (bl_bind (eo_2 (ev_n 10) (ev_n 6) (op_ix x5.2 x2.1)) fun v6 h7 => (bl_if (eb_tb (ev_2 h7 (ev_k (a := ())) (op_isn v6))) (bl_ssl (ss_set 8 (g_bind (eo_2 (ev_n 5) (ev_n 9) (op_ix shares x5.1)) fun v8 h9 => (g_bind (eo_2 (ev_n 10) (ev_n 6) (op_ix x5.2 x2.1)) fun v10 h11 => (g_bind (eo_get h11) fun v12 h13 => (GJ.o (ev_2 (ev_n 8) (ev_cB (ea_cons (ev_k (a := (0 : Int))) (ea_cons (ev_2 h9 h13 (op_sub v8 v12)) ea_nil)) (bi_max2 (0 : Int) (v8 - v12))) (op_add s4 (max (0 : Int) (v8 - v12))))))))) (fun over_14 => (bl_nx (nf (.s (.s (.s (.s (.s (.s (.s (.s (.s (.n (.n .nil))))))))))))))) (bl_nx (nf (.s (.s (.s (.s (.s (.s (.s (.s (.s (.n (.n .nil))))))))))))))))) (fun t15 => (bl_if (eb_tb (ev_2 (ev_n 8) (ev_if (eb_tb (ev_2 (ev_n 6) (ev_n 2) (op_in (α := Int) x2.1 taken))) (ev_k (a := (0 : Int))) (ev_n 7)) (op_gt t15 (if (decide (x2.1 ∈ taken)) = true then (0 : Int) else x2.2)))) (bl_ret (ev_k (a := false)) rf) (bl_nx (nf (.s (.s (.s (.s (.s (.s (.n (.n (.n (.n (.n .nil)))))))))))))))))) (bl_nx (nf (.s (.s (.s (.s (.s (.s (.n (.n (.n (.n (.n .nil)))))))))))))))) (fun t16 => (bl_bind (eo_call (ea_cons (ev_n 0) (ea_cons (ev_n 1) (ea_cons (ev_n 2) (ea_cons (ev_n 5) ea_nil)))) (r_shown prices costs taken shares)) fun v17 h18 => (bl_bind (eo_get (ev_n 4)) fun v19 h20 => (bl_ret (ev_2 h18 h20 (op_ge v17 v19)) rf)))))))
def T_tree_fault : Nat → (List Int) → (List (List (Option Int))) → (List Int) → (List Int) → (Option Int) → (List (Int × Int)) → D → Option D
  | 0, _, _, _, _, _, _, _ => none
  | fu + 1, prices, costs, taken, left, bound, path, tree => ansT (
  (dIx tree (.int (0 : Int))).bind fun v1 => (eqDT v1 (en (("dead" : Str) : Str) : D)).bind fun v3 => if v3 = true then ((dIx tree (.int (1 : Int))).bind fun v5 => ((De.de v5 : Option Int)).bind fun v7 => some ((decide ((0 : Int) ≤ v7)) && (decide (v7 < (costs.length : Int))))).bind fun inside_9 => (if inside_9 = true then (dIx tree (.int (1 : Int))).bind fun v10 => ((De.de v10 : Option Int)).bind fun v12 => (atI costs v12).bind fun v14 => some ((List.map (fun (x16 : (Int × (Option Int))) => (x16.2.isNone || (decide (x16.1 ∈ left)))) (enumT v14)).all id) else some false).bind fun dead_19 => some (.rt (if dead_19 = true then (en (() : Unit) : D) else (.tup [en (("dead" : Str) : Str), en (path : (List (Int × Int)))] : D))) else (dIx tree (.int (0 : Int))).bind fun v20 => (eqDT v20 (en (("shares" : Str) : Str) : D)).bind fun v22 => if v22 = true then (dIx tree (.int (1 : Int))).bind fun v24 => ((De.de v24 : Option (List Int))).bind fun v26 => (T_shares_right prices costs taken left bound v26).bind fun v28 => some (.rt (if v28 = true then (en (() : Unit) : D) else (.tup [en (("shares" : Str) : Str), en (path : (List (Int × Int)))] : D))) else ((De.de tree : Option (T4 Str Int D D))).bind fun y_33 => if ((!((decide ((0 : Int) ≤ y_33.b)) && (decide (y_33.b < (prices.length : Int))))) || ((decide (y_33.b ∈ taken)) || (decide (y_33.b ∈ left)))) = true then some (.rt (.tup [en (("size" : Str) : Str), en (path : (List (Int × Int)))] : D)) else ((addL taken [y_33.b]).bind fun v34 => (addL path [(y_33.b, (1 : Int))]).bind fun v36 => T_tree_fault fu prices costs v34 left bound v36 y_33.c).bind fun fault_40 => if (!nonD fault_40) = true then some (.rt fault_40) else (addL left [y_33.b]).bind fun v41 => (addL path [(y_33.b, (0 : Int))]).bind fun v43 => (T_tree_fault fu prices costs taken v41 bound v43 y_33.d).bind fun v45 => some (.rt v45))
theorem r_tree_fault : ∀ (fu : Nat) (prices : (List Int)) (costs : (List (List (Option Int)))) (taken : (List Int)) (left : (List Int)) (bound : (Option Int)) (path : (List (Int × Int))) (tree : D), ∀ r, T_tree_fault fu prices costs taken left bound path tree = some r → ∃ s, F_tree_fault fu [en prices, en costs, en taken, en left, en bound, en path, en tree] = some s ∧ frS s = some (en r)
  | 0, prices, costs, taken, left, bound, path, tree => fun r e => by cases e
  | fu + 1, prices, costs, taken, left, bound, path, tree => by
    refine fn_f (N := fun _ _ => True) (B := fun _ _ => True) rfl ?_
    exact (bl_bind (eo_2 (ev_n 6) (ev_k (a := (0 : Int))) (op_ixD tree (0 : Int))) fun v1 h2 => (bl_bind (eo_2 h2 (ev_d (ev_k (a := ("dead" : Str)))) (op_eqD v1 (en (("dead" : Str) : Str) : D))) fun v3 h4 => (bl_ifA (eb_tb h4) (bl_ss (ss_set 7 (g_bind (eo_2 (ev_n 6) (ev_k (a := (1 : Int))) (op_ixD tree (1 : Int))) fun v5 h6 => (g_bind (eo_de h6) fun v7 h8 => (GJ.o (ev_ch (ev_k (a := (0 : Int))) h8 (ev_cB (ea_cons (ev_n 1) ea_nil) (bi_len costs)) (op_le (0 : Int) v7) (op_lt v7 (costs.length : Int))))))) (fun inside_9 => (bl_ss (ss_set 8 (eo_and (ev_n 7) (g_bind (eo_2 (ev_n 6) (ev_k (a := (1 : Int))) (op_ixD tree (1 : Int))) fun v10 h11 => (g_bind (eo_de h11) fun v12 h13 => (g_bind (eo_2 (ev_n 1) h13 (op_ix costs v12)) fun v14 h15 => (GJ.o (ev_cB (ea_cons (ev_fL (el_map (gg := fun (x16 : (Int × (Option Int))) => (x16.2.isNone || (decide (x16.1 ∈ left)))) (ei_en h15) (fun (x16 : (Int × (Option Int))) => (tg_2 (tg_n 9) (tg_n 10))) (fun (x16 : (Int × (Option Int))) => (ev_or (ev_2 (ev_n 10) (ev_k (a := ())) (op_is x16.2)) (ev_2 (ev_n 9) (ev_n 3) (op_in (α := Int) x16.1 left)))))) ea_nil) (bi_all (List.map (fun (x16 : (Int × (Option Int))) => (x16.2.isNone || (decide (x16.1 ∈ left)))) (enumT v14)))))))))) (fun dead_19 => (bl_ret (ev_if (eb_tr (a := (dead_19 : Bool)) (ev_n 8)) (ev_d (ev_k (a := ()))) (ev_tup (a := (.tup [en (("dead" : Str) : Str), en (path : (List (Int × Int)))] : D)) (ea_cons (ev_k (a := ("dead" : Str))) (ea_cons (ev_n 5) ea_nil)))) rf))))) (bl_skip (bl_bind (eo_2 (ev_n 6) (ev_k (a := (0 : Int))) (op_ixD tree (0 : Int))) fun v20 h21 => (bl_bind (eo_2 h21 (ev_d (ev_k (a := ("shares" : Str)))) (op_eqD v20 (en (("shares" : Str) : Str) : D))) fun v22 h23 => (bl_ifA (eb_tb h23) (bl_bind (eo_2 (ev_n 6) (ev_k (a := (1 : Int))) (op_ixD tree (1 : Int))) fun v24 h25 => (bl_bind (eo_de h25) fun v26 h27 => (bl_bind (eo_call (ea_cons (ev_n 0) (ea_cons (ev_n 1) (ea_cons (ev_n 2) (ea_cons (ev_n 3) (ea_cons (ev_n 4) (ea_cons h27 ea_nil)))))) (r_shares_right prices costs taken left bound v26)) fun v28 h29 => (bl_ret (ev_if (eb_tr (a := (v28 : Bool)) h29) (ev_d (ev_k (a := ()))) (ev_tup (a := (.tup [en (("shares" : Str) : Str), en (path : (List (Int × Int)))] : D)) (ea_cons (ev_k (a := ("shares" : Str))) (ea_cons (ev_n 5) ea_nil)))) rf)))) (bl_skip (bl_ss (ss_tg (eo_de (ev_n 6)) (fun y32 => (tg_4 (tg_n 11) (tg_n 9) (tg_n 12) (tg_n 13)))) (fun y_33 => (bl_ifA (eb_or (eb_not (eb_tb (ev_ch (ev_k (a := (0 : Int))) (ev_n 9) (ev_cB (ea_cons (ev_n 0) ea_nil) (bi_len prices)) (op_le (0 : Int) y_33.b) (op_lt y_33.b (prices.length : Int))))) (eb_or (eb_tb (ev_2 (ev_n 9) (ev_n 2) (op_in (α := Int) y_33.b taken))) (eb_tb (ev_2 (ev_n 9) (ev_n 3) (op_in (α := Int) y_33.b left))))) (bl_ret (ev_tup (a := (.tup [en (("size" : Str) : Str), en (path : (List (Int × Int)))] : D)) (ea_cons (ev_k (a := ("size" : Str))) (ea_cons (ev_n 5) ea_nil))) rf) (bl_skip (bl_ss (ss_set 14 (g_bind (eo_2 (ev_n 2) (ev_fL (el_lst (xs := ([y_33.b] : List Int)) (ea_cons (ev_n 9) ea_nil))) (op_addL taken [y_33.b])) fun v34 h35 => (g_bind (eo_2 (ev_n 5) (ev_fL (el_lst (xs := ([(y_33.b, (1 : Int))] : List (Int × Int))) (ea_cons (ev_tup (a := ((y_33.b, (1 : Int)) : (Int × Int))) (ea_cons (ev_n 9) (ea_cons (ev_k (a := (1 : Int))) ea_nil))) ea_nil))) (op_addL path [(y_33.b, (1 : Int))])) fun v36 h37 => (eo_call (ea_cons (ev_n 0) (ea_cons (ev_n 1) (ea_cons h35 (ea_cons (ev_n 3) (ea_cons (ev_n 4) (ea_cons h37 (ea_cons (ev_n 12) ea_nil))))))) (r_tree_fault fu prices costs v34 left bound v36 y_33.c))))) (fun fault_40 => (bl_ifA (eb_tb (ev_2 (ev_n 14) (ev_k (a := ())) (op_isnD fault_40))) (bl_ret (ev_n 14) rf) (bl_skip (bl_bind (eo_2 (ev_n 3) (ev_fL (el_lst (xs := ([y_33.b] : List Int)) (ea_cons (ev_n 9) ea_nil))) (op_addL left [y_33.b])) fun v41 h42 => (bl_bind (eo_2 (ev_n 5) (ev_fL (el_lst (xs := ([(y_33.b, (0 : Int))] : List (Int × Int))) (ea_cons (ev_tup (a := ((y_33.b, (0 : Int)) : (Int × Int))) (ea_cons (ev_n 9) (ea_cons (ev_k (a := (0 : Int))) ea_nil))) ea_nil))) (op_addL path [(y_33.b, (0 : Int))])) fun v43 h44 => (bl_bind (eo_call (ea_cons (ev_n 0) (ea_cons (ev_n 1) (ea_cons (ev_n 2) (ea_cons h42 (ea_cons (ev_n 4) (ea_cons h44 (ea_cons (ev_n 13) ea_nil))))))) (r_tree_fault fu prices costs taken v41 bound v43 y_33.d)) fun v45 h46 => (bl_ret h46 rf))))))))))))))))))))
def T_sizes_fault (prices : (List Int)) (costs : (List (List (Option Int)))) (told : D) : Option D := ansT (
  (dIx told (.int (0 : Int))).bind fun v1 => (eqDT v1 (en (("never" : Str) : Str) : D)).bind fun v3 => if v3 = true then ((dIx told (.int (1 : Int))).bind fun v5 => T_tree_fault 12 prices costs ([] : List Int) ([] : List Int) (none : (Option Int)) ([] : List (Int × Int)) v5).bind fun fault_9 => some (.rt (if (nonD fault_9) = true then (en (() : Unit) : D) else (.tup [en (("tree" : Str) : Str), fault_9] : D))) else ((De.de told : Option (T4 Str (List Int) Int D))).bind fun y_13 => ((rngT ((y_13.b.length : Int) - (1 : Int))).bind fun v14 => (mapT (fun (x16 : Int) => (atI y_13.b x16).bind fun v17 => (atI y_13.b (x16 + (1 : Int))).bind fun v19 => some (decide (v17 < v19))) v14).bind fun v21 => some (v21.all id)).bind fun rising_23 => if ((!rising_23) || (!((List.map (fun (x24 : Int) => ((decide ((0 : Int) ≤ x24)) && (decide (x24 < (prices.length : Int))))) y_13.b).all id))) = true then some (.rt (.tup [en (("options" : Str) : Str)] : D)) else (rngT (costs.length : Int)).bind fun v25 => sqT (loopT (fun (x28 : Int) (s27 : Unit) => (T_served costs y_13.b x28).bind fun v29 => if v29.isNone = true then some (.rt (.tup [en (("part" : Str) : Str), en (x28 : Int)] : D)) else some (.nx ())) v25 ()) fun t31 => (T_price_of prices costs y_13.b).bind fun v32 => if (!decide (v32 = (some y_13.c : (Option Int)))) = true then some (.rt (.tup [en (("cost" : Str) : Str)] : D)) else (T_tree_fault 12 prices costs ([] : List Int) ([] : List Int) (some y_13.c : (Option Int)) ([] : List (Int × Int)) y_13.d).bind fun fault_36 => some (.rt (if (nonD fault_36) = true then (en (() : Unit) : D) else (.tup [en (("tree" : Str) : Str), fault_36] : D))))
theorem r_sizes_fault (prices : (List Int)) (costs : (List (List (Option Int)))) (told : D) : ∀ r, T_sizes_fault prices costs told = some r → ∃ s, F_sizes_fault [en prices, en costs, en told] = some s ∧ frS s = some (en r) := by
  refine fn_f (N := fun _ _ => True) (B := fun _ _ => True) rfl ?_
  exact (bl_bind (eo_2 (ev_n 2) (ev_k (a := (0 : Int))) (op_ixD told (0 : Int))) fun v1 h2 => (bl_bind (eo_2 h2 (ev_d (ev_k (a := ("never" : Str)))) (op_eqD v1 (en (("never" : Str) : Str) : D))) fun v3 h4 => (bl_ifA (eb_tb h4) (bl_ss (ss_set 3 (g_bind (eo_2 (ev_n 2) (ev_k (a := (1 : Int))) (op_ixD told (1 : Int))) fun v5 h6 => (eo_call (ea_cons (ev_n 0) (ea_cons (ev_n 1) (ea_cons (ev_fL (el_lst (xs := ([] : List Int)) ea_nil)) (ea_cons (ev_fL (el_lst (xs := ([] : List Int)) ea_nil)) (ea_cons (ev_nn (ev_k (a := ()))) (ea_cons (ev_fL (el_lst (xs := ([] : List (Int × Int))) ea_nil)) (ea_cons h6 ea_nil))))))) (r_tree_fault 12 prices costs ([] : List Int) ([] : List Int) (none : (Option Int)) ([] : List (Int × Int)) v5)))) (fun fault_9 => (bl_ret (ev_if (eb_tb (ev_2 (ev_n 3) (ev_k (a := ())) (op_isD fault_9))) (ev_d (ev_k (a := ()))) (ev_tup (a := (.tup [en (("tree" : Str) : Str), fault_9] : D)) (ea_cons (ev_k (a := ("tree" : Str))) (ea_cons (ev_n 3) ea_nil)))) rf))) (bl_skip (bl_ss (ss_tg (eo_de (ev_n 2)) (fun y12 => (tg_4 (tg_n 4) (tg_n 5) (tg_n 6) (tg_n 7)))) (fun y_13 => (bl_ss (ss_set 8 (g_bind (ei_r1 (ea_cons (ev_2 (ev_cB (ea_cons (ev_n 5) ea_nil) (bi_len y_13.b)) (ev_k (a := (1 : Int))) (op_sub (y_13.b.length : Int) (1 : Int))) ea_nil)) fun v14 h15 => (g_bind (elo_map (gg := fun (x16 : Int) => (atI y_13.b x16).bind fun v17 => (atI y_13.b (x16 + (1 : Int))).bind fun v19 => some (decide (v17 < v19))) h15 (fun (x16 : Int) => (tg_n 9)) (fun (x16 : Int) => (g_bind (eo_2 (ev_n 5) (ev_n 9) (op_ix y_13.b x16)) fun v17 h18 => (g_bind (eo_2 (ev_n 5) (ev_2 (ev_n 9) (ev_k (a := (1 : Int))) (op_add x16 (1 : Int))) (op_ix y_13.b (x16 + (1 : Int)))) fun v19 h20 => (GJ.o (ev_2 h18 h20 (op_lt v17 v19))))))) fun v21 h22 => (GJ.o (ev_cB (ea_cons (ev_fL h22) ea_nil) (bi_all v21)))))) (fun rising_23 => (bl_ifA (eb_or (eb_not (eb_tr (a := (rising_23 : Bool)) (ev_n 8))) (eb_not (eb_tr (a := (((List.map (fun (x24 : Int) => ((decide ((0 : Int) ≤ x24)) && (decide (x24 < (prices.length : Int))))) y_13.b).all id) : Bool)) (ev_cB (ea_cons (ev_fL (el_map (gg := fun (x24 : Int) => ((decide ((0 : Int) ≤ x24)) && (decide (x24 < (prices.length : Int))))) (ei_seq (ev_n 5)) (fun (x24 : Int) => (tg_n 10)) (fun (x24 : Int) => (ev_ch (ev_k (a := (0 : Int))) (ev_n 10) (ev_cB (ea_cons (ev_n 0) ea_nil) (bi_len prices)) (op_le (0 : Int) x24) (op_lt x24 (prices.length : Int)))))) ea_nil) (bi_all (List.map (fun (x24 : Int) => ((decide ((0 : Int) ≤ x24)) && (decide (x24 < (prices.length : Int))))) y_13.b)))))) (bl_ret (ev_tup (a := (.tup [en (("options" : Str) : Str)] : D)) (ea_cons (ev_k (a := ("options" : Str))) ea_nil)) rf) (bl_skip (bl_bind (ei_r1 (ea_cons (ev_cB (ea_cons (ev_n 1) ea_nil) (bi_len costs)) ea_nil)) fun v25 h26 => (bl_seq (ψ := fun (t31 : Unit) => [some (.fz (en (prices : (List Int)))), some (.fz (en (costs : (List (List (Option Int)))))), some (.fz (en (told : D))), none, some (.fz (en (y_13.a : Str))), some (.fz (en (y_13.b : (List Int)))), some (.fz (en (y_13.c : Int))), some (.fz (en (y_13.d : D))), some (.fz (en (rising_23 : Bool))), none, none, none]) (bl_for (ψs := fun (s27 : Unit) => [some (.fz (en (prices : (List Int)))), some (.fz (en (costs : (List (List (Option Int)))))), some (.fz (en (told : D))), none, some (.fz (en (y_13.a : Str))), some (.fz (en (y_13.b : (List Int)))), some (.fz (en (y_13.c : Int))), some (.fz (en (y_13.d : D))), some (.fz (en (rising_23 : Bool))), none, none, none]) (body := fun (x28 : Int) (s27 : Unit) => (T_served costs y_13.b x28).bind fun v29 => if v29.isNone = true then some (.rt (.tup [en (("part" : Str) : Str), en (x28 : Int)] : D)) else some (.nx ())) h26 (.s (.s (.s (.n (.s (.s (.s (.s (.s (.n (.n (.n .nil)))))))))))) (fun x28 s27 => (tg_n 11)) (fun x28 s27 => (bl_bind (eo_call (ea_cons (ev_n 1) (ea_cons (ev_n 5) (ea_cons (ev_n 11) ea_nil))) (r_served costs y_13.b x28)) fun v29 h30 => (bl_if (eb_tb (ev_2 h30 (ev_k (a := ())) (op_is v29))) (bl_ret (ev_tup (a := (.tup [en (("part" : Str) : Str), en (x28 : Int)] : D)) (ea_cons (ev_k (a := ("part" : Str))) (ea_cons (ev_n 11) ea_nil))) rf) (bl_nx (nf (.s (.s (.s (.n (.s (.s (.s (.s (.s (.n (.n (.n .nil)))))))))))))))))) (fun t31 => (bl_bind (eo_call (ea_cons (ev_n 0) (ea_cons (ev_n 1) (ea_cons (ev_n 5) ea_nil))) (r_price_of prices costs y_13.b)) fun v32 h33 => (bl_ifA (eb_tb (ev_2 h33 (ev_s (ev_n 6)) (op_ne (α := (Option Int)) v32 (some y_13.c : (Option Int))))) (bl_ret (ev_tup (a := (.tup [en (("cost" : Str) : Str)] : D)) (ea_cons (ev_k (a := ("cost" : Str))) ea_nil)) rf) (bl_skip (bl_ss (ss_set 3 (eo_call (ea_cons (ev_n 0) (ea_cons (ev_n 1) (ea_cons (ev_fL (el_lst (xs := ([] : List Int)) ea_nil)) (ea_cons (ev_fL (el_lst (xs := ([] : List Int)) ea_nil)) (ea_cons (ev_s (ev_n 6)) (ea_cons (ev_fL (el_lst (xs := ([] : List (Int × Int))) ea_nil)) (ea_cons (ev_n 7) ea_nil))))))) (r_tree_fault 12 prices costs ([] : List Int) ([] : List Int) (some y_13.c : (Option Int)) ([] : List (Int × Int)) y_13.d))) (fun fault_36 => (bl_ret (ev_if (eb_tb (ev_2 (ev_n 3) (ev_k (a := ())) (op_isD fault_36))) (ev_d (ev_k (a := ()))) (ev_tup (a := (.tup [en (("tree" : Str) : Str), fault_36] : D)) (ea_cons (ev_k (a := ("tree" : Str))) (ea_cons (ev_n 3) ea_nil)))) rf)))))))))))))))))))
def T_waste_costs (parts : (List (Int × Int))) (plates : (List (Int × Int))) : Option (List (List (Option Int))) := ansT (
  (some ([] : List (List (Option Int)))).bind fun found_1 => sqT (loopT (fun (x3 : (Int × Int)) (s2 : (List (List (Option Int)))) => (some ([] : List (Option Int))).bind fun row_4 => sqT (loopT (fun (x6 : (Int × Int)) (s5 : (List (Option Int))) => (some (((decide (x3.1 ≤ x6.1)) && (decide (x3.2 ≤ x6.2))) || ((decide (x3.2 ≤ x6.1)) && (decide (x3.1 ≤ x6.2))))).bind fun fits_7 => ((if fits_7 = true then (mulT x6.1 x6.2).bind fun v8 => (mulT x3.1 x3.2).bind fun v10 => some (some (v8 - v10) : (Option Int)) else some (none : (Option Int))).bind fun v12 => apT s5 v12).bind fun row_14 => some (.nx row_14)) plates row_4) fun t15 => (apT s2 t15).bind fun found_16 => some (.nx found_16)) parts found_1) fun t17 => some (.rt t17))
theorem r_waste_costs (parts : (List (Int × Int))) (plates : (List (Int × Int))) : ∀ r, T_waste_costs parts plates = some r → F_waste_costs [en parts, en plates] = some (olE r) := by
  refine fn_r (N := fun _ _ => True) (B := fun _ _ => True) (Rs := (olE : (List (List (Option Int))) → S)) rfl ?_
  exact (bl_ss (ss_setL 2 (GJ.o (el_lst (xs := ([] : List (List (Option Int)))) ea_nil))) (fun found_1 => (bl_seq (ψ := fun (t17 : (List (List (Option Int)))) => [some (.fz (en (parts : (List (Int × Int))))), some (.fz (en (plates : (List (Int × Int))))), some (olE (t17 : (List (List (Option Int))))), none, none, none, none, none, none]) (bl_for (ψs := fun (s2 : (List (List (Option Int)))) => [some (.fz (en (parts : (List (Int × Int))))), some (.fz (en (plates : (List (Int × Int))))), some (olE (s2 : (List (List (Option Int))))), none, none, none, none, none, none]) (body := fun (x3 : (Int × Int)) (s2 : (List (List (Option Int)))) => (some ([] : List (Option Int))).bind fun row_4 => sqT (loopT (fun (x6 : (Int × Int)) (s5 : (List (Option Int))) => (some (((decide (x3.1 ≤ x6.1)) && (decide (x3.2 ≤ x6.2))) || ((decide (x3.2 ≤ x6.1)) && (decide (x3.1 ≤ x6.2))))).bind fun fits_7 => ((if fits_7 = true then (mulT x6.1 x6.2).bind fun v8 => (mulT x3.1 x3.2).bind fun v10 => some (some (v8 - v10) : (Option Int)) else some (none : (Option Int))).bind fun v12 => apT s5 v12).bind fun row_14 => some (.nx row_14)) plates row_4) fun t15 => (apT s2 t15).bind fun found_16 => some (.nx found_16)) (ei_seq (ev_n 0)) (.s (.s (.s (.n (.n (.n (.n (.n (.n .nil))))))))) (fun x3 s2 => (tg_2 (tg_n 3) (tg_n 4))) (fun x3 s2 => (bl_ss (ss_setL 5 (GJ.o (el_lst (xs := ([] : List (Option Int))) ea_nil))) (fun row_4 => (bl_seq (ψ := fun (t15 : (List (Option Int))) => [some (.fz (en (parts : (List (Int × Int))))), some (.fz (en (plates : (List (Int × Int))))), some (olE (s2 : (List (List (Option Int))))), some (.fz (en (x3.1 : Int))), some (.fz (en (x3.2 : Int))), some (olE (t15 : (List (Option Int)))), none, none, none]) (bl_for (ψs := fun (s5 : (List (Option Int))) => [some (.fz (en (parts : (List (Int × Int))))), some (.fz (en (plates : (List (Int × Int))))), some (olE (s2 : (List (List (Option Int))))), some (.fz (en (x3.1 : Int))), some (.fz (en (x3.2 : Int))), some (olE (s5 : (List (Option Int)))), none, none, none]) (body := fun (x6 : (Int × Int)) (s5 : (List (Option Int))) => (some (((decide (x3.1 ≤ x6.1)) && (decide (x3.2 ≤ x6.2))) || ((decide (x3.2 ≤ x6.1)) && (decide (x3.1 ≤ x6.2))))).bind fun fits_7 => ((if fits_7 = true then (mulT x6.1 x6.2).bind fun v8 => (mulT x3.1 x3.2).bind fun v10 => some (some (v8 - v10) : (Option Int)) else some (none : (Option Int))).bind fun v12 => apT s5 v12).bind fun row_14 => some (.nx row_14)) (ei_seq (ev_n 1)) (.s (.s (.s (.s (.s (.s (.n (.n (.n .nil))))))))) (fun x6 s5 => (tg_2 (tg_n 6) (tg_n 7))) (fun x6 s5 => (bl_ss (ss_set 8 (GJ.o (ev_or (ev_and (ev_2 (ev_n 3) (ev_n 6) (op_le x3.1 x6.1)) (ev_2 (ev_n 4) (ev_n 7) (op_le x3.2 x6.2))) (ev_and (ev_2 (ev_n 4) (ev_n 6) (op_le x3.2 x6.1)) (ev_2 (ev_n 3) (ev_n 7) (op_le x3.1 x6.2)))))) (fun fits_7 => (bl_ssl (ss_bind (eo_if (eb_tr (a := (fits_7 : Bool)) (ev_n 8)) (g_bind (eo_2 (ev_n 6) (ev_n 7) (op_mul x6.1 x6.2)) fun v8 h9 => (g_bind (eo_2 (ev_n 3) (ev_n 4) (op_mul x3.1 x3.2)) fun v10 h11 => (GJ.o (ev_s (ev_2 h9 h11 (op_sub v8 v10)))))) (GJ.o (ev_nn (ev_k (a := ()))))) fun v12 h13 => (ss_app 5 rfl h13)) (fun row_14 => (bl_nx (nf (.s (.s (.s (.s (.s (.s (.n (.n (.n .nil))))))))))))))))) (fun t15 => (bl_fzL 5 rfl (bl_ssl (ss_app 2 rfl (ev_n 5)) (fun found_16 => (bl_nx (nf (.s (.s (.s (.n (.n (.n (.n (.n (.n .nil)))))))))))))))))))) (fun t17 => (bl_retN 2 rfl rs)))))
def T__law_shop (most : Int) : Dr ((List Int) × (List (List (Option Int)))) := ansM (
  bnd (bnd (bnd (bnd (bnd (bnd (ret (most + (1 : Int))) fun (a1 : Int) => bnd (ret ()) fun t2 => ret (a1, t2)) fun (t3 : Int × Unit) => takeT t3.1) fun (a4 : Int) => bnd (ret ()) fun t5 => ret (a4, t5)) fun (t6 : Int × Unit) => lift (rngT t6.1)) fun xs => compDr (fun (x7 : Int) => ret true) (fun (x7 : Int) => bnd (bnd (bnd (ret (0 : Int)) fun (a18 : Int) => bnd (bnd (bnd (bnd (ret (9 : Int)) fun (a8 : Int) => bnd (ret ()) fun t9 => ret (a8, t9)) fun (t10 : Int × Unit) => takeT t10.1) fun (a16 : Int) => bnd (bnd (bnd (bnd (ret (40 : Int)) fun (a11 : Int) => bnd (ret ()) fun t12 => ret (a11, t12)) fun (t13 : Int × Unit) => takeT t13.1) fun (a14 : Int) => bnd (ret ()) fun t15 => ret (a14, t15)) fun t17 => ret (a16, t17)) fun t19 => ret (a18, t19)) fun (t20 : Int × Int × Int × Unit) => ret ([t20.1, t20.2.1, t20.2.2.1] : List Int)) fun (a24 : (List Int)) => bnd (bnd (bnd (ret (3 : Int)) fun (a21 : Int) => bnd (ret ()) fun t22 => ret (a21, t22)) fun (t23 : Int × Unit) => takeT t23.1) fun (b25 : Int) => lift (atI a24 b25)) xs) fun prices_26 => bnd (bnd (ret [(2 : Int), (5 : Int)]) fun (a30 : (List Int)) => bnd (bnd (bnd (ret (2 : Int)) fun (a27 : Int) => bnd (ret ()) fun t28 => ret (a27, t28)) fun (t29 : Int × Unit) => takeT t29.1) fun (b31 : Int) => lift (atI a30 b31)) fun rare_32 => bnd (lift (some ([] : List (List (Option Int))))) fun costs_33 => bndF (bnd (bnd (bnd (bnd (bnd (ret (7 : Int)) fun (a34 : Int) => bnd (ret ()) fun t35 => ret (a34, t35)) fun (t36 : Int × Unit) => takeT t36.1) fun (a37 : Int) => bnd (ret ()) fun t38 => ret (a37, t38)) fun (t39 : Int × Unit) => lift (rngT t39.1)) fun xs => loopDr (fun (x41 : Int) (s40 : (List (List (Option Int)))) => bnd (bnd (bnd (ret prices_26) fun xs => compDr (fun (x42 : Int) => ret true) (fun (x42 : Int) => bnd (bnd (bnd (bnd (ret rare_32) fun (a43 : Int) => bnd (ret ()) fun t44 => ret (a43, t44)) fun (t45 : Int × Unit) => takeT t45.1) fun (a46 : Int) => bnd (ret (0 : Int)) fun (b47 : Int) => ret (decide (a46 = b47))) fun b52 => if b52 = true then ret (none : (Option Int)) else bnd (bnd (bnd (ret (20 : Int)) fun (a48 : Int) => bnd (ret ()) fun t49 => ret (a48, t49)) fun (t50 : Int × Unit) => takeT t50.1) fun v51 => ret (some v51)) xs) fun v53 => lift (apT s40 v53)) fun costs_54 => ret (.nx costs_54)) xs costs_33) fun t55 => bndF (bnd (bnd (bnd (bnd (ret (4 : Int)) fun (a56 : Int) => bnd (ret ()) fun t57 => ret (a56, t57)) fun (t58 : Int × Unit) => takeT t58.1) fun (a59 : Int) => bnd (ret (0 : Int)) fun (b60 : Int) => ret (decide (b60 < a59))) fun b68 => if b68 = true then lift ((some (List.map (fun (x64 : (List (Option Int))) => x64) (List.filter (fun (x64 : (List (Option Int))) => (decide ((0 : Int) < ((List.map (fun (x65 : (Option Int)) => x65) (List.filter (fun (x65 : (Option Int)) => x65.isSome) x64)).length : Int)))) t55))).bind fun costs_66 => some (.nx costs_66)) else ret (.nx t55)) fun t67 => ret (.rt (prices_26, t67)))
theorem r__law_shop (most : Int) : IOk I__law_shop [en most] (T__law_shop most) := by
  refine fn_I (N := fun _ _ => True) (B := fun _ _ => True) rfl (by decide) (fun p => ?_)
  exact (bm_sm (sm_set 2 (gm_comp (cc := fun (x7 : Int) => ret true) (gg := fun (x7 : Int) => bnd (bnd (bnd (ret (0 : Int)) fun (a18 : Int) => bnd (bnd (bnd (bnd (ret (9 : Int)) fun (a8 : Int) => bnd (ret ()) fun t9 => ret (a8, t9)) fun (t10 : Int × Unit) => takeT t10.1) fun (a16 : Int) => bnd (bnd (bnd (bnd (ret (40 : Int)) fun (a11 : Int) => bnd (ret ()) fun t12 => ret (a11, t12)) fun (t13 : Int × Unit) => takeT t13.1) fun (a14 : Int) => bnd (ret ()) fun t15 => ret (a14, t15)) fun t17 => ret (a16, t17)) fun t19 => ret (a18, t19)) fun (t20 : Int × Int × Int × Unit) => ret ([t20.1, t20.2.1, t20.2.2.1] : List Int)) fun (a24 : (List Int)) => bnd (bnd (bnd (ret (3 : Int)) fun (a21 : Int) => bnd (ret ()) fun t22 => ret (a21, t22)) fun (t23 : Int × Unit) => takeT t23.1) fun (b25 : Int) => lift (atI a24 b25)) (gm_r1 (v := fun (t6 : Int × Unit) => t6.1) (ma_cons (gm_take (v := fun (t3 : Int × Unit) => t3.1) 0 (ma_cons (gm_pur fun st => (ev_2 (ev_n 1) (ev_k (a := (1 : Int))) (op_add most (1 : Int)))) ma_nil) (fun t => rfl)) ma_nil) (fun t => rfl)) (fun st => (.s (.s (.n (.n (.n (.n (.n (.n (.n .nil)))))))))) (fun (x7 : Int) st => (tg_n 3)) (fun (x7 : Int) st => (.s (.s (.n (.n (.n (.n (.n (.n (.n .nil)))))))))) (fun (x7 : Int) => gm_mY) (fun (x7 : Int) => (gm_2o (r := fun (a24 : (List Int)) (b25 : Int) => atI a24 b25) (gm_lst (v := fun (t20 : Int × Int × Int × Unit) => ([t20.1, t20.2.1, t20.2.2.1] : List Int)) (ma_cons (gm_pur fun st => (ev_k (a := (0 : Int)))) (ma_cons (gm_take (v := fun (t10 : Int × Unit) => t10.1) 0 (ma_cons (gm_pur fun st => (ev_k (a := (9 : Int)))) ma_nil) (fun t => rfl)) (ma_cons (gm_take (v := fun (t13 : Int × Unit) => t13.1) 0 (ma_cons (gm_pur fun st => (ev_k (a := (40 : Int)))) ma_nil) (fun t => rfl)) ma_nil))) (fun t => rfl) (fun t => (by exact Nat.le_of_ble_eq_true rfl : 3 < 1000))) (gm_take (v := fun (t23 : Int × Unit) => t23.1) 0 (ma_cons (gm_pur fun st => (ev_k (a := (3 : Int)))) ma_nil) (fun t => rfl)) (fun (a24 : (List Int)) (b25 : Int) => (op_ix a24 b25)))))) (fun prices_26 => (bm_sm (sm_set 4 (gm_2o (r := fun (a30 : (List Int)) (b31 : Int) => atI a30 b31) (gm_pur fun st => (ev_fL (el_lst (xs := ([(2 : Int), (5 : Int)] : List Int)) (ea_cons (ev_k (a := (2 : Int))) (ea_cons (ev_k (a := (5 : Int))) ea_nil))))) (gm_take (v := fun (t29 : Int × Unit) => t29.1) 0 (ma_cons (gm_pur fun st => (ev_k (a := (2 : Int)))) ma_nil) (fun t => rfl)) (fun (a30 : (List Int)) (b31 : Int) => (op_ix a30 b31)))) (fun rare_32 => (bm_sm (sm_ss fun st => (ss_setL 5 (GJ.o (el_lst (xs := ([] : List (List (Option Int)))) ea_nil)))) (fun costs_33 => (bm_seq (ψ := fun (t55 : (List (List (Option Int)))) st => [some (atS p st), some (.fz (en (most : Int))), some (.fz (en (prices_26 : (List Int)))), none, some (.fz (en (rare_32 : Int))), some (olE (t55 : (List (List (Option Int))))), none, none, none]) (bm_forM (ψs := fun (s40 : (List (List (Option Int)))) st => [some (atS p st), some (.fz (en (most : Int))), some (.fz (en (prices_26 : (List Int)))), none, some (.fz (en (rare_32 : Int))), some (olE (s40 : (List (List (Option Int))))), none, none, none]) (body := fun (x41 : Int) (s40 : (List (List (Option Int)))) => bnd (bnd (bnd (ret prices_26) fun xs => compDr (fun (x42 : Int) => ret true) (fun (x42 : Int) => bnd (bnd (bnd (bnd (ret rare_32) fun (a43 : Int) => bnd (ret ()) fun t44 => ret (a43, t44)) fun (t45 : Int × Unit) => takeT t45.1) fun (a46 : Int) => bnd (ret (0 : Int)) fun (b47 : Int) => ret (decide (a46 = b47))) fun b52 => if b52 = true then ret (none : (Option Int)) else bnd (bnd (bnd (ret (20 : Int)) fun (a48 : Int) => bnd (ret ()) fun t49 => ret (a48, t49)) fun (t50 : Int × Unit) => takeT t50.1) fun v51 => ret (some v51)) xs) fun v53 => lift (apT s40 v53)) fun costs_54 => ret (.nx costs_54)) (gm_r1 (v := fun (t39 : Int × Unit) => t39.1) (ma_cons (gm_take (v := fun (t36 : Int × Unit) => t36.1) 0 (ma_cons (gm_pur fun st => (ev_k (a := (7 : Int)))) ma_nil) (fun t => rfl)) ma_nil) (fun t => rfl)) (fun st => (.s (.s (.s (.n (.s (.s (.n (.n (.n .nil)))))))))) (fun x41 s40 st => (tg_n 3)) (fun x41 s40 => (bm_sml (sm_app 5 (fun st => rfl) (gm_comp (cc := fun (x42 : Int) => ret true) (gg := fun (x42 : Int) => bnd (bnd (bnd (bnd (ret rare_32) fun (a43 : Int) => bnd (ret ()) fun t44 => ret (a43, t44)) fun (t45 : Int × Unit) => takeT t45.1) fun (a46 : Int) => bnd (ret (0 : Int)) fun (b47 : Int) => ret (decide (a46 = b47))) fun b52 => if b52 = true then ret (none : (Option Int)) else bnd (bnd (bnd (ret (20 : Int)) fun (a48 : Int) => bnd (ret ()) fun t49 => ret (a48, t49)) fun (t50 : Int × Unit) => takeT t50.1) fun v51 => ret (some v51)) (gm_pur fun st => (ei_seq (ev_n 2))) (fun st => (.s (.s (.s (.s (.s (.s (.n (.n (.n .nil)))))))))) (fun (x42 : Int) st => (tg_n 6)) (fun (x42 : Int) st => (.s (.s (.s (.s (.s (.s (.n (.n (.n .nil)))))))))) (fun (x42 : Int) => gm_mY) (fun (x42 : Int) => (gm_if (gm_tb (gm_2 (r := fun (a46 : Int) (b47 : Int) => (decide (a46 = b47))) (gm_take (v := fun (t45 : Int × Unit) => t45.1) 0 (ma_cons (gm_pur fun st => (ev_n 4)) ma_nil) (fun t => rfl)) (gm_pur fun st => (ev_k (a := (0 : Int)))) (fun (a46 : Int) (b47 : Int) => (op_eq (α := Int) a46 b47)))) (gm_pur fun st => (ev_nn (ev_k (a := ())))) (gm_eq (w := some) (gm_take (v := fun (t50 : Int × Unit) => t50.1) 0 (ma_cons (gm_pur fun st => (ev_k (a := (20 : Int)))) ma_nil) (fun t => rfl)) fun v => rfl))))) (fun costs_54 => (bm_blr fun st => (bl_nx (nm st (.s (.s (.s (.n (.s (.s (.n (.n (.n .nil)))))))))))))))) (fun t55 => (bm_seq (ψ := fun (t67 : (List (List (Option Int)))) st => [some (atS p st), some (.fz (en (most : Int))), some (.fz (en (prices_26 : (List Int)))), none, some (.fz (en (rare_32 : Int))), some (olE (t67 : (List (List (Option Int))))), none, none, none]) (bm_ifM (gm_tb (gm_2 (r := fun (a59 : Int) (b60 : Int) => (decide (b60 < a59))) (gm_take (v := fun (t58 : Int × Unit) => t58.1) 0 (ma_cons (gm_pur fun st => (ev_k (a := (4 : Int)))) ma_nil) (fun t => rfl)) (gm_pur fun st => (ev_k (a := (0 : Int)))) (fun (a59 : Int) (b60 : Int) => (op_gt a59 b60)))) (bm_bl fun st => (bl_ssl (ss_setL 5 (GJ.o (el_comp (cc := fun (x64 : (List (Option Int))) => (decide ((0 : Int) < ((List.map (fun (x65 : (Option Int)) => x65) (List.filter (fun (x65 : (Option Int)) => x65.isSome) x64)).length : Int)))) (gg := fun (x64 : (List (Option Int))) => x64) (ei_own 5) (fun (x64 : (List (Option Int))) => (tg_n 7)) (fun (x64 : (List (Option Int))) => (eb_tb (ev_2 (ev_cB (ea_cons (ev_fL (el_comp (cc := fun (x65 : (Option Int)) => x65.isSome) (gg := fun (x65 : (Option Int)) => x65) (ei_seq (ev_n 7)) (fun (x65 : (Option Int)) => (tg_n 8)) (fun (x65 : (Option Int)) => (eb_tb (ev_2 (ev_n 8) (ev_k (a := ())) (op_isn x65)))) (fun (x65 : (Option Int)) => (ev_n 8)))) ea_nil) (bi_len (List.map (fun (x65 : (Option Int)) => x65) (List.filter (fun (x65 : (Option Int)) => x65.isSome) x64)))) (ev_k (a := (0 : Int))) (op_gt ((List.map (fun (x65 : (Option Int)) => x65) (List.filter (fun (x65 : (Option Int)) => x65.isSome) x64)).length : Int) (0 : Int))))) (fun (x64 : (List (Option Int))) => (ev_n 7))))) (fun costs_66 => (bl_nx (nm st (.s (.s (.s (.n (.s (.s (.n (.n (.n .nil)))))))))))))) (bm_blr fun st => (bl_nx (nm st (.s (.s (.s (.n (.s (.s (.n (.n (.n .nil))))))))))))) (fun t67 => (bm_blr fun st => (bl_fzL 5 rfl (bl_ret (ev_tup (a := ((prices_26, t67) : ((List Int) × (List (List (Option Int)))))) (ea_cons (ev_n 2) (ea_cons (ev_n 5) ea_nil))) (rm st))))))))))))))
def T__law_cost (prices : (List Int)) (costs : (List (List (Option Int)))) (options : (List Int)) : Option (Option Int) := ansT (
  ((mapT (fun (x1 : Int) => atI prices x1) options).bind fun v4 => some v4.sum).bind fun total_6 => sqT (loopT (fun (x8 : (List (Option Int))) (s7 : Int) => ((compT (fun (x9 : Int) => (atI x8 x9).bind fun v10 => some v10.isSome) (fun (x9 : Int) => atI x8 x9) options).bind fun v14 => some v14).bind fun able_16 => if (decide ((able_16.length : Int) = (0 : Int))) = true then some (.rt (none : (Option Int))) else ((castL able_16).bind fun v17 => (minT v17).bind fun v19 => some (s7 + v19)).bind fun total_21 => some (.nx total_21)) costs total_6) fun t22 => some (.rt (some t22 : (Option Int))))
theorem r__law_cost (prices : (List Int)) (costs : (List (List (Option Int)))) (options : (List Int)) : ∀ r, T__law_cost prices costs options = some r → ∃ s, F__law_cost [en prices, en costs, en options] = some s ∧ frS s = some (en r) := by
  refine fn_f (N := fun _ _ => True) (B := fun _ _ => True) rfl ?_
  exact (bl_ss (ss_set 3 (g_bind (elo_map (gg := fun (x1 : Int) => atI prices x1) (ei_seq (ev_n 2)) (fun (x1 : Int) => (tg_n 4)) (fun (x1 : Int) => (eo_2 (ev_n 0) (ev_n 4) (op_ix prices x1)))) fun v4 h5 => (GJ.o (ev_cB (ea_cons (ev_fL h5) ea_nil) (bi_sum v4))))) (fun total_6 => (bl_seq (ψ := fun (t22 : Int) => [some (.fz (en (prices : (List Int)))), some (.fz (en (costs : (List (List (Option Int)))))), some (.fz (en (options : (List Int)))), some (.fz (en (t22 : Int))), none, none, none]) (bl_for (ψs := fun (s7 : Int) => [some (.fz (en (prices : (List Int)))), some (.fz (en (costs : (List (List (Option Int)))))), some (.fz (en (options : (List Int)))), some (.fz (en (s7 : Int))), none, none, none]) (body := fun (x8 : (List (Option Int))) (s7 : Int) => ((compT (fun (x9 : Int) => (atI x8 x9).bind fun v10 => some v10.isSome) (fun (x9 : Int) => atI x8 x9) options).bind fun v14 => some v14).bind fun able_16 => if (decide ((able_16.length : Int) = (0 : Int))) = true then some (.rt (none : (Option Int))) else ((castL able_16).bind fun v17 => (minT v17).bind fun v19 => some (s7 + v19)).bind fun total_21 => some (.nx total_21)) (ei_seq (ev_n 1)) (.s (.s (.s (.s (.n (.n (.n .nil))))))) (fun x8 s7 => (tg_n 5)) (fun x8 s7 => (bl_ss (ss_set 6 (g_bind (elo_comp (cc := fun (x9 : Int) => (atI x8 x9).bind fun v10 => some v10.isSome) (gg := fun (x9 : Int) => atI x8 x9) (ei_seq (ev_n 2)) (fun (x9 : Int) => (tg_n 4)) (fun (x9 : Int) => (g_bind (eo_2 (ev_n 5) (ev_n 4) (op_ix x8 x9)) fun v10 h11 => (GJ.o (eb_tb (ev_2 h11 (ev_k (a := ())) (op_isn v10)))))) (fun (x9 : Int) => (eo_2 (ev_n 5) (ev_n 4) (op_ix x8 x9)))) fun v14 h15 => (GJ.o (ev_fL h15)))) (fun able_16 => (bl_ifA (eb_tb (ev_2 (ev_cB (ea_cons (ev_n 6) ea_nil) (bi_len able_16)) (ev_k (a := (0 : Int))) (op_eq (α := Int) (able_16.length : Int) (0 : Int)))) (bl_ret (ev_nn (ev_k (a := ()))) rf) (bl_skip (bl_ssl (ss_set 3 (g_bind (eo_castL (ev_n 6)) fun v17 h18 => (g_bind (eo_cB (ea_cons h18 ea_nil) (bi_min v17)) fun v19 h20 => (GJ.o (ev_2 (ev_n 3) h20 (op_add s7 v19)))))) (fun total_21 => (bl_nx (nf (.s (.s (.s (.s (.n (.n (.n .nil))))))))))))))))) (fun t22 => (bl_ret (ev_s (ev_n 3)) rf)))))
def T__law_tree_fault : Nat → (List Int) → (List (List (Option Int))) → (List Int) → (List Int) → (Option Int) → (List (Int × Int)) → D → Option D
  | 0, _, _, _, _, _, _, _ => none
  | fu + 1, prices, costs, taken, left, bound, path, tree => ansT (
  (dIx tree (.int (0 : Int))).bind fun v1 => (eqDT v1 (en (("dead" : Str) : Str) : D)).bind fun v3 => if v3 = true then ((dIx tree (.int (1 : Int))).bind fun v5 => ((De.de v5 : Option Int)).bind fun v7 => if ((decide ((0 : Int) ≤ v7)) && (decide (v7 < (costs.length : Int)))) = true then (rngT (prices.length : Int)).bind fun v9 => (compT (fun (x11 : Int) => (dIx tree (.int (1 : Int))).bind fun v12 => ((De.de v12 : Option Int)).bind fun v14 => (atI costs v14).bind fun v16 => (atI v16 x11).bind fun v18 => some (v18.isSome && (!decide (x11 ∈ left)))) (fun (x11 : Int) => some x11) v9).bind fun v20 => some (decide ((v20.length : Int) = (0 : Int))) else some false).bind fun good_24 => some (.rt (if good_24 = true then (en (() : Unit) : D) else (.tup [en (("dead" : Str) : Str), en (path : (List (Int × Int)))] : D))) else (dIx tree (.int (0 : Int))).bind fun v25 => (eqDT v25 (en (("shares" : Str) : Str) : D)).bind fun v27 => if v27 = true then ((dIx tree (.int (1 : Int))).bind fun v29 => (De.de v29 : Option (List Int))).bind fun shares_33 => if (bound.isNone || (!decide ((shares_33.length : Int) = (costs.length : Int)))) = true then some (.rt (.tup [en (("shares" : Str) : Str), en (path : (List (Int × Int)))] : D)) else (rngT (prices.length : Int)).bind fun v34 => sqT (loopT (fun (x37 : Int) (s36 : Unit) => ((rngT (costs.length : Int)).bind fun v38 => (compT (fun (x40 : Int) => (atI costs x40).bind fun v41 => (atI v41 x37).bind fun v43 => some v43.isSome) (fun (x40 : Int) => (atI shares_33 x40).bind fun v45 => (atI costs x40).bind fun v47 => (atI v47 x37).bind fun v49 => (v49).bind fun v51 => some (max (0 : Int) (v45 - v51))) v38).bind fun v53 => some v53.sum).bind fun over_55 => (if (!decide (x37 ∈ left)) = true then (if (decide (x37 ∈ taken)) = true then some (0 : Int) else atI prices x37).bind fun v58 => some (decide (v58 < over_55)) else some false).bind fun v60 => if v60 = true then some (.rt (.tup [en (("shares" : Str) : Str), en (path : (List (Int × Int)))] : D)) else some (.nx ())) v34 ()) fun t62 => (mapT (fun (x63 : Int) => atI prices x63) taken).bind fun v66 => (bound).bind fun v68 => some (.rt (if (decide (v68 ≤ (v66.sum + shares_33.sum))) = true then (en (() : Unit) : D) else (.tup [en (("shares" : Str) : Str), en (path : (List (Int × Int)))] : D))) else ((De.de tree : Option (T4 Str Int D D))).bind fun y_73 => if ((!((decide ((0 : Int) ≤ y_73.b)) && (decide (y_73.b < (prices.length : Int))))) || ((decide (y_73.b ∈ taken)) || (decide (y_73.b ∈ left)))) = true then some (.rt (.tup [en (("size" : Str) : Str), en (path : (List (Int × Int)))] : D)) else ((addL taken [y_73.b]).bind fun v74 => (addL path [(y_73.b, (1 : Int))]).bind fun v76 => T__law_tree_fault fu prices costs v74 left bound v76 y_73.c).bind fun found_80 => (if (!nonD found_80) = true then some found_80 else (addL left [y_73.b]).bind fun v81 => (addL path [(y_73.b, (0 : Int))]).bind fun v83 => T__law_tree_fault fu prices costs taken v81 bound v83 y_73.d).bind fun v87 => some (.rt v87))
theorem r__law_tree_fault : ∀ (fu : Nat) (prices : (List Int)) (costs : (List (List (Option Int)))) (taken : (List Int)) (left : (List Int)) (bound : (Option Int)) (path : (List (Int × Int))) (tree : D), ∀ r, T__law_tree_fault fu prices costs taken left bound path tree = some r → ∃ s, F__law_tree_fault fu [en prices, en costs, en taken, en left, en bound, en path, en tree] = some s ∧ frS s = some (en r)
  | 0, prices, costs, taken, left, bound, path, tree => fun r e => by cases e
  | fu + 1, prices, costs, taken, left, bound, path, tree => by
    refine fn_f (N := fun _ _ => True) (B := fun _ _ => True) rfl ?_
    exact (bl_bind (eo_2 (ev_n 6) (ev_k (a := (0 : Int))) (op_ixD tree (0 : Int))) fun v1 h2 => (bl_bind (eo_2 h2 (ev_d (ev_k (a := ("dead" : Str)))) (op_eqD v1 (en (("dead" : Str) : Str) : D))) fun v3 h4 => (bl_ifA (eb_tb h4) (bl_ss (ss_set 7 (g_bind (eo_2 (ev_n 6) (ev_k (a := (1 : Int))) (op_ixD tree (1 : Int))) fun v5 h6 => (g_bind (eo_de h6) fun v7 h8 => (eo_and (ev_ch (ev_k (a := (0 : Int))) h8 (ev_cB (ea_cons (ev_n 1) ea_nil) (bi_len costs)) (op_le (0 : Int) v7) (op_lt v7 (costs.length : Int))) (g_bind (ei_r1 (ea_cons (ev_cB (ea_cons (ev_n 0) ea_nil) (bi_len prices)) ea_nil)) fun v9 h10 => (g_bind (elo_comp (cc := fun (x11 : Int) => (dIx tree (.int (1 : Int))).bind fun v12 => ((De.de v12 : Option Int)).bind fun v14 => (atI costs v14).bind fun v16 => (atI v16 x11).bind fun v18 => some (v18.isSome && (!decide (x11 ∈ left)))) (gg := fun (x11 : Int) => some x11) h10 (fun (x11 : Int) => (tg_n 8)) (fun (x11 : Int) => (g_bind (eo_2 (ev_n 6) (ev_k (a := (1 : Int))) (op_ixD tree (1 : Int))) fun v12 h13 => (g_bind (eo_de h13) fun v14 h15 => (g_bind (eo_2 (ev_n 1) h15 (op_ix costs v14)) fun v16 h17 => (g_bind (eo_2 h17 (ev_n 8) (op_ix v16 x11)) fun v18 h19 => (GJ.o (eb_and (eb_tb (ev_2 h19 (ev_k (a := ())) (op_isn v18))) (eb_tb (ev_2 (ev_n 8) (ev_n 3) (op_nin (α := Int) x11 left)))))))))) (fun (x11 : Int) => (GJ.o (ev_n 8)))) fun v20 h21 => (GJ.o (ev_2 (ev_cB (ea_cons (ev_fL h21) ea_nil) (bi_len v20)) (ev_k (a := (0 : Int))) (op_eq (α := Int) (v20.length : Int) (0 : Int)))))))))) (fun good_24 => (bl_ret (ev_if (eb_tr (a := (good_24 : Bool)) (ev_n 7)) (ev_d (ev_k (a := ()))) (ev_tup (a := (.tup [en (("dead" : Str) : Str), en (path : (List (Int × Int)))] : D)) (ea_cons (ev_k (a := ("dead" : Str))) (ea_cons (ev_n 5) ea_nil)))) rf))) (bl_skip (bl_bind (eo_2 (ev_n 6) (ev_k (a := (0 : Int))) (op_ixD tree (0 : Int))) fun v25 h26 => (bl_bind (eo_2 h26 (ev_d (ev_k (a := ("shares" : Str)))) (op_eqD v25 (en (("shares" : Str) : Str) : D))) fun v27 h28 => (bl_ifA (eb_tb h28) (bl_ss (ss_set 9 (g_bind (eo_2 (ev_n 6) (ev_k (a := (1 : Int))) (op_ixD tree (1 : Int))) fun v29 h30 => (eo_de h30))) (fun shares_33 => (bl_ifA (eb_or (eb_tb (ev_2 (ev_n 4) (ev_k (a := ())) (op_is bound))) (eb_tb (ev_2 (ev_cB (ea_cons (ev_n 9) ea_nil) (bi_len shares_33)) (ev_cB (ea_cons (ev_n 1) ea_nil) (bi_len costs)) (op_ne (α := Int) (shares_33.length : Int) (costs.length : Int))))) (bl_ret (ev_tup (a := (.tup [en (("shares" : Str) : Str), en (path : (List (Int × Int)))] : D)) (ea_cons (ev_k (a := ("shares" : Str))) (ea_cons (ev_n 5) ea_nil))) rf) (bl_skip (bl_bind (ei_r1 (ea_cons (ev_cB (ea_cons (ev_n 0) ea_nil) (bi_len prices)) ea_nil)) fun v34 h35 => (bl_seq (ψ := fun (t62 : Unit) => [some (.fz (en (prices : (List Int)))), some (.fz (en (costs : (List (List (Option Int)))))), some (.fz (en (taken : (List Int)))), some (.fz (en (left : (List Int)))), some (.fz (en (bound : (Option Int)))), some (.fz (en (path : (List (Int × Int))))), some (.fz (en (tree : D))), none, none, some (.fz (en (shares_33 : (List Int)))), none, none, none, none, none, none]) (bl_for (ψs := fun (s36 : Unit) => [some (.fz (en (prices : (List Int)))), some (.fz (en (costs : (List (List (Option Int)))))), some (.fz (en (taken : (List Int)))), some (.fz (en (left : (List Int)))), some (.fz (en (bound : (Option Int)))), some (.fz (en (path : (List (Int × Int))))), some (.fz (en (tree : D))), none, none, some (.fz (en (shares_33 : (List Int)))), none, none, none, none, none, none]) (body := fun (x37 : Int) (s36 : Unit) => ((rngT (costs.length : Int)).bind fun v38 => (compT (fun (x40 : Int) => (atI costs x40).bind fun v41 => (atI v41 x37).bind fun v43 => some v43.isSome) (fun (x40 : Int) => (atI shares_33 x40).bind fun v45 => (atI costs x40).bind fun v47 => (atI v47 x37).bind fun v49 => (v49).bind fun v51 => some (max (0 : Int) (v45 - v51))) v38).bind fun v53 => some v53.sum).bind fun over_55 => (if (!decide (x37 ∈ left)) = true then (if (decide (x37 ∈ taken)) = true then some (0 : Int) else atI prices x37).bind fun v58 => some (decide (v58 < over_55)) else some false).bind fun v60 => if v60 = true then some (.rt (.tup [en (("shares" : Str) : Str), en (path : (List (Int × Int)))] : D)) else some (.nx ())) h35 (.s (.s (.s (.s (.s (.s (.s (.n (.n (.s (.n (.n (.n (.n (.n (.n .nil)))))))))))))))) (fun x37 s36 => (tg_n 8)) (fun x37 s36 => (bl_ss (ss_set 10 (g_bind (ei_r1 (ea_cons (ev_cB (ea_cons (ev_n 1) ea_nil) (bi_len costs)) ea_nil)) fun v38 h39 => (g_bind (elo_comp (cc := fun (x40 : Int) => (atI costs x40).bind fun v41 => (atI v41 x37).bind fun v43 => some v43.isSome) (gg := fun (x40 : Int) => (atI shares_33 x40).bind fun v45 => (atI costs x40).bind fun v47 => (atI v47 x37).bind fun v49 => (v49).bind fun v51 => some (max (0 : Int) (v45 - v51))) h39 (fun (x40 : Int) => (tg_n 11)) (fun (x40 : Int) => (g_bind (eo_2 (ev_n 1) (ev_n 11) (op_ix costs x40)) fun v41 h42 => (g_bind (eo_2 h42 (ev_n 8) (op_ix v41 x37)) fun v43 h44 => (GJ.o (eb_tb (ev_2 h44 (ev_k (a := ())) (op_isn v43))))))) (fun (x40 : Int) => (g_bind (eo_2 (ev_n 9) (ev_n 11) (op_ix shares_33 x40)) fun v45 h46 => (g_bind (eo_2 (ev_n 1) (ev_n 11) (op_ix costs x40)) fun v47 h48 => (g_bind (eo_2 h48 (ev_n 8) (op_ix v47 x37)) fun v49 h50 => (g_bind (eo_get h50) fun v51 h52 => (GJ.o (ev_cB (ea_cons (ev_k (a := (0 : Int))) (ea_cons (ev_2 h46 h52 (op_sub v45 v51)) ea_nil)) (bi_max2 (0 : Int) (v45 - v51)))))))))) fun v53 h54 => (GJ.o (ev_cB (ea_cons (ev_fL h54) ea_nil) (bi_sum v53)))))) (fun over_55 => (bl_bind (ebo_and (eb_tb (ev_2 (ev_n 8) (ev_n 3) (op_nin (α := Int) x37 left))) (g_bind (eo_if (eb_tb (ev_2 (ev_n 8) (ev_n 2) (op_in (α := Int) x37 taken))) (GJ.o (ev_k (a := (0 : Int)))) (eo_2 (ev_n 0) (ev_n 8) (op_ix prices x37))) fun v58 h59 => (GJ.o (eb_tb (ev_2 (ev_n 10) h59 (op_gt over_55 v58)))))) fun v60 h61 => (bl_if h61 (bl_ret (ev_tup (a := (.tup [en (("shares" : Str) : Str), en (path : (List (Int × Int)))] : D)) (ea_cons (ev_k (a := ("shares" : Str))) (ea_cons (ev_n 5) ea_nil))) rf) (bl_nx (nf (.s (.s (.s (.s (.s (.s (.s (.n (.n (.s (.n (.n (.n (.n (.n (.n .nil)))))))))))))))))))))))) (fun t62 => (bl_bind (elo_map (gg := fun (x63 : Int) => atI prices x63) (ei_seq (ev_n 2)) (fun (x63 : Int) => (tg_n 8)) (fun (x63 : Int) => (eo_2 (ev_n 0) (ev_n 8) (op_ix prices x63)))) fun v66 h67 => (bl_bind (eo_get (ev_n 4)) fun v68 h69 => (bl_ret (ev_if (eb_tb (ev_2 (ev_2 (ev_cB (ea_cons (ev_fL h67) ea_nil) (bi_sum v66)) (ev_cB (ea_cons (ev_n 9) ea_nil) (bi_sum shares_33)) (op_add v66.sum shares_33.sum)) h69 (op_ge (v66.sum + shares_33.sum) v68))) (ev_d (ev_k (a := ()))) (ev_tup (a := (.tup [en (("shares" : Str) : Str), en (path : (List (Int × Int)))] : D)) (ea_cons (ev_k (a := ("shares" : Str))) (ea_cons (ev_n 5) ea_nil)))) rf)))))))))) (bl_skip (bl_ss (ss_tg (eo_de (ev_n 6)) (fun y72 => (tg_4 (tg_n 12) (tg_n 8) (tg_n 13) (tg_n 14)))) (fun y_73 => (bl_ifA (eb_or (eb_not (eb_tb (ev_ch (ev_k (a := (0 : Int))) (ev_n 8) (ev_cB (ea_cons (ev_n 0) ea_nil) (bi_len prices)) (op_le (0 : Int) y_73.b) (op_lt y_73.b (prices.length : Int))))) (eb_or (eb_tb (ev_2 (ev_n 8) (ev_n 2) (op_in (α := Int) y_73.b taken))) (eb_tb (ev_2 (ev_n 8) (ev_n 3) (op_in (α := Int) y_73.b left))))) (bl_ret (ev_tup (a := (.tup [en (("size" : Str) : Str), en (path : (List (Int × Int)))] : D)) (ea_cons (ev_k (a := ("size" : Str))) (ea_cons (ev_n 5) ea_nil))) rf) (bl_skip (bl_ss (ss_set 15 (g_bind (eo_2 (ev_n 2) (ev_fL (el_lst (xs := ([y_73.b] : List Int)) (ea_cons (ev_n 8) ea_nil))) (op_addL taken [y_73.b])) fun v74 h75 => (g_bind (eo_2 (ev_n 5) (ev_fL (el_lst (xs := ([(y_73.b, (1 : Int))] : List (Int × Int))) (ea_cons (ev_tup (a := ((y_73.b, (1 : Int)) : (Int × Int))) (ea_cons (ev_n 8) (ea_cons (ev_k (a := (1 : Int))) ea_nil))) ea_nil))) (op_addL path [(y_73.b, (1 : Int))])) fun v76 h77 => (eo_call (ea_cons (ev_n 0) (ea_cons (ev_n 1) (ea_cons h75 (ea_cons (ev_n 3) (ea_cons (ev_n 4) (ea_cons h77 (ea_cons (ev_n 13) ea_nil))))))) (r__law_tree_fault fu prices costs v74 left bound v76 y_73.c))))) (fun found_80 => (bl_bind (eo_if (eb_tb (ev_2 (ev_n 15) (ev_k (a := ())) (op_isnD found_80))) (GJ.o (ev_n 15)) (g_bind (eo_2 (ev_n 3) (ev_fL (el_lst (xs := ([y_73.b] : List Int)) (ea_cons (ev_n 8) ea_nil))) (op_addL left [y_73.b])) fun v81 h82 => (g_bind (eo_2 (ev_n 5) (ev_fL (el_lst (xs := ([(y_73.b, (0 : Int))] : List (Int × Int))) (ea_cons (ev_tup (a := ((y_73.b, (0 : Int)) : (Int × Int))) (ea_cons (ev_n 8) (ea_cons (ev_k (a := (0 : Int))) ea_nil))) ea_nil))) (op_addL path [(y_73.b, (0 : Int))])) fun v83 h84 => (eo_call (ea_cons (ev_n 0) (ea_cons (ev_n 1) (ea_cons (ev_n 2) (ea_cons h82 (ea_cons (ev_n 4) (ea_cons h84 (ea_cons (ev_n 14) ea_nil))))))) (r__law_tree_fault fu prices costs taken v81 bound v83 y_73.d))))) fun v87 h88 => (bl_ret h88 rf))))))))))))))))
def T__law_fault (prices : (List Int)) (costs : (List (List (Option Int)))) (told : D) : Option D := ansT (
  (dIx told (.int (0 : Int))).bind fun v1 => (eqDT v1 (en (("never" : Str) : Str) : D)).bind fun v3 => if v3 = true then ((dIx told (.int (1 : Int))).bind fun v5 => T__law_tree_fault 12 prices costs ([] : List Int) ([] : List Int) (none : (Option Int)) ([] : List (Int × Int)) v5).bind fun found_9 => some (.rt (if (nonD found_9) = true then (en (() : Unit) : D) else (.tup [en (("tree" : Str) : Str), found_9] : D))) else ((De.de told : Option (T4 Str (List Int) Int D))).bind fun y_13 => (setT y_13.b).bind fun v14 => if ((!decide (y_13.b = v14)) || (decide ((0 : Int) < ((List.map (fun (x16 : Int) => x16) (List.filter (fun (x16 : Int) => (!((decide ((0 : Int) ≤ x16)) && (decide (x16 < (prices.length : Int)))))) y_13.b)).length : Int)))) = true then some (.rt (.tup [en (("options" : Str) : Str)] : D)) else (rngT (costs.length : Int)).bind fun v17 => sqT (loopT (fun (x20 : Int) (s19 : Unit) => (compT (fun (x21 : Int) => (atI costs x20).bind fun v22 => (atI v22 x21).bind fun v24 => some v24.isSome) (fun (x21 : Int) => some x21) y_13.b).bind fun v26 => if (decide ((v26.length : Int) = (0 : Int))) = true then some (.rt (.tup [en (("part" : Str) : Str), en (x20 : Int)] : D)) else some (.nx ())) v17 ()) fun t28 => (T__law_cost prices costs y_13.b).bind fun v29 => if (!decide (v29 = (some y_13.c : (Option Int)))) = true then some (.rt (.tup [en (("cost" : Str) : Str)] : D)) else (T__law_tree_fault 12 prices costs ([] : List Int) ([] : List Int) (some y_13.c : (Option Int)) ([] : List (Int × Int)) y_13.d).bind fun found_33 => some (.rt (if (nonD found_33) = true then (en (() : Unit) : D) else (.tup [en (("tree" : Str) : Str), found_33] : D))))
theorem r__law_fault (prices : (List Int)) (costs : (List (List (Option Int)))) (told : D) : ∀ r, T__law_fault prices costs told = some r → ∃ s, F__law_fault [en prices, en costs, en told] = some s ∧ frS s = some (en r) := by
  refine fn_f (N := fun _ _ => True) (B := fun _ _ => True) rfl ?_
  exact (bl_bind (eo_2 (ev_n 2) (ev_k (a := (0 : Int))) (op_ixD told (0 : Int))) fun v1 h2 => (bl_bind (eo_2 h2 (ev_d (ev_k (a := ("never" : Str)))) (op_eqD v1 (en (("never" : Str) : Str) : D))) fun v3 h4 => (bl_ifA (eb_tb h4) (bl_ss (ss_set 3 (g_bind (eo_2 (ev_n 2) (ev_k (a := (1 : Int))) (op_ixD told (1 : Int))) fun v5 h6 => (eo_call (ea_cons (ev_n 0) (ea_cons (ev_n 1) (ea_cons (ev_fL (el_lst (xs := ([] : List Int)) ea_nil)) (ea_cons (ev_fL (el_lst (xs := ([] : List Int)) ea_nil)) (ea_cons (ev_nn (ev_k (a := ()))) (ea_cons (ev_fL (el_lst (xs := ([] : List (Int × Int))) ea_nil)) (ea_cons h6 ea_nil))))))) (r__law_tree_fault 12 prices costs ([] : List Int) ([] : List Int) (none : (Option Int)) ([] : List (Int × Int)) v5)))) (fun found_9 => (bl_ret (ev_if (eb_tb (ev_2 (ev_n 3) (ev_k (a := ())) (op_isD found_9))) (ev_d (ev_k (a := ()))) (ev_tup (a := (.tup [en (("tree" : Str) : Str), found_9] : D)) (ea_cons (ev_k (a := ("tree" : Str))) (ea_cons (ev_n 3) ea_nil)))) rf))) (bl_skip (bl_ss (ss_tg (eo_de (ev_n 2)) (fun y12 => (tg_4 (tg_n 4) (tg_n 5) (tg_n 6) (tg_n 7)))) (fun y_13 => (bl_bind (elo_set (ev_n 5)) fun v14 h15 => (bl_ifA (eb_or (eb_tb (ev_2 (ev_n 5) (ev_fL h15) (op_ne (α := (List Int)) y_13.b v14))) (eb_tb (ev_2 (ev_cB (ea_cons (ev_fL (el_comp (cc := fun (x16 : Int) => (!((decide ((0 : Int) ≤ x16)) && (decide (x16 < (prices.length : Int)))))) (gg := fun (x16 : Int) => x16) (ei_seq (ev_n 5)) (fun (x16 : Int) => (tg_n 8)) (fun (x16 : Int) => (eb_not (eb_tb (ev_ch (ev_k (a := (0 : Int))) (ev_n 8) (ev_cB (ea_cons (ev_n 0) ea_nil) (bi_len prices)) (op_le (0 : Int) x16) (op_lt x16 (prices.length : Int)))))) (fun (x16 : Int) => (ev_n 8)))) ea_nil) (bi_len (List.map (fun (x16 : Int) => x16) (List.filter (fun (x16 : Int) => (!((decide ((0 : Int) ≤ x16)) && (decide (x16 < (prices.length : Int)))))) y_13.b)))) (ev_k (a := (0 : Int))) (op_gt ((List.map (fun (x16 : Int) => x16) (List.filter (fun (x16 : Int) => (!((decide ((0 : Int) ≤ x16)) && (decide (x16 < (prices.length : Int)))))) y_13.b)).length : Int) (0 : Int))))) (bl_ret (ev_tup (a := (.tup [en (("options" : Str) : Str)] : D)) (ea_cons (ev_k (a := ("options" : Str))) ea_nil)) rf) (bl_skip (bl_bind (ei_r1 (ea_cons (ev_cB (ea_cons (ev_n 1) ea_nil) (bi_len costs)) ea_nil)) fun v17 h18 => (bl_seq (ψ := fun (t28 : Unit) => [some (.fz (en (prices : (List Int)))), some (.fz (en (costs : (List (List (Option Int)))))), some (.fz (en (told : D))), none, some (.fz (en (y_13.a : Str))), some (.fz (en (y_13.b : (List Int)))), some (.fz (en (y_13.c : Int))), some (.fz (en (y_13.d : D))), none, none]) (bl_for (ψs := fun (s19 : Unit) => [some (.fz (en (prices : (List Int)))), some (.fz (en (costs : (List (List (Option Int)))))), some (.fz (en (told : D))), none, some (.fz (en (y_13.a : Str))), some (.fz (en (y_13.b : (List Int)))), some (.fz (en (y_13.c : Int))), some (.fz (en (y_13.d : D))), none, none]) (body := fun (x20 : Int) (s19 : Unit) => (compT (fun (x21 : Int) => (atI costs x20).bind fun v22 => (atI v22 x21).bind fun v24 => some v24.isSome) (fun (x21 : Int) => some x21) y_13.b).bind fun v26 => if (decide ((v26.length : Int) = (0 : Int))) = true then some (.rt (.tup [en (("part" : Str) : Str), en (x20 : Int)] : D)) else some (.nx ())) h18 (.s (.s (.s (.n (.s (.s (.s (.s (.n (.n .nil)))))))))) (fun x20 s19 => (tg_n 9)) (fun x20 s19 => (bl_bind (elo_comp (cc := fun (x21 : Int) => (atI costs x20).bind fun v22 => (atI v22 x21).bind fun v24 => some v24.isSome) (gg := fun (x21 : Int) => some x21) (ei_seq (ev_n 5)) (fun (x21 : Int) => (tg_n 8)) (fun (x21 : Int) => (g_bind (eo_2 (ev_n 1) (ev_n 9) (op_ix costs x20)) fun v22 h23 => (g_bind (eo_2 h23 (ev_n 8) (op_ix v22 x21)) fun v24 h25 => (GJ.o (eb_tb (ev_2 h25 (ev_k (a := ())) (op_isn v24))))))) (fun (x21 : Int) => (GJ.o (ev_n 8)))) fun v26 h27 => (bl_if (eb_tb (ev_2 (ev_cB (ea_cons (ev_fL h27) ea_nil) (bi_len v26)) (ev_k (a := (0 : Int))) (op_eq (α := Int) (v26.length : Int) (0 : Int)))) (bl_ret (ev_tup (a := (.tup [en (("part" : Str) : Str), en (x20 : Int)] : D)) (ea_cons (ev_k (a := ("part" : Str))) (ea_cons (ev_n 9) ea_nil))) rf) (bl_nx (nf (.s (.s (.s (.n (.s (.s (.s (.s (.n (.n .nil)))))))))))))))) (fun t28 => (bl_bind (eo_call (ea_cons (ev_n 0) (ea_cons (ev_n 1) (ea_cons (ev_n 5) ea_nil))) (r__law_cost prices costs y_13.b)) fun v29 h30 => (bl_ifA (eb_tb (ev_2 h30 (ev_s (ev_n 6)) (op_ne (α := (Option Int)) v29 (some y_13.c : (Option Int))))) (bl_ret (ev_tup (a := (.tup [en (("cost" : Str) : Str)] : D)) (ea_cons (ev_k (a := ("cost" : Str))) ea_nil)) rf) (bl_skip (bl_ss (ss_set 3 (eo_call (ea_cons (ev_n 0) (ea_cons (ev_n 1) (ea_cons (ev_fL (el_lst (xs := ([] : List Int)) ea_nil)) (ea_cons (ev_fL (el_lst (xs := ([] : List Int)) ea_nil)) (ea_cons (ev_s (ev_n 6)) (ea_cons (ev_fL (el_lst (xs := ([] : List (Int × Int))) ea_nil)) (ea_cons (ev_n 7) ea_nil))))))) (r__law_tree_fault 12 prices costs ([] : List Int) ([] : List Int) (some y_13.c : (Option Int)) ([] : List (Int × Int)) y_13.d))) (fun found_33 => (bl_ret (ev_if (eb_tb (ev_2 (ev_n 3) (ev_k (a := ())) (op_isD found_33))) (ev_d (ev_k (a := ()))) (ev_tup (a := (.tup [en (("tree" : Str) : Str), found_33] : D)) (ea_cons (ev_k (a := ("tree" : Str))) (ea_cons (ev_n 3) ea_nil)))) rf))))))))))))))))))
def T__law_full : Nat → (List Int) → (List (List (Option Int))) → (List Int) → (List Int) → Option D
  | 0, _, _, _, _ => none
  | fu + 1, prices, costs, taken, left => ansT (
  (rngT (costs.length : Int)).bind fun v1 => sqT (loopT (fun (x4 : Int) (s3 : Unit) => (rngT (prices.length : Int)).bind fun v5 => (compT (fun (x7 : Int) => (atI costs x4).bind fun v8 => (atI v8 x7).bind fun v10 => some (v10.isSome && (!decide (x7 ∈ left)))) (fun (x7 : Int) => some x7) v5).bind fun v12 => if (decide ((v12.length : Int) = (0 : Int))) = true then some (.rt (.tup [en (("dead" : Str) : Str), en (x4 : Int)] : D)) else some (.nx ())) v1 ()) fun t14 => ((rngT (prices.length : Int)).bind fun v15 => some (List.map (fun (x17 : Int) => x17) (List.filter (fun (x17 : Int) => ((!decide (x17 ∈ taken)) && (!decide (x17 ∈ left)))) v15))).bind fun free_18 => if (decide ((free_18.length : Int) = (0 : Int))) = true then (mapT (fun (x19 : (List (Option Int))) => (compT (fun (x20 : Int) => (atI x19 x20).bind fun v21 => some v21.isSome) (fun (x20 : Int) => (atI x19 x20).bind fun v23 => v23) taken).bind fun v27 => minT v27) costs).bind fun v31 => some (.rt (.tup [en (("shares" : Str) : Str), en (v31 : (List Int))] : D)) else ((atI free_18 (0 : Int)).bind fun v33 => (addL taken [v33]).bind fun v35 => T__law_full fu prices costs v35 left).bind fun one_39 => (atI free_18 (0 : Int)).bind fun v40 => (atI free_18 (0 : Int)).bind fun v42 => (addL left [v42]).bind fun v44 => (T__law_full fu prices costs taken v44).bind fun v46 => some (.rt (.tup [en (("size" : Str) : Str), en (v40 : Int), one_39, v46] : D)))
theorem r__law_full : ∀ (fu : Nat) (prices : (List Int)) (costs : (List (List (Option Int)))) (taken : (List Int)) (left : (List Int)), ∀ r, T__law_full fu prices costs taken left = some r → ∃ s, F__law_full fu [en prices, en costs, en taken, en left] = some s ∧ frS s = some (en r)
  | 0, prices, costs, taken, left => fun r e => by cases e
  | fu + 1, prices, costs, taken, left => by
    refine fn_f (N := fun _ _ => True) (B := fun _ _ => True) rfl ?_
    exact (bl_bind (ei_r1 (ea_cons (ev_cB (ea_cons (ev_n 1) ea_nil) (bi_len costs)) ea_nil)) fun v1 h2 => (bl_seq (ψ := fun (t14 : Unit) => [some (.fz (en (prices : (List Int)))), some (.fz (en (costs : (List (List (Option Int)))))), some (.fz (en (taken : (List Int)))), some (.fz (en (left : (List Int)))), none, none, none, none, none]) (bl_for (ψs := fun (s3 : Unit) => [some (.fz (en (prices : (List Int)))), some (.fz (en (costs : (List (List (Option Int)))))), some (.fz (en (taken : (List Int)))), some (.fz (en (left : (List Int)))), none, none, none, none, none]) (body := fun (x4 : Int) (s3 : Unit) => (rngT (prices.length : Int)).bind fun v5 => (compT (fun (x7 : Int) => (atI costs x4).bind fun v8 => (atI v8 x7).bind fun v10 => some (v10.isSome && (!decide (x7 ∈ left)))) (fun (x7 : Int) => some x7) v5).bind fun v12 => if (decide ((v12.length : Int) = (0 : Int))) = true then some (.rt (.tup [en (("dead" : Str) : Str), en (x4 : Int)] : D)) else some (.nx ())) h2 (.s (.s (.s (.s (.n (.n (.n (.n (.n .nil))))))))) (fun x4 s3 => (tg_n 4)) (fun x4 s3 => (bl_bind (ei_r1 (ea_cons (ev_cB (ea_cons (ev_n 0) ea_nil) (bi_len prices)) ea_nil)) fun v5 h6 => (bl_bind (elo_comp (cc := fun (x7 : Int) => (atI costs x4).bind fun v8 => (atI v8 x7).bind fun v10 => some (v10.isSome && (!decide (x7 ∈ left)))) (gg := fun (x7 : Int) => some x7) h6 (fun (x7 : Int) => (tg_n 5)) (fun (x7 : Int) => (g_bind (eo_2 (ev_n 1) (ev_n 4) (op_ix costs x4)) fun v8 h9 => (g_bind (eo_2 h9 (ev_n 5) (op_ix v8 x7)) fun v10 h11 => (GJ.o (eb_and (eb_tb (ev_2 h11 (ev_k (a := ())) (op_isn v10))) (eb_tb (ev_2 (ev_n 5) (ev_n 3) (op_nin (α := Int) x7 left)))))))) (fun (x7 : Int) => (GJ.o (ev_n 5)))) fun v12 h13 => (bl_if (eb_tb (ev_2 (ev_cB (ea_cons (ev_fL h13) ea_nil) (bi_len v12)) (ev_k (a := (0 : Int))) (op_eq (α := Int) (v12.length : Int) (0 : Int)))) (bl_ret (ev_tup (a := (.tup [en (("dead" : Str) : Str), en (x4 : Int)] : D)) (ea_cons (ev_k (a := ("dead" : Str))) (ea_cons (ev_n 4) ea_nil))) rf) (bl_nx (nf (.s (.s (.s (.s (.n (.n (.n (.n (.n .nil)))))))))))))))) (fun t14 => (bl_ss (ss_set 6 (g_bind (ei_r1 (ea_cons (ev_cB (ea_cons (ev_n 0) ea_nil) (bi_len prices)) ea_nil)) fun v15 h16 => (GJ.o (ev_fL (el_comp (cc := fun (x17 : Int) => ((!decide (x17 ∈ taken)) && (!decide (x17 ∈ left)))) (gg := fun (x17 : Int) => x17) h16 (fun (x17 : Int) => (tg_n 5)) (fun (x17 : Int) => (eb_and (eb_tb (ev_2 (ev_n 5) (ev_n 2) (op_nin (α := Int) x17 taken))) (eb_tb (ev_2 (ev_n 5) (ev_n 3) (op_nin (α := Int) x17 left))))) (fun (x17 : Int) => (ev_n 5))))))) (fun free_18 => (bl_ifA (eb_tb (ev_2 (ev_cB (ea_cons (ev_n 6) ea_nil) (bi_len free_18)) (ev_k (a := (0 : Int))) (op_eq (α := Int) (free_18.length : Int) (0 : Int)))) (bl_bind (elo_map (gg := fun (x19 : (List (Option Int))) => (compT (fun (x20 : Int) => (atI x19 x20).bind fun v21 => some v21.isSome) (fun (x20 : Int) => (atI x19 x20).bind fun v23 => v23) taken).bind fun v27 => minT v27) (ei_seq (ev_n 1)) (fun (x19 : (List (Option Int))) => (tg_n 7)) (fun (x19 : (List (Option Int))) => (g_bind (elo_comp (cc := fun (x20 : Int) => (atI x19 x20).bind fun v21 => some v21.isSome) (gg := fun (x20 : Int) => (atI x19 x20).bind fun v23 => v23) (ei_seq (ev_n 2)) (fun (x20 : Int) => (tg_n 5)) (fun (x20 : Int) => (g_bind (eo_2 (ev_n 7) (ev_n 5) (op_ix x19 x20)) fun v21 h22 => (GJ.o (eb_tb (ev_2 h22 (ev_k (a := ())) (op_isn v21)))))) (fun (x20 : Int) => (g_bind (eo_2 (ev_n 7) (ev_n 5) (op_ix x19 x20)) fun v23 h24 => (eo_get h24)))) fun v27 h28 => (eo_cB (ea_cons (ev_fL h28) ea_nil) (bi_min v27))))) fun v31 h32 => (bl_ret (ev_tup (a := (.tup [en (("shares" : Str) : Str), en (v31 : (List Int))] : D)) (ea_cons (ev_k (a := ("shares" : Str))) (ea_cons (ev_fL h32) ea_nil))) rf)) (bl_skip (bl_ss (ss_set 8 (g_bind (eo_2 (ev_n 6) (ev_k (a := (0 : Int))) (op_ix free_18 (0 : Int))) fun v33 h34 => (g_bind (eo_2 (ev_n 2) (ev_fL (el_lst (xs := ([v33] : List Int)) (ea_cons h34 ea_nil))) (op_addL taken [v33])) fun v35 h36 => (eo_call (ea_cons (ev_n 0) (ea_cons (ev_n 1) (ea_cons h36 (ea_cons (ev_n 3) ea_nil)))) (r__law_full fu prices costs v35 left))))) (fun one_39 => (bl_bind (eo_2 (ev_n 6) (ev_k (a := (0 : Int))) (op_ix free_18 (0 : Int))) fun v40 h41 => (bl_bind (eo_2 (ev_n 6) (ev_k (a := (0 : Int))) (op_ix free_18 (0 : Int))) fun v42 h43 => (bl_bind (eo_2 (ev_n 3) (ev_fL (el_lst (xs := ([v42] : List Int)) (ea_cons h43 ea_nil))) (op_addL left [v42])) fun v44 h45 => (bl_bind (eo_call (ea_cons (ev_n 0) (ea_cons (ev_n 1) (ea_cons (ev_n 2) (ea_cons h45 ea_nil)))) (r__law_full fu prices costs taken v44)) fun v46 h47 => (bl_ret (ev_tup (a := (.tup [en (("size" : Str) : Str), en (v40 : Int), one_39, v46] : D)) (ea_cons (ev_k (a := ("size" : Str))) (ea_cons h41 (ea_cons (ev_n 8) (ea_cons h47 ea_nil))))) rf))))))))))))))
def T_law : Dr Bool := ansM (
  bnd (bnd (bnd (ret (7 : Int)) fun (a1 : Int) => bnd (ret ()) fun t2 => ret (a1, t2)) fun (t3 : Int × Unit) => T__law_shop t3.1) fun y_5 => bnd (lift (reprT (y_5.1, y_5.2))) fun kept_8 => bnd (lift (some [([] : List Int)])) fun sets_9 => bnd (lift (rngT (y_5.1.length : Int))) fun v10 => bndF (lift (loopT (fun (x13 : Int) (s12 : (List (List Int))) => ((mapT (fun (x14 : (List Int)) => addL x14 [x13]) s12).bind fun v17 => addL s12 v17).bind fun sets_21 => some (.nx sets_21)) v10 sets_9)) fun t22 => bnd (lift ((compT (fun (x23 : (List Int)) => (T__law_cost y_5.1 y_5.2 x23).bind fun v24 => some v24.isSome) (fun (x23 : (List Int)) => some x23) t22).bind fun v26 => some v26)) fun good_28 => bnd (lift (T_sizes y_5.1 y_5.2)) fun told_31 => bnd (lift (isTupT told_31)) fun v32 => bnd (lift (if (!v32) = true then some true else (dIx told_31 (.int (0 : Int))).bind fun v34 => (neDT v34 (en ((if (decide ((0 : Int) < (good_28.length : Int))) = true then ("sizes" : Str) else ("never" : Str)) : Str) : D)).bind fun v36 => if v36 = true then some true else (reprT (y_5.1, y_5.2)).bind fun v38 => some (!decide (v38 = kept_8)))) fun v42 => if v42 = true then ret (.rt false) else bnd (lift (T__law_fault y_5.1 y_5.2 told_31)) fun v44 => bnd (lift (if (!nonD v44) = true then some true else (T_sizes_fault y_5.1 y_5.2 told_31).bind fun v46 => some (!nonD v46))) fun v48 => if v48 = true then ret (.rt false) else bnd (lift (T__law_full 12 y_5.1 y_5.2 ([] : List Int) ([] : List Int))) fun tree_52 => if (decide ((good_28.length : Int) = (0 : Int))) = true then lift ((T_sizes_fault y_5.1 y_5.2 (.tup [en (("never" : Str) : Str), tree_52] : D)).bind fun v53 => some (.rt (nonD v53))) else bnd (lift ((mapT (fun (x55 : (List Int)) => (T__law_cost y_5.1 y_5.2 x55).bind fun v56 => v56) good_28).bind fun v60 => minT v60)) fun best_64 => bnd (lift (dIx told_31 (.int (2 : Int)))) fun v65 => bnd (lift (neDT v65 (en (best_64 : Int) : D))) fun v67 => bnd (lift (if v67 = true then some true else ((De.de told_31 : Option (T4 Str (List Int) Int D))).bind fun v69 => (T_sizes_fault y_5.1 y_5.2 (en ((T4.mk (T3.mk v69.a v69.b v69.c).a (T3.mk v69.a v69.b v69.c).b (T3.mk v69.a v69.b v69.c).c (T1.mk tree_52).a) : (T4 Str (List Int) Int D)) : D)).bind fun v71 => some (!nonD v71))) fun v73 => if v73 = true then ret (.rt false) else bndF (lift (loopT (fun (x76 : (List Int)) (s75 : Unit) => (T__law_cost y_5.1 y_5.2 x76).bind fun v77 => (if (decide (v77 = (some best_64 : (Option Int)))) = true then (dIx told_31 (.int (3 : Int))).bind fun v79 => (T_sizes_fault y_5.1 y_5.2 (.tup [en (("sizes" : Str) : Str), en (x76 : (List Int)), en (best_64 : Int), v79] : D)).bind fun v81 => some (!nonD v81) else some false).bind fun v83 => if v83 = true then some (.rt false) else some (.nx ())) good_28 ())) fun t85 => bnd (bnd (bnd (bnd (bnd (bnd (ret (4 : Int)) fun (a86 : Int) => bnd (ret ()) fun t87 => ret (a86, t87)) fun (t88 : Int × Unit) => takeT t88.1) fun (a89 : Int) => bnd (ret ()) fun t90 => ret (a89, t90)) fun (t91 : Int × Unit) => lift (rngT t91.1)) fun xs => compDr (fun (x92 : Int) => ret true) (fun (x92 : Int) => bnd (bnd (bnd (ret (1 : Int)) fun (a96 : Int) => bnd (bnd (bnd (ret (9 : Int)) fun (a93 : Int) => bnd (ret ()) fun t94 => ret (a93, t94)) fun (t95 : Int × Unit) => takeT t95.1) fun (b97 : Int) => ret (a96 + b97)) fun (a105 : Int) => bnd (bnd (bnd (ret (1 : Int)) fun (a101 : Int) => bnd (bnd (bnd (ret (9 : Int)) fun (a98 : Int) => bnd (ret ()) fun t99 => ret (a98, t99)) fun (t100 : Int × Unit) => takeT t100.1) fun (b102 : Int) => ret (a101 + b102)) fun (a103 : Int) => bnd (ret ()) fun t104 => ret (a103, t104)) fun t106 => ret (a105, t106)) fun (t107 : Int × Int × Unit) => ret (t107.1, t107.2.1)) xs) fun plates_108 => bnd (bnd (bnd (bnd (bnd (bnd (ret (4 : Int)) fun (a109 : Int) => bnd (ret ()) fun t110 => ret (a109, t110)) fun (t111 : Int × Unit) => takeT t111.1) fun (a112 : Int) => bnd (ret ()) fun t113 => ret (a112, t113)) fun (t114 : Int × Unit) => lift (rngT t114.1)) fun xs => compDr (fun (x115 : Int) => ret true) (fun (x115 : Int) => bnd (bnd (bnd (ret (1 : Int)) fun (a119 : Int) => bnd (bnd (bnd (ret (9 : Int)) fun (a116 : Int) => bnd (ret ()) fun t117 => ret (a116, t117)) fun (t118 : Int × Unit) => takeT t118.1) fun (b120 : Int) => ret (a119 + b120)) fun (a128 : Int) => bnd (bnd (bnd (ret (1 : Int)) fun (a124 : Int) => bnd (bnd (bnd (ret (9 : Int)) fun (a121 : Int) => bnd (ret ()) fun t122 => ret (a121, t122)) fun (t123 : Int × Unit) => takeT t123.1) fun (b125 : Int) => ret (a124 + b125)) fun (a126 : Int) => bnd (ret ()) fun t127 => ret (a126, t127)) fun t129 => ret (a128, t129)) fun (t130 : Int × Int × Unit) => ret (t130.1, t130.2.1)) xs) fun parts_131 => lift ((some ([] : List (List (Option Int)))).bind fun due_132 => sqT (loopT (fun (x134 : (Int × Int)) (s133 : (List (List (Option Int)))) => ((mapT (fun (x135 : (Int × Int)) => if ((decide ((min x134.1 x134.2) ≤ (min x135.1 x135.2))) && (decide ((max x134.1 x134.2) ≤ (max x135.1 x135.2)))) = true then (mulT x135.1 x135.2).bind fun v136 => (mulT x134.1 x134.2).bind fun v138 => some (some (v136 - v138) : (Option Int)) else some (none : (Option Int))) plates_108).bind fun v142 => apT s133 v142).bind fun due_144 => some (.nx due_144)) parts_131 due_132) fun t145 => (T_waste_costs parts_131 plates_108).bind fun v146 => (if (decide (v146 = t145)) = true then (reprT (y_5.1, y_5.2)).bind fun v148 => some (decide (v148 = kept_8)) else some false).bind fun v150 => some (.rt v150)))
theorem law_typed (h : T_law fun b => b = true) : LawTrue 19 d_law := by
  refine law_of (N := fun _ _ => True) (B := fun _ _ => True) (fun p => ?_) h
  exact (bm_sm (sm_tg (gm_I (w := fun (t3 : Int × Unit) => T__law_shop t3.1) 1 (ma_cons (gm_pur fun st => (ev_k (a := (7 : Int)))) ma_nil) (fun (t3 : Int × Unit) => r__law_shop t3.1)) (fun y4 st => (tg_2 (tg_n 2) (tg_n 3)))) (fun y_5 => (bm_sm (sm_ss fun st => (ss_set 4 (eo_cB (ea_cons (ev_tup (a := ((y_5.1, y_5.2) : ((List Int) × (List (List (Option Int)))))) (ea_cons (ev_n 2) (ea_cons (ev_n 3) ea_nil))) ea_nil) (bi_repr _)))) (fun kept_8 => (bm_sm (sm_ss fun st => (ss_set 5 (GJ.o (ev_fL (el_lst (xs := ([([] : List Int)] : List (List Int))) (ea_cons (ev_fL (el_lst (xs := ([] : List Int)) ea_nil)) ea_nil)))))) (fun sets_9 => (bm_bind (fun st => (ei_r1 (ea_cons (ev_cB (ea_cons (ev_n 2) ea_nil) (bi_len y_5.1)) ea_nil))) fun v10 h11 => (bm_seq (ψ := fun (t22 : (List (List Int))) st => [none, some (atS p st), some (.fz (en (y_5.1 : (List Int)))), some (.fz (en (y_5.2 : (List (List (Option Int)))))), some (.fz (en (kept_8 : Str))), some (.fz (en (t22 : (List (List Int))))), none, none, none, none, none, none, none, none, none, none, none, none, none]) (bm_bl fun st => bl_mono (fun t e h => ⟨st, h⟩) (bl_for (ψs := fun (s12 : (List (List Int))) => [none, some (atS p st), some (.fz (en (y_5.1 : (List Int)))), some (.fz (en (y_5.2 : (List (List (Option Int)))))), some (.fz (en (kept_8 : Str))), some (.fz (en (s12 : (List (List Int))))), none, none, none, none, none, none, none, none, none, none, none, none, none]) (body := fun (x13 : Int) (s12 : (List (List Int))) => ((mapT (fun (x14 : (List Int)) => addL x14 [x13]) s12).bind fun v17 => addL s12 v17).bind fun sets_21 => some (.nx sets_21)) (h11 st) (.n (.s (.s (.s (.s (.s (.n (.n (.n (.n (.n (.n (.n (.n (.n (.n (.n (.n (.n .nil))))))))))))))))))) (fun x13 s12 => (tg_n 6)) (fun x13 s12 => (bl_ssl (ss_set 5 (g_bind (elo_map (gg := fun (x14 : (List Int)) => addL x14 [x13]) (ei_seq (ev_n 5)) (fun (x14 : (List Int)) => (tg_n 7)) (fun (x14 : (List Int)) => (eo_2 (ev_n 7) (ev_fL (el_lst (xs := ([x13] : List Int)) (ea_cons (ev_n 6) ea_nil))) (op_addL x14 [x13])))) fun v17 h18 => (eo_2 (ev_n 5) (ev_fL h18) (op_addL s12 v17)))) (fun sets_21 => (bl_nx (nf (.n (.s (.s (.s (.s (.s (.n (.n (.n (.n (.n (.n (.n (.n (.n (.n (.n (.n (.n .nil)))))))))))))))))))))))))) (fun t22 => (bm_sm (sm_ss fun st => (ss_set 8 (g_bind (elo_comp (cc := fun (x23 : (List Int)) => (T__law_cost y_5.1 y_5.2 x23).bind fun v24 => some v24.isSome) (gg := fun (x23 : (List Int)) => some x23) (ei_seq (ev_n 5)) (fun (x23 : (List Int)) => (tg_n 7)) (fun (x23 : (List Int)) => (g_bind (eo_call (ea_cons (ev_n 2) (ea_cons (ev_n 3) (ea_cons (ev_n 7) ea_nil))) (r__law_cost y_5.1 y_5.2 x23)) fun v24 h25 => (GJ.o (eb_tb (ev_2 h25 (ev_k (a := ())) (op_isn v24)))))) (fun (x23 : (List Int)) => (GJ.o (ev_n 7)))) fun v26 h27 => (GJ.o (ev_fL h27))))) (fun good_28 => (bm_sm (sm_ss fun st => (ss_set 9 (eo_call (ea_cons (ev_n 2) (ea_cons (ev_n 3) ea_nil)) (r_sizes y_5.1 y_5.2)))) (fun told_31 => (bm_bind (fun st => (eo_isi (ev_n 9))) fun v32 h33 => (bm_bind (fun st => (ebo_or (eb_not (eb_tr (a := (v32 : Bool)) (h33 st))) (g_bind (eo_2 (ev_n 9) (ev_k (a := (0 : Int))) (op_ixD told_31 (0 : Int))) fun v34 h35 => (g_bind (eo_2 h35 (ev_d (ev_if (eb_tb (ev_2 (ev_cB (ea_cons (ev_n 8) ea_nil) (bi_len good_28)) (ev_k (a := (0 : Int))) (op_gt (good_28.length : Int) (0 : Int)))) (ev_k (a := ("sizes" : Str))) (ev_k (a := ("never" : Str))))) (op_neD v34 (en ((if (decide ((0 : Int) < (good_28.length : Int))) = true then ("sizes" : Str) else ("never" : Str)) : Str) : D))) fun v36 h37 => (ebo_or (eb_tb h37) (g_bind (eo_cB (ea_cons (ev_tup (a := ((y_5.1, y_5.2) : ((List Int) × (List (List (Option Int)))))) (ea_cons (ev_n 2) (ea_cons (ev_n 3) ea_nil))) ea_nil) (bi_repr _)) fun v38 h39 => (GJ.o (eb_tb (ev_2 h39 (ev_n 4) (op_ne (α := Str) v38 kept_8)))))))))) fun v42 h43 => (bm_ifA (fun st => (h43 st)) (bm_blr fun st => (bl_ret (ev_k (a := false)) (rm st))) (bm_skip (bm_bind (fun st => (eo_call (ea_cons (ev_n 2) (ea_cons (ev_n 3) (ea_cons (ev_n 9) ea_nil))) (r__law_fault y_5.1 y_5.2 told_31))) fun v44 h45 => (bm_bind (fun st => (ebo_or (eb_tb (ev_2 (h45 st) (ev_k (a := ())) (op_isnD v44))) (g_bind (eo_call (ea_cons (ev_n 2) (ea_cons (ev_n 3) (ea_cons (ev_n 9) ea_nil))) (r_sizes_fault y_5.1 y_5.2 told_31)) fun v46 h47 => (GJ.o (eb_tb (ev_2 h47 (ev_k (a := ())) (op_isnD v46))))))) fun v48 h49 => (bm_ifA (fun st => (h49 st)) (bm_blr fun st => (bl_ret (ev_k (a := false)) (rm st))) (bm_skip (bm_sm (sm_ss fun st => (ss_set 10 (eo_call (ea_cons (ev_n 2) (ea_cons (ev_n 3) (ea_cons (ev_fL (el_lst (xs := ([] : List Int)) ea_nil)) (ea_cons (ev_fL (el_lst (xs := ([] : List Int)) ea_nil)) ea_nil)))) (r__law_full 12 y_5.1 y_5.2 ([] : List Int) ([] : List Int))))) (fun tree_52 => (bm_ifA (fun st => (eb_tb (ev_2 (ev_cB (ea_cons (ev_n 8) ea_nil) (bi_len good_28)) (ev_k (a := (0 : Int))) (op_eq (α := Int) (good_28.length : Int) (0 : Int))))) (bm_bl fun st => (bl_bind (eo_call (ea_cons (ev_n 2) (ea_cons (ev_n 3) (ea_cons (ev_tup (a := (.tup [en (("never" : Str) : Str), tree_52] : D)) (ea_cons (ev_k (a := ("never" : Str))) (ea_cons (ev_n 10) ea_nil))) ea_nil))) (r_sizes_fault y_5.1 y_5.2 (.tup [en (("never" : Str) : Str), tree_52] : D))) fun v53 h54 => (bl_ret (ev_2 h54 (ev_k (a := ())) (op_isD v53)) (rm st)))) (bm_skip (bm_sm (sm_ss fun st => (ss_set 11 (g_bind (elo_map (gg := fun (x55 : (List Int)) => (T__law_cost y_5.1 y_5.2 x55).bind fun v56 => v56) (ei_seq (ev_n 8)) (fun (x55 : (List Int)) => (tg_n 7)) (fun (x55 : (List Int)) => (g_bind (eo_call (ea_cons (ev_n 2) (ea_cons (ev_n 3) (ea_cons (ev_n 7) ea_nil))) (r__law_cost y_5.1 y_5.2 x55)) fun v56 h57 => (eo_get h57)))) fun v60 h61 => (eo_cB (ea_cons (ev_fL h61) ea_nil) (bi_min v60))))) (fun best_64 => (bm_bind (fun st => (eo_2 (ev_n 9) (ev_k (a := (2 : Int))) (op_ixD told_31 (2 : Int)))) fun v65 h66 => (bm_bind (fun st => (eo_2 (h66 st) (ev_d (ev_n 11)) (op_neD v65 (en (best_64 : Int) : D)))) fun v67 h68 => (bm_bind (fun st => (ebo_or (eb_tb (h68 st)) (g_bind (eo_de (ev_n 9)) fun v69 h70 => (g_bind (eo_call (ea_cons (ev_n 2) (ea_cons (ev_n 3) (ea_cons (ev_d (ev_2 (ev_cutD (v := ((T3.mk v69.a v69.b v69.c) : (T3 Str (List Int) Int))) (d := v69) h70 es_0 (es_1 (ev_k (a := (3 : Int)))) rfl rfl) (ev_tup (a := ((T1.mk tree_52) : (T1 D))) (ea_cons (ev_n 10) ea_nil)) (op_addT (x := ((T3.mk v69.a v69.b v69.c) : (T3 Str (List Int) Int))) (y := ((T1.mk tree_52) : (T1 D))) (z := ((T4.mk (T3.mk v69.a v69.b v69.c).a (T3.mk v69.a v69.b v69.c).b (T3.mk v69.a v69.b v69.c).c (T1.mk tree_52).a) : (T4 Str (List Int) Int D))) rfl rfl rfl))) ea_nil))) (r_sizes_fault y_5.1 y_5.2 (en ((T4.mk (T3.mk v69.a v69.b v69.c).a (T3.mk v69.a v69.b v69.c).b (T3.mk v69.a v69.b v69.c).c (T1.mk tree_52).a) : (T4 Str (List Int) Int D)) : D))) fun v71 h72 => (GJ.o (eb_tb (ev_2 h72 (ev_k (a := ())) (op_isnD v71)))))))) fun v73 h74 => (bm_ifA (fun st => (h74 st)) (bm_blr fun st => (bl_ret (ev_k (a := false)) (rm st))) (bm_skip (bm_seq (ψ := fun (t85 : Unit) st => [none, some (atS p st), some (.fz (en (y_5.1 : (List Int)))), some (.fz (en (y_5.2 : (List (List (Option Int)))))), some (.fz (en (kept_8 : Str))), some (.fz (en (t22 : (List (List Int))))), none, none, some (.fz (en (good_28 : (List (List Int))))), some (.fz (en (told_31 : D))), some (.fz (en (tree_52 : D))), some (.fz (en (best_64 : Int))), none, none, none, none, none, none, none]) (bm_bl fun st => bl_mono (fun t e h => ⟨st, h⟩) (bl_for (ψs := fun (s75 : Unit) => [none, some (atS p st), some (.fz (en (y_5.1 : (List Int)))), some (.fz (en (y_5.2 : (List (List (Option Int)))))), some (.fz (en (kept_8 : Str))), some (.fz (en (t22 : (List (List Int))))), none, none, some (.fz (en (good_28 : (List (List Int))))), some (.fz (en (told_31 : D))), some (.fz (en (tree_52 : D))), some (.fz (en (best_64 : Int))), none, none, none, none, none, none, none]) (body := fun (x76 : (List Int)) (s75 : Unit) => (T__law_cost y_5.1 y_5.2 x76).bind fun v77 => (if (decide (v77 = (some best_64 : (Option Int)))) = true then (dIx told_31 (.int (3 : Int))).bind fun v79 => (T_sizes_fault y_5.1 y_5.2 (.tup [en (("sizes" : Str) : Str), en (x76 : (List Int)), en (best_64 : Int), v79] : D)).bind fun v81 => some (!nonD v81) else some false).bind fun v83 => if v83 = true then some (.rt false) else some (.nx ())) (ei_seq (ev_n 8)) (.n (.s (.s (.s (.s (.s (.n (.n (.s (.s (.s (.s (.n (.n (.n (.n (.n (.n (.n .nil))))))))))))))))))) (fun x76 s75 => (tg_n 7)) (fun x76 s75 => (bl_bind (eo_call (ea_cons (ev_n 2) (ea_cons (ev_n 3) (ea_cons (ev_n 7) ea_nil))) (r__law_cost y_5.1 y_5.2 x76)) fun v77 h78 => (bl_bind (ebo_and (eb_tb (ev_2 h78 (ev_s (ev_n 11)) (op_eq (α := (Option Int)) v77 (some best_64 : (Option Int))))) (g_bind (eo_2 (ev_n 9) (ev_k (a := (3 : Int))) (op_ixD told_31 (3 : Int))) fun v79 h80 => (g_bind (eo_call (ea_cons (ev_n 2) (ea_cons (ev_n 3) (ea_cons (ev_tup (a := (.tup [en (("sizes" : Str) : Str), en (x76 : (List Int)), en (best_64 : Int), v79] : D)) (ea_cons (ev_k (a := ("sizes" : Str))) (ea_cons (ev_n 7) (ea_cons (ev_n 11) (ea_cons h80 ea_nil))))) ea_nil))) (r_sizes_fault y_5.1 y_5.2 (.tup [en (("sizes" : Str) : Str), en (x76 : (List Int)), en (best_64 : Int), v79] : D))) fun v81 h82 => (GJ.o (eb_tb (ev_2 h82 (ev_k (a := ())) (op_isnD v81))))))) fun v83 h84 => (bl_if h84 (bl_ret (ev_k (a := false)) (rm st)) (bl_nx (nf (.n (.s (.s (.s (.s (.s (.n (.n (.s (.s (.s (.s (.n (.n (.n (.n (.n (.n (.n .nil))))))))))))))))))))))))))) (fun t85 => (bm_sm (sm_set 12 (gm_comp (cc := fun (x92 : Int) => ret true) (gg := fun (x92 : Int) => bnd (bnd (bnd (ret (1 : Int)) fun (a96 : Int) => bnd (bnd (bnd (ret (9 : Int)) fun (a93 : Int) => bnd (ret ()) fun t94 => ret (a93, t94)) fun (t95 : Int × Unit) => takeT t95.1) fun (b97 : Int) => ret (a96 + b97)) fun (a105 : Int) => bnd (bnd (bnd (ret (1 : Int)) fun (a101 : Int) => bnd (bnd (bnd (ret (9 : Int)) fun (a98 : Int) => bnd (ret ()) fun t99 => ret (a98, t99)) fun (t100 : Int × Unit) => takeT t100.1) fun (b102 : Int) => ret (a101 + b102)) fun (a103 : Int) => bnd (ret ()) fun t104 => ret (a103, t104)) fun t106 => ret (a105, t106)) fun (t107 : Int × Int × Unit) => ret (t107.1, t107.2.1)) (gm_r1 (v := fun (t91 : Int × Unit) => t91.1) (ma_cons (gm_take (v := fun (t88 : Int × Unit) => t88.1) 1 (ma_cons (gm_pur fun st => (ev_k (a := (4 : Int)))) ma_nil) (fun t => rfl)) ma_nil) (fun t => rfl)) (fun st => (.n (.s (.s (.s (.s (.s (.n (.n (.s (.s (.s (.s (.n (.n (.n (.n (.n (.n (.n .nil)))))))))))))))))))) (fun (x92 : Int) st => (tg_n 6)) (fun (x92 : Int) st => (.n (.s (.s (.s (.s (.s (.n (.n (.s (.s (.s (.s (.n (.n (.n (.n (.n (.n (.n .nil)))))))))))))))))))) (fun (x92 : Int) => gm_mY) (fun (x92 : Int) => (gm_tup (v := fun (t107 : Int × Int × Unit) => ((t107.1, t107.2.1) : (Int × Int))) (ma_cons (gm_2 (r := fun (a96 : Int) (b97 : Int) => (a96 + b97)) (gm_pur fun st => (ev_k (a := (1 : Int)))) (gm_take (v := fun (t95 : Int × Unit) => t95.1) 1 (ma_cons (gm_pur fun st => (ev_k (a := (9 : Int)))) ma_nil) (fun t => rfl)) (fun (a96 : Int) (b97 : Int) => (op_add a96 b97))) (ma_cons (gm_2 (r := fun (a101 : Int) (b102 : Int) => (a101 + b102)) (gm_pur fun st => (ev_k (a := (1 : Int)))) (gm_take (v := fun (t100 : Int × Unit) => t100.1) 1 (ma_cons (gm_pur fun st => (ev_k (a := (9 : Int)))) ma_nil) (fun t => rfl)) (fun (a101 : Int) (b102 : Int) => (op_add a101 b102))) ma_nil)) (fun t => rfl) (fun t => (by exact Nat.le_of_ble_eq_true rfl : 2 < 1000)))))) (fun plates_108 => (bm_sm (sm_set 13 (gm_comp (cc := fun (x115 : Int) => ret true) (gg := fun (x115 : Int) => bnd (bnd (bnd (ret (1 : Int)) fun (a119 : Int) => bnd (bnd (bnd (ret (9 : Int)) fun (a116 : Int) => bnd (ret ()) fun t117 => ret (a116, t117)) fun (t118 : Int × Unit) => takeT t118.1) fun (b120 : Int) => ret (a119 + b120)) fun (a128 : Int) => bnd (bnd (bnd (ret (1 : Int)) fun (a124 : Int) => bnd (bnd (bnd (ret (9 : Int)) fun (a121 : Int) => bnd (ret ()) fun t122 => ret (a121, t122)) fun (t123 : Int × Unit) => takeT t123.1) fun (b125 : Int) => ret (a124 + b125)) fun (a126 : Int) => bnd (ret ()) fun t127 => ret (a126, t127)) fun t129 => ret (a128, t129)) fun (t130 : Int × Int × Unit) => ret (t130.1, t130.2.1)) (gm_r1 (v := fun (t114 : Int × Unit) => t114.1) (ma_cons (gm_take (v := fun (t111 : Int × Unit) => t111.1) 1 (ma_cons (gm_pur fun st => (ev_k (a := (4 : Int)))) ma_nil) (fun t => rfl)) ma_nil) (fun t => rfl)) (fun st => (.n (.s (.s (.s (.s (.s (.n (.n (.s (.s (.s (.s (.s (.n (.n (.n (.n (.n (.n .nil)))))))))))))))))))) (fun (x115 : Int) st => (tg_n 6)) (fun (x115 : Int) st => (.n (.s (.s (.s (.s (.s (.n (.n (.s (.s (.s (.s (.s (.n (.n (.n (.n (.n (.n .nil)))))))))))))))))))) (fun (x115 : Int) => gm_mY) (fun (x115 : Int) => (gm_tup (v := fun (t130 : Int × Int × Unit) => ((t130.1, t130.2.1) : (Int × Int))) (ma_cons (gm_2 (r := fun (a119 : Int) (b120 : Int) => (a119 + b120)) (gm_pur fun st => (ev_k (a := (1 : Int)))) (gm_take (v := fun (t118 : Int × Unit) => t118.1) 1 (ma_cons (gm_pur fun st => (ev_k (a := (9 : Int)))) ma_nil) (fun t => rfl)) (fun (a119 : Int) (b120 : Int) => (op_add a119 b120))) (ma_cons (gm_2 (r := fun (a124 : Int) (b125 : Int) => (a124 + b125)) (gm_pur fun st => (ev_k (a := (1 : Int)))) (gm_take (v := fun (t123 : Int × Unit) => t123.1) 1 (ma_cons (gm_pur fun st => (ev_k (a := (9 : Int)))) ma_nil) (fun t => rfl)) (fun (a124 : Int) (b125 : Int) => (op_add a124 b125))) ma_nil)) (fun t => rfl) (fun t => (by exact Nat.le_of_ble_eq_true rfl : 2 < 1000)))))) (fun parts_131 => (bm_bl fun st => (bl_ss (ss_setL 14 (GJ.o (el_lst (xs := ([] : List (List (Option Int)))) ea_nil))) (fun due_132 => (bl_seq (ψ := fun (t145 : (List (List (Option Int)))) => [none, some (atS p st), some (.fz (en (y_5.1 : (List Int)))), some (.fz (en (y_5.2 : (List (List (Option Int)))))), some (.fz (en (kept_8 : Str))), some (.fz (en (t22 : (List (List Int))))), none, none, some (.fz (en (good_28 : (List (List Int))))), some (.fz (en (told_31 : D))), some (.fz (en (tree_52 : D))), some (.fz (en (best_64 : Int))), some (.fz (en (plates_108 : (List (Int × Int))))), some (.fz (en (parts_131 : (List (Int × Int))))), some (olE (t145 : (List (List (Option Int))))), none, none, none, none]) (bl_for (ψs := fun (s133 : (List (List (Option Int)))) => [none, some (atS p st), some (.fz (en (y_5.1 : (List Int)))), some (.fz (en (y_5.2 : (List (List (Option Int)))))), some (.fz (en (kept_8 : Str))), some (.fz (en (t22 : (List (List Int))))), none, none, some (.fz (en (good_28 : (List (List Int))))), some (.fz (en (told_31 : D))), some (.fz (en (tree_52 : D))), some (.fz (en (best_64 : Int))), some (.fz (en (plates_108 : (List (Int × Int))))), some (.fz (en (parts_131 : (List (Int × Int))))), some (olE (s133 : (List (List (Option Int))))), none, none, none, none]) (body := fun (x134 : (Int × Int)) (s133 : (List (List (Option Int)))) => ((mapT (fun (x135 : (Int × Int)) => if ((decide ((min x134.1 x134.2) ≤ (min x135.1 x135.2))) && (decide ((max x134.1 x134.2) ≤ (max x135.1 x135.2)))) = true then (mulT x135.1 x135.2).bind fun v136 => (mulT x134.1 x134.2).bind fun v138 => some (some (v136 - v138) : (Option Int)) else some (none : (Option Int))) plates_108).bind fun v142 => apT s133 v142).bind fun due_144 => some (.nx due_144)) (ei_seq (ev_n 13)) (.n (.s (.s (.s (.s (.s (.n (.n (.s (.s (.s (.s (.s (.s (.s (.n (.n (.n (.n .nil))))))))))))))))))) (fun x134 s133 => (tg_2 (tg_n 15) (tg_n 16))) (fun x134 s133 => (bl_ssl (ss_bind (elo_map (gg := fun (x135 : (Int × Int)) => if ((decide ((min x134.1 x134.2) ≤ (min x135.1 x135.2))) && (decide ((max x134.1 x134.2) ≤ (max x135.1 x135.2)))) = true then (mulT x135.1 x135.2).bind fun v136 => (mulT x134.1 x134.2).bind fun v138 => some (some (v136 - v138) : (Option Int)) else some (none : (Option Int))) (ei_seq (ev_n 12)) (fun (x135 : (Int × Int)) => (tg_2 (tg_n 17) (tg_n 18))) (fun (x135 : (Int × Int)) => (eo_if (eb_and (eb_tb (ev_2 (ev_cB (ea_cons (ev_n 17) (ea_cons (ev_n 18) ea_nil)) (bi_min2 x135.1 x135.2)) (ev_cB (ea_cons (ev_n 15) (ea_cons (ev_n 16) ea_nil)) (bi_min2 x134.1 x134.2)) (op_ge (min x135.1 x135.2) (min x134.1 x134.2)))) (eb_tb (ev_2 (ev_cB (ea_cons (ev_n 17) (ea_cons (ev_n 18) ea_nil)) (bi_max2 x135.1 x135.2)) (ev_cB (ea_cons (ev_n 15) (ea_cons (ev_n 16) ea_nil)) (bi_max2 x134.1 x134.2)) (op_ge (max x135.1 x135.2) (max x134.1 x134.2))))) (g_bind (eo_2 (ev_n 17) (ev_n 18) (op_mul x135.1 x135.2)) fun v136 h137 => (g_bind (eo_2 (ev_n 15) (ev_n 16) (op_mul x134.1 x134.2)) fun v138 h139 => (GJ.o (ev_s (ev_2 h137 h139 (op_sub v136 v138)))))) (GJ.o (ev_nn (ev_k (a := ()))))))) fun v142 h143 => (ss_app 14 rfl (ev_fL h143))) (fun due_144 => (bl_nx (nf (.n (.s (.s (.s (.s (.s (.n (.n (.s (.s (.s (.s (.s (.s (.s (.n (.n (.n (.n .nil))))))))))))))))))))))))) (fun t145 => (bl_bind (eo_call (ea_cons (ev_n 13) (ea_cons (ev_n 12) ea_nil)) (ol_ret (r_waste_costs parts_131 plates_108))) fun v146 h147 => (bl_bind (eo_and (ev_2 h147 (ev_wl 14) (op_eq (α := (List (List (Option Int)))) v146 t145)) (g_bind (eo_cB (ea_cons (ev_tup (a := ((y_5.1, y_5.2) : ((List Int) × (List (List (Option Int)))))) (ea_cons (ev_n 2) (ea_cons (ev_n 3) ea_nil))) ea_nil) (bi_repr _)) fun v148 h149 => (GJ.o (ev_2 h149 (ev_n 4) (op_eq (α := Str) v148 kept_8))))) fun v150 h151 => (bl_ret h151 (rm st)))))))))))))))))))))))))))))))))))))))))))))))
end Law

set_option Elab.async false
set_option linter.all false
set_option maxRecDepth 100000
/-! SZa: sizes, plain: what sizes cost, what shares show. -/
namespace Law
open PySem PyProof.Rows L2 VL TL
open Ty (en)
structure Shp (p : List Int) (c : List (List (Option Int))) : Prop where
  n : p.length ≤ 9
  p0 : ∀ x ∈ p, 0 ≤ x ∧ x < 2 ^ 20
  m : c.length ≤ 6
  row : ∀ r ∈ c, r.length = p.length
  c0 : ∀ r ∈ c, ∀ x, some x ∈ r → 0 ≤ x ∧ x < 2 ^ 20
def Rg (n : Nat) (S : List Int) : Prop := ∀ k ∈ S, 0 ≤ k ∧ k < (n : Int)
def pr (p : List Int) (k : Int) : Int := (p[k.toNat]?).getD 0
def cl (r : List (Option Int)) (k : Int) : Option Int := (r[k.toNat]?).join
/-- the least cost of a part -/
def srv (r : List (Option Int)) (S : List Int) : Option Int := minT (S.filterMap (cl r))
def pcs (c : List (List (Option Int))) (S : List Int) : Option Int := match c with
  | [] => some 0
  | r :: c => (srv r S).bind fun x => (pcs c S).map (x + ·)
def pS (p : List Int) (S : List Int) : Int := (S.map (pr p)).sum
/-- what sizes cost -/
def prc (p : List Int) (c : List (List (Option Int))) (S : List Int) : Option Int := (pcs c S).map (pS p S + ·)
theorem srv_same {r : List (Option Int)} {S S' : List Int} (h : ∀ x, x ∈ S ↔ x ∈ S') : srv r S = srv r S' := by
  unfold srv
  exact minT_same fun x => by simp only [List.mem_filterMap, h]
theorem pcs_same {S S' : List Int} (h : ∀ x, x ∈ S ↔ x ∈ S') : ∀ c, pcs c S = pcs c S'
  | [] => rfl
  | r :: c => by simp only [pcs, srv_same h, pcs_same h c]
theorem pS_perm {p S S' : List Int} (h : S.Perm S') : pS p S = pS p S' := sum_perm' (h.map _)
theorem prc_perm {p : List Int} {c : List (List (Option Int))} {S S' : List Int} (h : S.Perm S') : prc p c S = prc p c S' := by
  unfold prc
  rw [pcs_same (fun x => h.mem_iff) c, pS_perm h]
theorem srv_some {r : List (Option Int)} {S : List Int} {x : Int} (h : srv r S = some x) : (∃ o ∈ S, cl r o = some x) ∧ ∀ o ∈ S, ∀ y, cl r o = some y → x ≤ y := by
  obtain ⟨h1, h2⟩ := minT_is h
  obtain ⟨o, mo, e⟩ := List.mem_filterMap.mp h1
  exact ⟨⟨o, mo, e⟩, fun o mo y e => h2 y (List.mem_filterMap.mpr ⟨o, mo, e⟩)⟩
theorem srv_none {r : List (Option Int)} {S : List Int} : srv r S = none ↔ ∀ o ∈ S, cl r o = none := by
  unfold srv
  constructor
  · intro h o mo
    have := minT_none h
    cases e : cl r o with
    | none => rfl
    | some y =>
      have : y ∈ S.filterMap (cl r) := List.mem_filterMap.mpr ⟨o, mo, e⟩
      rw [‹S.filterMap (cl r) = []›] at this
      cases this
  · intro h
    have : S.filterMap (cl r) = [] := List.filterMap_eq_nil_iff.mpr h
    rw [this]; rfl
theorem srv_ex {r : List (Option Int)} {S : List Int} {o y : Int} (m : o ∈ S) (e : cl r o = some y) : ∃ x, srv r S = some x := by
  cases q : srv r S with
  | some x => exact ⟨x, rfl⟩
  | none => rw [srv_none.mp q o m] at e; cases e
/-- by how much a share is above what a size costs -/
def ovr : List (List (Option Int)) → List Int → Int → Int
  | r :: c, x :: l, o => (match cl r o with | some v => max 0 (x - v) | none => 0) + ovr c l o
  | _, _, _ => 0
theorem ovr_nn : ∀ (c : List (List (Option Int))) (l : List Int) (o : Int), 0 ≤ ovr c l o
  | r :: c, x :: l, o => by
    have := ovr_nn c l o
    unfold ovr
    cases cl r o with
    | none => show 0 ≤ 0 + _; omega
    | some v => show 0 ≤ max 0 (x - v) + _; omega
  | [], _, _ => by unfold ovr; omega
  | _ :: _, [], _ => by unfold ovr; omega
theorem ovr_snoc : ∀ {c : List (List (Option Int))} {l : List Int} {r : List (Option Int)} {x o : Int}, c.length = l.length → ovr (c ++ [r]) (l ++ [x]) o = ovr c l o + (match cl r o with | some v => max 0 (x - v) | none => 0)
  | [], [], r, x, o, _ => by simp only [List.nil_append, ovr]; omega
  | r' :: c, x' :: l, r, x, o, h => by
    have := ovr_snoc (c := c) (l := l) (r := r) (x := x) (o := o) (by simpa using h)
    simp only [List.cons_append, ovr, this]
    omega
  | [], _ :: _, _, _, _, h => by simp at h
  | _ :: _, [], _, _, _, h => by simp at h
/-- shares as they may be -/
structure Feas (p : List Int) (c : List (List (Option Int))) (taken left l : List Int) : Prop where
  len : l.length = c.length
  ok : ∀ o : Int, 0 ≤ o → o < (p.length : Int) → o ∉ left → ovr c l o ≤ if o ∈ taken then 0 else pr p o
theorem shares_below {S : List Int} : ∀ {c : List (List (Option Int))} {l : List Int} {v : Int}, l.length = c.length → pcs c S = some v → l.sum ≤ v + (S.map (ovr c l)).sum
  | [], [], v, _, e => by
    cases e
    have : (S.map (ovr [] [])).sum = 0 := by
      have e : S.map (ovr [] []) = S.map fun _ => (0 : Int) := List.map_congr_left fun _ _ => rfl
      rw [e]
      clear e
      induction S with
      | nil => rfl
      | cons x S ih => simpa using ih
    rw [this]; simp
  | r :: c, x :: l, v, h, e => by
    obtain ⟨m, e1, e2⟩ := Option.bind_eq_some_iff.mp (show (srv r S).bind _ = _ from e)
    obtain ⟨w, e3, rfl⟩ := Option.map_eq_some_iff.mp e2
    have ih := shares_below (c := c) (l := l) (by simpa using h) e3
    obtain ⟨⟨o, mo, eo⟩, _⟩ := srv_some e1
    have es : (S.map (ovr (r :: c) (x :: l))).sum = (S.map fun o => (match cl r o with | some v => max 0 (x - v) | none => 0)).sum + (S.map (ovr c l)).sum := sum_add_map S
    have nn : ∀ o ∈ S, 0 ≤ (fun o => (match cl r o with | some v => max 0 (x - v) | none => 0 : Int)) o := fun o _ => by
      dsimp only
      split <;> omega
    have := sum_mem_le nn o mo
    rw [eo] at this
    rw [es, List.sum_cons]
    dsimp only at this
    omega
  | [], _ :: _, _, h, _ => by simp at h
  | _ :: _, [], _, h, _ => by simp at h
/-- the sizes that stand between -/
structure Bet (n : Nat) (taken left S : List Int) : Prop where
  nd : S.Nodup
  rg : Rg n S
  tk : ∀ k ∈ taken, k ∈ S
  lf : ∀ k ∈ left, k ∉ S
theorem weak {p : List Int} {c : List (List (Option Int))} {taken left l S : List Int} {v : Int} (f : Feas p c taken left l) (b : Bet p.length taken left S) (nt : taken.Nodup) (e : prc p c S = some v) : pS p taken + l.sum ≤ v := by
  obtain ⟨w, e1, rfl⟩ := Option.map_eq_some_iff.mp (show (pcs c S).map _ = _ from e)
  have h1 := shares_below f.len e1
  have h2 : (S.map (ovr c l)).sum ≤ (S.map fun o => if o ∈ taken then 0 else pr p o).sum := sum_le_map fun o mo => f.ok o (b.rg o mo).1 (b.rg o mo).2 fun m => b.lf o m mo
  have h3 : (S.map (pr p)).sum = (S.map fun o => if o ∈ taken then pr p o else 0).sum + (S.map fun o => if o ∈ taken then 0 else pr p o).sum := by
    rw [← sum_add_map]
    congr 1
    refine List.map_congr_left fun o _ => ?_
    split <;> omega
  have h4 : (S.map fun o => if o ∈ taken then pr p o else 0).sum = pS p taken := by
    have pm : (S.filter fun o => decide (o ∈ taken)).Perm taken := perm_of (b.nd.filter _) nt fun x => by
      rw [List.mem_filter, decide_eq_true_eq]
      exact ⟨fun h => h.2, fun h => ⟨b.tk x h, h⟩⟩
    rw [← pS_perm pm]
    unfold pS
    clear pm h1 h2 h3 e b e1
    induction S with
    | nil => rfl
    | cons x S ih =>
      rw [List.map_cons, List.sum_cons, ih]
      by_cases h : x ∈ taken
      · rw [if_pos h, List.filter_cons_of_pos (by simpa using h), List.map_cons, List.sum_cons]
      · rw [if_neg h, List.filter_cons_of_neg (by simpa using h)]; omega
  show pS p taken + l.sum ≤ (S.map (pr p)).sum + w
  omega
/-- a part that is left out -/
def Dead (p : List Int) (left : List Int) (r : List (Option Int)) : Prop := ∀ o : Int, 0 ≤ o → o < (p.length : Int) → o ∉ left → cl r o = none
theorem pcs_none {S : List Int} {r : List (Option Int)} (h : srv r S = none) : ∀ {c : List (List (Option Int))}, r ∈ c → pcs c S = none
  | r' :: c, m => by
    rcases List.mem_cons.mp m with rfl | m
    · simp only [pcs, h, Option.bind_none]
    · simp only [pcs, pcs_none h m]
      cases srv r' S <;> rfl
theorem dead_none {p : List Int} {c : List (List (Option Int))} {taken left S : List Int} {r : List (Option Int)} (m : r ∈ c) (d : Dead p left r) (b : Bet p.length taken left S) : prc p c S = none := by
  unfold prc
  rw [pcs_none (srv_none.mpr fun o mo => d o (b.rg o mo).1 (b.rg o mo).2 fun q => b.lf o q mo) m]; rfl
theorem pcs_ex {S : List Int} : ∀ {c : List (List (Option Int))}, (∀ r ∈ c, ∃ x, srv r S = some x) → ∃ v, pcs c S = some v
  | [], _ => ⟨0, rfl⟩
  | r :: c, h => by
    obtain ⟨x, e⟩ := h r (List.mem_cons_self ..)
    obtain ⟨v, e2⟩ := pcs_ex (c := c) fun r m => h r (List.mem_cons_of_mem _ m)
    exact ⟨x + v, by simp only [pcs, e, e2]; rfl⟩
end Law

set_option Elab.async false
set_option linter.all false
set_option maxRecDepth 100000
/-! SZb: sizes: raised, the walk. -/
namespace Law
open PySem PyProof.Rows L2 VL TL
open Ty (en)
variable {p : List Int} {c : List (List (Option Int))}
def ab (left : List Int) (r : List (Option Int)) : List Int := List.map (fun (x5 : Int × Option Int) => x5.1) (List.filter (fun (x5 : (Int × (Option Int))) => (x5.2.isSome && (!decide (x5.1 ∈ left)))) (enumT r))
theorem cl_get {r : List (Option Int)} {o : Int} {v : Option Int} (h : r[o.toNat]? = some v) : cl r o = v := by
  unfold cl
  rw [h]; rfl
theorem ab_mem {left : List Int} {r : List (Option Int)} {o : Int} : o ∈ ab left r ↔ 0 ≤ o ∧ o < (r.length : Int) ∧ (∃ y, cl r o = some y) ∧ o ∉ left := by
  unfold ab
  simp only [List.mem_map, List.mem_filter, enumT_mem, Bool.and_eq_true, Bool.not_eq_true', decide_eq_false_iff_not]
  constructor
  · rintro ⟨⟨k, v⟩, ⟨⟨h1, h2⟩, h3, h4⟩, rfl⟩
    obtain ⟨y, rfl⟩ := Option.isSome_iff_exists.mp h3
    have h2 : r[k.toNat]? = some (some y) := h2
    have := (List.getElem?_eq_some_iff.mp h2).1
    exact ⟨h1, by show k < _; omega, ⟨y, cl_get h2⟩, h4⟩
  · rintro ⟨h1, h2, ⟨y, h3⟩, h4⟩
    refine ⟨(o, some y), ⟨⟨h1, ?_⟩, rfl, h4⟩, rfl⟩
    unfold cl at h3
    show r[o.toNat]? = some (some y)
    cases e : r[o.toNat]? with
    | none => rw [e] at h3; cases h3
    | some z => rw [e] at h3; exact congrArg some h3
theorem ab_nodup (left : List Int) (r : List (Option Int)) : (ab left r).Nodup := by
  have h : ((enumT r).map (·.1)).Nodup := by rw [enumT_fst]; exact rangeT_nodup _ _
  exact (List.filter_sublist.map _).nodup h
theorem at_cl {r : List (Option Int)} {o : Int} {y : Int} (h : cl r o = some y) (h0 : 0 ≤ o) : atI r o = some (some y) := by
  rw [atI_pos h0]
  unfold cl at h
  cases e : r[o.toNat]? with
  | none => rw [e] at h; cases h
  | some z => rw [e] at h; exact congrArg some h
def rt (rest : List Int) (o : Int) : Int := (rest[o.toNat]?).getD 0
theorem at_rt {rest : List Int} {o : Int} (h0 : 0 ≤ o) (h1 : o < (rest.length : Int)) : atI rest o = some (rt rest o) := by
  obtain ⟨x, e1, e2⟩ := atI_ok (xs := rest) h0 h1
  unfold rt
  rw [e1, e2]; rfl
theorem rt_set {rest : List Int} {o j v : Int} (h0 : 0 ≤ o) (h1 : o < (rest.length : Int)) (hj : 0 ≤ j) : rt (rest.set o.toNat v) j = if j = o then v else rt rest j := by
  unfold rt
  by_cases q : j = o
  · subst q
    rw [if_pos rfl, List.getElem?_set_self (by omega)]; rfl
  · rw [if_neg q, List.getElem?_set_ne (by omega)]
def lvl (taken left : List Int) (rest : List Int) (r : List (Option Int)) : List Int := (ab left r).map fun o => (cl r o).getD 0 + if o ∈ taken then 0 else rt rest o
/-- what the walk keeps -/
structure RI (p : List Int) (taken left : List Int) (rows : List (List (Option Int))) (s : List Int × List Int) : Prop where
  l1 : rows.length = s.1.length
  l2 : s.2.length = p.length
  ok : ∀ o : Int, 0 ≤ o → o < (p.length : Int) → o ∉ left → (o ∈ taken → ovr rows s.1 o = 0) ∧ (o ∉ taken → 0 ≤ rt s.2 o ∧ rt s.2 o = pr p o - ovr rows s.1 o)
  full : (∀ o : Int, 0 ≤ o → o < (p.length : Int) → o ∉ left → o ∈ taken) → (∀ o ∈ taken, 0 ≤ o ∧ o < (p.length : Int) ∧ o ∉ left) → s.1 = rows.map fun r => (srv r taken).getD 0
theorem RI.start (p0 : ∀ x ∈ p, 0 ≤ x) (taken left : List Int) : RI p taken left [] ([], p) := by
  refine ⟨rfl, rfl, fun o h0 h1 _ => ⟨fun _ => rfl, fun _ => ?_⟩, fun _ _ => rfl⟩
  unfold rt pr ovr
  have : 0 ≤ (p[o.toNat]?).getD 0 := by
    cases e : p[o.toNat]? with
    | none => exact Int.le_refl _
    | some x => exact p0 x (List.mem_of_getElem? e)
  show 0 ≤ (p[o.toNat]?).getD 0 ∧ (p[o.toNat]?).getD 0 = (p[o.toNat]?).getD 0 - 0
  omega
theorem RI.step {taken left : List Int} {rows : List (List (Option Int))} {s : List Int × List Int} {r : List (Option Int)} {level : Int} {rest' : List Int} (i : RI p taken left rows s) (hr : r.length = p.length)
    (hl : level = (minT (lvl taken left s.2 r)).getD 0) (h2 : rest'.length = s.2.length)
    (h3 : ∀ j : Int, 0 ≤ j → j < (p.length : Int) → rt rest' j = rt s.2 j - if j ∈ ab left r ∧ j ∉ taken then max 0 (level - (cl r j).getD 0) else 0) : RI p taken left (rows ++ [r]) (s.1 ++ [level], rest') := by
  have le : ∀ o ∈ ab left r, level ≤ (cl r o).getD 0 + if o ∈ taken then 0 else rt s.2 o := fun o mo => by
    have m : ((cl r o).getD 0 + if o ∈ taken then 0 else rt s.2 o) ∈ lvl taken left s.2 r := List.mem_map.mpr ⟨o, mo, rfl⟩
    obtain ⟨z, e⟩ := minT_ne (List.ne_nil_of_mem m)
    have := (minT_is e).2 _ m
    rw [hl, e]
    exact this
  refine ⟨by simp [i.l1], by rw [h2]; exact i.l2, fun o h0 h1 nl => ?_, fun hA hB => ?_⟩
  · obtain ⟨k1, k2⟩ := i.ok o h0 h1 nl
    rw [ovr_snoc i.l1]
    have hj := h3 o h0 h1
    cases e : cl r o with
    | none =>
      have na : o ∉ ab left r := fun m => by
        obtain ⟨_, _, ⟨y, e'⟩, _⟩ := ab_mem.mp m
        rw [e] at e'; cases e'
      rw [if_neg fun q => na q.1] at hj
      dsimp only
      exact ⟨fun t => by have := k1 t; omega, fun t => by have := k2 t; omega⟩
    | some y =>
      have ya : o ∈ ab left r := ab_mem.mpr ⟨h0, by omega, ⟨y, e⟩, nl⟩
      have l := le o ya
      rw [e] at hj l
      dsimp only [Option.getD_some] at hj l ⊢
      refine ⟨fun t => ?_, fun t => ?_⟩
      · rw [if_pos t] at l
        have := k1 t
        grind
      · rw [if_neg t] at l
        rw [if_pos ⟨ya, t⟩] at hj
        have := k2 t
        grind
  · show s.1 ++ [level] = _
    rw [i.full hA hB, List.map_append]
    show _ ++ [level] = _ ++ [(srv r taken).getD 0]
    rw [hl]
    congr 3
    unfold srv
    refine minT_same fun x => ?_
    unfold lvl
    simp only [List.mem_map, List.mem_filterMap]
    constructor
    · rintro ⟨o, mo, rfl⟩
      obtain ⟨q0, q1, ⟨y, q2⟩, q3⟩ := ab_mem.mp mo
      have t := hA o q0 (by omega) q3
      exact ⟨o, t, by rw [if_pos t, q2]; simp⟩
    · rintro ⟨o, mo, e⟩
      obtain ⟨q0, q1, q2⟩ := hB o mo
      exact ⟨o, ab_mem.mpr ⟨q0, by omega, ⟨x, e⟩, q2⟩, by rw [if_pos mo, e]; simp⟩
theorem raised_ok (h : Shp p c) (taken left : List Int) : lift (T_raised p c taken left) fun l => ∃ rest, RI p taken left c (l, rest) := by
  unfold T_raised
  simp only [wpr]
  refine loopL (fun pre s => RI p taken left (pre.map (·.2)) s) (RI.start (fun x m => (h.p0 x m).1) _ _) (fun pre x post s he i R h1 h2 h3 h4 => ?_) (fun s i => ?_)
  · have hx : x.2 ∈ c := by
      have : x ∈ enumT c := by rw [he]; simp
      exact List.mem_of_getElem? (enumT_mem.mp this).2
    have hr := h.row _ hx
    simp only [wpr]
    refine mapL (fun o => (cl x.2 o).getD 0 + if o ∈ taken then 0 else rt s.2 o) (fun o mo => ?_) ?_
    · obtain ⟨q0, q1, ⟨y, q2⟩, q3⟩ := ab_mem.mp mo
      simp only [wpr]
      refine lift_i (at_cl q2 q0) ?_
      refine iteP (fun t => ?_) (fun t => ?_)
      · simp only [wpr, q2, Option.getD_some, if_pos t]
      · refine lift_i (at_rt q0 (by rw [i.l2]; omega)) ?_
        simp only [wpr, q2, Option.getD_some, if_neg t]
    · show lift (minDfT (lvl taken left s.2 x.2) 0) _
      have hab : (List.map (fun (x5 : Int × Option Int) => x5.fst) (List.filter (fun (x5 : Int × Option Int) => x5.snd.isSome && !decide (x5.fst ∈ left)) (enumT x.2))) = ab left x.2 := rfl
      rw [hab]
      generalize hlev : (minT (lvl taken left s.2 x.2)).getD 0 = level
      have hdf : minDfT (lvl taken left s.2 x.2) 0 = some level := by
        unfold minDfT
        cases hq : lvl taken left s.2 x.2 with
        | nil => rw [hq] at hlev; rw [← hlev]; rfl
        | cons z zs =>
          obtain ⟨m, e⟩ := minT_ne (List.cons_ne_nil z zs)
          rw [hq, e] at hlev
          show minT (z :: zs) = _
          rw [e, ← hlev]; rfl
      refine lift_i hdf ?_
      have hlen : s.1.length < 16777216 := by
        have := i.l1
        have h1 := congrArg List.length he
        rw [enumT_len, List.length_append, List.length_cons] at h1
        have := h.m
        simp at this ⊢
        simp at *
        omega
      refine apL hlen ?_
      refine loopL (fun done rest => rest.length = s.2.length ∧ ∀ j : Int, 0 ≤ j → j < (p.length : Int) → rt rest j = rt s.2 j - if j ∈ done ∧ j ∉ taken then max 0 (level - (cl x.2 j).getD 0) else 0) ⟨rfl, fun j _ _ => by simp⟩ (fun done o more rest ho ⟨k1, k2⟩ R' g1 g2 g3 g4 => ?_) (fun rest ⟨k1, k2⟩ => ?_)
      · have mo : o ∈ ab left x.2 := by rw [ho]; simp
        have nd : o ∉ done := by
          have := ab_nodup left x.2
          rw [ho] at this
          grind
        obtain ⟨q0, q1, ⟨y, q2⟩, q3⟩ := ab_mem.mp mo
        have il2 := i.l2
        simp only [wpr]
        have fin : ∀ rest', rest'.length = rest.length → (∀ j : Int, 0 ≤ j → j < (p.length : Int) → rt rest' j = rt rest j - if j = o ∧ o ∉ taken then max 0 (level - y) else 0) → R' (.nx rest') := fun rest' e1 e2 => g1 _ ⟨by omega, fun j j0 j1 => by
          have a := e2 j j0 j1
          have b := k2 j j0 j1
          grind⟩
        refine iteP (fun t => ?_) (fun t => ?_)
        · refine lift_i (at_cl q2 q0) ?_
          simp only [wpr]
          refine iteP (fun z => ?_) (fun z => ?_)
          · refine lift_i (at_rt q0 (by omega)) ?_
            refine lift_i (at_cl q2 q0) ?_
            simp only [wpr]
            refine putL q0 (by omega) ?_
            refine fin _ (by simp) fun j j0 j1 => ?_
            rw [rt_set q0 (by omega) j0]
            grind
          · refine fin _ rfl fun j j0 j1 => ?_
            grind
        · refine iteN (by simp) ?_
          refine fin _ rfl fun j j0 j1 => ?_
          grind
      · simp only [wpr]
        refine h1 _ ?_
        rw [List.map_append]
        exact i.step hr hlev.symm k1 k2
  · simp only [wpr]
    have e : (enumT c).map (·.2) = c := by
      unfold enumT
      rw [List.map_map]
      exact List.zipIdx_map_fst _ _
    rw [e] at i
    exact ⟨s.2, i⟩
end Law

set_option Elab.async false
set_option linter.all false
set_option maxRecDepth 100000
/-! SZc: sizes: what they cost. -/
namespace Law
open PySem PyProof.Rows L2 VL TL
open Ty (en)
variable {p : List Int} {c : List (List (Option Int))} {S : List Int}
theorem feas_of {taken left l rest : List Int} (i : RI p taken left c (l, rest)) : Feas p c taken left l := by
  refine ⟨i.l1.symm, fun o h0 h1 nl => ?_⟩
  obtain ⟨k1, k2⟩ := i.ok o h0 h1 nl
  have k1 : o ∈ taken → ovr c l o = 0 := k1
  have k2 : o ∉ taken → 0 ≤ rt rest o ∧ rt rest o = pr p o - ovr c l o := k2
  by_cases t : o ∈ taken
  · rw [if_pos t, k1 t]; omega
  · rw [if_neg t]; have := k2 t; omega
theorem at_cl' {r : List (Option Int)} {o : Int} (h0 : 0 ≤ o) (h1 : o < (r.length : Int)) : atI r o = some (cl r o) := by
  obtain ⟨x, e1, e2⟩ := atI_ok (xs := r) h0 h1
  rw [e1, cl_get e2]
theorem at_pr {o : Int} (h0 : 0 ≤ o) (h1 : o < (p.length : Int)) : atI p o = some (pr p o) := at_rt h0 h1
theorem flt (r : List (Option Int)) : ∀ S : List Int, S.filterMap (cl r) = (S.filter fun o => (cl r o).isSome).map fun o => (cl r o).getD 0
  | [] => rfl
  | o :: S => by
    have ih := flt r S
    cases e : cl r o with
    | none => rw [List.filterMap_cons_none e, List.filter_cons_of_neg (by simp [e]), ih]
    | some y => rw [List.filterMap_cons_some e, List.filter_cons_of_pos (by simp [e]), List.map_cons, ih, e]; rfl
theorem flt' (r : List (Option Int)) : ∀ S : List Int, castL ((S.filter fun o => (cl r o).isSome).map (cl r)) = some (S.filterMap (cl r))
  | [] => rfl
  | o :: S => by
    have ih := flt' r S
    cases e : cl r o with
    | none => rw [List.filterMap_cons_none e, List.filter_cons_of_neg (by simp [e]), ih]
    | some y =>
      rw [List.filterMap_cons_some e, List.filter_cons_of_pos (by simp [e]), List.map_cons, e]
      show (castL _).map _ = _
      rw [ih]; rfl
theorem pcs_snoc {S : List Int} {r : List (Option Int)} : ∀ {c : List (List (Option Int))}, pcs (c ++ [r]) S = (pcs c S).bind fun w => (srv r S).map (w + ·)
  | [] => by
    simp only [List.nil_append, pcs, Option.bind_some]
    cases srv r S <;> simp
  | r' :: c => by
    simp only [List.cons_append, pcs, pcs_snoc (c := c)]
    cases srv r' S <;> cases pcs c S <;> cases srv r S <;> simp <;> omega
theorem pS_ok (hS : Rg p.length S) : mapT (fun x => atI p x) S = some (S.map (pr p)) := mapT_some fun o m => at_pr (hS o m).1 (hS o m).2
theorem served_ok (h : Shp p c) (hS : Rg p.length S) {k : Int} {r : List (Option Int)} (h0 : 0 ≤ k) (hk : c[k.toNat]? = some r) : T_served c S k = some (srv r S) := by
  have hr := h.row r (List.mem_of_getElem? hk)
  have hat : atI c k = some r := by rw [atI_pos h0]; exact hk
  refine lift_to ?_
  unfold T_served
  simp only [wpr]
  refine compL (fun o => (cl r o).isSome) (fun o => (cl r o).getD 0) (fun o m => ?_) (fun o m t => ?_) ?_
  · simp only [wpr]
    refine lift_i hat ?_
    refine lift_i (at_cl' (hS o m).1 (by have := (hS o m).2; omega)) rfl
  · simp only [wpr]
    refine lift_i hat ?_
    refine lift_i (at_cl' (hS o m).1 (by have := (hS o m).2; omega)) ?_
    obtain ⟨y, e⟩ := Option.isSome_iff_exists.mp t
    rw [e]; exact ⟨y, rfl, rfl⟩
  · rw [← flt]
    unfold srv
    refine iteP (fun t => ?_) (fun t => ?_)
    · obtain ⟨m, e⟩ := minT_ne (xs := S.filterMap (cl r)) (by rintro q; rw [q] at t; simp at t)
      exact lift_i e (by rw [e])
    · have : S.filterMap (cl r) = [] := by
        cases q : S.filterMap (cl r) with
        | nil => rfl
        | cons z zs => rw [q] at t; simp at t
      rw [this]; rfl
theorem price_of_ok (h : Shp p c) (hS : Rg p.length S) : T_price_of p c S = some (prc p c S) := by
  refine lift_to ?_
  unfold T_price_of
  simp only [wpr]
  refine lift_i (pS_ok hS) ?_
  refine rngL (by have := h.m; omega) ?_
  refine loopL (fun pre s => ∃ w, pcs (c.take pre.length) S = some w ∧ s = pS p S + w) ⟨0, rfl, by unfold pS; omega⟩ (fun pre x post s he ⟨w, i1, i2⟩ R h1 h2 h3 h4 => ?_) (fun s ⟨w, i1, i2⟩ => ?_)
  · obtain ⟨hx, hp⟩ := rangeT_split he
    have hx' : x = (pre.length : Int) := by omega
    have hlt : pre.length < c.length := by omega
    have hk : c[x.toNat]? = some c[pre.length] := by rw [hx', Int.toNat_natCast]; exact List.getElem?_eq_getElem hlt
    simp only [wpr]
    refine lift_i (served_ok h hS (by omega) hk) ?_
    cases e : srv c[pre.length] S with
    | none =>
      refine iteY rfl (h4 _ ?_)
      simp only [wpr]
      unfold prc
      rw [pcs_none e (List.getElem_mem hlt)]; rfl
    | some y =>
      refine iteN (by simp) ?_
      simp only [wpr]
      refine h1 _ ⟨w + y, ?_, by omega⟩
      rw [List.length_append, List.length_singleton, List.take_succ_eq_append_getElem hlt, pcs_snoc, i1, e]; rfl
  · simp only [wpr]
    rw [rangeT_len] at i1
    unfold prc
    rw [show c.take ((c.length : Int) - 0).toNat = c from by rw [List.take_of_length_le (by omega)]] at i1
    rw [i1, i2]; rfl
theorem law_cost_ok (h : Shp p c) (hS : Rg p.length S) : T__law_cost p c S = some (prc p c S) := by
  refine lift_to ?_
  unfold T__law_cost
  simp only [wpr]
  refine lift_i (pS_ok hS) ?_
  refine loopL (fun pre s => ∃ w, pcs pre S = some w ∧ s = pS p S + w) ⟨0, rfl, by unfold pS; omega⟩ (fun pre r post s he ⟨w, i1, i2⟩ R h1 h2 h3 h4 => ?_) (fun s ⟨w, i1, i2⟩ => ?_)
  · have mr : r ∈ c := by rw [he]; simp
    have hr := h.row r mr
    simp only [wpr]
    refine compL (fun o => (cl r o).isSome) (fun o => cl r o) (fun o m => ?_) (fun o m t => ?_) ?_
    · simp only [wpr]
      exact lift_i (at_cl' (hS o m).1 (by have := (hS o m).2; omega)) rfl
    · exact lift_i (at_cl' (hS o m).1 (by have := (hS o m).2; omega)) rfl
    · refine iteP (fun t => ?_) (fun t => ?_)
      · refine h4 _ ?_
        simp only [wpr]
        unfold prc
        rw [pcs_none (r := r) (srv_none.mpr fun o mo => ?_) mr]
        · rfl
        · have : (S.filter fun o => (cl r o).isSome) = [] := by
            have : ((S.filter fun o => (cl r o).isSome).map fun o => cl r o).length = 0 := by omega
            rw [List.length_map] at this
            exact List.eq_nil_of_length_eq_zero this
          have := List.filter_eq_nil_iff.mp this o mo
          cases q : cl r o with
          | none => rfl
          | some z => rw [q] at this; simp at this
      · refine lift_i (flt' r S) ?_
        have : S.filterMap (cl r) ≠ [] := by
          rw [flt]
          intro q
          apply t
          have := congrArg List.length q
          rw [List.length_map] at this ⊢
          simp only [List.length_nil] at this
          omega
        obtain ⟨m, e⟩ := minT_ne this
        refine lift_i e ?_
        refine h1 _ ⟨w + m, ?_, by omega⟩
        rw [pcs_snoc, i1]
        show (srv r S).map _ = _
        rw [show srv r S = some m from e]; rfl
  · simp only [wpr]
    unfold prc
    rw [i1, i2]; rfl
theorem shown_ok {taken l : List Int} (ht : Rg p.length taken) : T_shown p c taken l = some (pS p taken + l.sum) := by
  refine lift_to ?_
  unfold T_shown
  simp only [wpr]
  exact lift_i (pS_ok ht) rfl
end Law

set_option Elab.async false
set_option linter.all false
set_option maxRecDepth 100000
/-! SZd: sizes: the search. -/
namespace Law
open PySem PyProof.Rows L2 VL TL
open Ty (en)
variable {p : List Int} {c : List (List (Option Int))} {S : List Int}
theorem all_dead {left : List Int} {r : List (Option Int)} (hr : r.length = p.length) : ((List.map (fun (x3 : (Int × (Option Int))) => (x3.2.isNone || (decide (x3.1 ∈ left)))) (enumT r)).all _root_.id) = true ↔ Dead p left r := by
  simp only [List.all_eq_true, List.mem_map, _root_.id]
  unfold Dead
  constructor
  · intro h o h0 h1 nl
    have hlt : o.toNat < r.length := by omega
    have e : r[o.toNat]? = some r[o.toNat] := List.getElem?_eq_getElem hlt
    have := h _ ⟨(o, r[o.toNat]), enumT_mem.mpr ⟨h0, e⟩, rfl⟩
    rw [cl_get e]
    simpa [nl] using this
  · rintro h x ⟨⟨o, v⟩, m, rfl⟩
    obtain ⟨h0, e⟩ := enumT_mem.mp m
    have h0 : 0 ≤ o := h0
    have e : r[o.toNat]? = some v := e
    have hlt := (List.getElem?_eq_some_iff.mp e).1
    by_cases nl : o ∈ left
    · simp [nl]
    · have := h o h0 (by omega) nl
      rw [cl_get e] at this
      simp [this]
theorem dead_ok (h : Shp p c) (s : C_Choice) (hs : s.costs = c) (left : List Int) : lift (T_Choice_dead s left) fun r => (∀ k, r = some k → 0 ≤ k ∧ k < (c.length : Int) ∧ ∃ row, c[k.toNat]? = some row ∧ Dead p left row) ∧ (r = none → ∀ row ∈ c, ¬ Dead p left row) := by
  unfold T_Choice_dead
  rw [hs]
  simp only [wpr]
  refine loopL (fun pre _ => ∀ x ∈ pre, ¬ Dead p left x.2) (fun x m => by cases m) (fun pre x post s he i R h1 h2 h3 h4 => ?_) (fun s i => ?_)
  · have mx : x ∈ enumT c := by rw [he]; simp
    obtain ⟨x0, x1⟩ := enumT_mem.mp mx
    have hr := h.row _ (List.mem_of_getElem? x1)
    simp only [wpr]
    refine iteP (fun t => h4 _ ?_) (fun t => h1 _ ?_)
    · simp only [wpr]
      refine ⟨fun k e => ?_, fun e => by cases e⟩
      cases e
      exact ⟨x0, by have := (List.getElem?_eq_some_iff.mp x1).1; omega, _, x1, (all_dead hr).mp t⟩
    · intro y my
      rcases List.mem_append.mp my with m | m
      · exact i y m
      · rw [List.mem_singleton.mp m]
        exact fun d => t ((all_dead hr).mpr d)
  · simp only [wpr]
    refine ⟨fun k e => (by cases e), fun _ row m => ?_⟩
    obtain ⟨k, hk⟩ := List.getElem?_of_mem m
    exact i (k, row) (enumT_mem.mpr ⟨Int.natCast_nonneg _, by simpa using hk⟩)
structure GInv (p : List Int) (c : List (List (Option Int))) (s : C_Choice) : Prop where
  hp : s.prices = p
  hc : s.costs = c
  ok : (s.best = none ∧ s.cost = none) ∨ ∃ b v, s.best = some b ∧ s.cost = some v ∧ b.Pairwise (· < ·) ∧ Rg p.length b ∧ prc p c b = some v
def Below (o : Option Int) (v : Int) : Prop := ∃ v', o = some v' ∧ v' ≤ v
def Cov (p : List Int) (c : List (List (Option Int))) (taken left : List Int) (o : Option Int) : Prop := ∀ S, Bet p.length taken left S → ∀ v, prc p c S = some v → Below o v
structure Dj (n : Nat) (taken left : List Int) : Prop where
  nd : (taken ++ left).Nodup
  rg : Rg n (taken ++ left)
theorem Dj.len {n : Nat} {taken left : List Int} (d : Dj n taken left) : taken.length + left.length ≤ n := by
  have := nodup_len_le n d.nd d.rg
  rwa [List.length_append] at this
def fre (n : Int) (taken left : List Int) : List Int := List.map (fun (x34 : Int) => x34) (List.filter (fun (x34 : Int) => ((!decide (x34 ∈ taken)) && (!decide (x34 ∈ left)))) (rangeT 0 n))
theorem fre_mem {n : Int} {taken left : List Int} {x : Int} : x ∈ fre n taken left ↔ 0 ≤ x ∧ x < n ∧ x ∉ taken ∧ x ∉ left := by
  unfold fre
  simp only [List.map_id', List.mem_filter, mem_rangeT, Bool.and_eq_true, Bool.not_eq_true', decide_eq_false_iff_not]
  grind
theorem Dj.left {n : Nat} {taken left : List Int} {x : Int} (d : Dj n taken left) (m : x ∈ fre n taken left) : Dj n (taken ++ [x]) left ∧ Dj n taken (left ++ [x]) := by
  obtain ⟨h0, h1, h2, h3⟩ := fre_mem.mp m
  have nd := d.nd
  have r1 := fun k (m : k ∈ taken) => d.rg k (List.mem_append_left _ m)
  have r2 := fun k (m : k ∈ left) => d.rg k (List.mem_append_right _ m)
  refine ⟨⟨by grind, fun k m => by grind⟩, ⟨by grind, fun k m => by grind⟩⟩
theorem Bet.split {n : Nat} {taken left : List Int} {x : Int} (b : Bet n taken left S) : (Bet n (taken ++ [x]) left S) ∨ (Bet n taken (left ++ [x]) S) := by
  by_cases m : x ∈ S
  · exact .inl ⟨b.nd, b.rg, fun k h => by have := b.tk k; grind, b.lf⟩
  · exact .inr ⟨b.nd, b.rg, b.tk, fun k h => by have := b.lf k; grind⟩
theorem Bet.all {n : Nat} {taken left : List Int} (b : Bet n taken left S) (h : fre n taken left = []) (nd : taken.Nodup) : S.Perm taken := by
  refine perm_of b.nd nd fun x => ⟨fun m => ?_, b.tk x⟩
  have h1 := b.rg x m
  have h2 := fun q => b.lf x q m
  by_cases t : x ∈ taken
  · exact t
  · have : x ∈ fre n taken left := fre_mem.mpr ⟨h1.1, h1.2, t, h2⟩
    rw [h] at this; cases this
theorem go_ok (h : Shp p c) : ∀ (fu : Nat) (s : C_Choice) (taken left : List Int), GInv p c s → Dj p.length taken left → p.length < fu + (taken.length + left.length) →
    lift (T_Choice_go fu s taken left) fun r => GInv p c r.2 ∧ (∀ v, s.cost = some v → Below r.2.cost v) ∧ Cov p c taken left r.2.cost
  | 0, s, taken, left, g, d, hf => by have := d.len; omega
  | fu + 1, s, taken, left, g, d, hf => by
    unfold T_Choice_go
    simp only [wpk, wpo]
    have ndt : taken.Nodup := (List.nodup_append.mp d.nd).1
    have rgt : Rg p.length taken := fun k m => d.rg k (List.mem_append_left _ m)
    have refl : ∀ v, s.cost = some v → Below s.cost v := fun v e => ⟨v, e, Int.le_refl _⟩
    refine lift_mono (dead_ok h s g.hc left) fun r ⟨k1, k2⟩ => ?_
    refine ifL (fun t => ?_) (fun t => ?_)
    · obtain ⟨k, rfl⟩ := Option.isSome_iff_exists.mp t
      obtain ⟨_, _, row, e, dd⟩ := k1 k rfl
      simp only [wpk, wpo]
      refine ⟨g, refl, fun S b v e' => ?_⟩
      rw [dead_none (List.mem_of_getElem? e) dd b] at e'; cases e'
    rw [g.hp, g.hc]
    obtain ⟨l, el, rest, ri⟩ := raised_ok h taken left
    simp only [wpk, wpo]
    refine lift_i el ?_
    have fs := feas_of ri
    have esh : T_shown p c taken l = some (pS p taken + l.sum) := shown_ok rgt
    refine condL (∃ v, s.cost = some v ∧ v ≤ pS p taken + l.sum) ?_ (fun ⟨v, e, le⟩ => ?_) (fun nb => ?_)
    · cases e : s.cost with
      | none => exact ifN (by simp) ⟨_, rfl, by simp⟩
      | some v =>
        refine ifY rfl ?_
        simp only [wpk, wpo]
        refine lift_i esh ?_
        simp
    · simp only [wpk, wpo]
      refine ⟨g, refl, fun S b w ew => ⟨v, e, ?_⟩⟩
      have := weak fs b ndt ew
      omega
    simp only [wpk, wpo]
    refine lift_i (price_of_ok h rgt) ?_
    refine condB (∃ v, prc p c taken = some v ∧ ∀ w, s.cost = some w → v < w) ?_ (fun up iup => ?_)
    · cases e : prc p c taken with
      | none => exact ifN (by simp) ⟨_, rfl, by simp⟩
      | some v =>
        refine ifY rfl ?_
        cases e2 : s.cost with
        | none => exact ifY rfl ⟨_, rfl, by simp⟩
        | some w =>
          refine ifN (by simp) ?_
          simp only [wpk, wpo]
          simp
    refine jn_P (fun s2 => GInv p c s2 ∧ (∀ v, s.cost = some v → Below s2.cost v) ∧ ∀ v, prc p c taken = some v → Below s2.cost v) (fun R q1 q2 q3 q4 => ?_) (fun s2 ⟨g2, b2, t2⟩ => ?_)
    · refine ifL (fun z => ?_) (fun z => ?_)
      · obtain ⟨v, ev, lt⟩ := iup.mp z
        simp only [wpk, wpo]
        refine sortL (by have := d.len; have := h.n; omega) ?_
        refine q1 _ ⟨⟨rfl, rfl, .inr ⟨_, v, rfl, ev, sortT_lt ndt, fun k m => rgt k (mem_sortT.mp m), ?_⟩⟩, fun w ew => ⟨v, ev, ?_⟩, fun w ew => ⟨v, ev, ?_⟩⟩
        · rw [prc_perm (sortT_perm _)]; exact ev
        · have := lt w ew; omega
        · rw [ev] at ew; cases ew; exact Int.le_refl _
      · refine ⟨_, rfl, q1 _ ⟨g, refl, fun v ev => ?_⟩⟩
        cases e2 : s.cost with
        | none => exact absurd (iup.mpr ⟨v, ev, fun w ew => by rw [e2] at ew; cases ew⟩) z
        | some w =>
          refine ⟨w, rfl, ?_⟩
          by_cases q : v < w
          · exact absurd (iup.mpr ⟨v, ev, fun w' ew => by rw [e2] at ew; cases ew; exact q⟩) z
          · omega
    · rw [g2.hp]
      simp only [wpk, wpo]
      refine rngL (by have := h.n; omega) ?_
      show lift (if (fre p.length taken left).isEmpty = false then _ else _) _
      have hfr : (List.map (fun (x34 : Int) => x34) (List.filter (fun (x34 : Int) => !decide (x34 ∈ taken) && !decide (x34 ∈ left)) (rangeT 0 (p.length : Int)))) = fre p.length taken left := rfl
      rw [hfr]
      refine ifL (fun ne => ?_) (fun em => ?_)
      · obtain ⟨x, xs, ex⟩ : ∃ x xs, fre p.length taken left = x :: xs := by
          cases q : fre p.length taken left with
          | nil => rw [q] at ne; cases ne
          | cons x xs => exact ⟨x, xs, rfl⟩
        have hx : atI (fre p.length taken left) 0 = some x := by rw [ex, atI_pos (by omega)]; rfl
        obtain ⟨d1, d2⟩ := d.left (by rw [ex]; exact List.mem_cons_self ..)
        have dl := d.len
        have hn := h.n
        simp only [wpk, wpo]
        refine lift_i hx ?_
        refine addLL (by simp; omega) ?_
        refine lift_mono (go_ok h fu s2 (taken ++ [x]) left g2 d1 (by simp; omega)) fun r3 ⟨g3, b3, c3⟩ => ?_
        refine lift_i hx ?_
        refine addLL (by simp; omega) ?_
        refine lift_mono (go_ok h fu r3.2 taken (left ++ [x]) g3 d2 (by simp; omega)) fun r4 ⟨g4, b4, c4⟩ => ?_
        have tr : ∀ {o1 o2 : Option Int} {v : Int}, (∀ w, o1 = some w → Below o2 w) → Below o1 v → Below o2 v := fun {o1 o2 v} h1 ⟨w, e, le⟩ => by
          obtain ⟨w', e', le'⟩ := h1 w e
          exact ⟨w', e', by omega⟩
        refine ⟨g4, fun v ev => tr b4 (tr b3 (b2 v ev)), fun S b v ev => ?_⟩
        rcases b.split (x := x) with b | b
        · exact tr b4 (c3 S b v ev)
        · exact c4 S b v ev
      · have e0 : fre p.length taken left = [] := by
          cases q : fre p.length taken left with
          | nil => rfl
          | cons x xs => rw [q] at em; exact absurd rfl em
        simp only [wpk, wpo]
        refine ⟨g2, b2, fun S b v ev => t2 v ?_⟩
        rw [← prc_perm (b.all e0 ndt)]; exact ev
end Law

set_option Elab.async false
set_option linter.all false
set_option maxRecDepth 100000
/-! SZe: sizes: trees that show it, both readings. -/
namespace Law
open PySem PyProof.Rows L2 VL TL
open Ty (en)
variable {p : List Int} {c : List (List (Option Int))} {S : List Int}
inductive Tr where
  | dead (k : Int)
  | shares (l : List Int)
  | size (k : Int) (a b : Tr)
def enT : Tr → D
  | .dead k => .tup [en ("dead" : Str), en k]
  | .shares l => .tup [en ("shares" : Str), en l]
  | .size k a b => .tup [en ("size" : Str), en k, enT a, enT b]
def Tr.dp : Tr → Nat
  | .size _ a b => max a.dp b.dp + 1
  | _ => 0
def okDead (p : List Int) (c : List (List (Option Int))) (left : List Int) (k : Int) : Prop := 0 ≤ k ∧ k < (c.length : Int) ∧ ∃ row, c[k.toNat]? = some row ∧ Dead p left row
def okShares (p : List Int) (c : List (List (Option Int))) (bound : Option Int) (taken left l : List Int) : Prop := ∃ b, bound = some b ∧ Feas p c taken left l ∧ b ≤ pS p taken + l.sum
def okSize (p taken left : List Int) (k : Int) : Prop := 0 ≤ k ∧ k < (p.length : Int) ∧ k ∉ taken ∧ k ∉ left
open Classical in
noncomputable def fltT (p : List Int) (c : List (List (Option Int))) (bound : Option Int) : List Int → List Int → List (Int × Int) → Tr → Option (Str × List (Int × Int))
  | _, left, path, .dead k => if okDead p c left k then none else some ("dead", path)
  | taken, left, path, .shares l => if okShares p c bound taken left l then none else some ("shares", path)
  | taken, left, path, .size k a b => if okSize p taken left k then
      (match fltT p c bound (taken ++ [k]) left (path ++ [(k, 1)]) a with
      | some f => some f
      | none => fltT p c bound taken (left ++ [k]) (path ++ [(k, 0)]) b)
    else some ("size", path)
def enF : Option (Str × List (Int × Int)) → D
  | none => .non
  | some f => .tup [en f.1, en f.2]
theorem ne_ds : ¬ ("shares" : Str) = "dead" := by decide +kernel
theorem ne_zd : ¬ ("size" : Str) = "dead" := by decide +kernel
theorem ne_zs : ¬ ("size" : Str) = "shares" := by decide +kernel
theorem ovr_take {c : List (List (Option Int))} {l : List Int} {pre : List (Int × List (Option Int))} {x : Int × List (Option Int)} {post : List (Int × List (Option Int))} {o y : Int} (hl : l.length = c.length) (he : enumT c = pre ++ x :: post) (hy : l[x.1.toNat]? = some y) :
    ovr ((pre ++ [x]).map (·.2)) (l.take (pre ++ [x]).length) o = ovr (pre.map (·.2)) (l.take pre.length) o + (match cl x.2 o with | some v => max 0 (y - v) | none => 0) := by
  have hx : x.1 = pre.length := by
    have : (enumT c)[pre.length]? = some x := by rw [he]; simp
    exact (enumT_get this).1
  have hlt : pre.length < l.length := by
    have := congrArg List.length he
    rw [enumT_len, List.length_append, List.length_cons] at this
    omega
  have ey : l[pre.length] = y := by
    rw [hx, Int.toNat_natCast, List.getElem?_eq_getElem hlt] at hy
    exact Option.some.inj hy
  rw [List.map_append, List.length_append, List.length_singleton, List.take_succ_eq_append_getElem hlt, ey]
  exact ovr_snoc (by rw [List.length_map, List.length_take]; omega)
theorem enum_snd {α : Type} (c : List α) : (enumT c).map (·.2) = c := by
  unfold enumT
  rw [List.map_map]
  exact List.zipIdx_map_fst _ _
theorem shares_right_ok (h : Shp p c) {taken left : List Int} (ht : Rg p.length taken) (bound : Option Int) (l : List Int) : lift (T_shares_right p c taken left bound l) fun b => (b = true ↔ okShares p c bound taken left l) := by
  unfold T_shares_right
  simp only [wpk]
  refine ifL (fun z => ?_) (fun z => ?_)
  · simp only [wpk]
    refine iff_of_false (by simp) ?_
    rintro ⟨b, rfl, f, _⟩
    have := f.len
    simp [this] at z
  · have hl : l.length = c.length := by
      simp at z; omega
    obtain ⟨b, rfl⟩ : ∃ b, bound = some b := by
      cases bound with
      | none => simp at z
      | some b => exact ⟨b, rfl⟩
    refine jn_of ?_
    refine loopL (fun pre _ => ∀ x ∈ pre, x.1 ∉ left → ovr c l x.1 ≤ if x.1 ∈ taken then 0 else x.2) (fun x m => by cases m) (fun pre x post s he i R h1 h2 h3 h4 => ?_) (fun s i => ?_)
    · have mx : x ∈ enumT p := by rw [he]; simp
      obtain ⟨x0, x1⟩ := enumT_mem.mp mx
      have xlt := (List.getElem?_eq_some_iff.mp x1).1
      have epr : pr p x.1 = x.2 := by unfold pr; rw [x1]; rfl
      have go1 : x.1 ∈ left → R (.nx ()) := fun t => h1 _ fun y my => by
        rcases List.mem_append.mp my with m | m
        · exact i y m
        · rw [List.mem_singleton.mp m]; exact fun q => absurd t q
      refine ifL (fun nl => ?_) (fun nl => ?_)
      · simp only [wpk]
        refine jn_of (loopL (fun pre s => s = ovr (pre.map (·.2)) (l.take pre.length) x.1) rfl (fun pre' y post' s he' i' R' g1 g2 g3 g4 => ?_) (fun s i' => ?_))
        · have my : y ∈ enumT c := by rw [he']; simp
          obtain ⟨y0, y1⟩ := enumT_mem.mp my
          have hr := h.row _ (List.mem_of_getElem? y1)
          have ylt := (List.getElem?_eq_some_iff.mp y1).1
          have hat : atI y.2 x.1 = some (cl y.2 x.1) := at_cl' x0 (by omega)
          obtain ⟨w, w1, w2⟩ := atI_ok (xs := l) (i := y.1) y0 (by omega)
          have ot := ovr_take (o := x.1) hl he' w2
          simp only [wpk]
          refine lift_i hat ?_
          cases e : cl y.2 x.1 with
          | none =>
            rw [e] at ot
            refine ifN (by simp) ⟨_, rfl, g1 _ ?_⟩
            rw [ot, i']; simp
          | some v =>
            rw [e] at ot
            refine ifY rfl ?_
            simp only [wpk]
            refine lift_i w1 ?_
            refine lift_i hat ?_
            rw [e]
            simp only [wpk]
            refine g1 _ ?_
            rw [ot, i']
        · have i' : s = ovr c l x.1 := by
            rw [i', enum_snd, enumT_len, ← hl, List.take_length]
          simp only [wpk]
          refine ifL (fun t => ?_) (fun t => ?_)
          · simp only [wpk]
            refine h4 _ ?_
            simp only [wpk]
            refine iff_of_false (by simp) ?_
            rintro ⟨b, _, f, _⟩
            have := f.ok x.1 x0 (by omega) nl
            rw [epr] at this
            by_cases q : x.1 ∈ taken
            · simp [q] at this t; omega
            · simp [q] at this t; omega
          · simp only [wpk]
            refine h1 _ fun y my => ?_
            rcases List.mem_append.mp my with m | m
            · exact i y m
            · rw [List.mem_singleton.mp m]
              intro _
              by_cases q : x.1 ∈ taken
              · simp [q] at t ⊢; omega
              · simp [q] at t ⊢; omega
      · simp only [wpk]
        exact go1 (by simpa using nl)
    · have fs : Feas p c taken left l := ⟨hl, fun o h0 h1 nl => by
        have hlt : o.toNat < p.length := by omega
        have e : p[o.toNat]? = some p[o.toNat] := List.getElem?_eq_getElem hlt
        have := i (o, p[o.toNat]) (enumT_mem.mpr ⟨h0, e⟩) nl
        have epr : pr p o = p[o.toNat] := by unfold pr; rw [e]; rfl
        rw [epr]; exact this⟩
      simp only [wpk]
      refine lift_i (shown_ok ht) ?_
      exact ⟨fun q => ⟨b, rfl, fs, q⟩, fun ⟨b', e, _, q⟩ => by cases e; exact q⟩
end Law

set_option Elab.async false
set_option linter.all false
set_option maxRecDepth 100000
/-! SZf: sizes: the trees' faults, both readings. -/
namespace Law
open PySem PyProof.Rows L2 VL TL
open Ty (en)
variable {p : List Int} {c : List (List (Option Int))} {S : List Int}
theorem enT_0 (t : Tr) : dIx (enT t) (.int 0) = some (match t with | .dead _ => en ("dead" : Str) | .shares _ => en ("shares" : Str) | .size _ _ _ => en ("size" : Str)) := by
  cases t <;> rfl
theorem enF_non {o : Option (Str × List (Int × Int))} : nonD (enF o) = true ↔ o = none := by
  cases o <;> simp [enF, nonD]
def cx (c : List (List (Option Int))) (k o : Int) : Option Int := cl ((c[k.toNat]?).getD []) o
theorem cx_at {k o : Int} {r : List (Option Int)} (h : c[k.toNat]? = some r) : cx c k o = cl r o := by unfold cx; rw [h]; rfl
theorem range_snoc (m : Nat) : rangeT 0 ((m + 1 : Nat) : Int) = rangeT 0 (m : Int) ++ [(m : Int)] := by
  rw [rangeT_nat, rangeT_nat, List.range_succ, List.map_append]; rfl
theorem ovr_sum {l : List Int} (hl : l.length = c.length) (o : Int) : ∀ m : Nat, m ≤ c.length →
    (((rangeT 0 (m : Int)).filter fun k => (cx c k o).isSome).map fun k => max 0 (rt l k - (cx c k o).getD 0)).sum = ovr (c.take m) (l.take m) o
  | 0, _ => rfl
  | m + 1, hm => by
    have ih := ovr_sum hl o m (by omega)
    have h1 : m < c.length := by omega
    have h2 : m < l.length := by omega
    have e1 : c[((m : Int)).toNat]? = some c[m] := by rw [Int.toNat_natCast]; exact List.getElem?_eq_getElem h1
    have e2 : rt l (m : Int) = l[m] := by unfold rt; rw [Int.toNat_natCast, List.getElem?_eq_getElem h2]; rfl
    rw [range_snoc, List.filter_append, List.map_append, List.sum_append, ih, List.take_succ_eq_append_getElem h1, List.take_succ_eq_append_getElem h2, ovr_snoc (by rw [List.length_take, List.length_take]; omega)]
    congr 1
    rw [List.filter_cons, cx_at e1]
    cases e : cl c[m] (m : Int) <;> cases e' : cl c[m] o <;> simp [e', cx_at e1, e2]
theorem fuel_le {fu : Nat} {k : Int} {a b : Tr} (h : (Tr.size k a b).dp < fu + 1) : a.dp < fu ∧ b.dp < fu := by
  unfold Tr.dp at h
  omega
theorem rg_snoc {taken : List Int} {k : Int} (h : Rg p.length taken) (h0 : 0 ≤ k) (h1 : k < (p.length : Int)) : Rg p.length (taken ++ [k]) := fun x m => by
  rcases List.mem_append.mp m with m | m
  · exact h x m
  · rw [List.mem_singleton.mp m]; exact ⟨h0, h1⟩
theorem tree_fault_ok (h : Shp p c) (bound : Option Int) : ∀ (fu : Nat) (t : Tr) (taken left : List Int) (path : List (Int × Int)), t.dp < fu → Rg p.length taken → taken.length + t.dp < 1000 → left.length + t.dp < 1000 → path.length + t.dp < 1000 →
    T_tree_fault fu p c taken left bound path (enT t) = some (enF (fltT p c bound taken left path t))
  | 0, t, _, _, _, hf, _, _, _, _ => absurd hf (Nat.not_lt_zero _)
  | fu + 1, t, taken, left, path, hf, ht, l1, l2, l3 => by
    refine lift_to ?_
    unfold T_tree_fault
    simp only [wpk]
    refine lift_i (enT_0 t) ?_
    cases t with
    | dead k =>
      refine lift_i (eqDT_str _ _) (ifY (by simp) ?_)
      simp only [wpk]
      have e1 : dIx (enT (.dead k)) (.int 1) = some (.int k) := rfl
      refine lift_i e1 (lift_i (a := k) rfl ?_)
      refine condB (okDead p c left k) ?_ (fun t it => ?_)
      · refine ifL (fun z => ?_) (fun z => ?_)
        · have z' : 0 ≤ k ∧ k < (c.length : Int) := by simpa using z
          obtain ⟨row, r1, r2⟩ := atI_ok (xs := c) z'.1 z'.2
          simp only [wpk]
          refine lift_i e1 (lift_i (a := k) rfl (lift_i r1 ?_))
          rw [all_dead (h.row row (List.mem_of_getElem? r2))]
          exact ⟨fun d => ⟨z'.1, z'.2, row, r2, d⟩, fun ⟨_, _, row', r2', d⟩ => by rw [r2] at r2'; cases r2'; exact d⟩
        · simp only [wpk]
          refine iff_of_false (by simp) fun ⟨a, b, _⟩ => z (by simp [a, b])
      · unfold fltT
        by_cases q : okDead p c left k
        · rw [if_pos (it.mpr q), if_pos q]; rfl
        · rw [if_neg fun z => q (it.mp z), if_neg q]; rfl
    | shares l =>
      refine lift_i (eqDT_str _ _) (ifN (by simpa using ne_ds) ?_)
      simp only [wpk]
      refine lift_i (enT_0 (.shares l)) (lift_i (eqDT_str _ _) (ifY (by simp) ?_))
      simp only [wpk]
      have e1 : dIx (enT (.shares l)) (.int 1) = some (en l) := rfl
      refine lift_i e1 (lift_i (DeE.ee l) ?_)
      refine lift_mono (shares_right_ok h ht bound l) fun t it => ?_
      unfold fltT
      by_cases q : okShares p c bound taken left l
      · rw [if_pos (it.mpr q), if_pos q]; rfl
      · rw [if_neg fun z => q (it.mp z), if_neg q]; rfl
    | size k a b =>
      refine lift_i (eqDT_str _ _) (ifN (by simpa using ne_zd) ?_)
      simp only [wpk]
      refine lift_i (enT_0 (.size k a b)) (lift_i (eqDT_str _ _) (ifN (by simpa using ne_zs) ?_))
      simp only [wpk]
      refine lift_i (a := (⟨("size" : Str), k, enT a, enT b⟩ : T4 Str Int D D)) (DeE.ee (⟨("size" : Str), k, enT a, enT b⟩ : T4 Str Int D D)) ?_
      obtain ⟨da, db⟩ := fuel_le hf
      have dd : (Tr.size k a b).dp = max a.dp b.dp + 1 := rfl
      unfold fltT
      refine ifL (fun z => ?_) (fun z => ?_)
      · have nq : ¬ okSize p taken left k := fun ⟨z1, z2, z3, z4⟩ => by simp [z1, z2, z3, z4] at z
        rw [if_neg nq]
        simp only [wpk]
        rfl
      · have q : okSize p taken left k := by
          unfold okSize
          simp at z
          grind
        rw [if_pos q]
        simp only [wpk]
        refine addLL (by simp; omega) (addLL (by simp; omega) ?_)
        refine lift_i (tree_fault_ok h bound fu a (taken ++ [k]) left _ da (rg_snoc ht q.1 q.2.1) (by simp; omega) (by omega) (by simp; omega)) ?_
        cases e : fltT p c bound (taken ++ [k]) left (path ++ [(k, 1)]) a with
        | some f =>
          refine ifY rfl ?_
          simp only [wpk]
        | none =>
          refine ifN (by simp [enF, nonD]) ?_
          simp only [wpk]
          refine addLL (by simp; omega) (addLL (by simp; omega) ?_)
          refine lift_i (tree_fault_ok h bound fu b taken (left ++ [k]) _ db ht (by omega) (by simp; omega) (by simp; omega)) ?_
          rfl
end Law

set_option Elab.async false
set_option linter.all false
set_option maxRecDepth 100000
/-! SZg: sizes: the law's own reading of trees. -/
namespace Law
open PySem PyProof.Rows L2 VL TL
open Ty (en)
variable {p : List Int} {c : List (List (Option Int))} {S : List Int}
theorem law_dead {left : List Int} {r : List (Option Int)} (hr : r.length = p.length) : (((List.filter (fun o => (cl r o).isSome && !decide (o ∈ left)) (rangeT 0 (p.length : Int))).map (fun x => x)).length : Int) = 0 ↔ Dead p left r := by
  rw [List.map_id', Int.natCast_eq_zero, List.length_eq_zero_iff, List.filter_eq_nil_iff]
  unfold Dead
  constructor
  · intro h o h0 h1 nl
    have := h o (mem_rangeT.mpr ⟨h0, h1⟩)
    cases e : cl r o with
    | none => rfl
    | some y => simp [e, nl] at this
  · intro h o mo
    obtain ⟨h0, h1⟩ := mem_rangeT.mp mo
    by_cases nl : o ∈ left
    · simp [nl]
    · simp [h o h0 h1 nl]
theorem law_tree_ok (h : Shp p c) (bound : Option Int) : ∀ (fu : Nat) (t : Tr) (taken left : List Int) (path : List (Int × Int)), t.dp < fu → Rg p.length taken → taken.length + t.dp < 1000 → left.length + t.dp < 1000 → path.length + t.dp < 1000 →
    T__law_tree_fault fu p c taken left bound path (enT t) = some (enF (fltT p c bound taken left path t))
  | 0, t, _, _, _, hf, _, _, _, _ => absurd hf (Nat.not_lt_zero _)
  | fu + 1, t, taken, left, path, hf, ht, l1, l2, l3 => by
    refine lift_to ?_
    unfold T__law_tree_fault
    simp only [wpk]
    refine lift_i (enT_0 t) ?_
    cases t with
    | dead k =>
      refine lift_i (eqDT_str _ _) (ifY (by simp) ?_)
      simp only [wpk]
      have e1 : dIx (enT (.dead k)) (.int 1) = some (.int k) := rfl
      refine lift_i e1 (lift_i (a := k) rfl ?_)
      refine condB (okDead p c left k) ?_ (fun t it => ?_)
      · refine ifL (fun z => ?_) (fun z => ?_)
        · have z' : 0 ≤ k ∧ k < (c.length : Int) := by simpa using z
          obtain ⟨row, r1, r2⟩ := atI_ok (xs := c) z'.1 z'.2
          have hr := h.row row (List.mem_of_getElem? r2)
          simp only [wpk]
          refine rngL (by have := h.n; omega) ?_
          refine compL (fun o => (cl row o).isSome && !decide (o ∈ left)) (fun o => o) (fun o mo => ?_) (fun o _ _ => ⟨_, rfl, rfl⟩) ?_
          · obtain ⟨o0, o1⟩ := mem_rangeT.mp mo
            simp only [wpk]
            refine lift_i e1 (lift_i (a := k) rfl (lift_i r1 (lift_i (at_cl' o0 (by omega)) rfl)))
          · rw [law_dead hr]
            exact ⟨fun d => ⟨z'.1, z'.2, row, r2, d⟩, fun ⟨_, _, row', r2', d⟩ => by rw [r2] at r2'; cases r2'; exact d⟩
        · refine ⟨_, rfl, iff_of_false (by simp) fun ⟨a, b, _⟩ => z (by simp [a, b])⟩
      · unfold fltT
        by_cases q : okDead p c left k
        · rw [if_pos (it.mpr q), if_pos q]; rfl
        · rw [if_neg fun z => q (it.mp z), if_neg q]; rfl
    | shares l =>
      refine lift_i (eqDT_str _ _) (ifN (by simpa using ne_ds) ?_)
      simp only [wpk]
      refine lift_i (enT_0 (.shares l)) (lift_i (eqDT_str _ _) (ifY (by simp) ?_))
      simp only [wpk]
      have e1 : dIx (enT (.shares l)) (.int 1) = some (en l) := rfl
      refine lift_i e1 (lift_i (DeE.ee l) ?_)
      unfold fltT
      refine ifL (fun z => ?_) (fun z => ?_)
      · simp only [wpk]
        rw [if_neg]
        · rfl
        · rintro ⟨b, rfl, f, _⟩
          have := f.len
          simp [this] at z
      · have hl : l.length = c.length := by
          simp at z; omega
        obtain ⟨b, rfl⟩ : ∃ b, bound = some b := by
          cases bound with
          | none => simp at z
          | some b => exact ⟨b, rfl⟩
        simp only [wpk]
        refine rngL (by have := h.n; omega) (jn_of ?_)
        refine loopL (fun pre _ => ∀ o ∈ pre, o ∉ left → ovr c l o ≤ if o ∈ taken then 0 else pr p o) (fun x m => by cases m) (fun pre o post s he i R h1 h2 h3 h4 => ?_) (fun s i => ?_)
        · have mo : o ∈ rangeT 0 (p.length : Int) := by rw [he]; simp
          obtain ⟨o0, o1⟩ := mem_rangeT.mp mo
          have acc : ∀ k : Int, 0 ≤ k → k < (c.length : Int) → ∃ row, atI c k = some row ∧ atI row o = some (cx c k o) := fun k k0 k1 => by
            obtain ⟨row, r1, r2⟩ := atI_ok (xs := c) k0 k1
            have hr := h.row row (List.mem_of_getElem? r2)
            exact ⟨row, r1, by rw [cx_at r2]; exact at_cl' o0 (by omega)⟩
          simp only [wpk]
          refine rngL (by have := h.m; omega) ?_
          refine compL (fun k => (cx c k o).isSome) (fun k => max 0 (rt l k - (cx c k o).getD 0)) (fun k mk => ?_) (fun k mk tk => ?_) ?_
          · obtain ⟨k0, k1⟩ := mem_rangeT.mp mk
            obtain ⟨row, a1, a2⟩ := acc k k0 k1
            simp only [wpk]
            exact lift_i a1 (lift_i a2 rfl)
          · obtain ⟨k0, k1⟩ := mem_rangeT.mp mk
            obtain ⟨row, a1, a2⟩ := acc k k0 k1
            obtain ⟨y, ey⟩ := Option.isSome_iff_exists.mp tk
            simp only [wpk]
            refine lift_i (at_rt k0 (by omega)) (lift_i a1 (lift_i a2 ?_))
            rw [ey]
            exact ⟨_, rfl, rfl⟩
          · have es := ovr_sum hl o c.length (Nat.le_refl _)
            rw [List.take_length, ← hl, List.take_length] at es
            rw [hl] at es
            rw [es]
            refine condB (o ∉ left ∧ (if o ∈ taken then 0 else pr p o) < ovr c l o) ?_ (fun t it => ?_)
            · refine ifL (fun nl => ?_) (fun nl => ?_)
              · simp only [wpk]
                refine lift_mono (P := fun v => v = if o ∈ taken then 0 else pr p o) ?_ fun v ev => ?_
                · exact ifL (fun t => ⟨_, rfl, by rw [if_pos t]⟩) (fun t => ⟨_, at_pr o0 o1, by rw [if_neg t]⟩)
                · rw [ev]; simp at nl ⊢; exact fun _ => nl
              · exact ⟨_, rfl, iff_of_false (by simp) fun ⟨a, _⟩ => nl (by simpa using a)⟩
            · refine ifL (fun z => ?_) (fun z => ?_)
              · refine ⟨_, rfl, h4 _ ?_⟩
                simp only [wpk]
                obtain ⟨nl, lt⟩ := it.mp z
                rw [if_neg]
                · rfl
                · rintro ⟨b, _, f, _⟩
                  have := f.ok o o0 o1 nl
                  omega
              · refine ⟨_, rfl, h1 _ fun y my nl => ?_⟩
                rcases List.mem_append.mp my with m | m
                · exact i y m nl
                · rw [List.mem_singleton.mp m] at nl ⊢
                  have : ¬ (o ∉ left ∧ (if o ∈ taken then 0 else pr p o) < ovr c l o) := fun q => z (it.mpr q)
                  have : ¬ ((if o ∈ taken then 0 else pr p o) < ovr c l o) := fun q => this ⟨nl, q⟩
                  omega
        · have fs : Feas p c taken left l := ⟨hl, fun o h0 h1 nl => i o (mem_rangeT.mpr ⟨h0, h1⟩) nl⟩
          simp only [wpk]
          refine lift_i (pS_ok ht) ?_
          by_cases q : b ≤ pS p taken + l.sum
          · rw [if_pos (by exact q), if_pos ⟨b, rfl, fs, q⟩]; rfl
          · rw [if_neg (by exact q), if_neg fun ⟨b', e, _, q'⟩ => by cases e; exact q q']; rfl
    | size k a b =>
      refine lift_i (eqDT_str _ _) (ifN (by simpa using ne_zd) ?_)
      simp only [wpk]
      refine lift_i (enT_0 (.size k a b)) (lift_i (eqDT_str _ _) (ifN (by simpa using ne_zs) ?_))
      simp only [wpk]
      refine lift_i (a := (⟨("size" : Str), k, enT a, enT b⟩ : T4 Str Int D D)) (DeE.ee (⟨("size" : Str), k, enT a, enT b⟩ : T4 Str Int D D)) ?_
      obtain ⟨da, db⟩ := fuel_le hf
      have dd : (Tr.size k a b).dp = max a.dp b.dp + 1 := rfl
      unfold fltT
      refine ifL (fun z => ?_) (fun z => ?_)
      · have nq : ¬ okSize p taken left k := fun ⟨z1, z2, z3, z4⟩ => by simp [z1, z2, z3, z4] at z
        rw [if_neg nq]
        simp only [wpk]
        rfl
      · have q : okSize p taken left k := by
          unfold okSize
          simp at z
          grind
        rw [if_pos q]
        simp only [wpk]
        refine addLL (by simp; omega) (addLL (by simp; omega) ?_)
        refine lift_i (law_tree_ok h bound fu a (taken ++ [k]) left _ da (rg_snoc ht q.1 q.2.1) (by simp; omega) (by omega) (by simp; omega)) ?_
        cases e : fltT p c bound (taken ++ [k]) left (path ++ [(k, 1)]) a with
        | some f =>
          exact ifY rfl ⟨_, rfl, rfl⟩
        | none =>
          refine ifN (by simp [enF, nonD]) ?_
          simp only [wpk]
          refine addLL (by simp; omega) (addLL (by simp; omega) ?_)
          refine lift_i (law_tree_ok h bound fu b taken (left ++ [k]) _ db ht (by omega) (by simp; omega) (by simp; omega)) ?_
          rfl
end Law

set_option Elab.async false
set_option linter.all false
set_option maxRecDepth 100000
/-! SZh: sizes: the tree that is told is right. -/
namespace Law
open PySem PyProof.Rows L2 VL TL
open Ty (en)
variable {p : List Int} {c : List (List (Option Int))} {S : List Int}
theorem pcs_sum {taken : List Int} : ∀ {c : List (List (Option Int))}, (∀ r ∈ c, ∃ x, srv r taken = some x) → pcs c taken = some ((c.map fun r => (srv r taken).getD 0).sum)
  | [], _ => rfl
  | r :: c, h => by
    obtain ⟨x, e⟩ := h r (List.mem_cons_self ..)
    have ih := pcs_sum (c := c) fun r m => h r (List.mem_cons_of_mem _ m)
    simp only [pcs, e, ih, Option.bind_some, Option.map_some, List.map_cons, List.sum_cons, Option.getD_some]
theorem Bet.up {n : Nat} {taken left : List Int} {x : Int} : (Bet n (taken ++ [x]) left S → Bet n taken left S) ∧ (Bet n taken (left ++ [x]) S → Bet n taken left S) :=
  ⟨fun b => ⟨b.nd, b.rg, fun k m => b.tk k (List.mem_append_left _ m), b.lf⟩, fun b => ⟨b.nd, b.rg, b.tk, fun k m => b.lf k (List.mem_append_left _ m)⟩⟩
/-- all is taken or left, and no part is left out -/
theorem whole {taken left : List Int} (d : Dj p.length taken left) (h : Shp p c) (nf : fre p.length taken left = []) (nd : ∀ row ∈ c, ¬ Dead p left row) : (∀ r ∈ c, ∃ x, srv r taken = some x) ∧ Bet p.length taken left taken := by
  have ap := List.nodup_append.mp d.nd
  refine ⟨fun r m => ?_, ⟨ap.1, fun k m => d.rg k (List.mem_append_left _ m), fun k m => m, fun k m m' => ap.2.2 k m' k m rfl⟩⟩
  cases e : srv r taken with
  | some x => exact ⟨x, rfl⟩
  | none =>
    refine absurd (fun o h0 h1 nl => ?_) (nd r m)
    by_cases t : o ∈ taken
    · exact srv_none.mp e o t
    · have : o ∈ fre p.length taken left := fre_mem.mpr ⟨h0, h1, t, nl⟩
      rw [nf] at this; cases this
theorem prove_ok (h : Shp p c) : ∀ (fu : Nat) (s : C_Choice) (taken left : List Int), s.prices = p → s.costs = c → Cov p c taken left s.cost → Dj p.length taken left → p.length < fu + (taken.length + left.length) →
    ∃ t : Tr, T_Choice_prove fu s taken left = some (enT t) ∧ t.dp + (taken.length + left.length) ≤ p.length ∧ ∀ path, fltT p c s.cost taken left path t = none
  | 0, s, taken, left, _, _, _, d, hf => by have := d.len; omega
  | fu + 1, s, taken, left, hp, hc, cv, d, hf => by
    have ndt : taken.Nodup := (List.nodup_append.mp d.nd).1
    have rgt : Rg p.length taken := fun k m => d.rg k (List.mem_append_left _ m)
    have dl := d.len
    have hn := h.n
    suffices hh : lift (T_Choice_prove (fu + 1) s taken left) fun r => ∃ t : Tr, r = enT t ∧ t.dp + (taken.length + left.length) ≤ p.length ∧ ∀ path, fltT p c s.cost taken left path t = none by
      obtain ⟨r, e, t, rfl, q⟩ := hh
      exact ⟨t, e, q⟩
    unfold T_Choice_prove
    simp only [wpk]
    refine lift_mono (dead_ok h s hc left) fun r ⟨k1, k2⟩ => ?_
    refine ifL (fun t => ?_) (fun t => ?_)
    · obtain ⟨k, rfl⟩ := Option.isSome_iff_exists.mp t
      obtain ⟨x0, x1, row, e, dd⟩ := k1 k rfl
      simp only [wpk]
      refine ⟨.dead k, rfl, by show 0 + _ ≤ _; omega, fun path => ?_⟩
      unfold fltT
      exact if_pos ⟨x0, x1, row, e, dd⟩
    have nd := k2 (by cases r with | none => rfl | some k => simp at t)
    rw [hp, hc]
    obtain ⟨l, el, rest, ri⟩ := raised_ok h taken left
    simp only [wpk]
    refine lift_i el ?_
    have fs := feas_of ri
    have esh : T_shown p c taken l = some (pS p taken + l.sum) := shown_ok rgt
    refine condL (∃ v, s.cost = some v ∧ v ≤ pS p taken + l.sum) ?_ (fun ⟨v, e, le⟩ => ?_) (fun nb => ?_)
    · cases e : s.cost with
      | none => exact ifN (by simp) ⟨_, rfl, by simp⟩
      | some v =>
        refine ifY rfl ?_
        simp only [wpk, wpo]
        refine lift_i esh ?_
        simp
    · simp only [wpk]
      refine ⟨.shares l, rfl, by show 0 + _ ≤ _; omega, fun path => ?_⟩
      unfold fltT
      exact if_pos ⟨v, e, fs, le⟩
    have hfr : (List.map (fun (x15 : Int) => x15) (List.filter (fun (x15 : Int) => !decide (x15 ∈ taken) && !decide (x15 ∈ left)) (rangeT 0 (p.length : Int)))) = fre p.length taken left := rfl
    simp only [wpk]
    refine rngL (by omega) ?_
    rw [hfr]
    cases q : fre p.length taken left with
    | nil =>
      exfalso
      obtain ⟨w1, w2⟩ := whole d h q nd
      have ef := ri.full (fun o h0 h1 nl => by
        by_cases t : o ∈ taken
        · exact t
        · have : o ∈ fre p.length taken left := fre_mem.mpr ⟨h0, h1, t, nl⟩
          rw [q] at this; cases this) (fun o m => ⟨(rgt o m).1, (rgt o m).2, fun m' => w2.lf o m' m⟩)
      have ef : l = c.map fun r => (srv r taken).getD 0 := ef
      have ev : prc p c taken = some (pS p taken + l.sum) := by
        unfold prc
        rw [pcs_sum w1, ef]; rfl
      obtain ⟨v, e, le⟩ := cv taken w2 _ ev
      exact nb ⟨v, e, le⟩
    | cons x xs =>
      have hx : atI (x :: xs) 0 = some x := by rw [atI_pos (by omega)]; rfl
      obtain ⟨d1, d2⟩ := d.left (x := x) (by rw [q]; exact List.mem_cons_self ..)
      obtain ⟨x0, x1, x2, x3⟩ := fre_mem.mp (show x ∈ fre p.length taken left by rw [q]; exact List.mem_cons_self ..)
      obtain ⟨t1, e1, n1, a1⟩ := prove_ok h fu s (taken ++ [x]) left hp hc (fun S b => cv S (Bet.up.1 b)) d1 (by simp; omega)
      obtain ⟨t2, e2, n2, a2⟩ := prove_ok h fu s taken (left ++ [x]) hp hc (fun S b => cv S (Bet.up.2 b)) d2 (by simp; omega)
      refine lift_i hx (addLL (by simp; omega) (lift_i e1 (lift_i hx (lift_i hx (addLL (by simp; omega) (lift_i e2 ?_))))))
      refine ⟨.size x t1 t2, rfl, ?_, fun path => ?_⟩
      · simp only [List.length_append, List.length_singleton] at n1 n2
        show max t1.dp t2.dp + 1 + _ ≤ _
        omega
      · unfold fltT
        rw [if_pos ⟨x0, x1, x2, x3⟩, a1, a2]
/-- what sizes tells -/
theorem sizes_ok (h : Shp p c) : ∃ t : Tr, t.dp ≤ 9 ∧
    ((T_sizes p c = some (.tup [en ("never" : Str), enT t]) ∧ (∀ path, fltT p c none [] [] path t = none) ∧ ∀ S, S.Nodup → Rg p.length S → prc p c S = none)
    ∨ ∃ b v, T_sizes p c = some (.tup [en ("sizes" : Str), en (b : List Int), en (v : Int), enT t]) ∧ (∀ path, fltT p c (some v) [] [] path t = none) ∧ b.Pairwise (· < ·) ∧ Rg p.length b ∧ prc p c b = some v ∧ ∀ S w, S.Nodup → Rg p.length S → prc p c S = some w → v ≤ w) := by
  have d0 : Dj p.length [] [] := ⟨by simp, fun k m => by cases m⟩
  have hn := h.n
  have bet : ∀ S : List Int, S.Nodup → Rg p.length S → Bet p.length [] [] S := fun S nd rg => ⟨nd, rg, fun k m => absurd m (List.not_mem_nil), fun k m => absurd m (List.not_mem_nil)⟩
  obtain ⟨⟨⟨⟩, s⟩, es, (g : GInv p c s), _, (cv : Cov p c [] [] s.cost)⟩ := go_ok h 12 (C_Choice.mk p c none none) [] [] ⟨rfl, rfl, .inl ⟨rfl, rfl⟩⟩ d0 (by simp; omega)
  obtain ⟨t, et, n, a⟩ := prove_ok h 12 s [] [] g.hp g.hc cv d0 (by simp; omega)
  refine ⟨t, by simp at n; omega, ?_⟩
  have e : T_sizes p c = some (if s.best.isNone = true then (.tup [en (("never" : Str) : Str), enT t] : D) else (.tup [en (("sizes" : Str) : Str), en (s.best : (Option (List Int))), en (s.cost : (Option Int)), enT t] : D)) := by
    refine lift_to ?_
    unfold T_sizes T_Choice_init
    simp only [wpk, wpo]
    refine lift_i es (lift_i et rfl)
  rw [e]
  rcases g.ok with ⟨b1, b2⟩ | ⟨b, v, b1, b2, b3, b4, b5⟩
  · left
    rw [b2] at a
    refine ⟨by rw [b1]; rfl, a, fun S nd rg => ?_⟩
    cases q : prc p c S with
    | none => rfl
    | some w =>
      obtain ⟨_, z, _⟩ := cv S (bet S nd rg) w q
      rw [b2] at z; cases z
  · right
    refine ⟨b, v, ?_, ?_, b3, b4, b5, fun S w nd rg ew => ?_⟩
    · rw [b1, b2]; rfl
    · rw [b2] at a; exact a
    · obtain ⟨v', z, le⟩ := cv S (bet S nd rg) w ew
      rw [b2] at z; cases z; exact le
end Law

set_option Elab.async false
set_option linter.all false
set_option maxRecDepth 100000
/-! SZi: sizes: the first fault, both readings. -/
namespace Law
open PySem PyProof.Rows L2 VL TL
open Ty (en)
variable {p : List Int} {c : List (List (Option Int))} {S : List Int}
def neverD (t : Tr) : D := .tup [en ("never" : Str), enT t]
def sizesD (b : List Int) (v : Int) (t : Tr) : D := .tup [en ("sizes" : Str), en b, en v, enT t]
def treeF (o : Option (Str × List (Int × Int))) : D := if nonD (enF o) = true then (en (() : Unit) : D) else .tup [en ("tree" : Str), enF o]
def partF (c : List (List (Option Int))) (b : List Int) : Option D := (rangeT 0 (c.length : Int)).findSome? fun k => if srv ((c[k.toNat]?).getD []) b = none then some (.tup [en ("part" : Str), en k]) else none
open Classical in
noncomputable def fltS (p : List Int) (c : List (List (Option Int))) (b : List Int) (v : Int) (t : Tr) : D :=
  if ¬ (b.Pairwise (· < ·) ∧ Rg p.length b) then .tup [en ("options" : Str)] else
  match partF c b with
  | some z => z
  | none => if prc p c b = some v then treeF (fltT p c (some v) [] [] [] t) else .tup [en ("cost" : Str)]
theorem ne_sn : ¬ ("sizes" : Str) = "never" := by decide +kernel
theorem never_fault (h : Shp p c) {t : Tr} (ht : t.dp < 12) : T_sizes_fault p c (neverD t) = some (treeF (fltT p c none [] [] [] t)) ∧ T__law_fault p c (neverD t) = some (treeF (fltT p c none [] [] [] t)) := by
  have r0 : Rg p.length [] := fun k m => by cases m
  have e0 : dIx (neverD t) (.int 0) = some (en ("never" : Str)) := rfl
  have e1 : dIx (neverD t) (.int 1) = some (enT t) := rfl
  constructor
  · refine lift_to ?_
    unfold T_sizes_fault
    simp only [wpk]
    refine lift_i e0 (lift_i (eqDT_str _ _) (ifY (by simp) ?_))
    simp only [wpk]
    refine lift_i e1 (lift_i (tree_fault_ok h none 12 t [] [] [] ht r0 (by simp; omega) (by simp; omega) (by simp; omega)) ?_)
    rfl
  · refine lift_to ?_
    unfold T__law_fault
    simp only [wpk]
    refine lift_i e0 (lift_i (eqDT_str _ _) (ifY (by simp) ?_))
    simp only [wpk]
    refine lift_i e1 (lift_i (law_tree_ok h none 12 t [] [] [] ht r0 (by simp; omega) (by simp; omega) (by simp; omega)) ?_)
    rfl
theorem rg_all {b : List Int} : ((List.map (fun (x24 : Int) => (decide ((0 : Int) ≤ x24) && decide (x24 < (p.length : Int)))) b).all _root_.id) = true ↔ Rg p.length b := by
  simp [Rg]
theorem rising_ok {b : List Int} (hb : b.length < 1000) : ∃ L, mapT (fun (x16 : Int) => (atI b x16).bind fun v17 => (atI b (x16 + (1 : Int))).bind fun v19 => some (decide (v17 < v19))) (rangeT 0 ((b.length : Int) - (1 : Int))) = some L ∧ (L.all _root_.id = true ↔ b.Pairwise (· < ·)) := by
  refine mapL (fun k => decide (rt b k < rt b (k + 1))) (fun k mk => ?_) ?_
  · obtain ⟨k0, k1⟩ := mem_rangeT.mp mk
    simp only [wpk]
    exact lift_i (at_rt k0 (by omega)) (lift_i (at_rt (by omega) (by omega)) rfl)
  · rw [rising_iff]
    simp only [List.all_map, List.all_eq_true, mem_rangeT, Function.comp, _root_.id, decide_eq_true_eq]
    unfold rt
    constructor
    · intro h i x y hx hy
      have := (List.getElem?_eq_some_iff.mp hy).1
      have := h (i : Int) ⟨by omega, by omega⟩
      rw [Int.toNat_natCast, show ((i : Int) + 1).toNat = i + 1 by omega, hx, hy] at this
      exact this
    · rintro h k ⟨k0, k1⟩
      have h1 : k.toNat < b.length := by omega
      have h2 : k.toNat + 1 < b.length := by omega
      have := h k.toNat _ _ (List.getElem?_eq_getElem h1) (List.getElem?_eq_getElem h2)
      rw [show (k + 1).toNat = k.toNat + 1 by omega, List.getElem?_eq_getElem h1, List.getElem?_eq_getElem h2]
      exact this
theorem opt_law {b : List Int} : ((!decide (b = sortT (ddup b))) || (decide ((0 : Int) < ((List.map (fun (x16 : Int) => x16) (List.filter (fun (x16 : Int) => (!((decide ((0 : Int) ≤ x16)) && (decide (x16 < (p.length : Int)))))) b)).length : Int)))) = true ↔ ¬ (b.Pairwise (· < ·) ∧ Rg p.length b) := by
  have e1 : b = sortT (ddup b) ↔ b.Pairwise (· < ·) := ⟨fun e => by rw [e]; exact sort_ddup_lt b, fun h => (pw_lt_id h).2.symm⟩
  have e2 : ((0 : Int) < ((List.map (fun (x16 : Int) => x16) (List.filter (fun (x16 : Int) => (!((decide ((0 : Int) ≤ x16)) && (decide (x16 < (p.length : Int)))))) b)).length : Int)) ↔ ¬ Rg p.length b := by
    rw [List.map_id', Int.natCast_pos, List.length_pos_iff_exists_mem]
    unfold Rg
    simp only [List.mem_filter]
    constructor
    · rintro ⟨x, m, q⟩ r
      have := r x m
      simp [this] at q
    · intro r
      apply Classical.byContradiction
      intro n
      apply r
      intro k m
      apply Classical.byContradiction
      intro q
      apply n
      refine ⟨k, m, ?_⟩
      simp
      omega
  rw [Bool.or_eq_true, decide_eq_true_eq, e2, Bool.not_eq_true', decide_eq_false_iff_not, e1]
  grind
theorem sizes_fault_ok (h : Shp p c) {b : List Int} (hb : b.length < 64) {v : Int} {t : Tr} (ht : t.dp < 12) : T_sizes_fault p c (sizesD b v t) = some (fltS p c b v t) := by
  have r0 : Rg p.length [] := fun k m => by cases m
  have e0 : dIx (sizesD b v t) (.int 0) = some (en ("sizes" : Str)) := rfl
  refine lift_to ?_
  unfold T_sizes_fault fltS
  simp only [wpk]
  refine lift_i e0 (lift_i (eqDT_str _ _) (ifN (by simpa using ne_sn) ?_))
  simp only [wpk]
  refine lift_i (a := (⟨("sizes" : Str), b, v, enT t⟩ : T4 Str (List Int) Int D)) (DeE.ee (⟨("sizes" : Str), b, v, enT t⟩ : T4 Str (List Int) Int D)) ?_
  obtain ⟨z, ez, iz⟩ := rising_ok (b := b) (by omega)
  refine rngL (by show ((b.length : Int) - 1).natAbs ≤ _; omega) (lift_i ez ?_)
  have ic : ((!z.all _root_.id) || (!((List.map (fun (x24 : Int) => ((decide ((0 : Int) ≤ x24)) && (decide (x24 < (p.length : Int))))) b).all _root_.id))) = true ↔ ¬ (b.Pairwise (· < ·) ∧ Rg p.length b) := by
    rw [Bool.or_eq_true, Bool.not_eq_true', Bool.not_eq_true', ← Bool.not_eq_true, ← Bool.not_eq_true, iz, rg_all]
    grind
  refine ifL (fun q => ?_) (fun q => ?_)
  · rw [if_pos (ic.mp q)]
    simp only [wpk]
  · have ok : b.Pairwise (· < ·) ∧ Rg p.length b := Classical.not_not.mp fun n => q (ic.mpr n)
    rw [if_neg fun n => n ok]
    simp only [wpk]
    refine rngL (by have := h.m; omega) (jn_of ?_)
    refine loopLs (fun k => if srv ((c[k.toNat]?).getD []) b = none then some (.tup [en ("part" : Str), en k]) else none) (fun k mk => ?_) ?_
    · obtain ⟨k0, k1⟩ := mem_rangeT.mp mk
      have hk : c[k.toNat]? = some c[k.toNat] := List.getElem?_eq_getElem (by omega)
      simp only [wpk]
      refine lift_i (served_ok h ok.2 k0 hk) ?_
      rw [hk]
      show lift (if (srv c[k.toNat] b).isNone = true then _ else _) _
      cases e : srv c[k.toNat] b with
      | none => exact ifY rfl ⟨_, rfl, by simp [foundF, e]⟩
      | some y => exact ifN (by simp) ⟨_, rfl, by simp [foundF, e]⟩
    · show afF _ _ (foundF (partF c b))
      cases e : partF c b with
      | some z => rfl
      | none =>
        show lift _ _
        simp only [wpk]
        refine lift_i (price_of_ok h ok.2) ?_
        refine ifL (fun z => ?_) (fun z => ?_)
        · rw [if_neg (by simpa using z)]
          simp only [wpk]
        · rw [if_pos (by simpa using z)]
          simp only [wpk]
          refine lift_i (tree_fault_ok h (some v) 12 t [] [] [] ht r0 (by simp; omega) (by simp; omega) (by simp; omega)) ?_
          rfl
theorem law_fault_ok (h : Shp p c) {b : List Int} (hb : b.length < 64) {v : Int} {t : Tr} (ht : t.dp < 12) : T__law_fault p c (sizesD b v t) = some (fltS p c b v t) := by
  have r0 : Rg p.length [] := fun k m => by cases m
  have e0 : dIx (sizesD b v t) (.int 0) = some (en ("sizes" : Str)) := rfl
  refine lift_to ?_
  unfold T__law_fault fltS
  simp only [wpk]
  refine lift_i e0 (lift_i (eqDT_str _ _) (ifN (by simpa using ne_sn) ?_))
  simp only [wpk]
  refine lift_i (a := (⟨("sizes" : Str), b, v, enT t⟩ : T4 Str (List Int) Int D)) (DeE.ee (⟨("sizes" : Str), b, v, enT t⟩ : T4 Str (List Int) Int D)) ?_
  refine setL hb ?_
  refine ifL (fun q => ?_) (fun q => ?_)
  · rw [if_pos (opt_law.mp q)]
    simp only [wpk]
  · have ok : b.Pairwise (· < ·) ∧ Rg p.length b := Classical.not_not.mp fun n => q (opt_law.mpr n)
    rw [if_neg fun n => n ok]
    simp only [wpk]
    refine rngL (by have := h.m; omega) (jn_of ?_)
    refine loopLs (fun k => if srv ((c[k.toNat]?).getD []) b = none then some (.tup [en ("part" : Str), en k]) else none) (fun k mk => ?_) ?_
    · obtain ⟨k0, k1⟩ := mem_rangeT.mp mk
      have hk : c[k.toNat]? = some c[k.toNat] := List.getElem?_eq_getElem (by omega)
      have hr := h.row _ (List.mem_of_getElem? hk)
      simp only [wpk]
      refine compL (fun o => (cl c[k.toNat] o).isSome) (fun o => o) (fun o m => ?_) (fun o _ _ => ⟨_, rfl, rfl⟩) ?_
      · simp only [wpk]
        refine lift_i (by rw [atI_pos k0]; exact hk) (lift_i (at_cl' (ok.2 o m).1 (by have := (ok.2 o m).2; omega)) rfl)
      · rw [hk]
        have ie : (((b.filter fun o => (cl c[k.toNat] o).isSome).map fun o => o).length : Int) = 0 ↔ srv c[k.toNat] b = none := by
          rw [List.map_id', Int.natCast_eq_zero, List.length_eq_zero_iff, List.filter_eq_nil_iff, srv_none]
          simp
        refine ifL (fun z => ?_) (fun z => ?_)
        · refine ⟨_, rfl, ?_⟩
          show _ = foundF (if srv c[k.toNat] b = none then _ else _)
          rw [if_pos (ie.mp z)]; rfl
        · refine ⟨_, rfl, ?_⟩
          show _ = foundF (if srv c[k.toNat] b = none then _ else _)
          rw [if_neg fun y => z (ie.mpr y)]; rfl
    · show afF _ _ (foundF (partF c b))
      cases e : partF c b with
      | some z => rfl
      | none =>
        show lift _ _
        simp only [wpk]
        refine lift_i (law_cost_ok h ok.2) ?_
        refine ifL (fun z => ?_) (fun z => ?_)
        · rw [if_neg (by simpa using z)]
          simp only [wpk]
        · rw [if_pos (by simpa using z)]
          simp only [wpk]
          refine lift_i (law_tree_ok h (some v) 12 t [] [] [] ht r0 (by simp; omega) (by simp; omega) (by simp; omega)) ?_
          rfl
/-- nothing is wrong -/
theorem fltS_non (h : Shp p c) {b : List Int} {v : Int} {t : Tr} (h1 : b.Pairwise (· < ·)) (h2 : Rg p.length b) (h3 : prc p c b = some v) (h4 : fltT p c (some v) [] [] [] t = none) : fltS p c b v t = .non := by
  unfold fltS
  have e : partF c b = none := by
    unfold partF
    rw [List.findSome?_eq_none_iff]
    intro k mk
    obtain ⟨k0, k1⟩ := mem_rangeT.mp mk
    have hk : c[k.toNat]? = some c[k.toNat] := List.getElem?_eq_getElem (by omega)
    rw [if_neg]
    rw [hk]
    intro q
    unfold prc at h3
    rw [pcs_none q (List.mem_of_getElem? hk)] at h3
    cases h3
  rw [if_neg fun n => n ⟨h1, h2⟩, e]
  show (if prc p c b = some v then _ else _) = _
  rw [if_pos h3, h4]; rfl
theorem treeF_non : treeF none = .non := rfl
end Law

set_option Elab.async false
set_option linter.all false
set_option maxRecDepth 100000
/-! SZj: sizes: what is drawn; all sets; the law's own tree. -/
namespace Law
open PySem PyProof.Rows L2 VL TL
open Ty (en)
variable {p : List Int} {c : List (List (Option Int))} {S : List Int}
theorem shop_draw {most : Int} (h0 : 0 ≤ most) (h9 : most ≤ 9) (Q : List Int × List (List (Option Int)) → Prop) (q : ∀ p c, Shp p c → (p.length : Int) ≤ most → Q (p, c)) : T__law_shop most Q := by
  unfold T__law_shop
  rw [ansM_app]
  simp only [bnd_ret, bnd_bnd, bnd_app, ret_app, lift_some, bndF_app]
  refine takeT_i (by omega) (by omega) fun n n0 n1 => ?_
  refine rngL (by omega) ?_
  refine compDr_i (fun x => 0 ≤ x ∧ x < 2 ^ 20) (fun x _ R hR => ?_) fun p lp hp => ?_
  · simp only [bnd_ret, bnd_bnd, bnd_app, ret_app]
    refine takeT_i (by omega) (by omega) fun a a0 a1 => takeT_i (by omega) (by omega) fun b b0 b1 => takeT_i (by omega) (by omega) fun i i0 i1 => ?_
    refine pick_i i0 (by simp; omega) fun x m => hR x ?_
    simp at m
    omega
  refine takeT_i (by omega) (by omega) fun i i0 i1 => ?_
  refine pick_i i0 (by simp; omega) fun rare mr => ?_
  have hr : 0 < rare ∧ rare < 100 := by simp at mr; omega
  refine takeT_i (by omega) (by omega) fun m m0 m1 => ?_
  refine rngL (by omega) ?_
  have hlp : (p.length : Int) ≤ most := by rw [lp, rangeT_len]; omega
  have p9 : p.length ≤ 9 := by omega
  have fin : ∀ c : List (List (Option Int)), c.length ≤ 6 → (∀ r ∈ c, r.length = p.length ∧ ∀ x, some x ∈ r → 0 ≤ x ∧ x < 2 ^ 20) → Q (p, c) := fun c h1 h2 => q p c ⟨p9, hp, h1, fun r m => (h2 r m).1, fun r m => (h2 r m).2⟩ hlp
  refine loopDr_k (fun done c => c.length = done.length ∧ ∀ r ∈ c, r.length = p.length ∧ ∀ x, some x ∈ r → 0 ≤ x ∧ x < 2 ^ 20) (done := []) ⟨rfl, fun r m => by cases m⟩ (fun pre k post c he ⟨i1, i2⟩ R g1 g2 g3 g4 => ?_) (fun c ⟨i1, i2⟩ => ?_)
  · simp only [bnd_ret, bnd_bnd, bnd_app, ret_app]
    refine compDr_i (fun x => ∀ y, x = some y → 0 ≤ y ∧ y < 2 ^ 20) (fun x _ R hR => ?_) fun row lr hrow => ?_
    · refine takeT_i (by omega) (by omega) fun a a0 a1 => ?_
      simp only [wpr, ret_app, bnd_app, bnd_ret, bnd_bnd]
      refine iteP (fun _ => hR _ fun y e => by cases e) (fun _ => ?_)
      refine takeT_i (by omega) (by omega) fun b b0 b1 => hR _ fun y e => by cases e; omega
    · have hpre : pre.length < 7 := by
        have := congrArg List.length he
        rw [List.nil_append, rangeT_len, List.length_append, List.length_cons] at this
        omega
      refine apL (by omega) (g1 _ ⟨by simp [i1], fun r m => ?_⟩)
      rcases List.mem_append.mp m with m | m
      · exact i2 r m
      · rw [List.mem_singleton.mp m]
        exact ⟨lr, fun x mx => hrow _ mx x rfl⟩
  · have hc : c.length ≤ 6 := by
      rw [i1, List.nil_append, rangeT_len]; omega
    simp only [afF_nx, bnd_ret, bnd_bnd, bnd_app, ret_app, bndF_app]
    refine takeT_i (by omega) (by omega) fun a a0 a1 => ?_
    simp only [wpr, bnd_ret, bnd_bnd, bnd_app, ret_app]
    refine iteP (fun _ => ?_) (fun _ => fin c hc i2)
    refine fin _ ?_ fun r m => i2 r ?_
    · rw [List.map_id']
      have := List.length_filter_le (fun (x64 : (List (Option Int))) => (decide ((0 : Int) < ((List.map (fun (x65 : (Option Int)) => x65) (List.filter (fun (x65 : (Option Int)) => x65.isSome) x64)).length : Int)))) c
      omega
    · rw [List.map_id'] at m
      exact (List.mem_filter.mp m).1
/-- all sets of the first n -/
def subs : Nat → List (List Int)
  | 0 => [[]]
  | n + 1 => subs n ++ (subs n).map fun r => r ++ [(n : Int)]
theorem subs_len : ∀ n, (subs n).length = 2 ^ n
  | 0 => rfl
  | n + 1 => by
    have := subs_len n
    unfold subs
    rw [List.length_append, List.length_map, this, Nat.pow_succ]; omega
theorem subs_mem : ∀ {n : Nat} {r : List Int}, r ∈ subs n ↔ r.Pairwise (· < ·) ∧ Rg n r
  | 0, r => by
    unfold subs Rg
    rw [List.mem_singleton]
    constructor
    · rintro rfl
      exact ⟨List.Pairwise.nil, fun k m => (by cases m)⟩
    · rintro ⟨_, h⟩
      cases r with
      | nil => rfl
      | cons k r => have := h k (by simp); omega
  | n + 1, r => by
    unfold subs
    rw [List.mem_append, subs_mem]
    constructor
    · rintro (⟨h1, h2⟩ | h)
      · exact ⟨h1, fun k m => by have := h2 k m; omega⟩
      · obtain ⟨q, m, rfl⟩ := List.mem_map.mp h
        obtain ⟨h1, h2⟩ := subs_mem.mp m
        refine ⟨List.pairwise_append.mpr ⟨h1, List.pairwise_singleton .., fun a ha b hb => ?_⟩, fun k m => ?_⟩
        · rw [List.mem_singleton.mp hb]; exact (h2 a ha).2
        · rcases List.mem_append.mp m with m | m
          · have := h2 k m; omega
          · rw [List.mem_singleton.mp m]; omega
    · rintro ⟨h1, h2⟩
      by_cases c : (n : Int) ∈ r
      · right
        obtain ⟨a, b, rfl⟩ := List.append_of_mem c
        have hb : b = [] := by
          cases b with
          | nil => rfl
          | cons z b =>
            have := (List.pairwise_cons.mp (List.pairwise_append.mp h1).2.1).1 z (by simp)
            have := h2 z (by simp)
            omega
        subst hb
        refine List.mem_map.mpr ⟨a, subs_mem.mpr ⟨(List.pairwise_append.mp h1).1, fun k m => ?_⟩, rfl⟩
        have := (List.pairwise_append.mp h1).2.2 k m n (by simp)
        have := h2 k (by simp [m])
        omega
      · left
        refine ⟨h1, fun k m => ?_⟩
        have := h2 k m
        have : k ≠ n := fun e => c (e ▸ m)
        omega
theorem subs_small {n : Nat} {r : List Int} (m : r ∈ subs n) : r.length ≤ n := by
  obtain ⟨h1, h2⟩ := subs_mem.mp m
  exact nodup_len_le n (pw_lt_id h1).1 h2
theorem full_ok (h : Shp p c) (bound : Option Int) : ∀ (fu : Nat) (taken left : List Int), Cov p c taken left bound → Dj p.length taken left → p.length < fu + (taken.length + left.length) →
    ∃ t : Tr, T__law_full fu p c taken left = some (enT t) ∧ t.dp + (taken.length + left.length) ≤ p.length ∧ ∀ path, fltT p c bound taken left path t = none
  | 0, taken, left, _, d, hf => by have := d.len; omega
  | fu + 1, taken, left, cv, d, hf => by
    have ndt : taken.Nodup := (List.nodup_append.mp d.nd).1
    have rgt : Rg p.length taken := fun k m => d.rg k (List.mem_append_left _ m)
    have dl := d.len
    have hn := h.n
    suffices hh : lift (T__law_full (fu + 1) p c taken left) fun r => ∃ t : Tr, r = enT t ∧ t.dp + (taken.length + left.length) ≤ p.length ∧ ∀ path, fltT p c bound taken left path t = none by
      obtain ⟨r, e, t, rfl, q⟩ := hh
      exact ⟨t, e, q⟩
    unfold T__law_full
    simp only [wpk]
    refine rngL (by have := h.m; omega) (jn_of ?_)
    refine loopL (fun pre _ => ∀ k ∈ pre, ∀ row, c[k.toNat]? = some row → ¬ Dead p left row) (fun x m => by cases m) (fun pre k post s he i R h1 h2 h3 h4 => ?_) (fun s i => ?_)
    · have mk : k ∈ rangeT 0 (c.length : Int) := by rw [he]; simp
      obtain ⟨k0, k1⟩ := mem_rangeT.mp mk
      obtain ⟨row, r1, r2⟩ := atI_ok (xs := c) k0 k1
      have hr := h.row row (List.mem_of_getElem? r2)
      simp only [wpk]
      refine rngL (by omega) ?_
      refine compL (fun o => (cl row o).isSome && !decide (o ∈ left)) (fun o => o) (fun o mo => ?_) (fun o _ _ => ⟨_, rfl, rfl⟩) ?_
      · obtain ⟨o0, o1⟩ := mem_rangeT.mp mo
        simp only [wpk]
        exact lift_i r1 (lift_i (at_cl' o0 (by omega)) rfl)
      · have ld := law_dead (p := p) (left := left) hr
        refine ifL (fun z => ?_) (fun z => ?_)
        · refine ⟨_, rfl, h4 _ ?_⟩
          simp only [wpk]
          refine ⟨.dead k, rfl, by show 0 + _ ≤ _; omega, fun path => ?_⟩
          unfold fltT
          exact if_pos ⟨k0, k1, row, r2, ld.mp z⟩
        · refine ⟨_, rfl, h1 _ fun k' m row' e' => ?_⟩
          rcases List.mem_append.mp m with m | m
          · exact i k' m row' e'
          · rw [List.mem_singleton.mp m, r2] at e'
            cases e'
            exact fun q => z (ld.mpr q)
    · have nd : ∀ row ∈ c, ¬ Dead p left row := fun row m => by
        obtain ⟨j, hj⟩ := List.getElem?_of_mem m
        have := (List.getElem?_eq_some_iff.mp hj).1
        exact i (j : Int) (mem_rangeT.mpr ⟨by omega, by omega⟩) row (by simpa using hj)
      simp only [wpk]
      refine rngL (by omega) ?_
      have hfr : (List.map (fun (x15 : Int) => x15) (List.filter (fun (x15 : Int) => !decide (x15 ∈ taken) && !decide (x15 ∈ left)) (rangeT 0 (p.length : Int)))) = fre p.length taken left := rfl
      rw [hfr]
      cases q : fre p.length taken left with
      | nil =>
        obtain ⟨w1, w2⟩ := whole d h q nd
        refine ifY rfl ?_
        simp only [wpk]
        refine mapL (fun r => (srv r taken).getD 0) (fun r mr => ?_) ?_
        · have hr := h.row r mr
          simp only [wpk]
          refine compL (fun o => (cl r o).isSome) (fun o => (cl r o).getD 0) (fun o m => ?_) (fun o m t => ?_) ?_
          · simp only [wpk]
            exact lift_i (at_cl' (rgt o m).1 (by have := (rgt o m).2; omega)) rfl
          · simp only [wpk]
            refine lift_i (at_cl' (rgt o m).1 (by have := (rgt o m).2; omega)) ?_
            obtain ⟨y, e⟩ := Option.isSome_iff_exists.mp t
            rw [e]; exact ⟨y, rfl, rfl⟩
          · rw [← flt]
            obtain ⟨x, e⟩ := w1 r mr
            exact lift_i (show minT _ = some x from e) (by rw [e]; rfl)
        · have ef := pcs_sum w1
          have ev : prc p c taken = some (pS p taken + (c.map fun r => (srv r taken).getD 0).sum) := by
            unfold prc
            rw [ef]; rfl
          obtain ⟨v, e, le⟩ := cv taken w2 _ ev
          refine ⟨.shares (c.map fun r => (srv r taken).getD 0), rfl, by show 0 + _ ≤ _; omega, fun path => ?_⟩
          unfold fltT
          refine if_pos ⟨v, e, ⟨by rw [List.length_map], fun o h0 h1 nl => ?_⟩, le⟩
          have to : o ∈ taken := by
            by_cases t : o ∈ taken
            · exact t
            · have : o ∈ fre p.length taken left := fre_mem.mpr ⟨h0, h1, t, nl⟩
              rw [q] at this; cases this
          rw [if_pos to]
          have : ∀ c' : List (List (Option Int)), (∀ r ∈ c', ∃ x, srv r taken = some x) → ovr c' (c'.map fun r => (srv r taken).getD 0) o = 0 := fun c' => by
            induction c' with
            | nil => intro _; rfl
            | cons r c' ih =>
              intro hh
              have ih' := ih fun r m => hh r (List.mem_cons_of_mem _ m)
              obtain ⟨x, ex⟩ := hh r (List.mem_cons_self ..)
              show (match cl r o with | some v => max 0 ((srv r taken).getD 0 - v) | none => 0) + ovr c' _ o = 0
              rw [ih']
              cases e : cl r o with
              | none => rfl
              | some y =>
                have := (srv_some ex).2 o to y e
                rw [ex]
                simp
                omega
          rw [this c w1]
          exact Int.le_refl _
      | cons x xs =>
        have hx : atI (x :: xs) 0 = some x := by rw [atI_pos (by omega)]; rfl
        obtain ⟨d1, d2⟩ := d.left (x := x) (by rw [q]; exact List.mem_cons_self ..)
        obtain ⟨x0, x1, x2, x3⟩ := fre_mem.mp (show x ∈ fre p.length taken left by rw [q]; exact List.mem_cons_self ..)
        obtain ⟨t1, e1, n1, a1⟩ := full_ok h bound fu (taken ++ [x]) left (fun S b => cv S (Bet.up.1 b)) d1 (by simp; omega)
        obtain ⟨t2, e2, n2, a2⟩ := full_ok h bound fu taken (left ++ [x]) (fun S b => cv S (Bet.up.2 b)) d2 (by simp; omega)
        refine ifN (by simp; omega) ?_
        simp only [wpk]
        refine lift_i hx (addLL (by simp; omega) (lift_i e1 (lift_i hx (lift_i hx (addLL (by simp; omega) (lift_i e2 ?_))))))
        refine ⟨.size x t1 t2, rfl, ?_, fun path => ?_⟩
        · simp only [List.length_append, List.length_singleton] at n1 n2
          show max t1.dp t2.dp + 1 + _ ≤ _
          omega
        · unfold fltT
          rw [if_pos ⟨x0, x1, x2, x3⟩, a1, a2]
end Law

set_option Elab.async false
set_option linter.all false
set_option maxRecDepth 100000
/-! K56z: the law of sizes by all sets. -/
namespace Law
open PySem PyProof.Rows L2 VL TL
open Ty (en)
variable {p : List Int} {c : List (List (Option Int))} {S : List Int}
theorem shop_shown (h : Shp p c) : showOk (en (p, c) : D) = true := by
  have hn := h.n
  have hm := h.m
  have rowfact : ∀ r ∈ c, (en r : D).nb = true ∧ smD (en r : D) = true ∧ wtD (en r : D) ≤ 3 + 72 * 9 := fun r m => by
    have hr := h.row r m
    refine ⟨D.nbL_iff.mpr fun d md => ?_, smL_iff.mpr fun d md => ?_, ?_⟩
    · obtain ⟨o, _, rfl⟩ := List.mem_map.mp md
      cases o <;> rfl
    · obtain ⟨o, mo, rfl⟩ := List.mem_map.mp md
      cases o with
      | none => rfl
      | some x =>
        have := h.c0 r m x mo
        exact decide_eq_true (by have : x.natAbs < 2 ^ 20 := by omega
                                 omega)
    · have := wtL_le (w := 70) (xs := r.map en) fun d md => by
        obtain ⟨o, _, rfl⟩ := List.mem_map.mp md
        cases o with
        | none => exact (by decide : (4 : Nat) ≤ 70)
        | some x => exact Nat.le_refl 70
      show 3 + wtL (r.map en) ≤ _
      rw [List.length_map] at this
      omega
  refine showOk_of ?_ ?_ ?_ ?_
  · show D.nbL [en p, en c] = true
    simp only [D.nbL, nb_ints, Bool.and_true, Bool.true_and]
    refine D.nbL_iff.mpr fun d md => ?_
    obtain ⟨r, m, rfl⟩ := List.mem_map.mp md
    exact (rowfact r m).1
  · show smL [en p, en c] = true
    simp only [smL, Bool.and_true, Bool.and_eq_true]
    refine ⟨sm_ints fun x m => by have := h.p0 x m; have : x.natAbs < 2 ^ 20 := by omega
                                  omega, smL_iff.mpr fun d md => ?_⟩
    obtain ⟨r, m, rfl⟩ := List.mem_map.mp md
    exact (rowfact r m).2.1
  · show 3 + wtL [en p, en c] ≤ _
    simp only [wtL, wt_ints]
    have := wtL_le (w := 3 + 72 * 9) (xs := c.map en) fun d md => by
      obtain ⟨r, m, rfl⟩ := List.mem_map.mp md
      exact (rowfact r m).2.2
    rw [List.length_map] at this
    have e : wtD (en c : D) = 3 + wtL (c.map en) := rfl
    rw [e]
    omega
  · exact Nat.le_trans (TyEq.dp (p, c)) (by decide)
def okA (v : Option Int) (w : Option Int) : Prop := v = w
theorem waste_eq (parts plates : List (Int × Int)) (h1 : ∀ x ∈ parts, 0 ≤ x.1 ∧ x.1 < 100 ∧ 0 ≤ x.2 ∧ x.2 < 100) (h2 : ∀ x ∈ plates, 0 ≤ x.1 ∧ x.1 < 100 ∧ 0 ≤ x.2 ∧ x.2 < 100) (l1 : parts.length < 100) (l2 : plates.length < 100) :
    T_waste_costs parts plates = some (parts.map fun x => plates.map fun y => if (x.1 ≤ y.1 ∧ x.2 ≤ y.2) ∨ (x.2 ≤ y.1 ∧ x.1 ≤ y.2) then some (y.1 * y.2 - x.1 * x.2) else none) := by
  refine lift_to ?_
  unfold T_waste_costs
  simp only [wpk]
  refine jn_of (loopL (fun pre s => s = pre.map fun x => plates.map fun y => if (x.1 ≤ y.1 ∧ x.2 ≤ y.2) ∨ (x.2 ≤ y.1 ∧ x.1 ≤ y.2) then some (y.1 * y.2 - x.1 * x.2) else none) rfl (fun pre x post s he i R g1 g2 g3 g4 => ?_) (fun s i => ?_))
  · have mx := h1 x (by rw [he]; simp)
    have hl := congrArg List.length he
    rw [List.length_append, List.length_cons] at hl
    simp only [wpk]
    refine jn_of (loopL (fun pre s => s = pre.map fun y => if (x.1 ≤ y.1 ∧ x.2 ≤ y.2) ∨ (x.2 ≤ y.1 ∧ x.1 ≤ y.2) then some (y.1 * y.2 - x.1 * x.2) else none) rfl (fun pre' y post' s' he' i' R' k1 k2 k3 k4 => ?_) (fun s' i' => ?_))
    · have my := h2 y (by rw [he']; simp)
      have hl' := congrArg List.length he'
      rw [List.length_append, List.length_cons] at hl'
      simp only [wpk]
      refine lift_mono (P := fun v => v = if (x.1 ≤ y.1 ∧ x.2 ≤ y.2) ∨ (x.2 ≤ y.1 ∧ x.1 ≤ y.2) then some (y.1 * y.2 - x.1 * x.2) else none) ?_ fun v ev => ?_
      · refine ifL (fun t => ?_) (fun t => ?_)
        · have t' : (x.1 ≤ y.1 ∧ x.2 ≤ y.2) ∨ (x.2 ≤ y.1 ∧ x.1 ≤ y.2) := by simpa using t
          rw [if_pos t']
          simp only [wpk]
          exact mulLl (by omega) (mulLl (by omega) rfl)
        · have t' : ¬ ((x.1 ≤ y.1 ∧ x.2 ≤ y.2) ∨ (x.2 ≤ y.1 ∧ x.1 ≤ y.2)) := by simpa using t
          rw [if_neg t']
          exact ⟨_, rfl, rfl⟩
      · refine apL (by rw [i', List.length_map]; omega) (k1 _ ?_)
        rw [i', ev, List.map_append]; rfl
    · simp only [wpk]
      refine apL (by rw [i, List.length_map]; omega) (g1 _ ?_)
      rw [i, i', List.map_append]; rfl
  · simp only [wpk]
    exact i
theorem law_goal : T_law fun b => b = true := by
  unfold T_law
  rw [ansM_app]
  simp only [bnd_ret, bnd_bnd, bnd_app, ret_app, lift_some, bndF_app]
  refine shop_draw (by omega) (by omega) _ fun p c h hl => ?_
  dsimp only
  have hn := h.n
  obtain ⟨kept, ek⟩ : ∃ kept, reprT (p, c) = some kept := ⟨_, reprT_of (shop_shown h)⟩
  refine lift_i ek ?_
  refine rngL (by show ((p.length : Int)).natAbs ≤ _; omega) ?_
  have hpow : ∀ m, m ≤ 7 → 2 ^ m ≤ 128 := fun m hm => Nat.le_trans (Nat.pow_le_pow_right (n := 2) (by omega) hm) (by decide)
  refine loopL (fun pre s => s = subs pre.length) rfl (fun pre k post s he i R g1 g2 g3 g4 => ?_) (fun s i => ?_)
  · obtain ⟨hx, hp⟩ := rangeT_split he
    simp only [wpk]
    have hsl : s.length ≤ 128 := by rw [i, subs_len]; exact hpow _ (by omega)
    refine mapL (fun r => r ++ [k]) (fun r m => ?_) ?_
    · rw [i] at m
      have := subs_small m
      exact addLL (by simp; omega) rfl
    · refine addLL (by rw [List.length_map]; omega) (g1 _ ?_)
      rw [i, List.length_append, List.length_singleton]
      have : k = (pre.length : Int) := by omega
      rw [this]; rfl
  rw [rangeT_len] at i
  have i : s = subs p.length := by rw [i]; congr 1
  subst i
  show lift _ _
  have rgS : ∀ S ∈ subs p.length, Rg p.length S := fun S m => (subs_mem.mp m).2
  refine lift_i (a := (subs p.length).filter fun S => (prc p c S).isSome) ?_ ?_
  · rw [compT_some (b := fun S => (prc p c S).isSome) (f := fun S => S) (fun S m => by rw [law_cost_ok h (rgS S m)]; rfl) fun _ _ _ => rfl, List.map_id']
    rfl
  generalize hgood : ((subs p.length).filter fun S => (prc p c S).isSome) = good
  have mgood : ∀ S, S ∈ good ↔ S.Pairwise (· < ·) ∧ Rg p.length S ∧ ∃ v, prc p c S = some v := fun S => by
    rw [← hgood, List.mem_filter, subs_mem, Option.isSome_iff_exists, and_assoc]
  have lgood : good.length ≤ 128 := by
    rw [← hgood]
    have := List.length_filter_le (fun S => (prc p c S).isSome) (subs p.length)
    rw [subs_len] at this
    have := hpow p.length (by omega)
    omega
  obtain ⟨t, ht, sz⟩ := sizes_ok h
  have d0 : Dj p.length [] [] := ⟨by simp, fun k m => by cases m⟩
  rcases sz with ⟨es, at_, no⟩ | ⟨b, v, es, at_, b1, b2, b3, b4⟩
  · have ge : good = [] := by
      cases q : good with
      | nil => rfl
      | cons S rest =>
        obtain ⟨s1, s2, v, s3⟩ := (mgood S).mp (by rw [q]; exact List.mem_cons_self ..)
        rw [no S (pw_lt_id s1).1 s2] at s3; cases s3
    subst ge
    obtain ⟨f1, f2⟩ := never_fault h (t := t) (by omega)
    obtain ⟨t2, e2, n2, a2⟩ := full_ok h none 12 [] [] (fun S b v ev => by rw [no S b.nd b.rg] at ev; cases ev) d0 (by simp; omega)
    obtain ⟨f3, f4⟩ := never_fault h (t := t2) (by simp at n2; omega)
    rw [at_] at f1 f2
    rw [a2] at f3
    refine lift_i es ?_
    refine lift_i (a := true) rfl ?_
    refine lift_i (a := false) ?_ ?_
    · show (if (!true) = true then _ else (some (en ("never" : Str) : D)).bind _) = _
      rw [if_neg (by simp), Option.bind_some]
      show (neDT (en ("never" : Str)) (en ("never" : Str))).bind _ = _
      rw [neDT_str]
      simp [ek]
    simp only [wpr]
    refine iteN (by simp) ?_
    refine lift_i f2 ?_
    refine iteN (by simp [treeF_non, nonD]) ?_
    refine lift_i f1 ?_
    refine iteN (by simp [treeF_non, nonD]) ?_
    refine lift_i e2 ?_
    refine iteY rfl ?_
    exact lift_i f3 rfl
  · have nd := fun (S : List Int) (m : S ∈ good) => (pw_lt_id ((mgood S).mp m).1).1
    have mb : b ∈ good := (mgood b).mpr ⟨b1, b2, v, b3⟩
    have lb : ∀ S : List Int, S.Pairwise (· < ·) → Rg p.length S → S.length < 64 := fun S q r => by
      have := nodup_len_le p.length (pw_lt_id q).1 r
      omega
    obtain ⟨t2, e2, n2, a2⟩ := full_ok h (some v) 12 [] [] (fun S q w ew => ⟨v, rfl, b4 S w q.nd q.rg ew⟩) d0 (by simp; omega)
    have n2 : t2.dp < 12 := by simp at n2; omega
    have acc : ∀ S : List Int, S ∈ good → prc p c S = some v → fltS p c S v t = .non := fun S m e => fltS_non h ((mgood S).mp m).1 ((mgood S).mp m).2.1 e (at_ [])
    refine lift_i es ?_
    refine lift_i (a := true) rfl ?_
    have gp : (0 : Int) < (good.length : Int) := by
      have := List.length_pos_of_mem mb
      omega
    refine lift_i (a := false) ?_ ?_
    · show (if (!true) = true then _ else (some (en ("sizes" : Str) : D)).bind _) = _
      rw [if_neg (by simp), Option.bind_some]
      rw [decide_eq_true gp]
      show (neDT (en ("sizes" : Str)) (en ("sizes" : Str))).bind _ = _
      rw [neDT_str]
      simp [ek]
    simp only [wpr]
    refine iteN (by simp) ?_
    refine lift_i (law_fault_ok h (lb b b1 b2) (by omega)) ?_
    rw [acc b mb b3]
    refine iteN (by simp [nonD]) ?_
    refine lift_i (sizes_fault_ok h (lb b b1 b2) (by omega)) ?_
    rw [acc b mb b3]
    refine iteN (by simp [nonD]) ?_
    refine lift_i e2 ?_
    refine iteN (by omega) ?_
    refine mapL (fun S => (prc p c S).getD 0) (fun S m => ?_) ?_
    · simp only [wpr]
      refine lift_i (law_cost_ok h ((mgood S).mp m).2.1) ?_
      obtain ⟨w, ew⟩ := ((mgood S).mp m).2.2
      rw [ew]
      exact ⟨w, rfl, rfl⟩
    have hmin : minT (good.map fun S => (prc p c S).getD 0) = some v := minT_int (List.mem_map.mpr ⟨b, mb, by rw [b3]; rfl⟩) fun x m => by
      obtain ⟨S, mS, rfl⟩ := List.mem_map.mp m
      obtain ⟨w, ew⟩ := ((mgood S).mp mS).2.2
      rw [ew]
      exact b4 S w (nd S mS) ((mgood S).mp mS).2.1 ew
    refine lift_i hmin ?_
    refine lift_i (a := (en v : D)) rfl ?_
    refine lift_i (a := false) (by rw [neDT_en v v]; simp) ?_
    refine iteN (by simp) ?_
    refine lift_i (a := (⟨("sizes" : Str), b, v, enT t⟩ : T4 Str (List Int) Int D)) (DeE.ee (⟨("sizes" : Str), b, v, enT t⟩ : T4 Str (List Int) Int D)) ?_
    refine lift_i (show T_sizes_fault p c (sizesD b v t2) = some (fltS p c b v t2) from sizes_fault_ok h (lb b b1 b2) n2) ?_
    rw [fltS_non h b1 b2 b3 (a2 [])]
    refine iteN (by simp [nonD]) ?_
    refine loopLu (fun _ => True) trivial (fun S mS _ _ R g1 g2 g3 g4 => ?_) (fun _ _ => ?_)
    · obtain ⟨s1, s2, w, ew⟩ := (mgood S).mp mS
      simp only [wpr]
      refine lift_i (law_cost_ok h s2) ?_
      refine iteP (fun z => ?_) (fun z => ?_)
      · refine lift_i (a := enT t) rfl ?_
        refine lift_i (show T_sizes_fault p c (sizesD S v t) = some (fltS p c S v t) from sizes_fault_ok h (lb S s1 s2) (by omega)) ?_
        rw [acc S mS z]
        exact iteN (by simp [nonD]) (g1 _ trivial)
      · exact iteN (by simp) (g1 _ trivial)
    · simp only [wpr]
      refine takeT_i (by omega) (by omega) fun a a0 a1 => rngL (by omega) ?_
      refine compDr_i (fun x => 0 ≤ x.1 ∧ x.1 < 100 ∧ 0 ≤ x.2 ∧ x.2 < 100) (fun x _ R hR => ?_) fun plates lp hp => ?_
      · simp only [wpr]
        exact takeT_i (by omega) (by omega) fun b b0 b1 => takeT_i (by omega) (by omega) fun d d0 d1 => hR _ (by dsimp only; omega)
      refine takeT_i (by omega) (by omega) fun a' a0' a1' => rngL (by omega) ?_
      refine compDr_i (fun x => 0 ≤ x.1 ∧ x.1 < 100 ∧ 0 ≤ x.2 ∧ x.2 < 100) (fun x _ R hR => ?_) fun parts lq hq => ?_
      · simp only [wpr]
        exact takeT_i (by omega) (by omega) fun b b0 b1 => takeT_i (by omega) (by omega) fun d d0 d1 => hR _ (by dsimp only; omega)
      rw [rangeT_len] at lp lq
      refine loopL (fun pre s => s = pre.map fun x => plates.map fun y => if (x.1 ≤ y.1 ∧ x.2 ≤ y.2) ∨ (x.2 ≤ y.1 ∧ x.1 ≤ y.2) then some (y.1 * y.2 - x.1 * x.2) else none) rfl (fun pre x post s he i R g1 g2 g3 g4 => ?_) (fun s i => ?_)
      · have mx := hq x (by rw [he]; simp)
        have hl' := congrArg List.length he
        rw [List.length_append, List.length_cons] at hl'
        simp only [wpr]
        refine mapL (fun y => if (x.1 ≤ y.1 ∧ x.2 ≤ y.2) ∨ (x.2 ≤ y.1 ∧ x.1 ≤ y.2) then some (y.1 * y.2 - x.1 * x.2) else none) (fun y my => ?_) ?_
        · have my := hp y my
          refine ifL (fun t => ?_) (fun t => ?_)
          · have t' : (x.1 ≤ y.1 ∧ x.2 ≤ y.2) ∨ (x.2 ≤ y.1 ∧ x.1 ≤ y.2) := by
              simp at t
              omega
            rw [if_pos t']
            simp only [wpr]
            exact mulLl (by omega) (mulLl (by omega) rfl)
          · have t' : ¬ ((x.1 ≤ y.1 ∧ x.2 ≤ y.2) ∨ (x.2 ≤ y.1 ∧ x.1 ≤ y.2)) := by
              simp at t
              omega
            rw [if_neg t']
            exact ⟨_, rfl, rfl⟩
        · refine apL (by rw [i, List.length_map]; omega) (g1 _ ?_)
          rw [i, List.map_append]; rfl
      · simp only [wpr]
        refine lift_i (waste_eq parts plates hq hp (by omega) (by omega)) ?_
        rw [i]
        refine iteY rfl ?_
        refine lift_i ek ?_
        simp
theorem law_true : LawTrue 19 d_law := law_typed law_goal
end Law

set_option maxHeartbeats 4000000
namespace Law
open PySem PyProof.Rows L2 VL
section
variable {P : Program} {w : World} {K : PySem.W.Frag} {mg : Str → Option Value} {base : Heap} {fa : Nat → Addr} {fda : Nat → FuncData}
theorem okx__law_state {f : Addr} {fd : FuncData} (F : Fun K "_law_state" "_law_state" s__law_state f fd) (m_abs : mg "abs" = none) (m_len : mg "len" = none) : FnOk P w K mg base CX0 1 f fd ["script"] (spState K) := by
  refine F.ok sc__law_state (fun vs H Q E ⟨a, ns, ev, _⟩ => by rw [ev]; rfl) (fun cdv A outer s H vs Q E hr ⟨a, ns, ev, hS, hl, kk⟩ => ?_)
  subst ev
  refine ⟨_, pss_cons (ps_setLc (i := 1) (own := [("cell", 2)]) (g := gName 2) (tt := tYes) rfl sc__law_state.nd rfl rfl (sw_true rfl rfl rfl (by decide +kernel)) (pi_list (pe_slice sl_list (pv 0) po_none (po_some pe_int))) (blkOk_by (N := ["script", "cells", "cell"]) (sc := defScope s__law_state) (by decide +kernel)) (fun _ _ _ _ _ => pg_name (i := 2) sc__law_state.nd rfl (Or.inl rfl)) (fun _ _ _ _ _ => pts_nil)
      (fun _ _ _ _ _ => pe_callB call_abs (by rfl) m_abs (by decide +kernel) (pa_cons (pv 2) pa_nil)))
    (pss_cons (ps_if (pt_cmpR op_eq (pe_callB call_len_seq (by rfl) m_len PySem.boot_len (pa_cons (pv 1) pa_nil)) pe_int (nomark _)) (pss_one (ps_set (i := 1) sc__law_state.nd rfl (Or.inl rfl) (pe_lst (pa_cons pe_int pa_nil)))) pss_nil)
    (pss_one (ps_ret (pe_lst (pa_cons pe_int (pa_cons (pv 1) pa_nil)))))), ?_⟩
  obtain ⟨ms, hms⟩ : ∃ ms : List Int, cutV (ns.map V.int) none (some 63) = ms.map V.int := ⟨(ns.drop (HT.sIx ns.length 0 none)).take (HT.sIx ns.length ns.length (some 63) - HT.sIx ns.length 0 none), by
    unfold cutV; rw [List.map_take, List.map_drop, List.length_map]⟩
  refine ⟨.ref a, rfl, 63, rfl, a, _, rfl, hS, ?_⟩
  rw [hms]
  refine fun p np => ⟨p, rfl, ⟨_, SqL.of upd_same⟩, fun D nD => ?_⟩
  have hpD : p ≠ D := fun e => by rw [e, upd_same] at nD; cases nD
  have nD0 : H D = none := by rw [upd_ne hpD.symm] at nD; exact nD
  have fin : ∀ (cs : List Int) (q : Addr) (H2 : Hp) (v2 : Option V), cs ≠ [] → Same H H2 → H q = none → H2 q = some (.lst (cs.map V.int)) → ∀ l, H2 l = none → Q (.ref l) (upd H2 l (.lst [.int 0, .ref q])) := fun cs q H2 v2 hc sm hq h2 l hl => by
    have nq : q ≠ l := ne_of_none h2 hl
    exact kk l q cs _ (sm.trans (same_upd hl)) (sm.free hl) hq (fun e => nq e.symm) upd_same (by rw [upd_ne nq]; exact h2) hc
  have tail : ∀ (cs : List Int) (H1 : Hp) (v2 : Option V), Same H H1 → H1 D = some (.lst (cs.map V.int)) →
      (tSeq (tIfS (tTest (tOp rEq (tCB (fun xs H Q => ∃ p ys, xs = [.ref p] ∧ (SqL K H p ys ∨ SqT K H p ys) ∧ Q (.int ys.length) H) (tCons (tVar 1) tNil)) (tC (.int 0)))) (tAsg (tLst (tCons (tC (.int 0)) tNil)) (gName 1)) tNext) (tRet (tLst (tCons (tC (.int 0)) (tCons (tVar 1) tNil))))) { nx := fun _ H' => Q .non H', rt := Q } [some (.ref a), some (.ref D), v2] H1 := fun cs H1 v2 sm h1 => by
    refine ⟨_, rfl, D, _, rfl, .inl (SqL.of h1), rfl, _, rfl, ite2 (fun e => ?_) (fun e => ?_)⟩
    · refine ⟨by decide, fun q nq => ?_⟩
      refine ⟨_, rfl, small_line (by show 2 < 1000; decide), fun l hl => ?_⟩
      refine fin [0] q _ none (by simp) (sm.trans (same_upd nq)) (sm.free nq) upd_same l hl
    · refine ⟨_, rfl, small_line (by show 2 < 1000; decide), fun l hl => fin cs D H1 none (fun z => e ?_) sm nD0 h1 l hl⟩
      subst z
      rfl
  have hlen : ms.length ≤ 63 := by
    have := cutV_length (ns.map V.int) none (some 63)
    rw [hms, List.length_map, List.length_map] at this
    omega
  have hp0 : (upd (upd H p (.lst (ms.map V.int))) D (.lst [])) p = some (.lst (ms.map V.int)) := by rw [upd_ne hpD, upd_same]
  refine lc_list (K := K) (a := p) (xs := ms.map V.int) (fun i H1 => ∃ cs : List Int, Same H H1 ∧ H1 p = some (.lst (ms.map V.int)) ∧ H1 D = some (.lst (cs.map V.int)) ∧ cs.length ≤ i)
    ⟨[], (same_upd np).trans (same_upd nD), hp0, upd_same, Nat.le_refl _⟩ (fun i H1 _ ⟨cs, _, h, _, _⟩ => SqL.of h) ?_ ?_
  · rintro i x H1 hi ⟨cs, sm, h1, h2, hc⟩
    obtain ⟨z, rfl⟩ : ∃ z, x = V.int z := by
      rw [List.getElem?_map] at hi
      obtain ⟨z, _, rfl⟩ := Option.map_eq_some_iff.mp hi
      exact ⟨z, rfl⟩
    have hi' : i < ms.length := by
      have := (List.getElem?_eq_some_iff.mp hi).1
      rwa [List.length_map] at this
    refine ⟨rfl, ?_⟩
    unfold tYes
    dsimp only
    rw [if_pos rfl]
    refine ⟨_, rfl, _, rfl, cs.map V.int, h2, by rw [List.length_map]; exact Nat.lt_of_le_of_lt (Nat.le_trans hc (by omega : i ≤ 63)) (by decide), cs ++ [if z < 0 then -z else z], ?_, ?_, ?_, ?_⟩
    · exact fun b o e => by rw [upd_ne (ne_of_none e nD0)]; exact sm _ _ e
    · rw [upd_ne hpD]; exact h1
    · rw [upd_same, List.map_append]; rfl
    · rw [List.length_append, List.length_singleton]; omega
  · rintro H1 ⟨cs, sm, h1, h2, hc⟩
    exact tail cs H1 _ sm h2
theorem okx__law_take {f : Addr} {fd : FuncData} (F : Fun K "_law_take" "_law_take" s__law_take f fd) (m_int : mg "int" = none) (m_len : mg "len" = none) : FnOk P w K mg base CX0 1 f fd ["state", "most"] (spI K takeS) := by
  refine F.ok sc__law_take (fun vs H Q E ⟨G, p, ws, s0, l0, ds, d, s1, _, ev, _, _, _, l, e, _⟩ => ?_) (fun cdv A outer s H vs Q E hr ⟨G, p, ws, s0, l0, ds, d, s1, sub, ev, sl, nd, off, l, e, kk⟩ => ?_)
  · obtain ⟨n, cs, m, _, rfl, _⟩ := takeS_some e
    rw [ev, List.length_cons, l.length]; rfl
  · obtain ⟨n, cs, m, rfl, rfl, h0, hm, hc, ez⟩ := takeS_some e
    cases ez
    subst ev
    cases l with
    | cons l1 l2 =>
    cases l2
    cases l1
    cases sl with
    | @ol _ vs _ Fx hp sx =>
    cases sx with
    | @cons v0 _ F0 vs0 _ F1 a1 a2 =>
    cases a1 with
    | fz a1 =>
    cases a1
    cases a2 with
    | @cons v1 _ F2 vs1 _ F3 b1 b2 =>
    cases b2
    cases b1 with
    | @ol q us _ Fy hq sy =>
    obtain ⟨ry, rfl⟩ := slRs_rp sy
    obtain rfl := ry.ints
    have hpq : p ≠ q := by
      have := List.nodup_cons.mp nd
      intro z; subst z
      exact this.1 (by simp)
    have nd' : [p, q].Nodup := by simp [hpq]
    have gp : G p = none := off p (by simp)
    have gq : G q = none := off q (by simp)
    refine ⟨_, pss_cons (ps_set (i := 2) sc__law_take.nd rfl (Or.inl rfl) (pe_ix ix_list (pv 0) pe_int (fun _ _ => rfl)))
      (pss_cons (ps_set (i := 3) sc__law_take.nd rfl (Or.inl rfl) (pe_op op_mod (pe_ix ix_list (pv 0) pe_int (fun _ _ => rfl)) (pe_callB call_len_seq (by rfl) m_len PySem.boot_len (pa_cons (pv 2) pa_nil))))
      (pss_cons (ps_set (i := 4) sc__law_take.nd rfl (Or.inl rfl) (pe_ix ix_list (pv 2) (pv 3) (fun _ _ => rfl)))
      (pss_cons (ps_if (pt_cmpR op_ge (pv 4) pe_int (nomark _)) (pss_cons (ps_asg (pe_op op_fdivW (pv 4) (pv 1)) (pg_sub (pv 2) (pv 3) set_list)) (pss_one (ps_ret (pe_op op_mod (pv 4) (pv 1))))) pss_nil)
      (pss_cons (ps_asg (pe_op op_add (pe_ix ix_list (pv 0) pe_int (fun _ _ => rfl)) pe_int) (pg_sub (pv 0) pe_int set_list))
      (pss_cons (ps_set (i := 5) sc__law_take.nd rfl (Or.inl rfl) (pe_op op_mod (pe_callTy call_int1 (by rfl) m_int (by decide +kernel) (pa_cons (pe_op op_add (pe_op op_mul (pv 4) pe_int) (pe_op op_mul (pe_ix ix_list (pv 0) pe_int (fun _ _ => rfl)) pe_int)) pa_nil)) pe_int))
      (pss_cons (ps_set (i := 5) sc__law_take.nd rfl (Or.inl rfl) (pe_op op_mod (pe_callTy call_int1 (by rfl) m_int (by decide +kernel) (pa_cons (pe_op op_add (pe_op op_mul (pv 5) pe_int) (pe_op op_mul (pe_ix ix_list (pv 0) pe_int (fun _ _ => rfl)) pe_int)) pa_nil)) pe_int))
      (pss_one (ps_ret (pe_op op_mod (pe_op op_fdiv (pv 5) pe_int) (pv 1)))))))))), ?_⟩
    have hlen : 0 < cs.length := List.length_pos_iff.mpr hc
    have hat0 : 0 ≤ n % (cs.length : Int) := Int.emod_nonneg _ (by omega)
    have hat1 : n % (cs.length : Int) < cs.length := Int.emod_lt_of_pos _ (by omega)
    obtain ⟨j, hj⟩ : ∃ j : Nat, n % (cs.length : Int) = (j : Int) := ⟨(n % (cs.length : Int)).toNat, by omega⟩
    have hj' : n % ((cs.map V.int).length : Int) = (j : Int) := by rw [List.length_map]; exact hj
    have hjl : j < cs.length := by omega
    have hix : atI (cs.map V.int) (j : Int) = some (.int (cs.getD j 0)) := by
      apply L2.atI_nat
      rw [List.getElem?_map, List.getElem?_eq_getElem hjl]
      simp [List.getD, List.getElem?_eq_getElem hjl]
    have hixN : ixN (cs.map V.int).length (j : Int) = some j := by
      unfold ixN
      rw [List.length_map, if_pos (by omega), if_pos (by omega)]; rfl
    have etk : takeF n cs m = (if 1000000000000000000 ≤ cs.getD j 0 then (cs.getD j 0 % m, n, cs.set j (cs.getD j 0 / m)) else
        ((((cs.getD j 0 * 48271 + (n + 1) * 69621) % 2147483647 * 16807 + (n + 1) * 7919) % 1000000007) / 7 % m, n + 1, cs)) := by
      unfold takeF
      rw [hj]
      rfl
    rw [etk] at kk
    refine ⟨_, rfl, p, [.int n, .ref q], 1, .ref q, rfl, rfl, SqL.of hp, rfl, ?_⟩
    refine ⟨_, rfl, p, [.int n, .ref q], 0, .int n, rfl, rfl, SqL.of hp, rfl, _, rfl, q, _, rfl, .inl (SqL.of hq), n, _, rfl, rfl, by rw [List.length_map]; omega, ?_⟩
    dsimp only
    rw [hj']
    refine ⟨_, rfl, _, rfl, q, _, j, _, rfl, rfl, SqL.of hq, hix, ?_⟩
    refine ⟨_, rfl, _, _, rfl, rfl, _, rfl, ite2 (fun cd => ?_) (fun cd => ?_)⟩
    · have cd' : (1000000000000000000 : Int) ≤ cs.getD j 0 := of_decide_eq_true cd
      rw [if_pos cd'] at kk
      refine ⟨_, rfl, _, rfl, _, _, rfl, rfl, ⟨h0, hm⟩, _, rfl, _, rfl, q, _, (j : Int), j, rfl, rfl, hq, hixN, ?_⟩
      refine ⟨_, rfl, _, rfl, _, _, rfl, rfl, h0, ?_⟩
      refine kk _ G _ [p, q] (Same.refl _) (fun b o e => ?_) (fun b o e n => ?_) (fun b e => .inl e) ?_ nd' (fun a m' => ?_) (.int _)
      · rw [upd_ne (ne_of_none e gq)]; exact sub _ _ e
      · rw [upd_ne fun z => n (by rw [z]; simp)]; exact e
      · refine SlR.ol (F := [q]) (by rw [upd_ne hpq]; exact hp) (SlRs.cons (F := []) (F' := [q]) (.fz (.int _)) (SlRs.cons (F := [q]) (F' := []) (SlR.ol (F := []) (vs := (cs.set j (cs.getD j 0 / m)).map V.int) ?_ (slRs_fz (RpL.of_ints _))) .nil))
        rw [upd_same, List.map_set]
      · have m2 : a = p ∨ a = q := by simpa using m'
        rcases m2 with rfl | rfl
        · exact ⟨gp, .inl (by simp)⟩
        · exact ⟨gq, .inl (by simp)⟩
    · have cd' : ¬ (1000000000000000000 : Int) ≤ cs.getD j 0 := fun z => cd (decide_eq_true z)
      rw [if_neg cd'] at kk
      refine ⟨_, rfl, p, [.int n, .ref q], 0, .int n, rfl, rfl, SqL.of hp, rfl, n, 1, rfl, rfl, _, rfl, p, [.int n, .ref q], 0, 0, rfl, rfl, hp, rfl, ?_⟩
      have hp2 : (upd H p (.lst [.int (n + 1), .ref q])) p = some (.lst [.int (n + 1), .ref q]) := upd_same
      refine ⟨_, rfl, _, _, rfl, rfl, .inr ⟨by decide, by decide⟩, _, rfl, p, _, 0, .int (n + 1), rfl, rfl, SqL.of hp2, rfl, _, _, rfl, rfl, .inr ⟨by decide, by decide⟩, _, _, rfl, rfl, .inl ⟨_, rfl, ?_⟩⟩
      refine ⟨_, _, rfl, rfl, (by decide : (0 : Int) < 2147483647), ?_⟩
      refine ⟨_, rfl, _, _, rfl, rfl, .inr ⟨by decide, by decide⟩, _, rfl, p, _, 0, .int (n + 1), rfl, rfl, SqL.of hp2, rfl, _, _, rfl, rfl, .inr ⟨by decide, by decide⟩, _, _, rfl, rfl, .inl ⟨_, rfl, ?_⟩⟩
      refine ⟨_, _, rfl, rfl, (by decide : (0 : Int) < 1000000007), ?_⟩
      refine ⟨_, rfl, _, _, rfl, rfl, ⟨by decide, by decide⟩, _, rfl, _, _, rfl, rfl, h0, ?_⟩
      refine kk _ G _ [p, q] (Same.refl _) (fun b o e => ?_) (fun b o e n => ?_) (fun b e => .inl e) ?_ nd' (fun a m' => ?_) (.int _)
      · rw [upd_ne (ne_of_none e gp)]; exact sub _ _ e
      · rw [upd_ne fun z => n (by rw [z]; simp)]; exact e
      · exact SlR.ol (F := [q]) upd_same (SlRs.cons (F := []) (F' := [q]) (.fz (.int _)) (SlRs.cons (F := [q]) (F' := []) (SlR.ol (F := []) (vs := cs.map V.int) (by rw [upd_ne (Ne.symm hpq)]; exact hq) (slRs_fz (RpL.of_ints _))) .nil))
      · have m2 : a = p ∨ a = q := by simpa using m'
        rcases m2 with rfl | rfl
        · exact ⟨gp, .inl (by simp)⟩
        · exact ⟨gq, .inl (by simp)⟩
end
section
variable {P : Program} {w : World} {K : PySem.W.Frag} {mg : Str → Option Value} {base : Heap} {fa : Nat → Addr} {fda : Nat → FuncData} {fc : Nat → Addr}
theorem ok__law_state (T : TX K mg fa fda fc) : FnOk P w K mg base CX0 1 (fa 13) (fda 13) ["script"] (spState K) := okx__law_state T.d__law_state.F T.b_abs T.b_len
theorem ok__law_take (T : TX K mg fa fda fc) : FnOk P w K mg base CX0 1 (fa 14) (fda 14) ["state", "most"] (spI K takeS) := okx__law_take T.d__law_take.F T.b_int T.b_len
theorem ok_served (T : TX K mg fa fda fc) : FnOk P w K mg base CX0 1 (fa 0) (fda 0) ["costs", "options", "part"] (spS K F_served) := by
  have h := fn_ok (P := P) (w := w) (mg := mg) (base := base) (fb := d_served) (k := 0) T.d_served.F sc_served (fun cdv A outer s H E hr =>
    (b_cons (xs_setC 3 [("option", 4)] [4] rfl rfl sc_served.nd (IV.c (i_seq (v_name 1))) (blkOk_by (N := ["costs", "options", "part", "told", "option"]) (sc := defScope s_served) (by decide +kernel)) (fun _ _ _ _ _ => (g_name 4 sc_served.nd)) (by decide) (fun _ _ _ _ _ => (TB.one (t_cmp o_isnot (PV.w (v_ix hr (v_ix hr (v_name 0) (v_name 2)) (v_name 4))) (PV.w v_non) (nomark _)))) (fun _ _ _ _ _ => (v_ix hr (v_ix hr (v_name 0) (v_name 2)) (v_name 4))) (sw_true rfl rfl rfl (by decide +kernel)))
    (b_one (s_ret (v_if (t_tru (PV.w (v_name 3))) (v_callBF (c_minA rfl hr) (by rfl) T.b_min (by decide +kernel) (a_cons (v_name 3) a_nil)) v_non)))))
  exact h
theorem ok_price_of (T : TX K mg fa fda fc) : FnOk P w K mg base CX0 2 (fa 1) (fda 1) ["prices", "costs", "options"] (spS K F_price_of) := by
  have h := fn_ok (P := P) (w := w) (mg := mg) (base := base) (fb := d_price_of) (k := 1) T.d_price_of.F sc_price_of (fun cdv A outer s H E hr =>
    (b_cons (s_set 3 sc_price_of.nd (v_callB (c_sum rfl) (by rfl) T.b_sum (by decide +kernel) (aw_cons (PV.w (PL.v (xl_comp [("option", 4)] [4] rfl rfl sc_price_of.nd (IV.c (i_seq (v_name 2))) (blkOk_by (N := ["prices", "costs", "options", "total", "option", "part", "least"]) (sc := defScope s_price_of) (by decide +kernel)) (fun _ _ _ _ _ => (g_name 4 sc_price_of.nd)) (by decide) (fun _ _ _ _ _ => tbs_nil) (fun _ _ _ _ _ => (v_ix hr (v_name 0) (v_name 4)))))) aw_nil)))
    (b_cons (s_for PassesOwn.never rfl (i_range1 (by rfl) T.b_range (aw_cons (PV.w (v_callB c_len (by rfl) T.b_len (by decide +kernel) (aw_cons (PV.w (v_name 1)) aw_nil))) aw_nil)) (g_name 5 sc_price_of.nd) (b_cons (s_set 6 sc_price_of.nd (v_call (ok_served T) (hr.mono (by decide)) (by rfl) T.d_served.g T.d_served.F.kp T.d_served.b (a_cons (v_name 1) (a_cons (v_name 2) (a_cons (v_name 5) a_nil)))))
    (b_cons (s_if (t_cmp o_is (PV.w (v_name 6)) (PV.w v_non) (nomark _)) (b_one (s_ret v_non)) b_nil)
    (b_one (s_set 3 sc_price_of.nd (v_op o_add (v_name 3) (v_name 6)))))))
    (b_one (s_ret (v_name 3))))))
  exact h
theorem ok_raised (T : TX K mg fa fda fc) : FnOk P w K mg base CX0 1 (fa 2) (fda 2) ["prices", "costs", "taken", "left"] (spS K F_raised) := by
  have h := fn_ok (P := P) (w := w) (mg := mg) (base := base) (fb := d_raised) (k := 0) T.d_raised.F sc_raised (fun cdv A outer s H E hr =>
    (b_cons (s_setO 4 sc_raised.nd (PL.o (l_callT c_list (by rfl) T.b_list (by decide +kernel) (a_cons (v_name 0) a_nil))))
    (b_cons (s_setO 5 sc_raised.nd (PL.o (l_disp a_nil)))
    (b_cons (s_for PassesOwn.never rfl (i_enum (by rfl) T.b_enumerate (v_name 1)) (g_tup rfl (gs_cons (g_name 6 sc_raised.nd) (gs_cons (g_name 7 sc_raised.nd) gs_nil))) (b_cons (xs_setC 8 [("option", 9), ("cost", 10)] [9, 10] rfl rfl sc_raised.nd (IV.c (i_enum (by rfl) T.b_enumerate (v_name 7))) (blkOk_by (N := ["prices", "costs", "taken", "left", "rest", "shares", "part", "row", "able", "option", "cost", "level"]) (sc := defScope s_raised) (by decide +kernel)) (fun _ _ _ _ _ => (g_tup rfl (gs_cons (g_name 9 sc_raised.nd) (gs_cons (g_name 10 sc_raised.nd) gs_nil)))) (by decide) (fun _ _ _ _ _ => (TB.one (TW.t (tw_and (t_cmp o_isnot (PV.w (v_name 10)) (PV.w v_non) (nomark _)) (tw_and1 (t_cmp (o_notin hr) (PV.w (v_name 9)) (PV.w (v_name 3)) (by rfl))))))) (fun _ _ _ _ _ => (v_name 9)) (sw_true rfl rfl rfl (by decide +kernel)))
    (b_cons (s_set 11 sc_raised.nd (v_minDf hr (by rfl) T.b_min (PL.v (xl_comp [("option", 9)] [9] rfl rfl sc_raised.nd (IV.c (i_seq (v_name 8))) (blkOk_by (N := ["prices", "costs", "taken", "left", "rest", "shares", "part", "row", "able", "option", "cost", "level"]) (sc := defScope s_raised) (by decide +kernel)) (fun _ _ _ _ _ => (g_name 9 sc_raised.nd)) (by decide) (fun _ _ _ _ _ => tbs_nil) (fun _ _ _ _ _ => (v_op o_add (v_ix hr (v_name 7) (v_name 9)) (v_if (t_cmp (o_in hr) (PV.w (v_name 9)) (PV.w (v_name 2)) (by rfl)) v_int (v_ixO 4 hr (v_name 9))))))) v_int))
    (b_cons (s_app 5 (PV.o (v_name 11)))
    (b_one (s_for PassesOwn.never rfl (i_seq (v_name 8)) (g_name 9 sc_raised.nd) (b_one (s_if (TW.t (tw_and (t_cmp (o_notin hr) (PV.w (v_name 9)) (PV.w (v_name 2)) (by rfl)) (tw_and1 (t_cmp o_lt (PV.w (v_ix hr (v_name 7) (v_name 9))) (PV.w (v_name 11)) (nomark _))))) (b_one (s_putL 4 (v_op o_sub (v_ixO 4 hr (v_name 9)) (v_op o_sub (v_name 11) (v_ix hr (v_name 7) (v_name 9)))) (PV.w (v_name 9)))) b_nil))))))))
    (b_one (s_retN 5))))))
  exact h
theorem ok_shown (T : TX K mg fa fda fc) : FnOk P w K mg base CX0 1 (fa 3) (fda 3) ["prices", "costs", "taken", "shares"] (spS K F_shown) := by
  have h := fn_ok (P := P) (w := w) (mg := mg) (base := base) (fb := d_shown) (k := 0) T.d_shown.F sc_shown (fun cdv A outer s H E hr =>
    (b_one (s_ret (v_op o_add (v_callB (c_sum rfl) (by rfl) T.b_sum (by decide +kernel) (aw_cons (PV.w (PL.v (xl_comp [("option", 4)] [4] rfl rfl sc_shown.nd (IV.c (i_seq (v_name 2))) (blkOk_by (N := ["prices", "costs", "taken", "shares", "option"]) (sc := defScope s_shown) (by decide +kernel)) (fun _ _ _ _ _ => (g_name 4 sc_shown.nd)) (by decide) (fun _ _ _ _ _ => tbs_nil) (fun _ _ _ _ _ => (v_ix hr (v_name 0) (v_name 4)))))) aw_nil)) (v_callB (c_sum rfl) (by rfl) T.b_sum (by decide +kernel) (aw_cons (PV.w (v_name 3)) aw_nil))))))
  exact h
theorem ok_Choice_dead (T : TX K mg fa fda fc) : FnOk P w K mg base CX0 1 (fa 4) (fda 4) ["self", "left"] (spS K F_Choice_dead) := by
  have h := fn_ok (P := P) (w := w) (mg := mg) (base := base) (fb := d_Choice_dead) (k := 0) T.d_Choice_dead.F sc_Choice_dead (fun cdv A outer s H E hr =>
    (b_cons (s_for PassesOwn.never rfl (i_enum (by rfl) T.b_enumerate (v_fld (ns := nm_Choice) 1 T.c_Choice T.k_Choice T.n_Choice_costs (v_name 0))) (g_tup rfl (gs_cons (g_name 2 sc_Choice_dead.nd) (gs_cons (g_name 3 sc_Choice_dead.nd) gs_nil))) (b_one (s_if (t_tru (PV.w (v_callB (c_all rfl) (by rfl) T.b_all (by decide +kernel) (aw_cons (PV.w (PL.v (xl_comp [("option", 4), ("cost", 5)] [4, 5] rfl rfl sc_Choice_dead.nd (IV.c (i_enum (by rfl) T.b_enumerate (v_name 3))) (blkOk_by (N := ["self", "left", "part", "row", "option", "cost"]) (sc := defScope s_Choice_dead) (by decide +kernel)) (fun _ _ _ _ _ => (g_tup rfl (gs_cons (g_name 4 sc_Choice_dead.nd) (gs_cons (g_name 5 sc_Choice_dead.nd) gs_nil)))) (by decide) (fun _ _ _ _ _ => tbs_nil) (fun _ _ _ _ _ => (v_or (v_cmp o_is (PV.w (v_name 5)) (PV.w v_non) (nomark _)) (v_one (v_cmp (o_in hr) (PV.w (v_name 4)) (PV.w (v_name 1)) (by rfl)))))))) aw_nil)))) (b_one (s_ret (v_name 2))) b_nil)))
    (b_one (s_ret v_non))))
  exact h
theorem ok_Choice_go (T : TX K mg fa fda fc) : ∀ n : Nat, FnOk P w K mg base CX0 (2 + n) (fa 5) (fda 5) ["self", "taken", "left"] (spI K (I_Choice_go n))
  | 0 => ⟨fun vs H Q E ⟨G, p, ws, s0, l0, ds, d, s1, _, _, _, _, _, _, e, _⟩ => (by cases e), fun A outer s H args us vs Q E hr he hb hv ⟨G, p, ws, s0, l0, ds, d, s1, _, _, _, _, _, _, e, _⟩ => (by cases e)⟩
  | n + 1 => by
    have ih := ok_Choice_go T n
    have h := fn_okI (P := P) (w := w) (mg := mg) (base := base) (fb := d_Choice_go (I_Choice_go n)) (k := 2 + n) T.d_Choice_go.F sc_Choice_go (fun cdv A outer s H E hr =>
    (b_cons (s_if (t_cmp o_isnot (PV.w (v_methS (ns := nm_Choice) 0 T.c_Choice T.k_Choice T.m_Choice_dead (ok_Choice_dead T) (hr.mono (by omega)) T.d_Choice_dead.b (a_cons (v_name 2) a_nil))) (PV.w v_non) (nomark _)) (b_one s_retNone) b_nil)
    (b_cons (s_set 3 sc_Choice_go.nd (v_call (ok_raised T) (hr.mono (by omega)) (by rfl) T.d_raised.g T.d_raised.F.kp T.d_raised.b (a_cons (v_fldS 0 0 (ns := nm_Choice) T.c_Choice T.k_Choice T.n_Choice_prices) (a_cons (v_fldS 0 1 (ns := nm_Choice) T.c_Choice T.k_Choice T.n_Choice_costs) (a_cons (v_name 1) (a_cons (v_name 2) a_nil))))))
    (b_cons (s_if (TW.t (tw_and (t_cmp o_isnot (PV.w (v_fldS 0 3 (ns := nm_Choice) T.c_Choice T.k_Choice T.n_Choice_cost)) (PV.w v_non) (nomark _)) (tw_and1 (t_cmp o_ge (PV.w (v_call (ok_shown T) (hr.mono (by omega)) (by rfl) T.d_shown.g T.d_shown.F.kp T.d_shown.b (a_cons (v_fldS 0 0 (ns := nm_Choice) T.c_Choice T.k_Choice T.n_Choice_prices) (a_cons (v_fldS 0 1 (ns := nm_Choice) T.c_Choice T.k_Choice T.n_Choice_costs) (a_cons (v_name 1) (a_cons (v_name 3) a_nil)))))) (PV.w (v_fldS 0 3 (ns := nm_Choice) T.c_Choice T.k_Choice T.n_Choice_cost)) (nomark _))))) (b_one s_retNone) b_nil)
    (b_cons (s_set 4 sc_Choice_go.nd (v_call (ok_price_of T) (hr.mono (by omega)) (by rfl) T.d_price_of.g T.d_price_of.F.kp T.d_price_of.b (a_cons (v_fldS 0 0 (ns := nm_Choice) T.c_Choice T.k_Choice T.n_Choice_prices) (a_cons (v_fldS 0 1 (ns := nm_Choice) T.c_Choice T.k_Choice T.n_Choice_costs) (a_cons (v_name 1) a_nil)))))
    (b_cons (s_if (TW.t (tw_and (t_cmp o_isnot (PV.w (v_name 4)) (PV.w v_non) (nomark _)) (tw_and1 (TW.t (tw_or (t_cmp o_is (PV.w (v_fldS 0 3 (ns := nm_Choice) T.c_Choice T.k_Choice T.n_Choice_cost)) (PV.w v_non) (nomark _)) (tw_or1 (t_cmp o_lt (PV.w (v_name 4)) (PV.w (v_fldS 0 3 (ns := nm_Choice) T.c_Choice T.k_Choice T.n_Choice_cost)) (nomark _)))))))) (b_cons (s_fldR 0 2 (ns := nm_Choice) T.c_Choice T.k_Choice T.n_Choice_best (PV.o (PL.v (l_callB (c_sorted hr) (by rfl) T.b_sorted (by decide +kernel) (a_cons (v_name 1) a_nil)))))
    (b_one (s_fldR 0 3 (ns := nm_Choice) T.c_Choice T.k_Choice T.n_Choice_cost (PV.o (v_name 4))))) b_nil)
    (b_cons (xs_setC 5 [("option", 6)] [6] rfl rfl sc_Choice_go.nd (IV.c (i_range1 (by rfl) T.b_range (aw_cons (PV.w (v_callB c_len (by rfl) T.b_len (by decide +kernel) (aw_cons (PV.w (v_fldS 0 0 (ns := nm_Choice) T.c_Choice T.k_Choice T.n_Choice_prices)) aw_nil))) aw_nil))) (blkOk_by (N := ["self", "taken", "left", "shares", "cost", "free", "option"]) (sc := defScope s_Choice_go) (by decide +kernel)) (fun _ _ _ _ _ => (g_name 6 sc_Choice_go.nd)) (by decide) (fun _ _ _ _ _ => (TB.one (TW.t (tw_and (t_cmp (o_notin hr) (PV.w (v_name 6)) (PV.w (v_name 1)) (by rfl)) (tw_and1 (t_cmp (o_notin hr) (PV.w (v_name 6)) (PV.w (v_name 2)) (by rfl))))))) (fun _ _ _ _ _ => (v_name 6)) (sw_true rfl rfl rfl (by decide +kernel)))
    (b_one (s_if (t_tru (PV.w (v_name 5))) (b_cons (s_exprM (m_meth (ns := nm_Choice) 0 T.c_Choice T.k_Choice T.m_Choice_go ih hr T.d_Choice_go.b (AV.m (a_cons (v_op o_add (v_name 1) (PL.v (l_disp (a_cons (v_ix hr (v_name 5) v_int) a_nil)))) (a_cons (v_name 2) a_nil)))))
    (b_one (s_exprM (m_meth (ns := nm_Choice) 0 T.c_Choice T.k_Choice T.m_Choice_go ih hr T.d_Choice_go.b (AV.m (a_cons (v_name 1) (a_cons (v_op o_add (v_name 2) (PL.v (l_disp (a_cons (v_ix hr (v_name 5) v_int) a_nil)))) a_nil))))))) b_nil)))))))))
    exact h
theorem ok_Choice_prove (T : TX K mg fa fda fc) : ∀ n : Nat, FnOk P w K mg base CX0 (1 + n) (fa 6) (fda 6) ["self", "taken", "left"] (spS K (F_Choice_prove n))
  | 0 => ⟨fun vs H Q E ⟨G, ds, z, _, _, e, _⟩ => (by cases e), fun A outer s H args us vs Q E hr he hb hv ⟨G, ds, z, _, _, e, _⟩ => (by cases e)⟩
  | n + 1 => by
    have ih := ok_Choice_prove T n
    have h := fn_ok (P := P) (w := w) (mg := mg) (base := base) (fb := d_Choice_prove (F_Choice_prove n)) (k := 1 + n) T.d_Choice_prove.F sc_Choice_prove (fun cdv A outer s H E hr =>
    (b_cons (s_set 3 sc_Choice_prove.nd (v_meth (ns := nm_Choice) T.c_Choice T.k_Choice T.m_Choice_dead (ok_Choice_dead T) (hr.mono (by omega)) T.d_Choice_dead.b (v_name 0) (a_cons (v_name 2) a_nil)))
    (b_cons (s_if (t_cmp o_isnot (PV.w (v_name 3)) (PV.w v_non) (nomark _)) (b_one (s_ret (v_tup (a_cons v_str (a_cons (v_name 3) a_nil))))) b_nil)
    (b_cons (s_set 4 sc_Choice_prove.nd (v_call (ok_raised T) (hr.mono (by omega)) (by rfl) T.d_raised.g T.d_raised.F.kp T.d_raised.b (a_cons (v_fld (ns := nm_Choice) 0 T.c_Choice T.k_Choice T.n_Choice_prices (v_name 0)) (a_cons (v_fld (ns := nm_Choice) 1 T.c_Choice T.k_Choice T.n_Choice_costs (v_name 0)) (a_cons (v_name 1) (a_cons (v_name 2) a_nil))))))
    (b_cons (s_if (TW.t (tw_and (t_cmp o_isnot (PV.w (v_fld (ns := nm_Choice) 3 T.c_Choice T.k_Choice T.n_Choice_cost (v_name 0))) (PV.w v_non) (nomark _)) (tw_and1 (t_cmp o_ge (PV.w (v_call (ok_shown T) (hr.mono (by omega)) (by rfl) T.d_shown.g T.d_shown.F.kp T.d_shown.b (a_cons (v_fld (ns := nm_Choice) 0 T.c_Choice T.k_Choice T.n_Choice_prices (v_name 0)) (a_cons (v_fld (ns := nm_Choice) 1 T.c_Choice T.k_Choice T.n_Choice_costs (v_name 0)) (a_cons (v_name 1) (a_cons (v_name 4) a_nil)))))) (PV.w (v_fld (ns := nm_Choice) 3 T.c_Choice T.k_Choice T.n_Choice_cost (v_name 0))) (nomark _))))) (b_one (s_ret (v_tup (a_cons v_str (a_cons (v_name 4) a_nil))))) b_nil)
    (b_cons (xs_setC 5 [("option", 6)] [6] rfl rfl sc_Choice_prove.nd (IV.c (i_range1 (by rfl) T.b_range (aw_cons (PV.w (v_callB c_len (by rfl) T.b_len (by decide +kernel) (aw_cons (PV.w (v_fld (ns := nm_Choice) 0 T.c_Choice T.k_Choice T.n_Choice_prices (v_name 0))) aw_nil))) aw_nil))) (blkOk_by (N := ["self", "taken", "left", "part", "shares", "free", "option", "one"]) (sc := defScope s_Choice_prove) (by decide +kernel)) (fun _ _ _ _ _ => (g_name 6 sc_Choice_prove.nd)) (by decide) (fun _ _ _ _ _ => (TB.one (TW.t (tw_and (t_cmp (o_notin hr) (PV.w (v_name 6)) (PV.w (v_name 1)) (by rfl)) (tw_and1 (t_cmp (o_notin hr) (PV.w (v_name 6)) (PV.w (v_name 2)) (by rfl))))))) (fun _ _ _ _ _ => (v_name 6)) (sw_true rfl rfl rfl (by decide +kernel)))
    (b_cons (s_set 7 sc_Choice_prove.nd (v_meth (ns := nm_Choice) T.c_Choice T.k_Choice T.m_Choice_prove ih hr T.d_Choice_prove.b (v_name 0) (a_cons (v_op o_add (v_name 1) (PL.v (l_disp (a_cons (v_ix hr (v_name 5) v_int) a_nil)))) (a_cons (v_name 2) a_nil))))
    (b_one (s_ret (v_tup (a_cons v_str (a_cons (v_ix hr (v_name 5) v_int) (a_cons (v_name 7) (a_cons (v_meth (ns := nm_Choice) T.c_Choice T.k_Choice T.m_Choice_prove ih hr T.d_Choice_prove.b (v_name 0) (a_cons (v_name 1) (a_cons (v_op o_add (v_name 2) (PL.v (l_disp (a_cons (v_ix hr (v_name 5) v_int) a_nil)))) a_nil))) a_nil))))))))))))))
    exact h
theorem ok_Choice_init (T : TX K mg fa fda fc) : FnOk P w K mg base CX0 1 (fa 7) (fda 7) ["self", "prices", "costs"] (spI K I_Choice_init) := by
  have h := fn_okI (P := P) (w := w) (mg := mg) (base := base) (fb := d_Choice_init) (k := 0) T.d_Choice_init.F sc_Choice_init (fun cdv A outer s H E hr =>
    (b_cons (s_fldN 0 (ns := []) T.c_Choice T.k_Choice T.n_Choice_prices (PV.o (v_name 1)))
    (b_cons (s_fldN 0 (ns := ["prices"]) T.c_Choice T.k_Choice T.n_Choice_costs (PV.o (v_name 2)))
    (b_cons (s_fldN 0 (ns := ["prices", "costs"]) T.c_Choice T.k_Choice T.n_Choice_best (PV.o v_non))
    (b_one (s_fldN 0 (ns := ["prices", "costs", "best"]) T.c_Choice T.k_Choice T.n_Choice_cost (PV.o v_non)))))))
  exact h
theorem ok_sizes (T : TX K mg fa fda fc) : FnOk P w K mg base CX0 15 (fa 8) (fda 8) ["prices", "costs"] (spS K F_sizes) := by
  have h := fn_ok (P := P) (w := w) (mg := mg) (base := base) (fb := d_sizes) (k := 14) T.d_sizes.F sc_sizes (fun cdv A outer s H E hr =>
    (b_cons (s_setO 2 sc_sizes.nd (o_make T.c_Choice T.m_Choice_init (ok_Choice_init T) (hr.mono (by decide)) (by rfl) T.g_Choice T.d_Choice_init.b (a_cons (v_name 0) (a_cons (v_name 1) a_nil))))
    (b_cons (s_exprM (m_meth (ns := nm_Choice) 2 T.c_Choice T.k_Choice T.m_Choice_go (ok_Choice_go T 12) (hr.mono (by decide)) T.d_Choice_go.b (AV.m (a_cons (PL.v (l_disp a_nil)) (a_cons (PL.v (l_disp a_nil)) a_nil)))))
    (b_cons (s_freeze 2 (s_set 3 sc_sizes.nd (v_meth (ns := nm_Choice) T.c_Choice T.k_Choice T.m_Choice_prove (ok_Choice_prove T 12) (hr.mono (by decide)) T.d_Choice_prove.b (v_name 2) (a_cons (PL.v (l_disp a_nil)) (a_cons (PL.v (l_disp a_nil)) a_nil)))))
    (b_one (s_freeze 2 (s_ret (v_if (t_cmp o_is (PV.w (v_fld (ns := nm_Choice) 2 T.c_Choice T.k_Choice T.n_Choice_best (v_name 2))) (PV.w v_non) (nomark _)) (v_tup (a_cons v_str (a_cons (v_name 3) a_nil))) (v_tup (a_cons v_str (a_cons (v_fld (ns := nm_Choice) 2 T.c_Choice T.k_Choice T.n_Choice_best (v_name 2)) (a_cons (v_fld (ns := nm_Choice) 3 T.c_Choice T.k_Choice T.n_Choice_cost (v_name 2)) (a_cons (v_name 3) a_nil)))))))))))))
  exact h
theorem ok_shares_right (T : TX K mg fa fda fc) : FnOk P w K mg base CX0 2 (fa 9) (fda 9) ["prices", "costs", "taken", "left", "bound", "shares"] (spS K F_shares_right) := by
  have h := fn_ok (P := P) (w := w) (mg := mg) (base := base) (fb := d_shares_right) (k := 1) T.d_shares_right.F sc_shares_right (fun cdv A outer s H E hr =>
    (b_cons (s_if (TW.t (tw_or (t_cmp o_is (PV.w (v_name 4)) (PV.w v_non) (nomark _)) (tw_or1 (t_cmp (o_ne hr) (PV.w (v_callB c_len (by rfl) T.b_len (by decide +kernel) (aw_cons (PV.w (v_name 5)) aw_nil))) (PV.w (v_callB c_len (by rfl) T.b_len (by decide +kernel) (aw_cons (PV.w (v_name 1)) aw_nil))) (nomark _))))) (b_one (s_ret v_bl)) b_nil)
    (b_cons (s_for PassesOwn.never rfl (i_enum (by rfl) T.b_enumerate (v_name 0)) (g_tup rfl (gs_cons (g_name 6 sc_shares_right.nd) (gs_cons (g_name 7 sc_shares_right.nd) gs_nil))) (b_one (s_if (t_cmp (o_notin hr) (PV.w (v_name 6)) (PV.w (v_name 3)) (by rfl)) (b_cons (s_set 8 sc_shares_right.nd v_int)
    (b_cons (s_for PassesOwn.never rfl (i_enum (by rfl) T.b_enumerate (v_name 1)) (g_tup rfl (gs_cons (g_name 9 sc_shares_right.nd) (gs_cons (g_name 10 sc_shares_right.nd) gs_nil))) (b_one (s_if (t_cmp o_isnot (PV.w (v_ix hr (v_name 10) (v_name 6))) (PV.w v_non) (nomark _)) (b_one (s_set 8 sc_shares_right.nd (v_op o_add (v_name 8) (v_callBF (c_maxA rfl hr) (by rfl) T.b_max (by decide +kernel) (a_cons v_int (a_cons (v_op o_sub (v_ix hr (v_name 5) (v_name 9)) (v_ix hr (v_name 10) (v_name 6))) a_nil)))))) b_nil)))
    (b_one (s_if (t_cmp o_gt (PV.w (v_name 8)) (PV.w (v_if (t_cmp (o_in hr) (PV.w (v_name 6)) (PV.w (v_name 2)) (by rfl)) v_int (v_name 7))) (nomark _)) (b_one (s_ret v_bl)) b_nil)))) b_nil)))
    (b_one (s_ret (v_cmp o_ge (PV.w (v_call (ok_shown T) (hr.mono (by decide)) (by rfl) T.d_shown.g T.d_shown.F.kp T.d_shown.b (a_cons (v_name 0) (a_cons (v_name 1) (a_cons (v_name 2) (a_cons (v_name 5) a_nil)))))) (PV.w (v_name 4)) (nomark _)))))))
  exact h
theorem ok_tree_fault (T : TX K mg fa fda fc) : ∀ n : Nat, FnOk P w K mg base CX0 (2 + n) (fa 10) (fda 10) ["prices", "costs", "taken", "left", "bound", "path", "tree"] (spS K (F_tree_fault n))
  | 0 => ⟨fun vs H Q E ⟨G, ds, z, _, _, e, _⟩ => (by cases e), fun A outer s H args us vs Q E hr he hb hv ⟨G, ds, z, _, _, e, _⟩ => (by cases e)⟩
  | n + 1 => by
    have ih := ok_tree_fault T n
    have h := fn_ok (P := P) (w := w) (mg := mg) (base := base) (fb := d_tree_fault (F_tree_fault n)) (k := 2 + n) T.d_tree_fault.F sc_tree_fault (fun cdv A outer s H E hr =>
    (b_cons (s_if (t_cmp (o_eq hr) (PV.w (v_ix hr (v_name 6) v_int)) (PV.w v_str) (nomark _)) (b_cons (s_set 7 sc_tree_fault.nd (v_chain o_le o_lt (PV.w v_int) (PV.w (v_ix hr (v_name 6) v_int)) (PV.w (v_callB c_len (by rfl) T.b_len (by decide +kernel) (aw_cons (PV.w (v_name 1)) aw_nil)))))
    (b_cons (s_set 8 sc_tree_fault.nd (v_and (v_name 7) (v_one (v_callB (c_all rfl) (by rfl) T.b_all (by decide +kernel) (aw_cons (PV.w (PL.v (xl_comp [("option", 9), ("cost", 10)] [9, 10] rfl rfl sc_tree_fault.nd (IV.c (i_enum (by rfl) T.b_enumerate (v_ix hr (v_name 1) (v_ix hr (v_name 6) v_int)))) (blkOk_by (N := ["prices", "costs", "taken", "left", "bound", "path", "tree", "inside", "dead", "option", "cost", "word", "one", "other", "fault"]) (sc := defScope s_tree_fault) (by decide +kernel)) (fun _ _ _ _ _ => (g_tup rfl (gs_cons (g_name 9 sc_tree_fault.nd) (gs_cons (g_name 10 sc_tree_fault.nd) gs_nil)))) (by decide) (fun _ _ _ _ _ => tbs_nil) (fun _ _ _ _ _ => (v_or (v_cmp o_is (PV.w (v_name 10)) (PV.w v_non) (nomark _)) (v_one (v_cmp (o_in hr) (PV.w (v_name 9)) (PV.w (v_name 3)) (by rfl)))))))) aw_nil)))))
    (b_one (s_ret (v_if (t_tru (PV.w (v_name 8))) v_non (v_tup (a_cons v_str (a_cons (v_name 5) a_nil)))))))) b_nil)
    (b_cons (s_if (t_cmp (o_eq hr) (PV.w (v_ix hr (v_name 6) v_int)) (PV.w v_str) (nomark _)) (b_one (s_ret (v_if (t_tru (PV.w (v_call (ok_shares_right T) (hr.mono (by omega)) (by rfl) T.d_shares_right.g T.d_shares_right.F.kp T.d_shares_right.b (a_cons (v_name 0) (a_cons (v_name 1) (a_cons (v_name 2) (a_cons (v_name 3) (a_cons (v_name 4) (a_cons (v_ix hr (v_name 6) v_int) a_nil))))))))) v_non (v_tup (a_cons v_str (a_cons (v_name 5) a_nil)))))) b_nil)
    (b_cons (s_tg (v_name 6) (g_tup rfl (gs_cons (g_name 11 sc_tree_fault.nd) (gs_cons (g_name 9 sc_tree_fault.nd) (gs_cons (g_name 12 sc_tree_fault.nd) (gs_cons (g_name 13 sc_tree_fault.nd) gs_nil))))))
    (b_cons (s_if (TW.t (tw_or (t_not (t_chain o_le o_lt (PV.w v_int) (PV.w (v_name 9)) (PV.w (v_callB c_len (by rfl) T.b_len (by decide +kernel) (aw_cons (PV.w (v_name 0)) aw_nil))))) (tw_or (t_cmp (o_in hr) (PV.w (v_name 9)) (PV.w (v_name 2)) (by rfl)) (tw_or1 (t_cmp (o_in hr) (PV.w (v_name 9)) (PV.w (v_name 3)) (by rfl)))))) (b_one (s_ret (v_tup (a_cons v_str (a_cons (v_name 5) a_nil))))) b_nil)
    (b_cons (s_set 14 sc_tree_fault.nd (v_call ih hr (by rfl) T.d_tree_fault.g T.d_tree_fault.F.kp T.d_tree_fault.b (a_cons (v_name 0) (a_cons (v_name 1) (a_cons (v_op o_add (v_name 2) (PL.v (l_disp (a_cons (v_name 9) a_nil)))) (a_cons (v_name 3) (a_cons (v_name 4) (a_cons (v_op o_add (v_name 5) (PL.v (l_disp (a_cons (v_tup (a_cons (v_name 9) (a_cons v_int a_nil))) a_nil)))) (a_cons (v_name 12) a_nil)))))))))
    (b_cons (s_if (t_cmp o_isnot (PV.w (v_name 14)) (PV.w v_non) (nomark _)) (b_one (s_ret (v_name 14))) b_nil)
    (b_one (s_ret (v_call ih hr (by rfl) T.d_tree_fault.g T.d_tree_fault.F.kp T.d_tree_fault.b (a_cons (v_name 0) (a_cons (v_name 1) (a_cons (v_name 2) (a_cons (v_op o_add (v_name 3) (PL.v (l_disp (a_cons (v_name 9) a_nil)))) (a_cons (v_name 4) (a_cons (v_op o_add (v_name 5) (PL.v (l_disp (a_cons (v_tup (a_cons (v_name 9) (a_cons v_int a_nil))) a_nil)))) (a_cons (v_name 13) a_nil)))))))))))))))))
    exact h
theorem ok_sizes_fault (T : TX K mg fa fda fc) : FnOk P w K mg base CX0 15 (fa 11) (fda 11) ["prices", "costs", "told"] (spS K F_sizes_fault) := by
  have h := fn_ok (P := P) (w := w) (mg := mg) (base := base) (fb := d_sizes_fault) (k := 14) T.d_sizes_fault.F sc_sizes_fault (fun cdv A outer s H E hr =>
    (b_cons (s_if (t_cmp (o_eq hr) (PV.w (v_ix hr (v_name 2) v_int)) (PV.w v_str) (nomark _)) (b_cons (s_set 3 sc_sizes_fault.nd (v_call (ok_tree_fault T 12) (hr.mono (by decide)) (by rfl) T.d_tree_fault.g T.d_tree_fault.F.kp T.d_tree_fault.b (a_cons (v_name 0) (a_cons (v_name 1) (a_cons (PL.v (l_disp a_nil)) (a_cons (PL.v (l_disp a_nil)) (a_cons v_non (a_cons (PL.v (l_disp a_nil)) (a_cons (v_ix hr (v_name 2) v_int) a_nil)))))))))
    (b_one (s_ret (v_if (t_cmp o_is (PV.w (v_name 3)) (PV.w v_non) (nomark _)) v_non (v_tup (a_cons v_str (a_cons (v_name 3) a_nil))))))) b_nil)
    (b_cons (s_tg (v_name 2) (g_tup rfl (gs_cons (g_name 4 sc_sizes_fault.nd) (gs_cons (g_name 5 sc_sizes_fault.nd) (gs_cons (g_name 6 sc_sizes_fault.nd) (gs_cons (g_name 7 sc_sizes_fault.nd) gs_nil))))))
    (b_cons (s_set 8 sc_sizes_fault.nd (v_callB (c_all rfl) (by rfl) T.b_all (by decide +kernel) (aw_cons (PV.w (PL.v (xl_comp [("at", 9)] [9] rfl rfl sc_sizes_fault.nd (IV.c (i_range1 (by rfl) T.b_range (aw_cons (PV.w (v_op o_sub (v_callB c_len (by rfl) T.b_len (by decide +kernel) (aw_cons (PV.w (v_name 5)) aw_nil)) v_int)) aw_nil))) (blkOk_by (N := ["prices", "costs", "told", "fault", "word", "options", "cost", "tree", "rising", "at", "option", "part"]) (sc := defScope s_sizes_fault) (by decide +kernel)) (fun _ _ _ _ _ => (g_name 9 sc_sizes_fault.nd)) (by decide) (fun _ _ _ _ _ => tbs_nil) (fun _ _ _ _ _ => (v_cmp o_lt (PV.w (v_ix hr (v_name 5) (v_name 9))) (PV.w (v_ix hr (v_name 5) (v_op o_add (v_name 9) v_int))) (nomark _)))))) aw_nil)))
    (b_cons (s_if (TW.t (tw_or (t_not (t_tru (PV.w (v_name 8)))) (tw_or1 (t_not (t_tru (PV.w (v_callB (c_all rfl) (by rfl) T.b_all (by decide +kernel) (aw_cons (PV.w (PL.v (xl_comp [("option", 10)] [10] rfl rfl sc_sizes_fault.nd (IV.c (i_seq (v_name 5))) (blkOk_by (N := ["prices", "costs", "told", "fault", "word", "options", "cost", "tree", "rising", "at", "option", "part"]) (sc := defScope s_sizes_fault) (by decide +kernel)) (fun _ _ _ _ _ => (g_name 10 sc_sizes_fault.nd)) (by decide) (fun _ _ _ _ _ => tbs_nil) (fun _ _ _ _ _ => (v_chain o_le o_lt (PV.w v_int) (PV.w (v_name 10)) (PV.w (v_callB c_len (by rfl) T.b_len (by decide +kernel) (aw_cons (PV.w (v_name 0)) aw_nil)))))))) aw_nil)))))))) (b_one (s_ret (v_tup (a_cons v_str a_nil)))) b_nil)
    (b_cons (s_for PassesOwn.never rfl (i_range1 (by rfl) T.b_range (aw_cons (PV.w (v_callB c_len (by rfl) T.b_len (by decide +kernel) (aw_cons (PV.w (v_name 1)) aw_nil))) aw_nil)) (g_name 11 sc_sizes_fault.nd) (b_one (s_if (t_cmp o_is (PV.w (v_call (ok_served T) (hr.mono (by decide)) (by rfl) T.d_served.g T.d_served.F.kp T.d_served.b (a_cons (v_name 1) (a_cons (v_name 5) (a_cons (v_name 11) a_nil))))) (PV.w v_non) (nomark _)) (b_one (s_ret (v_tup (a_cons v_str (a_cons (v_name 11) a_nil))))) b_nil)))
    (b_cons (s_if (t_cmp (o_ne hr) (PV.w (v_call (ok_price_of T) (hr.mono (by decide)) (by rfl) T.d_price_of.g T.d_price_of.F.kp T.d_price_of.b (a_cons (v_name 0) (a_cons (v_name 1) (a_cons (v_name 5) a_nil))))) (PV.w (v_name 6)) (nomark _)) (b_one (s_ret (v_tup (a_cons v_str a_nil)))) b_nil)
    (b_cons (s_set 3 sc_sizes_fault.nd (v_call (ok_tree_fault T 12) (hr.mono (by decide)) (by rfl) T.d_tree_fault.g T.d_tree_fault.F.kp T.d_tree_fault.b (a_cons (v_name 0) (a_cons (v_name 1) (a_cons (PL.v (l_disp a_nil)) (a_cons (PL.v (l_disp a_nil)) (a_cons (v_name 6) (a_cons (PL.v (l_disp a_nil)) (a_cons (v_name 7) a_nil)))))))))
    (b_one (s_ret (v_if (t_cmp o_is (PV.w (v_name 3)) (PV.w v_non) (nomark _)) v_non (v_tup (a_cons v_str (a_cons (v_name 3) a_nil))))))))))))))
  exact h
theorem ok_waste_costs (T : TX K mg fa fda fc) : FnOk P w K mg base CX0 1 (fa 12) (fda 12) ["parts", "plates"] (spS K F_waste_costs) := by
  have h := fn_ok (P := P) (w := w) (mg := mg) (base := base) (fb := d_waste_costs) (k := 0) T.d_waste_costs.F sc_waste_costs (fun cdv A outer s H E hr =>
    (b_cons (s_setO 2 sc_waste_costs.nd (PL.o (l_disp a_nil)))
    (b_cons (s_for PassesOwn.never rfl (i_seq (v_name 0)) (g_tup rfl (gs_cons (g_name 3 sc_waste_costs.nd) (gs_cons (g_name 4 sc_waste_costs.nd) gs_nil))) (b_cons (s_setO 5 sc_waste_costs.nd (PL.o (l_disp a_nil)))
    (b_cons (s_for PassesOwn.never rfl (i_seq (v_name 1)) (g_tup rfl (gs_cons (g_name 6 sc_waste_costs.nd) (gs_cons (g_name 7 sc_waste_costs.nd) gs_nil))) (b_cons (s_set 8 sc_waste_costs.nd (v_or (v_and (v_cmp o_le (PV.w (v_name 3)) (PV.w (v_name 6)) (nomark _)) (v_one (v_cmp o_le (PV.w (v_name 4)) (PV.w (v_name 7)) (nomark _)))) (v_one (v_and (v_cmp o_le (PV.w (v_name 4)) (PV.w (v_name 6)) (nomark _)) (v_one (v_cmp o_le (PV.w (v_name 3)) (PV.w (v_name 7)) (nomark _)))))))
    (b_one (s_app 5 (PV.o (v_if (t_tru (PV.w (v_name 8))) (v_op o_sub (v_op o_mul (v_name 6) (v_name 7)) (v_op o_mul (v_name 3) (v_name 4))) v_non))))))
    (b_one (s_freeze 5 (s_app 2 (PV.o (v_name 5))))))))
    (b_one (s_retN 2)))))
  exact h
theorem ok__law_shop (T : TX K mg fa fda fc) : FnOk P w K mg base CX0 2 (fa 15) (fda 15) ["state", "most"] (spI K I__law_shop) := by
  have h := fn_okI (P := P) (w := w) (mg := mg) (base := base) (fb := d__law_shop) (k := 1) T.d__law_shop.F sc__law_shop (fun cdv A outer s H E hr =>
    (b_cons (xs_setCM 2 [("k", 3)] [3] rfl rfl sc__law_shop.nd (mi_range1 (by rfl) T.b_range (ma_cons (m_inout 0 (ok__law_take T) (hr.mono (by decide)) (by rfl) T.d__law_take.g T.d__law_take.F.kp T.d__law_take.b (ma_cons (PV.m (v_op o_add (v_name 1) v_int)) ma_nil)) ma_nil)) (blkOk_by (N := ["state", "most", "prices", "k", "rare", "costs", "price", "row", "one"]) (sc := defScope s__law_shop) (by decide +kernel)) (fun _ _ _ _ _ => (g_name 3 sc__law_shop.nd)) (by decide) (fun _ _ _ _ _ => mts_nil) (fun _ _ _ _ _ => (m_ix hr (m_lst (ma_cons (PV.m v_int) (ma_cons (m_inout 0 (ok__law_take T) (hr.mono (by decide)) (by rfl) T.d__law_take.g T.d__law_take.F.kp T.d__law_take.b (ma_cons (PV.m v_int) ma_nil)) (ma_cons (m_inout 0 (ok__law_take T) (hr.mono (by decide)) (by rfl) T.d__law_take.g T.d__law_take.F.kp T.d__law_take.b (ma_cons (PV.m v_int) ma_nil)) ma_nil)))) (m_inout 0 (ok__law_take T) (hr.mono (by decide)) (by rfl) T.d__law_take.g T.d__law_take.F.kp T.d__law_take.b (ma_cons (PV.m v_int) ma_nil)))) (sw_true rfl rfl rfl (by decide +kernel)))
    (b_cons (s_setM 4 sc__law_shop.nd (m_ix hr (PV.m (PL.v (l_disp (a_cons v_int (a_cons v_int a_nil))))) (m_inout 0 (ok__law_take T) (hr.mono (by decide)) (by rfl) T.d__law_take.g T.d__law_take.F.kp T.d__law_take.b (ma_cons (PV.m v_int) ma_nil))))
    (b_cons (s_setO 5 sc__law_shop.nd (PL.o (l_disp a_nil)))
    (b_cons (s_forM PassesOwn.never rfl (mi_range1 (by rfl) T.b_range (ma_cons (m_inout 0 (ok__law_take T) (hr.mono (by decide)) (by rfl) T.d__law_take.g T.d__law_take.F.kp T.d__law_take.b (ma_cons (PV.m v_int) ma_nil)) ma_nil)) (g_name 3 sc__law_shop.nd) (b_one (s_appM 5 (xm_comp [("price", 6)] [6] rfl rfl sc__law_shop.nd (IV.m (i_seq (v_name 2))) (blkOk_by (N := ["state", "most", "prices", "k", "rare", "costs", "price", "row", "one"]) (sc := defScope s__law_shop) (by decide +kernel)) (fun _ _ _ _ _ => (g_name 6 sc__law_shop.nd)) (by decide) (fun _ _ _ _ _ => mts_nil) (fun _ _ _ _ _ => (m_if (mt_cmp (o_eq hr) (m_inout 0 (ok__law_take T) (hr.mono (by decide)) (by rfl) T.d__law_take.g T.d__law_take.F.kp T.d__law_take.b (ma_cons (PV.m (v_name 4)) ma_nil)) (PV.m v_int) (nomark _)) (PV.m v_non) (m_inout 0 (ok__law_take T) (hr.mono (by decide)) (by rfl) T.d__law_take.g T.d__law_take.F.kp T.d__law_take.b (ma_cons (PV.m v_int) ma_nil))))))))
    (b_cons (s_ifM (mt_cmp o_gt (m_inout 0 (ok__law_take T) (hr.mono (by decide)) (by rfl) T.d__law_take.g T.d__law_take.F.kp T.d__law_take.b (ma_cons (PV.m v_int) ma_nil)) (PV.m v_int) (nomark _)) (b_one (xs_setCO 5 [("row", 7)] [7] rfl rfl sc__law_shop.nd (i_own 5) (blkOk_by (N := ["state", "most", "prices", "k", "rare", "costs", "price", "row", "one"]) (sc := defScope s__law_shop) (by decide +kernel)) (fun _ _ _ _ _ => (g_name 7 sc__law_shop.nd)) (by decide) (fun _ _ _ _ _ => (TB.one (t_cmp o_gt (PV.w (v_callB c_len (by rfl) T.b_len (by decide +kernel) (aw_cons (PV.w (PL.v (xl_comp [("one", 8)] [8] rfl rfl sc__law_shop.nd (IV.c (i_seq (v_name 7))) (blkN (blkOk_by (N := ["state", "most", "prices", "k", "rare", "costs", "price", "row", "one"]) (by decide +kernel))) (fun _ _ _ _ _ => (g_name 8 sc__law_shop.nd)) (by decide) (fun _ _ _ _ _ => (TB.one (t_cmp o_isnot (PV.w (v_name 8)) (PV.w v_non) (nomark _)))) (fun _ _ _ _ _ => (v_name 8))))) aw_nil))) (PV.w v_int) (nomark _)))) (fun _ _ _ _ _ => (v_name 7)) (sw_true rfl rfl rfl (by decide +kernel)))) b_nil)
    (b_one (s_freeze 5 (s_ret (v_tup (a_cons (v_name 2) (a_cons (v_name 5) a_nil))))))))))))
  exact h
theorem ok__law_cost (T : TX K mg fa fda fc) : FnOk P w K mg base CX0 1 (fa 16) (fda 16) ["prices", "costs", "options"] (spS K F__law_cost) := by
  have h := fn_ok (P := P) (w := w) (mg := mg) (base := base) (fb := d__law_cost) (k := 0) T.d__law_cost.F sc__law_cost (fun cdv A outer s H E hr =>
    (b_cons (s_set 3 sc__law_cost.nd (v_callB (c_sum rfl) (by rfl) T.b_sum (by decide +kernel) (aw_cons (PV.w (PL.v (xl_comp [("k", 4)] [4] rfl rfl sc__law_cost.nd (IV.c (i_seq (v_name 2))) (blkOk_by (N := ["prices", "costs", "options", "total", "k", "row", "able"]) (sc := defScope s__law_cost) (by decide +kernel)) (fun _ _ _ _ _ => (g_name 4 sc__law_cost.nd)) (by decide) (fun _ _ _ _ _ => tbs_nil) (fun _ _ _ _ _ => (v_ix hr (v_name 0) (v_name 4)))))) aw_nil)))
    (b_cons (s_for PassesOwn.never rfl (i_seq (v_name 1)) (g_name 5 sc__law_cost.nd) (b_cons (xs_setC 6 [("k", 4)] [4] rfl rfl sc__law_cost.nd (IV.c (i_seq (v_name 2))) (blkOk_by (N := ["prices", "costs", "options", "total", "k", "row", "able"]) (sc := defScope s__law_cost) (by decide +kernel)) (fun _ _ _ _ _ => (g_name 4 sc__law_cost.nd)) (by decide) (fun _ _ _ _ _ => (TB.one (t_cmp o_isnot (PV.w (v_ix hr (v_name 5) (v_name 4))) (PV.w v_non) (nomark _)))) (fun _ _ _ _ _ => (v_ix hr (v_name 5) (v_name 4))) (sw_true rfl rfl rfl (by decide +kernel)))
    (b_cons (s_if (t_cmp (o_eq hr) (PV.w (v_callB c_len (by rfl) T.b_len (by decide +kernel) (aw_cons (PV.w (v_name 6)) aw_nil))) (PV.w v_int) (nomark _)) (b_one (s_ret v_non)) b_nil)
    (b_one (s_set 3 sc__law_cost.nd (v_op o_add (v_name 3) (v_callBF (c_minA rfl hr) (by rfl) T.b_min (by decide +kernel) (a_cons (v_name 6) a_nil))))))))
    (b_one (s_ret (v_name 3))))))
  exact h
theorem ok__law_tree_fault (T : TX K mg fa fda fc) : ∀ n : Nat, FnOk P w K mg base CX0 (0 + n) (fa 17) (fda 17) ["prices", "costs", "taken", "left", "bound", "path", "tree"] (spS K (F__law_tree_fault n))
  | 0 => ⟨fun vs H Q E ⟨G, ds, z, _, _, e, _⟩ => (by cases e), fun A outer s H args us vs Q E hr he hb hv ⟨G, ds, z, _, _, e, _⟩ => (by cases e)⟩
  | n + 1 => by
    have ih := ok__law_tree_fault T n
    have h := fn_ok (P := P) (w := w) (mg := mg) (base := base) (fb := d__law_tree_fault (F__law_tree_fault n)) (k := 0 + n) T.d__law_tree_fault.F sc__law_tree_fault (fun cdv A outer s H E hr =>
    (b_cons (s_if (t_cmp (o_eq hr) (PV.w (v_ix hr (v_name 6) v_int)) (PV.w v_str) (nomark _)) (b_cons (s_set 7 sc__law_tree_fault.nd (v_and (v_chain o_le o_lt (PV.w v_int) (PV.w (v_ix hr (v_name 6) v_int)) (PV.w (v_callB c_len (by rfl) T.b_len (by decide +kernel) (aw_cons (PV.w (v_name 1)) aw_nil)))) (v_one (v_cmp (o_eq hr) (PV.w (v_callB c_len (by rfl) T.b_len (by decide +kernel) (aw_cons (PV.w (PL.v (xl_comp [("k", 8)] [8] rfl rfl sc__law_tree_fault.nd (IV.c (i_range1 (by rfl) T.b_range (aw_cons (PV.w (v_callB c_len (by rfl) T.b_len (by decide +kernel) (aw_cons (PV.w (v_name 0)) aw_nil))) aw_nil))) (blkOk_by (N := ["prices", "costs", "taken", "left", "bound", "path", "tree", "good", "k", "shares", "over", "p", "word", "one", "other", "found"]) (sc := defScope s__law_tree_fault) (by decide +kernel)) (fun _ _ _ _ _ => (g_name 8 sc__law_tree_fault.nd)) (by decide) (fun _ _ _ _ _ => (TB.one (TW.t (tw_and (t_cmp o_isnot (PV.w (v_ix hr (v_ix hr (v_name 1) (v_ix hr (v_name 6) v_int)) (v_name 8))) (PV.w v_non) (nomark _)) (tw_and1 (t_cmp (o_notin hr) (PV.w (v_name 8)) (PV.w (v_name 3)) (by rfl))))))) (fun _ _ _ _ _ => (v_name 8))))) aw_nil))) (PV.w v_int) (nomark _)))))
    (b_one (s_ret (v_if (t_tru (PV.w (v_name 7))) v_non (v_tup (a_cons v_str (a_cons (v_name 5) a_nil))))))) b_nil)
    (b_cons (s_if (t_cmp (o_eq hr) (PV.w (v_ix hr (v_name 6) v_int)) (PV.w v_str) (nomark _)) (b_cons (s_set 9 sc__law_tree_fault.nd (v_ix hr (v_name 6) v_int))
    (b_cons (s_if (TW.t (tw_or (t_cmp o_is (PV.w (v_name 4)) (PV.w v_non) (nomark _)) (tw_or1 (t_cmp (o_ne hr) (PV.w (v_callB c_len (by rfl) T.b_len (by decide +kernel) (aw_cons (PV.w (v_name 9)) aw_nil))) (PV.w (v_callB c_len (by rfl) T.b_len (by decide +kernel) (aw_cons (PV.w (v_name 1)) aw_nil))) (nomark _))))) (b_one (s_ret (v_tup (a_cons v_str (a_cons (v_name 5) a_nil))))) b_nil)
    (b_cons (s_for PassesOwn.never rfl (i_range1 (by rfl) T.b_range (aw_cons (PV.w (v_callB c_len (by rfl) T.b_len (by decide +kernel) (aw_cons (PV.w (v_name 0)) aw_nil))) aw_nil)) (g_name 8 sc__law_tree_fault.nd) (b_cons (s_set 10 sc__law_tree_fault.nd (v_callB (c_sum rfl) (by rfl) T.b_sum (by decide +kernel) (aw_cons (PV.w (PL.v (xl_comp [("p", 11)] [11] rfl rfl sc__law_tree_fault.nd (IV.c (i_range1 (by rfl) T.b_range (aw_cons (PV.w (v_callB c_len (by rfl) T.b_len (by decide +kernel) (aw_cons (PV.w (v_name 1)) aw_nil))) aw_nil))) (blkOk_by (N := ["prices", "costs", "taken", "left", "bound", "path", "tree", "good", "k", "shares", "over", "p", "word", "one", "other", "found"]) (sc := defScope s__law_tree_fault) (by decide +kernel)) (fun _ _ _ _ _ => (g_name 11 sc__law_tree_fault.nd)) (by decide) (fun _ _ _ _ _ => (TB.one (t_cmp o_isnot (PV.w (v_ix hr (v_ix hr (v_name 1) (v_name 11)) (v_name 8))) (PV.w v_non) (nomark _)))) (fun _ _ _ _ _ => (v_callBF (c_maxA rfl hr) (by rfl) T.b_max (by decide +kernel) (a_cons v_int (a_cons (v_op o_sub (v_ix hr (v_name 9) (v_name 11)) (v_ix hr (v_ix hr (v_name 1) (v_name 11)) (v_name 8))) a_nil))))))) aw_nil)))
    (b_one (s_if (TW.t (tw_and (t_cmp (o_notin hr) (PV.w (v_name 8)) (PV.w (v_name 3)) (by rfl)) (tw_and1 (t_cmp o_gt (PV.w (v_name 10)) (PV.w (v_if (t_cmp (o_in hr) (PV.w (v_name 8)) (PV.w (v_name 2)) (by rfl)) v_int (v_ix hr (v_name 0) (v_name 8)))) (nomark _))))) (b_one (s_ret (v_tup (a_cons v_str (a_cons (v_name 5) a_nil))))) b_nil))))
    (b_one (s_ret (v_if (t_cmp o_ge (PV.w (v_op o_add (v_callB (c_sum rfl) (by rfl) T.b_sum (by decide +kernel) (aw_cons (PV.w (PL.v (xl_comp [("k", 8)] [8] rfl rfl sc__law_tree_fault.nd (IV.c (i_seq (v_name 2))) (blkOk_by (N := ["prices", "costs", "taken", "left", "bound", "path", "tree", "good", "k", "shares", "over", "p", "word", "one", "other", "found"]) (sc := defScope s__law_tree_fault) (by decide +kernel)) (fun _ _ _ _ _ => (g_name 8 sc__law_tree_fault.nd)) (by decide) (fun _ _ _ _ _ => tbs_nil) (fun _ _ _ _ _ => (v_ix hr (v_name 0) (v_name 8)))))) aw_nil)) (v_callB (c_sum rfl) (by rfl) T.b_sum (by decide +kernel) (aw_cons (PV.w (v_name 9)) aw_nil)))) (PV.w (v_name 4)) (nomark _)) v_non (v_tup (a_cons v_str (a_cons (v_name 5) a_nil))))))))) b_nil)
    (b_cons (s_tg (v_name 6) (g_tup rfl (gs_cons (g_name 12 sc__law_tree_fault.nd) (gs_cons (g_name 8 sc__law_tree_fault.nd) (gs_cons (g_name 13 sc__law_tree_fault.nd) (gs_cons (g_name 14 sc__law_tree_fault.nd) gs_nil))))))
    (b_cons (s_if (TW.t (tw_or (t_not (t_chain o_le o_lt (PV.w v_int) (PV.w (v_name 8)) (PV.w (v_callB c_len (by rfl) T.b_len (by decide +kernel) (aw_cons (PV.w (v_name 0)) aw_nil))))) (tw_or (t_cmp (o_in hr) (PV.w (v_name 8)) (PV.w (v_name 2)) (by rfl)) (tw_or1 (t_cmp (o_in hr) (PV.w (v_name 8)) (PV.w (v_name 3)) (by rfl)))))) (b_one (s_ret (v_tup (a_cons v_str (a_cons (v_name 5) a_nil))))) b_nil)
    (b_cons (s_set 15 sc__law_tree_fault.nd (v_call ih hr (by rfl) T.d__law_tree_fault.g T.d__law_tree_fault.F.kp T.d__law_tree_fault.b (a_cons (v_name 0) (a_cons (v_name 1) (a_cons (v_op o_add (v_name 2) (PL.v (l_disp (a_cons (v_name 8) a_nil)))) (a_cons (v_name 3) (a_cons (v_name 4) (a_cons (v_op o_add (v_name 5) (PL.v (l_disp (a_cons (v_tup (a_cons (v_name 8) (a_cons v_int a_nil))) a_nil)))) (a_cons (v_name 13) a_nil)))))))))
    (b_one (s_ret (v_if (t_cmp o_isnot (PV.w (v_name 15)) (PV.w v_non) (nomark _)) (v_name 15) (v_call ih hr (by rfl) T.d__law_tree_fault.g T.d__law_tree_fault.F.kp T.d__law_tree_fault.b (a_cons (v_name 0) (a_cons (v_name 1) (a_cons (v_name 2) (a_cons (v_op o_add (v_name 3) (PL.v (l_disp (a_cons (v_name 8) a_nil)))) (a_cons (v_name 4) (a_cons (v_op o_add (v_name 5) (PL.v (l_disp (a_cons (v_tup (a_cons (v_name 8) (a_cons v_int a_nil))) a_nil)))) (a_cons (v_name 14) a_nil)))))))))))))))))
    exact h
theorem ok__law_fault (T : TX K mg fa fda fc) : FnOk P w K mg base CX0 13 (fa 18) (fda 18) ["prices", "costs", "told"] (spS K F__law_fault) := by
  have h := fn_ok (P := P) (w := w) (mg := mg) (base := base) (fb := d__law_fault) (k := 12) T.d__law_fault.F sc__law_fault (fun cdv A outer s H E hr =>
    (b_cons (s_if (t_cmp (o_eq hr) (PV.w (v_ix hr (v_name 2) v_int)) (PV.w v_str) (nomark _)) (b_cons (s_set 3 sc__law_fault.nd (v_call (ok__law_tree_fault T 12) (hr.mono (by decide)) (by rfl) T.d__law_tree_fault.g T.d__law_tree_fault.F.kp T.d__law_tree_fault.b (a_cons (v_name 0) (a_cons (v_name 1) (a_cons (PL.v (l_disp a_nil)) (a_cons (PL.v (l_disp a_nil)) (a_cons v_non (a_cons (PL.v (l_disp a_nil)) (a_cons (v_ix hr (v_name 2) v_int) a_nil)))))))))
    (b_one (s_ret (v_if (t_cmp o_is (PV.w (v_name 3)) (PV.w v_non) (nomark _)) v_non (v_tup (a_cons v_str (a_cons (v_name 3) a_nil))))))) b_nil)
    (b_cons (s_tg (v_name 2) (g_tup rfl (gs_cons (g_name 4 sc__law_fault.nd) (gs_cons (g_name 5 sc__law_fault.nd) (gs_cons (g_name 6 sc__law_fault.nd) (gs_cons (g_name 7 sc__law_fault.nd) gs_nil))))))
    (b_cons (s_if (TW.t (tw_or (t_cmp (o_ne hr) (PV.w (v_name 5)) (PV.w (PL.v (l_setSo rfl hr (by rfl) T.b_sorted (by rfl) T.b_set (v_name 5)))) (nomark _)) (tw_or1 (t_cmp o_gt (PV.w (v_callB c_len (by rfl) T.b_len (by decide +kernel) (aw_cons (PV.w (PL.v (xl_comp [("k", 8)] [8] rfl rfl sc__law_fault.nd (IV.c (i_seq (v_name 5))) (blkOk_by (N := ["prices", "costs", "told", "found", "word", "options", "cost", "tree", "k", "p"]) (sc := defScope s__law_fault) (by decide +kernel)) (fun _ _ _ _ _ => (g_name 8 sc__law_fault.nd)) (by decide) (fun _ _ _ _ _ => (TB.one (t_not (t_chain o_le o_lt (PV.w v_int) (PV.w (v_name 8)) (PV.w (v_callB c_len (by rfl) T.b_len (by decide +kernel) (aw_cons (PV.w (v_name 0)) aw_nil))))))) (fun _ _ _ _ _ => (v_name 8))))) aw_nil))) (PV.w v_int) (nomark _))))) (b_one (s_ret (v_tup (a_cons v_str a_nil)))) b_nil)
    (b_cons (s_for PassesOwn.never rfl (i_range1 (by rfl) T.b_range (aw_cons (PV.w (v_callB c_len (by rfl) T.b_len (by decide +kernel) (aw_cons (PV.w (v_name 1)) aw_nil))) aw_nil)) (g_name 9 sc__law_fault.nd) (b_one (s_if (t_cmp (o_eq hr) (PV.w (v_callB c_len (by rfl) T.b_len (by decide +kernel) (aw_cons (PV.w (PL.v (xl_comp [("k", 8)] [8] rfl rfl sc__law_fault.nd (IV.c (i_seq (v_name 5))) (blkOk_by (N := ["prices", "costs", "told", "found", "word", "options", "cost", "tree", "k", "p"]) (sc := defScope s__law_fault) (by decide +kernel)) (fun _ _ _ _ _ => (g_name 8 sc__law_fault.nd)) (by decide) (fun _ _ _ _ _ => (TB.one (t_cmp o_isnot (PV.w (v_ix hr (v_ix hr (v_name 1) (v_name 9)) (v_name 8))) (PV.w v_non) (nomark _)))) (fun _ _ _ _ _ => (v_name 8))))) aw_nil))) (PV.w v_int) (nomark _)) (b_one (s_ret (v_tup (a_cons v_str (a_cons (v_name 9) a_nil))))) b_nil)))
    (b_cons (s_if (t_cmp (o_ne hr) (PV.w (v_call (ok__law_cost T) (hr.mono (by decide)) (by rfl) T.d__law_cost.g T.d__law_cost.F.kp T.d__law_cost.b (a_cons (v_name 0) (a_cons (v_name 1) (a_cons (v_name 5) a_nil))))) (PV.w (v_name 6)) (nomark _)) (b_one (s_ret (v_tup (a_cons v_str a_nil)))) b_nil)
    (b_cons (s_set 3 sc__law_fault.nd (v_call (ok__law_tree_fault T 12) (hr.mono (by decide)) (by rfl) T.d__law_tree_fault.g T.d__law_tree_fault.F.kp T.d__law_tree_fault.b (a_cons (v_name 0) (a_cons (v_name 1) (a_cons (PL.v (l_disp a_nil)) (a_cons (PL.v (l_disp a_nil)) (a_cons (v_name 6) (a_cons (PL.v (l_disp a_nil)) (a_cons (v_name 7) a_nil)))))))))
    (b_one (s_ret (v_if (t_cmp o_is (PV.w (v_name 3)) (PV.w v_non) (nomark _)) v_non (v_tup (a_cons v_str (a_cons (v_name 3) a_nil)))))))))))))
  exact h
theorem ok__law_full (T : TX K mg fa fda fc) : ∀ n : Nat, FnOk P w K mg base CX0 (0 + n) (fa 19) (fda 19) ["prices", "costs", "taken", "left"] (spS K (F__law_full n))
  | 0 => ⟨fun vs H Q E ⟨G, ds, z, _, _, e, _⟩ => (by cases e), fun A outer s H args us vs Q E hr he hb hv ⟨G, ds, z, _, _, e, _⟩ => (by cases e)⟩
  | n + 1 => by
    have ih := ok__law_full T n
    have h := fn_ok (P := P) (w := w) (mg := mg) (base := base) (fb := d__law_full (F__law_full n)) (k := 0 + n) T.d__law_full.F sc__law_full (fun cdv A outer s H E hr =>
    (b_cons (s_for PassesOwn.never rfl (i_range1 (by rfl) T.b_range (aw_cons (PV.w (v_callB c_len (by rfl) T.b_len (by decide +kernel) (aw_cons (PV.w (v_name 1)) aw_nil))) aw_nil)) (g_name 4 sc__law_full.nd) (b_one (s_if (t_cmp (o_eq hr) (PV.w (v_callB c_len (by rfl) T.b_len (by decide +kernel) (aw_cons (PV.w (PL.v (xl_comp [("k", 5)] [5] rfl rfl sc__law_full.nd (IV.c (i_range1 (by rfl) T.b_range (aw_cons (PV.w (v_callB c_len (by rfl) T.b_len (by decide +kernel) (aw_cons (PV.w (v_name 0)) aw_nil))) aw_nil))) (blkOk_by (N := ["prices", "costs", "taken", "left", "p", "k", "free", "row", "one"]) (sc := defScope s__law_full) (by decide +kernel)) (fun _ _ _ _ _ => (g_name 5 sc__law_full.nd)) (by decide) (fun _ _ _ _ _ => (TB.one (TW.t (tw_and (t_cmp o_isnot (PV.w (v_ix hr (v_ix hr (v_name 1) (v_name 4)) (v_name 5))) (PV.w v_non) (nomark _)) (tw_and1 (t_cmp (o_notin hr) (PV.w (v_name 5)) (PV.w (v_name 3)) (by rfl))))))) (fun _ _ _ _ _ => (v_name 5))))) aw_nil))) (PV.w v_int) (nomark _)) (b_one (s_ret (v_tup (a_cons v_str (a_cons (v_name 4) a_nil))))) b_nil)))
    (b_cons (xs_setC 6 [("k", 5)] [5] rfl rfl sc__law_full.nd (IV.c (i_range1 (by rfl) T.b_range (aw_cons (PV.w (v_callB c_len (by rfl) T.b_len (by decide +kernel) (aw_cons (PV.w (v_name 0)) aw_nil))) aw_nil))) (blkOk_by (N := ["prices", "costs", "taken", "left", "p", "k", "free", "row", "one"]) (sc := defScope s__law_full) (by decide +kernel)) (fun _ _ _ _ _ => (g_name 5 sc__law_full.nd)) (by decide) (fun _ _ _ _ _ => (TB.one (TW.t (tw_and (t_cmp (o_notin hr) (PV.w (v_name 5)) (PV.w (v_name 2)) (by rfl)) (tw_and1 (t_cmp (o_notin hr) (PV.w (v_name 5)) (PV.w (v_name 3)) (by rfl))))))) (fun _ _ _ _ _ => (v_name 5)) (sw_true rfl rfl rfl (by decide +kernel)))
    (b_cons (s_if (t_cmp (o_eq hr) (PV.w (v_callB c_len (by rfl) T.b_len (by decide +kernel) (aw_cons (PV.w (v_name 6)) aw_nil))) (PV.w v_int) (nomark _)) (b_one (s_ret (v_tup (a_cons v_str (a_cons (PL.v (xl_comp [("row", 7)] [7] rfl rfl sc__law_full.nd (IV.c (i_seq (v_name 1))) (blkOk_by (N := ["prices", "costs", "taken", "left", "p", "k", "free", "row", "one"]) (sc := defScope s__law_full) (by decide +kernel)) (fun _ _ _ _ _ => (g_name 7 sc__law_full.nd)) (by decide) (fun _ _ _ _ _ => tbs_nil) (fun _ _ _ _ _ => (v_callBF (c_minA rfl hr) (by rfl) T.b_min (by decide +kernel) (a_cons (PL.v (xl_comp [("k", 5)] [5] rfl rfl sc__law_full.nd (IV.c (i_seq (v_name 2))) (blkN (blkOk_by (N := ["prices", "costs", "taken", "left", "p", "k", "free", "row", "one"]) (by decide +kernel))) (fun _ _ _ _ _ => (g_name 5 sc__law_full.nd)) (by decide) (fun _ _ _ _ _ => (TB.one (t_cmp o_isnot (PV.w (v_ix hr (v_name 7) (v_name 5))) (PV.w v_non) (nomark _)))) (fun _ _ _ _ _ => (v_ix hr (v_name 7) (v_name 5))))) a_nil))))) a_nil))))) b_nil)
    (b_cons (s_set 8 sc__law_full.nd (v_call ih hr (by rfl) T.d__law_full.g T.d__law_full.F.kp T.d__law_full.b (a_cons (v_name 0) (a_cons (v_name 1) (a_cons (v_op o_add (v_name 2) (PL.v (l_disp (a_cons (v_ix hr (v_name 6) v_int) a_nil)))) (a_cons (v_name 3) a_nil))))))
    (b_one (s_ret (v_tup (a_cons v_str (a_cons (v_ix hr (v_name 6) v_int) (a_cons (v_name 8) (a_cons (v_call ih hr (by rfl) T.d__law_full.g T.d__law_full.F.kp T.d__law_full.b (a_cons (v_name 0) (a_cons (v_name 1) (a_cons (v_name 2) (a_cons (v_op o_add (v_name 3) (PL.v (l_disp (a_cons (v_ix hr (v_name 6) v_int) a_nil)))) a_nil))))) a_nil))))))))))))
    exact h
theorem ok_law (T : TX K mg fa fda fc) (ht : LawTrue 19 d_law) : RunG P w K mg base (fa 20) (fda 20) ["script"] (spLaw K) := by
  have h := law_okG (P := P) (w := w) (mg := mg) (base := base) (fb := d_law) (k := 14) T.d_law.F sc_law rfl rfl ⟨rfl, by decide, by decide⟩ (fun cdv s H E hr =>
    (b_cons (s_tgM (m_inout 1 (ok__law_shop T) (hr.mono (by decide)) (by rfl) T.d__law_shop.g T.d__law_shop.F.kp T.d__law_shop.b (ma_cons (PV.m v_int) ma_nil)) (g_tup rfl (gs_cons (g_name 2 sc_law.nd) (gs_cons (g_name 3 sc_law.nd) gs_nil))))
    (b_cons (s_set 4 sc_law.nd (v_callB (c_repr hr rfl) (by rfl) T.b_repr (by decide +kernel) (aw_cons (PV.w (v_tup (a_cons (v_name 2) (a_cons (v_name 3) a_nil)))) aw_nil)))
    (b_cons (s_set 5 sc_law.nd (PL.v (l_disp (a_cons (PL.v (l_disp a_nil)) a_nil))))
    (b_cons (s_for PassesOwn.never rfl (i_range1 (by rfl) T.b_range (aw_cons (PV.w (v_callB c_len (by rfl) T.b_len (by decide +kernel) (aw_cons (PV.w (v_name 2)) aw_nil))) aw_nil)) (g_name 6 sc_law.nd) (b_one (s_set 5 sc_law.nd (v_op o_add (v_name 5) (PL.v (xl_comp [("row", 7)] [7] rfl rfl sc_law.nd (IV.c (i_seq (v_name 5))) (blkOk_by (N := ["script", "state", "prices", "costs", "kept", "sets", "k", "row", "good", "told", "tree", "best", "plates", "parts", "due", "wide", "high", "a", "b"]) (sc := defScope s_law) (by decide +kernel)) (fun _ _ _ _ _ => (g_name 7 sc_law.nd)) (by decide) (fun _ _ _ _ _ => tbs_nil) (fun _ _ _ _ _ => (v_op o_add (v_name 7) (PL.v (l_disp (a_cons (v_name 6) a_nil)))))))))))
    (b_cons (xs_setC 8 [("row", 7)] [7] rfl rfl sc_law.nd (IV.c (i_seq (v_name 5))) (blkOk_by (N := ["script", "state", "prices", "costs", "kept", "sets", "k", "row", "good", "told", "tree", "best", "plates", "parts", "due", "wide", "high", "a", "b"]) (sc := defScope s_law) (by decide +kernel)) (fun _ _ _ _ _ => (g_name 7 sc_law.nd)) (by decide) (fun _ _ _ _ _ => (TB.one (t_cmp o_isnot (PV.w (v_call (ok__law_cost T) (hr.mono (by decide)) (by rfl) T.d__law_cost.g T.d__law_cost.F.kp T.d__law_cost.b (a_cons (v_name 2) (a_cons (v_name 3) (a_cons (v_name 7) a_nil))))) (PV.w v_non) (nomark _)))) (fun _ _ _ _ _ => (v_name 7)) (sw_true rfl rfl rfl (by decide +kernel)))
    (b_cons (s_set 9 sc_law.nd (v_call (ok_sizes T) (hr.mono (by decide)) (by rfl) T.d_sizes.g T.d_sizes.F.kp T.d_sizes.b (a_cons (v_name 2) (a_cons (v_name 3) a_nil))))
    (b_cons (s_if (TW.t (tw_or (t_not (t_tru (PV.w (v_isi (by rfl) T.b_isinstance (by rfl) T.b_tuple (PV.w (v_name 9)))))) (tw_or (t_cmp (o_ne hr) (PV.w (v_ix hr (v_name 9) v_int)) (PV.w (v_if (t_cmp o_gt (PV.w (v_callB c_len (by rfl) T.b_len (by decide +kernel) (aw_cons (PV.w (v_name 8)) aw_nil))) (PV.w v_int) (nomark _)) v_str v_str)) (nomark _)) (tw_or1 (t_cmp (o_ne hr) (PV.w (v_callB (c_repr hr rfl) (by rfl) T.b_repr (by decide +kernel) (aw_cons (PV.w (v_tup (a_cons (v_name 2) (a_cons (v_name 3) a_nil)))) aw_nil))) (PV.w (v_name 4)) (nomark _)))))) (b_one (s_ret v_bl)) b_nil)
    (b_cons (s_if (TW.t (tw_or (t_cmp o_isnot (PV.w (v_call (ok__law_fault T) (hr.mono (by decide)) (by rfl) T.d__law_fault.g T.d__law_fault.F.kp T.d__law_fault.b (a_cons (v_name 2) (a_cons (v_name 3) (a_cons (v_name 9) a_nil))))) (PV.w v_non) (nomark _)) (tw_or1 (t_cmp o_isnot (PV.w (v_call (ok_sizes_fault T) (hr.mono (by decide)) (by rfl) T.d_sizes_fault.g T.d_sizes_fault.F.kp T.d_sizes_fault.b (a_cons (v_name 2) (a_cons (v_name 3) (a_cons (v_name 9) a_nil))))) (PV.w v_non) (nomark _))))) (b_one (s_ret v_bl)) b_nil)
    (b_cons (s_set 10 sc_law.nd (v_call (ok__law_full T 12) (hr.mono (by decide)) (by rfl) T.d__law_full.g T.d__law_full.F.kp T.d__law_full.b (a_cons (v_name 2) (a_cons (v_name 3) (a_cons (PL.v (l_disp a_nil)) (a_cons (PL.v (l_disp a_nil)) a_nil))))))
    (b_cons (s_if (t_cmp (o_eq hr) (PV.w (v_callB c_len (by rfl) T.b_len (by decide +kernel) (aw_cons (PV.w (v_name 8)) aw_nil))) (PV.w v_int) (nomark _)) (b_one (s_ret (v_cmp o_is (PV.w (v_call (ok_sizes_fault T) (hr.mono (by decide)) (by rfl) T.d_sizes_fault.g T.d_sizes_fault.F.kp T.d_sizes_fault.b (a_cons (v_name 2) (a_cons (v_name 3) (a_cons (v_tup (a_cons v_str (a_cons (v_name 10) a_nil))) a_nil))))) (PV.w v_non) (nomark _)))) b_nil)
    (b_cons (s_set 11 sc_law.nd (v_callBF (c_minA rfl hr) (by rfl) T.b_min (by decide +kernel) (a_cons (PL.v (xl_comp [("row", 7)] [7] rfl rfl sc_law.nd (IV.c (i_seq (v_name 8))) (blkOk_by (N := ["script", "state", "prices", "costs", "kept", "sets", "k", "row", "good", "told", "tree", "best", "plates", "parts", "due", "wide", "high", "a", "b"]) (sc := defScope s_law) (by decide +kernel)) (fun _ _ _ _ _ => (g_name 7 sc_law.nd)) (by decide) (fun _ _ _ _ _ => tbs_nil) (fun _ _ _ _ _ => (v_call (ok__law_cost T) (hr.mono (by decide)) (by rfl) T.d__law_cost.g T.d__law_cost.F.kp T.d__law_cost.b (a_cons (v_name 2) (a_cons (v_name 3) (a_cons (v_name 7) a_nil))))))) a_nil)))
    (b_cons (s_if (TW.t (tw_or (t_cmp (o_ne hr) (PV.w (v_ix hr (v_name 9) v_int)) (PV.w (v_name 11)) (nomark _)) (tw_or1 (t_cmp o_isnot (PV.w (v_call (ok_sizes_fault T) (hr.mono (by decide)) (by rfl) T.d_sizes_fault.g T.d_sizes_fault.F.kp T.d_sizes_fault.b (a_cons (v_name 2) (a_cons (v_name 3) (a_cons (v_op o_add (v_sliceU (v_name 9) s_none (s_some (PV.w v_int))) (v_tup (a_cons (v_name 10) a_nil))) a_nil))))) (PV.w v_non) (nomark _))))) (b_one (s_ret v_bl)) b_nil)
    (b_cons (s_for PassesOwn.never rfl (i_seq (v_name 8)) (g_name 7 sc_law.nd) (b_one (s_if (TW.t (tw_and (t_cmp (o_eq hr) (PV.w (v_call (ok__law_cost T) (hr.mono (by decide)) (by rfl) T.d__law_cost.g T.d__law_cost.F.kp T.d__law_cost.b (a_cons (v_name 2) (a_cons (v_name 3) (a_cons (v_name 7) a_nil))))) (PV.w (v_name 11)) (nomark _)) (tw_and1 (t_cmp o_isnot (PV.w (v_call (ok_sizes_fault T) (hr.mono (by decide)) (by rfl) T.d_sizes_fault.g T.d_sizes_fault.F.kp T.d_sizes_fault.b (a_cons (v_name 2) (a_cons (v_name 3) (a_cons (v_tup (a_cons v_str (a_cons (v_name 7) (a_cons (v_name 11) (a_cons (v_ix hr (v_name 9) v_int) a_nil))))) a_nil))))) (PV.w v_non) (nomark _))))) (b_one (s_ret v_bl)) b_nil)))
    (b_cons (xs_setCM 12 [("k", 6)] [6] rfl rfl sc_law.nd (mi_range1 (by rfl) T.b_range (ma_cons (m_inout 1 (ok__law_take T) (hr.mono (by decide)) (by rfl) T.d__law_take.g T.d__law_take.F.kp T.d__law_take.b (ma_cons (PV.m v_int) ma_nil)) ma_nil)) (blkOk_by (N := ["script", "state", "prices", "costs", "kept", "sets", "k", "row", "good", "told", "tree", "best", "plates", "parts", "due", "wide", "high", "a", "b"]) (sc := defScope s_law) (by decide +kernel)) (fun _ _ _ _ _ => (g_name 6 sc_law.nd)) (by decide) (fun _ _ _ _ _ => mts_nil) (fun _ _ _ _ _ => (m_tup (ma_cons (m_op o_add (PV.m v_int) (m_inout 1 (ok__law_take T) (hr.mono (by decide)) (by rfl) T.d__law_take.g T.d__law_take.F.kp T.d__law_take.b (ma_cons (PV.m v_int) ma_nil))) (ma_cons (m_op o_add (PV.m v_int) (m_inout 1 (ok__law_take T) (hr.mono (by decide)) (by rfl) T.d__law_take.g T.d__law_take.F.kp T.d__law_take.b (ma_cons (PV.m v_int) ma_nil))) ma_nil)))) (sw_true rfl rfl rfl (by decide +kernel)))
    (b_cons (xs_setCM 13 [("k", 6)] [6] rfl rfl sc_law.nd (mi_range1 (by rfl) T.b_range (ma_cons (m_inout 1 (ok__law_take T) (hr.mono (by decide)) (by rfl) T.d__law_take.g T.d__law_take.F.kp T.d__law_take.b (ma_cons (PV.m v_int) ma_nil)) ma_nil)) (blkOk_by (N := ["script", "state", "prices", "costs", "kept", "sets", "k", "row", "good", "told", "tree", "best", "plates", "parts", "due", "wide", "high", "a", "b"]) (sc := defScope s_law) (by decide +kernel)) (fun _ _ _ _ _ => (g_name 6 sc_law.nd)) (by decide) (fun _ _ _ _ _ => mts_nil) (fun _ _ _ _ _ => (m_tup (ma_cons (m_op o_add (PV.m v_int) (m_inout 1 (ok__law_take T) (hr.mono (by decide)) (by rfl) T.d__law_take.g T.d__law_take.F.kp T.d__law_take.b (ma_cons (PV.m v_int) ma_nil))) (ma_cons (m_op o_add (PV.m v_int) (m_inout 1 (ok__law_take T) (hr.mono (by decide)) (by rfl) T.d__law_take.g T.d__law_take.F.kp T.d__law_take.b (ma_cons (PV.m v_int) ma_nil))) ma_nil)))) (sw_true rfl rfl rfl (by decide +kernel)))
    (b_cons (s_setO 14 sc_law.nd (PL.o (l_disp a_nil)))
    (b_cons (s_for PassesOwn.never rfl (i_seq (v_name 13)) (g_tup rfl (gs_cons (g_name 15 sc_law.nd) (gs_cons (g_name 16 sc_law.nd) gs_nil))) (b_one (s_app 14 (PV.o (PL.v (xl_comp [("a", 17), ("b", 18)] [17, 18] rfl rfl sc_law.nd (IV.c (i_seq (v_name 12))) (blkOk_by (N := ["script", "state", "prices", "costs", "kept", "sets", "k", "row", "good", "told", "tree", "best", "plates", "parts", "due", "wide", "high", "a", "b"]) (sc := defScope s_law) (by decide +kernel)) (fun _ _ _ _ _ => (g_tup rfl (gs_cons (g_name 17 sc_law.nd) (gs_cons (g_name 18 sc_law.nd) gs_nil)))) (by decide) (fun _ _ _ _ _ => tbs_nil) (fun _ _ _ _ _ => (v_if (TW.t (tw_and (t_cmp o_ge (PV.w (v_callBF (c_minA rfl hr) (by rfl) T.b_min (by decide +kernel) (a_cons (v_name 17) (a_cons (v_name 18) a_nil)))) (PV.w (v_callBF (c_minA rfl hr) (by rfl) T.b_min (by decide +kernel) (a_cons (v_name 15) (a_cons (v_name 16) a_nil)))) (nomark _)) (tw_and1 (t_cmp o_ge (PV.w (v_callBF (c_maxA rfl hr) (by rfl) T.b_max (by decide +kernel) (a_cons (v_name 17) (a_cons (v_name 18) a_nil)))) (PV.w (v_callBF (c_maxA rfl hr) (by rfl) T.b_max (by decide +kernel) (a_cons (v_name 15) (a_cons (v_name 16) a_nil)))) (nomark _))))) (v_op o_sub (v_op o_mul (v_name 17) (v_name 18)) (v_op o_mul (v_name 15) (v_name 16))) v_non))))))))
    (b_one (s_ret (v_and (v_cmp (o_eq hr) (PV.w (v_call (ok_waste_costs T) (hr.mono (by decide)) (by rfl) T.d_waste_costs.g T.d_waste_costs.F.kp T.d_waste_costs.b (a_cons (v_name 13) (a_cons (v_name 12) a_nil)))) (w_name 14) (nomark _)) (v_one (v_cmp (o_eq hr) (PV.w (v_callB (c_repr hr rfl) (by rfl) T.b_repr (by decide +kernel) (aw_cons (PV.w (v_tup (a_cons (v_name 2) (a_cons (v_name 3) a_nil)))) aw_nil))) (PV.w (v_name 4)) (nomark _))))))))))))))))))))))))
    (fun cdv s H E hr => ps_set (i := 1) sc_law.nd rfl (by first | exact Or.inl rfl | exact Or.inr rfl) (pe_call (ok__law_state T) (hr.mono (by decide)) (by rfl) T.d__law_state.g T.d__law_state.F.kp T.d__law_state.b .nil pass0 (pa_cons (pv 0) pa_nil))) ht
  exact h
end
theorem all_mk {l : PySem.W.OpenLaw} {w : World} {K : PySem.W.Frag} {h : Heap} {mg : Str → Option Value} {fl : Addr} (X : K.In h) (G : h.Ns mainGlobals mg) (hfl : mg "law" = some (.ref fl))
    {C0 : Addr}
    {f0 : Addr} {od0 an0 : Option Addr} {sl0 : Array (Option Value)} {oc0 kV0 dc0 pm0 cd0 ct0 : Value}
    {f1 : Addr} {od1 an1 : Option Addr} {sl1 : Array (Option Value)} {oc1 kV1 dc1 pm1 cd1 ct1 : Value}
    {f2 : Addr} {od2 an2 : Option Addr} {sl2 : Array (Option Value)} {oc2 kV2 dc2 pm2 cd2 ct2 : Value}
    {f3 : Addr} {od3 an3 : Option Addr} {sl3 : Array (Option Value)} {oc3 kV3 dc3 pm3 cd3 ct3 : Value}
    {f4 : Addr} {od4 an4 : Option Addr} {sl4 : Array (Option Value)} {oc4 kV4 dc4 pm4 cd4 ct4 : Value}
    {f5 : Addr} {od5 an5 : Option Addr} {sl5 : Array (Option Value)} {oc5 kV5 dc5 pm5 cd5 ct5 : Value}
    {f6 : Addr} {od6 an6 : Option Addr} {sl6 : Array (Option Value)} {oc6 kV6 dc6 pm6 cd6 ct6 : Value}
    {f7 : Addr} {od7 an7 : Option Addr} {sl7 : Array (Option Value)} {oc7 kV7 dc7 pm7 cd7 ct7 : Value}
    {f8 : Addr} {od8 an8 : Option Addr} {sl8 : Array (Option Value)} {oc8 kV8 dc8 pm8 cd8 ct8 : Value}
    {f9 : Addr} {od9 an9 : Option Addr} {sl9 : Array (Option Value)} {oc9 kV9 dc9 pm9 cd9 ct9 : Value}
    {f10 : Addr} {od10 an10 : Option Addr} {sl10 : Array (Option Value)} {oc10 kV10 dc10 pm10 cd10 ct10 : Value}
    {f11 : Addr} {od11 an11 : Option Addr} {sl11 : Array (Option Value)} {oc11 kV11 dc11 pm11 cd11 ct11 : Value}
    {f12 : Addr} {od12 an12 : Option Addr} {sl12 : Array (Option Value)} {oc12 kV12 dc12 pm12 cd12 ct12 : Value}
    {f13 : Addr} {od13 an13 : Option Addr} {sl13 : Array (Option Value)} {oc13 kV13 dc13 pm13 cd13 ct13 : Value}
    {f14 : Addr} {od14 an14 : Option Addr} {sl14 : Array (Option Value)} {oc14 kV14 dc14 pm14 cd14 ct14 : Value}
    {f15 : Addr} {od15 an15 : Option Addr} {sl15 : Array (Option Value)} {oc15 kV15 dc15 pm15 cd15 ct15 : Value}
    {f16 : Addr} {od16 an16 : Option Addr} {sl16 : Array (Option Value)} {oc16 kV16 dc16 pm16 cd16 ct16 : Value}
    {f17 : Addr} {od17 an17 : Option Addr} {sl17 : Array (Option Value)} {oc17 kV17 dc17 pm17 cd17 ct17 : Value}
    {f18 : Addr} {od18 an18 : Option Addr} {sl18 : Array (Option Value)} {oc18 kV18 dc18 pm18 cd18 ct18 : Value}
    {f19 : Addr} {od19 an19 : Option Addr} {sl19 : Array (Option Value)} {oc19 kV19 dc19 pm19 cd19 ct19 : Value}
    {f20 : Addr} {od20 an20 : Option Addr} {sl20 : Array (Option Value)} {oc20 kV20 dc20 pm20 cd20 ct20 : Value}
    (aC0 : PySem.W.nsIn K mainGlobals "Choice" = some (some (.ref C0))) (pg0 : PySem.W.plainGet K C0 Str.empty = true) (hd0 : PySem.W.hasDictIn K C0 = true) (po0 : PySem.W.plainOver K C0 = true) (sa0 : PySem.W.findIn K (.ref C0) "__setattr__" = some (some (.builtin "object.__setattr__"))) (mk0 : PySem.W.makesIn K C0 = true) (kc0 : PySem.W.keepIn K (.ref C0) = true)
    (nA0_0 : PySem.W.findIn K (.ref C0) "prices" = some none)
    (nA0_1 : PySem.W.findIn K (.ref C0) "costs" = some none)
    (nA0_2 : PySem.W.findIn K (.ref C0) "best" = some none)
    (nA0_3 : PySem.W.findIn K (.ref C0) "cost" = some none)
    (a0 : PySem.W.nsIn K mainGlobals "served" = some (some (.ref f0)))
    (l0 : K.lookup f0 = some ⟨oc0, od0, .func (PySem.W.fnOf "served" "served" (defArgs s_served) (defBody s_served) (defScope s_served) .none kV0 dc0 pm0 an0 cd0 ct0), sl0⟩) (c0 : PySem.W.codeIn K cd0 "served" = true) (k0 : PySem.W.keepIn K (.ref f0) = true)
    (a1 : PySem.W.nsIn K mainGlobals "price_of" = some (some (.ref f1)))
    (l1 : K.lookup f1 = some ⟨oc1, od1, .func (PySem.W.fnOf "price_of" "price_of" (defArgs s_price_of) (defBody s_price_of) (defScope s_price_of) .none kV1 dc1 pm1 an1 cd1 ct1), sl1⟩) (c1 : PySem.W.codeIn K cd1 "price_of" = true) (k1 : PySem.W.keepIn K (.ref f1) = true)
    (a2 : PySem.W.nsIn K mainGlobals "raised" = some (some (.ref f2)))
    (l2 : K.lookup f2 = some ⟨oc2, od2, .func (PySem.W.fnOf "raised" "raised" (defArgs s_raised) (defBody s_raised) (defScope s_raised) .none kV2 dc2 pm2 an2 cd2 ct2), sl2⟩) (c2 : PySem.W.codeIn K cd2 "raised" = true) (k2 : PySem.W.keepIn K (.ref f2) = true)
    (a3 : PySem.W.nsIn K mainGlobals "shown" = some (some (.ref f3)))
    (l3 : K.lookup f3 = some ⟨oc3, od3, .func (PySem.W.fnOf "shown" "shown" (defArgs s_shown) (defBody s_shown) (defScope s_shown) .none kV3 dc3 pm3 an3 cd3 ct3), sl3⟩) (c3 : PySem.W.codeIn K cd3 "shown" = true) (k3 : PySem.W.keepIn K (.ref f3) = true)
    (a4 : PySem.W.findIn K (.ref C0) "dead" = some (some (.ref f4))) (i4 : PySem.W.isFn K (.ref f4) = true)
    (l4 : K.lookup f4 = some ⟨oc4, od4, .func (PySem.W.fnOf "dead" "Choice.dead" (defArgs s_Choice_dead) (defBody s_Choice_dead) (defScope s_Choice_dead) .none kV4 dc4 pm4 an4 cd4 ct4), sl4⟩) (c4 : PySem.W.codeIn K cd4 "Choice.dead" = true) (k4 : PySem.W.keepIn K (.ref f4) = true)
    (a5 : PySem.W.findIn K (.ref C0) "go" = some (some (.ref f5))) (i5 : PySem.W.isFn K (.ref f5) = true)
    (l5 : K.lookup f5 = some ⟨oc5, od5, .func (PySem.W.fnOf "go" "Choice.go" (defArgs s_Choice_go) (defBody s_Choice_go) (defScope s_Choice_go) .none kV5 dc5 pm5 an5 cd5 ct5), sl5⟩) (c5 : PySem.W.codeIn K cd5 "Choice.go" = true) (k5 : PySem.W.keepIn K (.ref f5) = true)
    (a6 : PySem.W.findIn K (.ref C0) "prove" = some (some (.ref f6))) (i6 : PySem.W.isFn K (.ref f6) = true)
    (l6 : K.lookup f6 = some ⟨oc6, od6, .func (PySem.W.fnOf "prove" "Choice.prove" (defArgs s_Choice_prove) (defBody s_Choice_prove) (defScope s_Choice_prove) .none kV6 dc6 pm6 an6 cd6 ct6), sl6⟩) (c6 : PySem.W.codeIn K cd6 "Choice.prove" = true) (k6 : PySem.W.keepIn K (.ref f6) = true)
    (a7 : PySem.W.findIn K (.ref C0) "__init__" = some (some (.ref f7))) (i7 : PySem.W.isFn K (.ref f7) = true)
    (l7 : K.lookup f7 = some ⟨oc7, od7, .func (PySem.W.fnOf "__init__" "Choice.__init__" (defArgs s_Choice_init) (defBody s_Choice_init) (defScope s_Choice_init) .none kV7 dc7 pm7 an7 cd7 ct7), sl7⟩) (c7 : PySem.W.codeIn K cd7 "Choice.__init__" = true) (k7 : PySem.W.keepIn K (.ref f7) = true)
    (a8 : PySem.W.nsIn K mainGlobals "sizes" = some (some (.ref f8)))
    (l8 : K.lookup f8 = some ⟨oc8, od8, .func (PySem.W.fnOf "sizes" "sizes" (defArgs s_sizes) (defBody s_sizes) (defScope s_sizes) .none kV8 dc8 pm8 an8 cd8 ct8), sl8⟩) (c8 : PySem.W.codeIn K cd8 "sizes" = true) (k8 : PySem.W.keepIn K (.ref f8) = true)
    (a9 : PySem.W.nsIn K mainGlobals "shares_right" = some (some (.ref f9)))
    (l9 : K.lookup f9 = some ⟨oc9, od9, .func (PySem.W.fnOf "shares_right" "shares_right" (defArgs s_shares_right) (defBody s_shares_right) (defScope s_shares_right) .none kV9 dc9 pm9 an9 cd9 ct9), sl9⟩) (c9 : PySem.W.codeIn K cd9 "shares_right" = true) (k9 : PySem.W.keepIn K (.ref f9) = true)
    (a10 : PySem.W.nsIn K mainGlobals "tree_fault" = some (some (.ref f10)))
    (l10 : K.lookup f10 = some ⟨oc10, od10, .func (PySem.W.fnOf "tree_fault" "tree_fault" (defArgs s_tree_fault) (defBody s_tree_fault) (defScope s_tree_fault) .none kV10 dc10 pm10 an10 cd10 ct10), sl10⟩) (c10 : PySem.W.codeIn K cd10 "tree_fault" = true) (k10 : PySem.W.keepIn K (.ref f10) = true)
    (a11 : PySem.W.nsIn K mainGlobals "sizes_fault" = some (some (.ref f11)))
    (l11 : K.lookup f11 = some ⟨oc11, od11, .func (PySem.W.fnOf "sizes_fault" "sizes_fault" (defArgs s_sizes_fault) (defBody s_sizes_fault) (defScope s_sizes_fault) .none kV11 dc11 pm11 an11 cd11 ct11), sl11⟩) (c11 : PySem.W.codeIn K cd11 "sizes_fault" = true) (k11 : PySem.W.keepIn K (.ref f11) = true)
    (a12 : PySem.W.nsIn K mainGlobals "waste_costs" = some (some (.ref f12)))
    (l12 : K.lookup f12 = some ⟨oc12, od12, .func (PySem.W.fnOf "waste_costs" "waste_costs" (defArgs s_waste_costs) (defBody s_waste_costs) (defScope s_waste_costs) .none kV12 dc12 pm12 an12 cd12 ct12), sl12⟩) (c12 : PySem.W.codeIn K cd12 "waste_costs" = true) (k12 : PySem.W.keepIn K (.ref f12) = true)
    (a13 : PySem.W.nsIn K mainGlobals "_law_state" = some (some (.ref f13)))
    (l13 : K.lookup f13 = some ⟨oc13, od13, .func (PySem.W.fnOf "_law_state" "_law_state" (defArgs s__law_state) (defBody s__law_state) (defScope s__law_state) .none kV13 dc13 pm13 an13 cd13 ct13), sl13⟩) (c13 : PySem.W.codeIn K cd13 "_law_state" = true) (k13 : PySem.W.keepIn K (.ref f13) = true)
    (a14 : PySem.W.nsIn K mainGlobals "_law_take" = some (some (.ref f14)))
    (l14 : K.lookup f14 = some ⟨oc14, od14, .func (PySem.W.fnOf "_law_take" "_law_take" (defArgs s__law_take) (defBody s__law_take) (defScope s__law_take) .none kV14 dc14 pm14 an14 cd14 ct14), sl14⟩) (c14 : PySem.W.codeIn K cd14 "_law_take" = true) (k14 : PySem.W.keepIn K (.ref f14) = true)
    (a15 : PySem.W.nsIn K mainGlobals "_law_shop" = some (some (.ref f15)))
    (l15 : K.lookup f15 = some ⟨oc15, od15, .func (PySem.W.fnOf "_law_shop" "_law_shop" (defArgs s__law_shop) (defBody s__law_shop) (defScope s__law_shop) .none kV15 dc15 pm15 an15 cd15 ct15), sl15⟩) (c15 : PySem.W.codeIn K cd15 "_law_shop" = true) (k15 : PySem.W.keepIn K (.ref f15) = true)
    (a16 : PySem.W.nsIn K mainGlobals "_law_cost" = some (some (.ref f16)))
    (l16 : K.lookup f16 = some ⟨oc16, od16, .func (PySem.W.fnOf "_law_cost" "_law_cost" (defArgs s__law_cost) (defBody s__law_cost) (defScope s__law_cost) .none kV16 dc16 pm16 an16 cd16 ct16), sl16⟩) (c16 : PySem.W.codeIn K cd16 "_law_cost" = true) (k16 : PySem.W.keepIn K (.ref f16) = true)
    (a17 : PySem.W.nsIn K mainGlobals "_law_tree_fault" = some (some (.ref f17)))
    (l17 : K.lookup f17 = some ⟨oc17, od17, .func (PySem.W.fnOf "_law_tree_fault" "_law_tree_fault" (defArgs s__law_tree_fault) (defBody s__law_tree_fault) (defScope s__law_tree_fault) .none kV17 dc17 pm17 an17 cd17 ct17), sl17⟩) (c17 : PySem.W.codeIn K cd17 "_law_tree_fault" = true) (k17 : PySem.W.keepIn K (.ref f17) = true)
    (a18 : PySem.W.nsIn K mainGlobals "_law_fault" = some (some (.ref f18)))
    (l18 : K.lookup f18 = some ⟨oc18, od18, .func (PySem.W.fnOf "_law_fault" "_law_fault" (defArgs s__law_fault) (defBody s__law_fault) (defScope s__law_fault) .none kV18 dc18 pm18 an18 cd18 ct18), sl18⟩) (c18 : PySem.W.codeIn K cd18 "_law_fault" = true) (k18 : PySem.W.keepIn K (.ref f18) = true)
    (a19 : PySem.W.nsIn K mainGlobals "_law_full" = some (some (.ref f19)))
    (l19 : K.lookup f19 = some ⟨oc19, od19, .func (PySem.W.fnOf "_law_full" "_law_full" (defArgs s__law_full) (defBody s__law_full) (defScope s__law_full) .none kV19 dc19 pm19 an19 cd19 ct19), sl19⟩) (c19 : PySem.W.codeIn K cd19 "_law_full" = true) (k19 : PySem.W.keepIn K (.ref f19) = true)
    (a20 : PySem.W.nsIn K mainGlobals "law" = some (some (.ref f20)))
    (l20 : K.lookup f20 = some ⟨oc20, od20, .func (PySem.W.fnOf "law" "law" (defArgs s_law) (defBody s_law) (defScope s_law) .none kV20 dc20 pm20 an20 cd20 ct20), sl20⟩) (c20 : PySem.W.codeIn K cd20 "law" = true) (k20 : PySem.W.keepIn K (.ref f20) = true)
    (z_min : PySem.W.nsIn K mainGlobals "min" = some none)
    (z_sum : PySem.W.nsIn K mainGlobals "sum" = some none)
    (z_len : PySem.W.nsIn K mainGlobals "len" = some none)
    (z_range : PySem.W.nsIn K mainGlobals "range" = some none)
    (z_list : PySem.W.nsIn K mainGlobals "list" = some none)
    (z_enumerate : PySem.W.nsIn K mainGlobals "enumerate" = some none)
    (z_all : PySem.W.nsIn K mainGlobals "all" = some none)
    (z_sorted : PySem.W.nsIn K mainGlobals "sorted" = some none)
    (z_max : PySem.W.nsIn K mainGlobals "max" = some none)
    (z_set : PySem.W.nsIn K mainGlobals "set" = some none)
    (z_repr : PySem.W.nsIn K mainGlobals "repr" = some none)
    (z_isinstance : PySem.W.nsIn K mainGlobals "isinstance" = some none)
    (z_tuple : PySem.W.nsIn K mainGlobals "tuple" = some none)
    (z_abs : PySem.W.nsIn K mainGlobals "abs" = some none)
    (z_int : PySem.W.nsIn K mainGlobals "int" = some none)
    (ht : LawTrue 19 d_law) :
    ∃ fd : FuncData, (∀ (s : Shared) (v : Value), BindsTo s fd ⟨[v], []⟩ [("script", v)]) ∧ ∀ base : Heap, K.In base → base.Ns mainGlobals mg → RunG l.prog w K mg base fl fd ["script"] (spLaw K) := by
  have e := hfl.symm.trans (PySem.W.mg_of X G a20)
  cases e
  have F0 := fun_mk (st := s_served) l0 c0 k0
  have b0 := F0.binds (ps := ["costs", "options", "part"]) fun _ _ _ _ _ _ us hl => match us, hl with | [_, _, _], _ => rfl
  have F1 := fun_mk (st := s_price_of) l1 c1 k1
  have b1 := F1.binds (ps := ["prices", "costs", "options"]) fun _ _ _ _ _ _ us hl => match us, hl with | [_, _, _], _ => rfl
  have F2 := fun_mk (st := s_raised) l2 c2 k2
  have b2 := F2.binds (ps := ["prices", "costs", "taken", "left"]) fun _ _ _ _ _ _ us hl => match us, hl with | [_, _, _, _], _ => rfl
  have F3 := fun_mk (st := s_shown) l3 c3 k3
  have b3 := F3.binds (ps := ["prices", "costs", "taken", "shares"]) fun _ _ _ _ _ _ us hl => match us, hl with | [_, _, _, _], _ => rfl
  have F4 := fun_mk (st := s_Choice_dead) l4 c4 k4
  have b4 := F4.binds (ps := ["self", "left"]) fun _ _ _ _ _ _ us hl => match us, hl with | [_, _], _ => rfl
  have F5 := fun_mk (st := s_Choice_go) l5 c5 k5
  have b5 := F5.binds (ps := ["self", "taken", "left"]) fun _ _ _ _ _ _ us hl => match us, hl with | [_, _, _], _ => rfl
  have F6 := fun_mk (st := s_Choice_prove) l6 c6 k6
  have b6 := F6.binds (ps := ["self", "taken", "left"]) fun _ _ _ _ _ _ us hl => match us, hl with | [_, _, _], _ => rfl
  have F7 := fun_mk (st := s_Choice_init) l7 c7 k7
  have b7 := F7.binds (ps := ["self", "prices", "costs"]) fun _ _ _ _ _ _ us hl => match us, hl with | [_, _, _], _ => rfl
  have F8 := fun_mk (st := s_sizes) l8 c8 k8
  have b8 := F8.binds (ps := ["prices", "costs"]) fun _ _ _ _ _ _ us hl => match us, hl with | [_, _], _ => rfl
  have F9 := fun_mk (st := s_shares_right) l9 c9 k9
  have b9 := F9.binds (ps := ["prices", "costs", "taken", "left", "bound", "shares"]) fun _ _ _ _ _ _ us hl => match us, hl with | [_, _, _, _, _, _], _ => rfl
  have F10 := fun_mk (st := s_tree_fault) l10 c10 k10
  have b10 := F10.binds (ps := ["prices", "costs", "taken", "left", "bound", "path", "tree"]) fun _ _ _ _ _ _ us hl => match us, hl with | [_, _, _, _, _, _, _], _ => rfl
  have F11 := fun_mk (st := s_sizes_fault) l11 c11 k11
  have b11 := F11.binds (ps := ["prices", "costs", "told"]) fun _ _ _ _ _ _ us hl => match us, hl with | [_, _, _], _ => rfl
  have F12 := fun_mk (st := s_waste_costs) l12 c12 k12
  have b12 := F12.binds (ps := ["parts", "plates"]) fun _ _ _ _ _ _ us hl => match us, hl with | [_, _], _ => rfl
  have F13 := fun_mk (st := s__law_state) l13 c13 k13
  have b13 := F13.binds (ps := ["script"]) fun _ _ _ _ _ _ us hl => match us, hl with | [_], _ => rfl
  have F14 := fun_mk (st := s__law_take) l14 c14 k14
  have b14 := F14.binds (ps := ["state", "most"]) fun _ _ _ _ _ _ us hl => match us, hl with | [_, _], _ => rfl
  have F15 := fun_mk (st := s__law_shop) l15 c15 k15
  have b15 := F15.binds (ps := ["state", "most"]) fun _ _ _ _ _ _ us hl => match us, hl with | [_, _], _ => rfl
  have F16 := fun_mk (st := s__law_cost) l16 c16 k16
  have b16 := F16.binds (ps := ["prices", "costs", "options"]) fun _ _ _ _ _ _ us hl => match us, hl with | [_, _, _], _ => rfl
  have F17 := fun_mk (st := s__law_tree_fault) l17 c17 k17
  have b17 := F17.binds (ps := ["prices", "costs", "taken", "left", "bound", "path", "tree"]) fun _ _ _ _ _ _ us hl => match us, hl with | [_, _, _, _, _, _, _], _ => rfl
  have F18 := fun_mk (st := s__law_fault) l18 c18 k18
  have b18 := F18.binds (ps := ["prices", "costs", "told"]) fun _ _ _ _ _ _ us hl => match us, hl with | [_, _, _], _ => rfl
  have F19 := fun_mk (st := s__law_full) l19 c19 k19
  have b19 := F19.binds (ps := ["prices", "costs", "taken", "left"]) fun _ _ _ _ _ _ us hl => match us, hl with | [_, _, _, _], _ => rfl
  have F20 := fun_mk (st := s_law) l20 c20 k20
  have b20 := F20.binds (ps := ["script"]) fun _ _ _ _ _ _ us hl => match us, hl with | [_], _ => rfl
  let fa : Nat → Addr := fun i => match i with
    | 0 => f0
    | 1 => f1
    | 2 => f2
    | 3 => f3
    | 4 => f4
    | 5 => f5
    | 6 => f6
    | 7 => f7
    | 8 => f8
    | 9 => f9
    | 10 => f10
    | 11 => f11
    | 12 => f12
    | 13 => f13
    | 14 => f14
    | 15 => f15
    | 16 => f16
    | 17 => f17
    | 18 => f18
    | 19 => f19
    | 20 => fl
    | _ => 0
  let fc : Nat → Addr := fun i => match i with
    | 0 => C0
    | _ => 0
  let fda : Nat → FuncData := fun i => match i with
    | 0 => PySem.W.fnOf "served" "served" (defArgs s_served) (defBody s_served) (defScope s_served) .none kV0 dc0 pm0 an0 cd0 ct0
    | 1 => PySem.W.fnOf "price_of" "price_of" (defArgs s_price_of) (defBody s_price_of) (defScope s_price_of) .none kV1 dc1 pm1 an1 cd1 ct1
    | 2 => PySem.W.fnOf "raised" "raised" (defArgs s_raised) (defBody s_raised) (defScope s_raised) .none kV2 dc2 pm2 an2 cd2 ct2
    | 3 => PySem.W.fnOf "shown" "shown" (defArgs s_shown) (defBody s_shown) (defScope s_shown) .none kV3 dc3 pm3 an3 cd3 ct3
    | 4 => PySem.W.fnOf "dead" "Choice.dead" (defArgs s_Choice_dead) (defBody s_Choice_dead) (defScope s_Choice_dead) .none kV4 dc4 pm4 an4 cd4 ct4
    | 5 => PySem.W.fnOf "go" "Choice.go" (defArgs s_Choice_go) (defBody s_Choice_go) (defScope s_Choice_go) .none kV5 dc5 pm5 an5 cd5 ct5
    | 6 => PySem.W.fnOf "prove" "Choice.prove" (defArgs s_Choice_prove) (defBody s_Choice_prove) (defScope s_Choice_prove) .none kV6 dc6 pm6 an6 cd6 ct6
    | 7 => PySem.W.fnOf "__init__" "Choice.__init__" (defArgs s_Choice_init) (defBody s_Choice_init) (defScope s_Choice_init) .none kV7 dc7 pm7 an7 cd7 ct7
    | 8 => PySem.W.fnOf "sizes" "sizes" (defArgs s_sizes) (defBody s_sizes) (defScope s_sizes) .none kV8 dc8 pm8 an8 cd8 ct8
    | 9 => PySem.W.fnOf "shares_right" "shares_right" (defArgs s_shares_right) (defBody s_shares_right) (defScope s_shares_right) .none kV9 dc9 pm9 an9 cd9 ct9
    | 10 => PySem.W.fnOf "tree_fault" "tree_fault" (defArgs s_tree_fault) (defBody s_tree_fault) (defScope s_tree_fault) .none kV10 dc10 pm10 an10 cd10 ct10
    | 11 => PySem.W.fnOf "sizes_fault" "sizes_fault" (defArgs s_sizes_fault) (defBody s_sizes_fault) (defScope s_sizes_fault) .none kV11 dc11 pm11 an11 cd11 ct11
    | 12 => PySem.W.fnOf "waste_costs" "waste_costs" (defArgs s_waste_costs) (defBody s_waste_costs) (defScope s_waste_costs) .none kV12 dc12 pm12 an12 cd12 ct12
    | 13 => PySem.W.fnOf "_law_state" "_law_state" (defArgs s__law_state) (defBody s__law_state) (defScope s__law_state) .none kV13 dc13 pm13 an13 cd13 ct13
    | 14 => PySem.W.fnOf "_law_take" "_law_take" (defArgs s__law_take) (defBody s__law_take) (defScope s__law_take) .none kV14 dc14 pm14 an14 cd14 ct14
    | 15 => PySem.W.fnOf "_law_shop" "_law_shop" (defArgs s__law_shop) (defBody s__law_shop) (defScope s__law_shop) .none kV15 dc15 pm15 an15 cd15 ct15
    | 16 => PySem.W.fnOf "_law_cost" "_law_cost" (defArgs s__law_cost) (defBody s__law_cost) (defScope s__law_cost) .none kV16 dc16 pm16 an16 cd16 ct16
    | 17 => PySem.W.fnOf "_law_tree_fault" "_law_tree_fault" (defArgs s__law_tree_fault) (defBody s__law_tree_fault) (defScope s__law_tree_fault) .none kV17 dc17 pm17 an17 cd17 ct17
    | 18 => PySem.W.fnOf "_law_fault" "_law_fault" (defArgs s__law_fault) (defBody s__law_fault) (defScope s__law_fault) .none kV18 dc18 pm18 an18 cd18 ct18
    | 19 => PySem.W.fnOf "_law_full" "_law_full" (defArgs s__law_full) (defBody s__law_full) (defScope s__law_full) .none kV19 dc19 pm19 an19 cd19 ct19
    | 20 => PySem.W.fnOf "law" "law" (defArgs s_law) (defBody s_law) (defScope s_law) .none kV20 dc20 pm20 an20 cd20 ct20
    | _ => PySem.W.fnOf "law" "law" (defArgs s_law) (defBody s_law) (defScope s_law) .none kV20 dc20 pm20 an20 cd20 ct20
  have T : TX K mg fa fda fc := {
    b_min := PySem.W.mg_none_of X G z_min
    b_sum := PySem.W.mg_none_of X G z_sum
    b_len := PySem.W.mg_none_of X G z_len
    b_range := PySem.W.mg_none_of X G z_range
    b_list := PySem.W.mg_none_of X G z_list
    b_enumerate := PySem.W.mg_none_of X G z_enumerate
    b_all := PySem.W.mg_none_of X G z_all
    b_sorted := PySem.W.mg_none_of X G z_sorted
    b_max := PySem.W.mg_none_of X G z_max
    b_set := PySem.W.mg_none_of X G z_set
    b_repr := PySem.W.mg_none_of X G z_repr
    b_isinstance := PySem.W.mg_none_of X G z_isinstance
    b_tuple := PySem.W.mg_none_of X G z_tuple
    b_abs := PySem.W.mg_none_of X G z_abs
    b_int := PySem.W.mg_none_of X G z_int
    c_Choice := aC0
    k_Choice := ⟨pg0, hd0, po0, sa0⟩
    g_Choice := PySem.W.mg_of X G aC0
    n_Choice_prices := nA0_0
    n_Choice_costs := nA0_1
    n_Choice_best := nA0_2
    n_Choice_cost := nA0_3
    d_served := ⟨F0, PySem.W.mg_of X G a0, b0⟩
    d_price_of := ⟨F1, PySem.W.mg_of X G a1, b1⟩
    d_raised := ⟨F2, PySem.W.mg_of X G a2, b2⟩
    d_shown := ⟨F3, PySem.W.mg_of X G a3, b3⟩
    d_Choice_dead := ⟨F4, b4⟩
    m_Choice_dead := ⟨a4, i4, k4⟩
    d_Choice_go := ⟨F5, b5⟩
    m_Choice_go := ⟨a5, i5, k5⟩
    d_Choice_prove := ⟨F6, b6⟩
    m_Choice_prove := ⟨a6, i6, k6⟩
    d_Choice_init := ⟨F7, b7⟩
    m_Choice_init := ⟨mk0, a7, i7, kc0⟩
    d_sizes := ⟨F8, PySem.W.mg_of X G a8, b8⟩
    d_shares_right := ⟨F9, PySem.W.mg_of X G a9, b9⟩
    d_tree_fault := ⟨F10, PySem.W.mg_of X G a10, b10⟩
    d_sizes_fault := ⟨F11, PySem.W.mg_of X G a11, b11⟩
    d_waste_costs := ⟨F12, PySem.W.mg_of X G a12, b12⟩
    d__law_state := ⟨F13, PySem.W.mg_of X G a13, b13⟩
    d__law_take := ⟨F14, PySem.W.mg_of X G a14, b14⟩
    d__law_shop := ⟨F15, PySem.W.mg_of X G a15, b15⟩
    d__law_cost := ⟨F16, PySem.W.mg_of X G a16, b16⟩
    d__law_tree_fault := ⟨F17, PySem.W.mg_of X G a17, b17⟩
    d__law_fault := ⟨F18, PySem.W.mg_of X G a18, b18⟩
    d__law_full := ⟨F19, PySem.W.mg_of X G a19, b19⟩
    d_law := ⟨F20, PySem.W.mg_of X G a20, b20⟩
  }
  exact ⟨_, fun s v => .of_eq rfl, fun base _ _ => ok_law T ht⟩
end Law
open PySem PySem.W PyProof.Rows in
set_option maxRecDepth 100000 in
set_option maxHeartbeats 0 in
theorem PySem.Challenge.cw_foldwright_k56_sizes_by_all_sets_holds : PySem.Challenge.rw_foldwright_k56_sizes_by_all_sets.Holds := by
  w_on; o_law; k_head; (case hw => w_witness2)
  k_fill
  refine VL.walk_G (l := PySem.Challenge.rw_foldwright_k56_sizes_by_all_sets) (n := 63) (x := "script") (sp := fun w => VL.spLaw _) rfl (by decide) rfl (fun w h Y => PySem.W.kIn_of Y) ?F (fun _ _ a ns hl _ hS => ⟨a, ns, rfl, hS, hl, fun _ => rfl⟩)
  case F =>
    intro w mg fa h KX G hmg
    refine' Law.all_mk KX G hmg ?aC0 ?pg0 ?hd0 ?po0 ?sa0 ?mk0 ?kc0 ?nA0_0 ?nA0_1 ?nA0_2 ?nA0_3 ?a0 ?l0 ?c0 ?k0 ?a1 ?l1 ?c1 ?k1 ?a2 ?l2 ?c2 ?k2 ?a3 ?l3 ?c3 ?k3 ?a4 ?i4 ?l4 ?c4 ?k4 ?a5 ?i5 ?l5 ?c5 ?k5 ?a6 ?i6 ?l6 ?c6 ?k6 ?a7 ?i7 ?l7 ?c7 ?k7 ?a8 ?l8 ?c8 ?k8 ?a9 ?l9 ?c9 ?k9 ?a10 ?l10 ?c10 ?k10 ?a11 ?l11 ?c11 ?k11 ?a12 ?l12 ?c12 ?k12 ?a13 ?l13 ?c13 ?k13 ?a14 ?l14 ?c14 ?k14 ?a15 ?l15 ?c15 ?k15 ?a16 ?l16 ?c16 ?k16 ?a17 ?l17 ?c17 ?k17 ?a18 ?l18 ?c18 ?k18 ?a19 ?l19 ?c19 ?k19 ?a20 ?l20 ?c20 ?k20 ?z_min ?z_sum ?z_len ?z_range ?z_list ?z_enumerate ?z_all ?z_sorted ?z_max ?z_set ?z_repr ?z_isinstance ?z_tuple ?z_abs ?z_int Law.law_true
    (case aC0 => k_is); (case pg0 => k_is); (case hd0 => k_is); (case po0 => k_is); (case sa0 => k_is); (case mk0 => k_is); (case kc0 => k_is); (case nA0_0 => k_is); (case nA0_1 => k_is); (case nA0_2 => k_is); (case nA0_3 => k_is); (case a0 => k_is); (case l0 => k_is); (case c0 => k_is); (case k0 => k_is); (case a1 => k_is); (case l1 => k_is); (case c1 => k_is); (case k1 => k_is); (case a2 => k_is); (case l2 => k_is); (case c2 => k_is); (case k2 => k_is); (case a3 => k_is); (case l3 => k_is); (case c3 => k_is); (case k3 => k_is); (case a4 => k_is); (case i4 => k_is); (case l4 => k_is); (case c4 => k_is); (case k4 => k_is); (case a5 => k_is); (case i5 => k_is); (case l5 => k_is); (case c5 => k_is); (case k5 => k_is); (case a6 => k_is); (case i6 => k_is); (case l6 => k_is); (case c6 => k_is); (case k6 => k_is); (case a7 => k_is); (case i7 => k_is); (case l7 => k_is); (case c7 => k_is); (case k7 => k_is); (case a8 => k_is); (case l8 => k_is); (case c8 => k_is); (case k8 => k_is); (case a9 => k_is); (case l9 => k_is); (case c9 => k_is); (case k9 => k_is); (case a10 => k_is); (case l10 => k_is); (case c10 => k_is); (case k10 => k_is); (case a11 => k_is); (case l11 => k_is); (case c11 => k_is); (case k11 => k_is); (case a12 => k_is); (case l12 => k_is); (case c12 => k_is); (case k12 => k_is); (case a13 => k_is); (case l13 => k_is); (case c13 => k_is); (case k13 => k_is); (case a14 => k_is); (case l14 => k_is); (case c14 => k_is); (case k14 => k_is); (case a15 => k_is); (case l15 => k_is); (case c15 => k_is); (case k15 => k_is); (case a16 => k_is); (case l16 => k_is); (case c16 => k_is); (case k16 => k_is); (case a17 => k_is); (case l17 => k_is); (case c17 => k_is); (case k17 => k_is); (case a18 => k_is); (case l18 => k_is); (case c18 => k_is); (case k18 => k_is); (case a19 => k_is); (case l19 => k_is); (case c19 => k_is); (case k19 => k_is); (case a20 => k_is); (case l20 => k_is); (case c20 => k_is); (case k20 => k_is); (case z_min => k_is); (case z_sum => k_is); (case z_len => k_is); (case z_range => k_is); (case z_list => k_is); (case z_enumerate => k_is); (case z_all => k_is); (case z_sorted => k_is); (case z_max => k_is); (case z_set => k_is); (case z_repr => k_is); (case z_isinstance => k_is); (case z_tuple => k_is); (case z_abs => k_is); (case z_int => k_is)

