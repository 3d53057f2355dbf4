import PyProof.Rows.All
import PySem.Challenge.RW_flockgates_k08_whole_numbers
import Wide.All
import OpenK.AllK
import Wide.FinOn
import HandS.ForMost
import HandS.Walk
import HandS.Deep
import HandS.IsInst
import HandS.Zip
import HandS.Style
import HandS.TupAny
import HandS.TupMul
import HandS.TupLen
import HandS.Wide
import HandS.Conv
import KE.GoesNew
import KE.GoesMore
import KE.KDictDisplayH
import HandS.SetFor
import HandS.SortRule
import KE.KDictPairs
import KE.GoesEnum
import HandS.WordsExc
import HandS.ExcOwn
import HandS.ExcIs
import HandS.TryOnly
import PyProof.EqAt
import KE.RegKIsAll
set_option Elab.async false
set_option linter.all false
set_option maxRecDepth 100000
set_option maxHeartbeats 4000000
/-! Plain data over the abstract heap: what stands for what (Rp), worlds of a frozen and a whole heap (Wd), what the names hold (En). -/
namespace Fg
open PySem L2

/-- plain data: dct has keys that are tuples of whole numbers; obj is an instance by its fields -/
inductive D where
  | non | bl (b : Bool) | int (i : Int) | str (s : Str)
  | lst (ds : List D) | tup (ds : List D) | dct (ks : List (List Int × D)) | obj (C : Addr) (fs : List (Str × D)) | fl (K : PySem.W.Frag) (ds : List D)

/-- the most that a list, a tuple or a dict of plain data holds -/
abbrev cap : Nat := 100000
theorem cap_le : cap ≤ sizeLine := by decide
theorem le_cap {n : Nat} (h : n ≤ cap) : n ≤ sizeLine := Nat.le_trans h cap_le
theorem lt_cap {n : Nat} (h : n ≤ cap) : n < sizeLine := Nat.lt_of_le_of_lt h (by decide)
/-- a list among the module's own objects -/
def KL (K : PySem.W.Frag) (a : Addr) (xs : List V) : Prop := ∃ (o : Obj) (its : Array Value) (n : Nat), K.lookup a = some o ∧ o.cls = .type "list" ∧ o.dict = none ∧ o.data = .seq its n ∧ its.size ≤ sizeLine ∧ Vals xs its.toList
def FlOk (K : PySem.W.Frag) (f : Hp) (a : Addr) (xs : List V) : Prop := (∃ o, f a = some (.frz o (.lst xs))) ∨ KL K a xs
theorem FlOk.mono {K : PySem.W.Frag} {f g : Hp} {a : Addr} {xs : List V} (e : Same f g) (h : FlOk K f a xs) : FlOk K g a xs := h.elim (fun ⟨o, h⟩ => .inl ⟨o, e _ _ h⟩) .inr
theorem FlOk.sq {K : PySem.W.Frag} {f : Hp} {a : Addr} {xs : List V} (h : FlOk K f a xs) : SqL K f a xs := h.elim (fun h => .inl (.inr h)) .inr
mutual
inductive Rp (f : Hp) : V → D → Prop
  | non : Rp f .non .non
  | bl (b : Bool) : Rp f (.bl b) (.bl b)
  | int (i : Int) : Rp f (.int i) (.int i)
  | str (s : Str) : Rp f (.str s) (.str s)
  | lst {a : Addr} {xs : List V} {ds : List D} : f a = some (.lst xs) → ds.length ≤ cap → RpL f xs ds → Rp f (.ref a) (.lst ds)
  | tup {a : Addr} {xs : List V} {ds : List D} : f a = some (.tup xs) → ds.length ≤ cap → RpL f xs ds → Rp f (.ref a) (.tup ds)
  | dct {a : Addr} {kvs : List (List Key × V)} {ks : List (List Int × D)} : f a = some (.dT kvs) → ks.length ≤ cap → RpK f kvs ks → Rp f (.ref a) (.dct ks)
  | obj {a C dx : Addr} {gs : List (Str × V)} {fs : List (Str × D)} : f a = some (.ins C dx gs) → RpF f gs fs → Rp f (.ref a) (.obj C fs)
  /-- a list that nobody may change: the script -/
  | fl {K : PySem.W.Frag} {a : Addr} {xs : List V} {ds : List D} : FlOk K f a xs → ds.length ≤ cap → RpL f xs ds → Rp f (.ref a) (.fl K ds)
inductive RpL (f : Hp) : List V → List D → Prop
  | nil : RpL f [] []
  | cons {v : V} {vs : List V} {d : D} {ds : List D} : Rp f v d → RpL f vs ds → RpL f (v :: vs) (d :: ds)
inductive RpK (f : Hp) : List (List Key × V) → List (List Int × D) → Prop
  | nil : RpK f [] []
  | cons {k : List Int} {v : V} {kvs : List (List Key × V)} {d : D} {ks : List (List Int × D)} : Rp f v d → RpK f kvs ks → RpK f ((k.map Sum.inl, v) :: kvs) ((k, d) :: ks)
inductive RpF (f : Hp) : List (Str × V) → List (Str × D) → Prop
  | nil : RpF f [] []
  | cons {n : Str} {v : V} {gs : List (Str × V)} {d : D} {fs : List (Str × D)} : Rp f v d → RpF f gs fs → RpF f ((n, v) :: gs) ((n, d) :: fs)
end

mutual
theorem Rp.mono {f g : Hp} (e : Same f g) : ∀ {v : V} {d : D}, Rp f v d → Rp g v d
  | _, _, .non => .non
  | _, _, .bl b => .bl b
  | _, _, .int i => .int i
  | _, _, .str s => .str s
  | _, _, .lst h z r => .lst (e _ _ h) z (RpL.mono e r)
  | _, _, .tup h z r => .tup (e _ _ h) z (RpL.mono e r)
  | _, _, .dct h z r => .dct (e _ _ h) z (RpK.mono e r)
  | _, _, .obj h r => .obj (e _ _ h) (RpF.mono e r)
  | _, _, .fl h z r => .fl (h.mono e) z (RpL.mono e r)
theorem RpL.mono {f g : Hp} (e : Same f g) : ∀ {vs : List V} {ds : List D}, RpL f vs ds → RpL g vs ds
  | _, _, .nil => .nil
  | _, _, .cons h r => .cons (Rp.mono e h) (RpL.mono e r)
theorem RpK.mono {f g : Hp} (e : Same f g) : ∀ {vs : List (List Key × V)} {ds : List (List Int × D)}, RpK f vs ds → RpK g vs ds
  | _, _, .nil => .nil
  | _, _, .cons h r => .cons (Rp.mono e h) (RpK.mono e r)
theorem RpF.mono {f g : Hp} (e : Same f g) : ∀ {vs : List (Str × V)} {ds : List (Str × D)}, RpF f vs ds → RpF g vs ds
  | _, _, .nil => .nil
  | _, _, .cons h r => .cons (Rp.mono e h) (RpF.mono e r)
end

/-! ### rows of data -/
theorem RpL.length {f : Hp} : ∀ {vs : List V} {ds : List D}, RpL f vs ds → vs.length = ds.length
  | _, _, .nil => rfl
  | _, _, .cons _ r => by rw [List.length_cons, List.length_cons, RpL.length r]
theorem RpL.get {f : Hp} : ∀ {vs : List V} {ds : List D} {i : Nat} {d : D}, RpL f vs ds → ds[i]? = some d → ∃ v, vs[i]? = some v ∧ Rp f v d
  | _, _, _, _, .nil, e => by simp at e
  | _, _, 0, _, .cons h r, e => by
    simp at e
    subst e
    exact ⟨_, rfl, h⟩
  | _, _, i + 1, d, .cons h r, e => by
    obtain ⟨v, h1, h2⟩ := RpL.get (i := i) (d := d) r (by simpa using e)
    exact ⟨v, by simpa using h1, h2⟩
theorem RpL.getV {f : Hp} {vs : List V} {ds : List D} {i : Nat} {v : V} (r : RpL f vs ds) (e : vs[i]? = some v) : ∃ d, ds[i]? = some d ∧ Rp f v d := by
  have hl := r.length
  have hi := (List.getElem?_eq_some_iff.mp e).1
  obtain ⟨d, hd⟩ : ∃ d, ds[i]? = some d := ⟨ds[i]'(by omega), by simp [show i < ds.length by omega]⟩
  obtain ⟨v', h1, h2⟩ := r.get hd
  rw [e] at h1
  cases h1
  exact ⟨d, hd, h2⟩
theorem RpL.append {f : Hp} : ∀ {vs ws : List V} {ds es : List D}, RpL f vs ds → RpL f ws es → RpL f (vs ++ ws) (ds ++ es)
  | _, _, _, _, .nil, s => s
  | _, _, _, _, .cons h r, s => .cons h (RpL.append r s)
theorem RpL.take {f : Hp} : ∀ {vs : List V} {ds : List D} (n : Nat), RpL f vs ds → RpL f (vs.take n) (ds.take n)
  | _, _, 0, _ => .nil
  | _, _, _ + 1, .nil => .nil
  | _, _, n + 1, .cons h r => .cons h (RpL.take n r)
theorem RpL.drop {f : Hp} : ∀ {vs : List V} {ds : List D} (n : Nat), RpL f vs ds → RpL f (vs.drop n) (ds.drop n)
  | _, _, 0, r => r
  | _, _, _ + 1, .nil => .nil
  | _, _, n + 1, .cons _ r => RpL.drop n r
theorem RpL.set {f : Hp} {v : V} {d : D} (q : Rp f v d) : ∀ {vs : List V} {ds : List D} (i : Nat), RpL f vs ds → RpL f (vs.set i v) (ds.set i d)
  | _, _, _, .nil => .nil
  | _, _, 0, .cons h r => .cons q r
  | _, _, i + 1, .cons h r => .cons h (RpL.set q i r)
theorem RpL.reverse {f : Hp} : ∀ {vs : List V} {ds : List D}, RpL f vs ds → RpL f vs.reverse ds.reverse
  | _, _, .nil => .nil
  | _, _, .cons h r => by
    rw [List.reverse_cons, List.reverse_cons]
    exact (RpL.reverse r).append (.cons h .nil)
theorem rpl_map {α : Type} {f : Hp} {vf : α → V} {df : α → D} (h : ∀ a, Rp f (vf a) (df a)) : ∀ as : List α, RpL f (as.map vf) (as.map df)
  | [] => .nil
  | a :: as => .cons (h a) (rpl_map h as)
theorem rpl_ints (f : Hp) (ns : List Int) : RpL f (ns.map V.int) (ns.map D.int) := rpl_map (fun i => .int i) ns
theorem RpL.ints {f : Hp} : ∀ {ns : List Int} {vs : List V}, RpL f vs (ns.map D.int) → vs = ns.map V.int
  | [], _, r => by cases r; rfl
  | n :: ns, _, r => by
    cases r with
    | cons h r =>
      cases h
      rw [RpL.ints r]
      rfl
theorem RpL.bools {f : Hp} : ∀ {ns : List Bool} {vs : List V}, RpL f vs (ns.map D.bl) → vs = ns.map V.bl
  | [], _, r => by cases r; rfl
  | n :: ns, _, r => by
    cases r with
    | cons h r =>
      cases h
      rw [RpL.bools r]
      rfl
theorem RpF.lookup {f : Hp} {n : Str} : ∀ {gs : List (Str × V)} {fs : List (Str × D)} {d : D}, RpF f gs fs → fs.lookup n = some d → ∃ v, gs.lookup n = some v ∧ Rp f v d
  | _, _, _, .nil, e => by simp at e
  | _, _, d, .cons (n := m) h r, e => by
    rw [List.lookup_cons] at e ⊢
    cases hb : (n == m) with
    | true =>
      rw [hb] at e
      cases e
      exact ⟨_, rfl, h⟩
    | false =>
      rw [hb] at e
      exact RpF.lookup r e
theorem RpF.lookup_none {f : Hp} {n : Str} : ∀ {gs : List (Str × V)} {fs : List (Str × D)}, RpF f gs fs → fs.lookup n = none → gs.lookup n = none
  | _, _, .nil, _ => rfl
  | _, _, .cons (n := m) h r, e => by
    rw [List.lookup_cons] at e ⊢
    cases hb : (n == m) with
    | true =>
      rw [hb] at e
      cases e
    | false =>
      rw [hb] at e
      exact RpF.lookup_none r e

/-! ### dicts by tuples of whole numbers -/
/-- what is held at a key -/
def lk {β : Type} (ks : List (List Int × β)) (k : List Int) : Option β := (ks.find? fun p => decide (p.1 = k)).map (·.2)
/-- stored: in its place, or at the end -/
def pt {β : Type} (ks : List (List Int × β)) (k : List Int) (b : β) : List (List Int × β) :=
  if (lk ks k).isSome then ks.map (fun p => if p.1 = k then (p.1, b) else p) else ks ++ [(k, b)]
theorem inl_inj {a b : List Int} (h : a.map (Sum.inl : Int → Key) = b.map Sum.inl) : a = b := by
  induction a generalizing b with
  | nil => cases b <;> simp at h ⊢
  | cons x a ih =>
    cases b with
    | nil => simp at h
    | cons y b =>
      simp only [List.map_cons, List.cons.injEq, Sum.inl.injEq] at h
      rw [h.1, ih h.2]
theorem RpK.length {f : Hp} : ∀ {kvs : List (List Key × V)} {ks : List (List Int × D)}, RpK f kvs ks → kvs.length = ks.length
  | _, _, .nil => rfl
  | _, _, .cons _ r => by rw [List.length_cons, List.length_cons, RpK.length r]
theorem valV_cons {k q : List Key} {v : V} {kvs : List (List Key × V)} : valV ((q, v) :: kvs) k = if q = k then some v else valV kvs k := by
  unfold valV
  rw [List.find?_cons]
  by_cases h : q = k
  · rw [if_pos h]
    simp [h]
  · rw [if_neg h]
    simp [h]
theorem lk_cons {β : Type} {k q : List Int} {v : β} {kvs : List (List Int × β)} : lk ((q, v) :: kvs) k = if q = k then some v else lk kvs k := by
  unfold lk
  rw [List.find?_cons]
  by_cases h : q = k
  · rw [if_pos h]
    simp [h]
  · rw [if_neg h]
    simp [h]
theorem RpK.val {f : Hp} (k : List Int) : ∀ {kvs : List (List Key × V)} {ks : List (List Int × D)}, RpK f kvs ks → (∀ d, lk ks k = some d → ∃ v, valV kvs (k.map Sum.inl) = some v ∧ Rp f v d) ∧ (lk ks k = none → valV kvs (k.map Sum.inl) = none)
  | _, _, .nil => ⟨fun d h => by simp [lk] at h, fun _ => rfl⟩
  | _, _, .cons (k := q) (d := d0) h r => by
    obtain ⟨h1, h2⟩ := RpK.val k r
    refine ⟨fun d e => ?_, fun e => ?_⟩
    · rw [lk_cons] at e
      rw [valV_cons]
      by_cases hq : q = k
      · rw [if_pos hq] at e
        rw [if_pos (by rw [hq])]
        cases e
        exact ⟨_, rfl, h⟩
      · rw [if_neg hq] at e
        rw [if_neg (fun z => hq (inl_inj z))]
        exact h1 d e
    · rw [lk_cons] at e
      rw [valV_cons]
      by_cases hq : q = k
      · rw [if_pos hq] at e
        cases e
      · rw [if_neg hq] at e
        rw [if_neg (fun z => hq (inl_inj z))]
        exact h2 e
theorem RpK.isSome {f : Hp} {k : List Int} {kvs : List (List Key × V)} {ks : List (List Int × D)} (r : RpK f kvs ks) : (valV kvs (k.map Sum.inl)).isSome = (lk ks k).isSome := by
  obtain ⟨h1, h2⟩ := r.val k
  cases e : lk ks k with
  | none =>
    rw [h2 e]
    rfl
  | some d =>
    obtain ⟨v, hv, _⟩ := h1 d e
    rw [hv]
    rfl
theorem RpK.app {f : Hp} : ∀ {kvs : List (List Key × V)} {ks : List (List Int × D)} {k : List Int} {v : V} {d : D}, RpK f kvs ks → Rp f v d → RpK f (kvs ++ [(k.map Sum.inl, v)]) (ks ++ [(k, d)])
  | _, _, _, _, _, .nil, h => .cons h .nil
  | _, _, _, _, _, .cons q r, h => .cons q (RpK.app r h)
theorem RpK.repl {f : Hp} {k : List Int} {v : V} {d : D} (h : Rp f v d) : ∀ {kvs : List (List Key × V)} {ks : List (List Int × D)}, RpK f kvs ks →
    RpK f (kvs.map fun kv => if kv.1 = k.map Sum.inl then (kv.1, v) else kv) (ks.map fun p => if p.1 = k then (p.1, d) else p)
  | _, _, .nil => .nil
  | _, _, .cons (k := q) h0 r => by
    rw [List.map_cons, List.map_cons]
    by_cases hq : q = k
    · rw [if_pos (by show q.map Sum.inl = _; rw [hq]), if_pos hq]
      exact .cons h (RpK.repl h r)
    · rw [if_neg (fun z => hq (inl_inj z)), if_neg hq]
      exact .cons h0 (RpK.repl h r)
theorem valV_any' {kvs : List (List Key × V)} {k : List Key} : (kvs.any fun kv => decide (kv.1 = k)) = (valV kvs k).isSome := by
  unfold valV
  rw [Option.isSome_map, Bool.eq_iff_iff, List.find?_isSome, List.any_eq_true]
theorem RpK.put {f : Hp} {k : List Int} {v : V} {d : D} {kvs : List (List Key × V)} {ks : List (List Int × D)} (r : RpK f kvs ks) (h : Rp f v d) : RpK f (putK kvs (k.map Sum.inl) v) (pt ks k d) := by
  have e : (kvs.any fun kv => decide (kv.1 = k.map Sum.inl)) = (lk ks k).isSome := by rw [valV_any', r.isSome]
  unfold putK pt
  rw [e]
  cases hb : (lk ks k).isSome with
  | true =>
    rw [if_pos rfl, if_pos rfl]
    exact r.repl h
  | false =>
    rw [if_neg Bool.false_ne_true, if_neg Bool.false_ne_true]
    exact r.app h

/-! ### as the library's data, for == and in -/
mutual
def D.py : D → PyData
  | .non => .none
  | .bl b => .bool b
  | .int i => .int i
  | .str s => .str s
  | .lst ds => .list (D.pys ds)
  | .tup ds => .tuple (D.pys ds)
  | .dct _ => .none
  | .obj _ _ => .none
  | .fl _ _ => .none
def D.pys : List D → List PyData
  | [] => []
  | d :: ds => D.py d :: D.pys ds
end
mutual
def D.pl : D → Bool
  | .non => true
  | .bl _ => true
  | .int _ => true
  | .str _ => true
  | .lst ds => D.pls ds
  | .tup ds => D.pls ds
  | .dct _ => false
  | .obj _ _ => false
  | .fl _ _ => false
def D.pls : List D → Bool
  | [] => true
  | d :: ds => D.pl d && D.pls ds
end
mutual
theorem Rp.dp {K : PySem.W.Frag} {f H : Hp} (e : Same f H) : ∀ {v : V} {d : D}, D.pl d = true → Rp f v d → Dp K H v d.py
  | _, _, _, .non => by unfold D.py; exact .non
  | _, _, _, .bl b => by unfold D.py; exact .bl b
  | _, _, _, .int i => by unfold D.py; exact .int i
  | _, _, _, .str s => by unfold D.py; exact .str s
  | _, _, p, .lst h _ r => by
    unfold D.py
    exact .lst (SqL.of (e _ _ h)) (RpL.dp e (by unfold D.pl at p; exact p) r)
  | _, _, p, .tup h _ r => by
    unfold D.py
    exact .tup (SqT.of (e _ _ h)) (RpL.dp e (by unfold D.pl at p; exact p) r)
  | _, _, p, .dct h _ r => by unfold D.pl at p; cases p
  | _, _, p, .obj h r => by unfold D.pl at p; cases p
  | _, _, p, .fl h _ r => by unfold D.pl at p; cases p
theorem RpL.dp {K : PySem.W.Frag} {f H : Hp} (e : Same f H) : ∀ {vs : List V} {ds : List D}, D.pls ds = true → RpL f vs ds → DpAll K H vs (D.pys ds)
  | _, _, _, .nil => by unfold D.pys; exact .nil
  | _, _, p, .cons h r => by
    unfold D.pls at p
    rw [Bool.and_eq_true] at p
    unfold D.pys
    exact .cons (Rp.dp e p.1 h) (RpL.dp e p.2 r)
end
/-- == as the program's own does -/
def D.eqb (d e : D) : Bool := PyData.eqv d.py e.py
def D.shp (d : D) : Bool := D.pl d && SeqAt.shaped d.py

/-! ### worlds: the frozen part f of the whole heap h -/
structure Wd where
  f : Hp
  h : Hp
  ex : Same f h
  /-- tuples never change: all of them are frozen -/
  tp : ∀ a xs, h a = some (.tup xs) → f a = some (.tup xs)
/-- later: what was frozen is, what else stood stands as it was, not frozen -/
structure Wd.le (W W' : Wd) : Prop where
  fr : Same W.f W'.f
  ow : ∀ a o, W.h a = some o → W.f a = none → W'.f a = none ∧ W'.h a = some o
instance : LE Wd := ⟨Wd.le⟩
theorem Wd.rfl {W : Wd} : W ≤ W := ⟨Same.refl _, fun _ _ h n => ⟨n, h⟩⟩
theorem Wd.le.tr {W1 W2 W3 : Wd} (a : W1 ≤ W2) (b : W2 ≤ W3) : W1 ≤ W3 :=
  ⟨a.fr.trans b.fr, fun x o h n => let ⟨n1, h1⟩ := a.ow x o h n; b.ow x o h1 n1⟩
theorem Wd.le.hh {W W' : Wd} (a : W ≤ W') : Same W.h W'.h := fun x o h => by
  cases e : W.f x with
  | none => exact (a.ow x o h e).2
  | some u =>
    have h1 := W.ex x u e
    rw [h] at h1
    cases h1
    exact W'.ex x o (a.fr x o e)
theorem none_of {f h : Hp} (e : Same f h) {p : Addr} (n : h p = none) : f p = none := e.free n
/-- a new frozen object -/
def Wd.nw (W : Wd) (p : Addr) (o : HO) : Wd where
  f := upd W.f p o
  h := upd W.h p o
  ex a u e := by
    by_cases h : a = p
    · subst h
      rw [upd_same] at e ⊢
      exact e
    · rw [upd_ne h] at e ⊢
      exact W.ex a u e
  tp a xs e := by
    by_cases h : a = p
    · subst h
      rw [upd_same] at e ⊢
      exact e
    · rw [upd_ne h] at e ⊢
      exact W.tp a xs e
theorem Wd.le_nw {W : Wd} {p : Addr} {o : HO} (n : W.h p = none) : W ≤ W.nw p o :=
  ⟨fun a u e => by
    have := ne_of_none e (none_of W.ex n)
    show upd W.f p o a = some u
    rw [upd_ne this]
    exact e, fun a u e z => by
    have := ne_of_none e n
    show upd W.f p o a = none ∧ upd W.h p o a = some u
    rw [upd_ne this, upd_ne this]
    exact ⟨z, e⟩⟩
/-- an object that isn't frozen, written -/
def Wd.up (W : Wd) (p : Addr) (o : HO) (n : W.f p = none) (ho : ∀ xs, o ≠ .tup xs := by intro _ h; cases h) : Wd where
  f := W.f
  h := upd W.h p o
  ex a u e := by
    rw [upd_ne (ne_of_none e n)]
    exact W.ex a u e
  tp a xs e := by
    by_cases h : a = p
    · subst h
      rw [upd_same] at e
      exact absurd (Option.some.inj e) (ho xs)
    · rw [upd_ne h] at e
      exact W.tp a xs e
theorem Wd.le_up {W : Wd} {p : Addr} {o : HO} (n : W.h p = none) (ho : ∀ xs, o ≠ .tup xs := by intro _ h; cases h) : W ≤ W.up p o (none_of W.ex n) ho :=
  ⟨fun a u e => e, fun a u e z => ⟨z, by
    show upd W.h p o a = some u
    rw [upd_ne (ne_of_none e n)]
    exact e⟩⟩
/-- from an earlier world that knows nothing of p -/
theorem Wd.le_up0 {W0 W : Wd} {p : Addr} {o : HO} (l : W0 ≤ W) (n0 : W0.h p = none) (n : W.f p = none) (ho : ∀ xs, o ≠ .tup xs := by intro _ h; cases h) : W0 ≤ W.up p o n ho :=
  ⟨l.fr, fun a u e z => by
    obtain ⟨h1, h2⟩ := l.ow a u e z
    refine ⟨h1, ?_⟩
    show upd W.h p o a = some u
    rw [upd_ne (ne_of_none e n0)]
    exact h2⟩
/-- an object is frozen as it stands -/
def Wd.fz (W : Wd) (p : Addr) (o : HO) (h : W.h p = some o) : Wd where
  f := upd W.f p o
  h := W.h
  ex a u e := by
    by_cases q : a = p
    · subst q
      rw [upd_same] at e
      cases e
      exact h
    · rw [upd_ne q] at e
      exact W.ex a u e
  tp a xs e := by
    by_cases q : a = p
    · subst q
      rw [h] at e
      rw [upd_same]
      exact e
    · rw [upd_ne q]
      exact W.tp a xs e
theorem Wd.fz_fr {W : Wd} {p : Addr} {o : HO} (h : W.h p = some o) : Same W.f (W.fz p o h).f := fun a u e => by
  show upd W.f p o a = some u
  by_cases q : a = p
  · subst q
    have := W.ex _ _ e
    rw [h] at this
    cases this
    exact upd_same
  · rw [upd_ne q]
    exact e
theorem Wd.le_fz0 {W0 W : Wd} {p : Addr} {o : HO} (l : W0 ≤ W) (n0 : W0.h p = none) (h : W.h p = some o) : W0 ≤ W.fz p o h :=
  ⟨l.fr.trans (Wd.fz_fr h), fun a u e z => by
    obtain ⟨h1, h2⟩ := l.ow a u e z
    refine ⟨?_, h2⟩
    show upd W.f p o a = none
    rw [upd_ne (ne_of_none e n0)]
    exact h1⟩

/-! ### what the names hold -/
inductive Sl where
  /-- nothing is said -/
  | no
  | dat (d : D)
  /-- a list of one's own at l, still to be changed -/
  | acc (l : Addr) (ds : List D)
  /-- a dict of one's own -/
  | dac (l : Addr) (ks : List (List Int × D))
  | val (v : V)
def Sl.adr : Sl → Option Addr
  | .acc l _ => some l
  | .dac l _ => some l
  | _ => none
def SlOk (W0 W : Wd) (o : Option V) : Sl → Prop
  | .no => True
  | .dat d => ∃ v, o = some v ∧ Rp W.f v d
  | .acc l ds => o = some (.ref l) ∧ W0.h l = none ∧ W.f l = none ∧ ∃ xs, W.h l = some (.lst xs) ∧ RpL W.f xs ds
  | .dac l ks => o = some (.ref l) ∧ W0.h l = none ∧ W.f l = none ∧ ∃ kvs, W.h l = some (.dT kvs) ∧ RpK W.f kvs ks
  | .val v => o = some v
theorem SlOk.mono {W0 W W' : Wd} (l : W ≤ W') {o : Option V} {s : Sl} (h : SlOk W0 W o s) : SlOk W0 W' o s := by
  cases s with
  | no => exact True.intro
  | dat d =>
    obtain ⟨v, e, r⟩ := h
    exact ⟨v, e, r.mono l.fr⟩
  | acc a ds =>
    obtain ⟨e, n0, n, xs, hx, r⟩ := h
    obtain ⟨n', hx'⟩ := l.ow _ _ hx n
    exact ⟨e, n0, n', xs, hx', r.mono l.fr⟩
  | dac a ds =>
    obtain ⟨e, n0, n, xs, hx, r⟩ := h
    obtain ⟨n', hx'⟩ := l.ow _ _ hx n
    exact ⟨e, n0, n', xs, hx', r.mono l.fr⟩
  | val v => exact h
/-- the frame σ and the world W are as Γ tells; all that is W0's stands -/
structure En (W0 W : Wd) (σ : L2.St) (Γ : List Sl) : Prop where
  le : W0 ≤ W
  len : σ.length = Γ.length
  ok : ∀ (i : Nat) (s : Sl), Γ[i]? = some s → ∃ o, σ[i]? = some o ∧ SlOk W0 W o s
  ap : ∀ (i j : Nat) (s t : Sl) (l : Addr), Γ[i]? = some s → Γ[j]? = some t → s.adr = some l → t.adr = some l → i = j
theorem En.mono {W0 W W' : Wd} {σ : L2.St} {Γ : List Sl} (l : W ≤ W') (h : En W0 W σ Γ) : En W0 W' σ Γ :=
  ⟨h.le.tr l, h.len, fun i s e => let ⟨o, h1, h2⟩ := h.ok i s e; ⟨o, h1, h2.mono l⟩, h.ap⟩
theorem En.dat {W0 W : Wd} {σ : L2.St} {Γ : List Sl} (h : En W0 W σ Γ) {i : Nat} {d : D} (e : Γ[i]? = some (.dat d)) : ∃ v, σ[i]? = some (some v) ∧ Rp W.f v d := by
  obtain ⟨o, h1, v, rfl, r⟩ := h.ok i _ e
  exact ⟨v, h1, r⟩
theorem set_get {α : Type} {l : List α} {i j : Nat} {x y : α} (h : (l.set i x)[j]? = some y) : (j = i ∧ y = x ∧ i < l.length) ∨ (j ≠ i ∧ l[j]? = some y) := by
  by_cases e : i = j
  · subst e
    by_cases hi : i < l.length
    · rw [List.getElem?_set_self hi] at h
      cases h
      exact .inl ⟨rfl, rfl, hi⟩
    · rw [List.getElem?_eq_none (by simpa using hi)] at h
      cases h
  · rw [List.getElem?_set_ne e] at h
    exact .inr ⟨fun z => e z.symm, h⟩
/-- the slot i holds v, of which Γ's new word s is true; s tells of no list that another slot tells of -/
theorem En.put {W0 W : Wd} {σ : L2.St} {Γ : List Sl} (h : En W0 W σ Γ) {i : Nat} {v : V} {s : Sl} (hs : SlOk W0 W (some v) s) (hn : ∀ l, s.adr = some l → ∀ (j : Nat) (t : Sl), j ≠ i → Γ[j]? = some t → t.adr ≠ some l) : En W0 W (σ.set i (some v)) (Γ.set i s) := by
  refine ⟨h.le, by rw [List.length_set, List.length_set, h.len], fun j t e => ?_, fun j k t u l ej ek tj uk => ?_⟩
  · rcases set_get e with ⟨rfl, rfl, hl⟩ | ⟨hj, e⟩
    · exact ⟨some v, by rw [List.getElem?_set_self (by rw [h.len]; exact hl)], hs⟩
    · obtain ⟨o, h1, h2⟩ := h.ok j t e
      exact ⟨o, by rw [List.getElem?_set_ne (fun z => hj z.symm)]; exact h1, h2⟩
  · rcases set_get ej with ⟨rfl, rfl, _⟩ | ⟨hj, ej2⟩
    · rcases set_get ek with ⟨rfl, rfl, _⟩ | ⟨hk, ek2⟩
      · rfl
      · exact absurd uk (hn l tj k u hk ek2)
    · rcases set_get ek with ⟨rfl, rfl, _⟩ | ⟨hk, ek2⟩
      · exact absurd tj (hn l uk j t hj ej2)
      · exact h.ap j k t u l ej2 ek2 tj uk
theorem En.putD {W0 W : Wd} {σ : L2.St} {Γ : List Sl} (h : En W0 W σ Γ) {i : Nat} {v : V} {d : D} (r : Rp W.f v d) : En W0 W (σ.set i (some v)) (Γ.set i (.dat d)) :=
  h.put ⟨v, rfl, r⟩ fun l e => by cases e
/-- an address that stands apart from all told lists -/
theorem En.apart {W0 W : Wd} {σ : L2.St} {Γ : List Sl} (h : En W0 W σ Γ) {l : Addr} (n : W.h l = none) (j : Nat) (t : Sl) (e : Γ[j]? = some t) : t.adr ≠ some l := by
  intro z
  obtain ⟨o, _, q⟩ := h.ok j t e
  cases t with
  | no => cases z
  | dat d => cases z
  | val v => cases z
  | acc a ds =>
    obtain ⟨_, _, _, xs, hx, _⟩ := q
    cases z
    rw [n] at hx
    cases hx
  | dac a ds =>
    obtain ⟨_, _, _, xs, hx, _⟩ := q
    cases z
    rw [n] at hx
    cases hx
/-- what is told less -/
def Wk (Γ Γ' : List Sl) : Prop := Γ.length = Γ'.length ∧ ∀ (i : Nat) (s : Sl), Γ'[i]? = some s → s = .no ∨ Γ[i]? = some s
theorem En.weak {W0 W : Wd} {σ : L2.St} {Γ Γ' : List Sl} (h : En W0 W σ Γ) (w : Wk Γ Γ') : En W0 W σ Γ' := by
  refine ⟨h.le, by rw [h.len, w.1], fun i s e => ?_, fun i j s t l ei ej si tj => ?_⟩
  · rcases w.2 i s e with rfl | e'
    · have hi : i < σ.length := by
        rw [h.len, w.1]
        exact (List.getElem?_eq_some_iff.mp e).1
      exact ⟨σ[i], by simp [hi], True.intro⟩
    · exact h.ok i s e'
  · rcases w.2 i s ei with rfl | ei
    · cases si
    · rcases w.2 j t ej with rfl | ej
      · cases tj
      · exact h.ap i j s t l ei ej si tj
theorem wk_refl (Γ : List Sl) : Wk Γ Γ := ⟨rfl, fun _ _ e => .inr e⟩
theorem wk_nil : Wk [] [] := wk_refl []
theorem wk_cons {s : Sl} {Γ Γ' : List Sl} (h : Wk Γ Γ') : Wk (s :: Γ) (s :: Γ') := by
  refine ⟨by rw [List.length_cons, List.length_cons, h.1], fun i t e => ?_⟩
  cases i with
  | zero => exact .inr e
  | succ i => exact h.2 i t (by simpa using e)
theorem wk_drop {s : Sl} {Γ Γ' : List Sl} (h : Wk Γ Γ') : Wk (s :: Γ) (.no :: Γ') := by
  refine ⟨by rw [List.length_cons, List.length_cons, h.1], fun i t e => ?_⟩
  cases i with
  | zero =>
    left
    simpa using e.symm
  | succ i => exact h.2 i t (by simpa using e)
theorem Wk.trans {Γ1 Γ2 Γ3 : List Sl} (a : Wk Γ1 Γ2) (b : Wk Γ2 Γ3) : Wk Γ1 Γ3 :=
  ⟨a.1.trans b.1, fun i s e => (b.2 i s e).elim .inl fun e2 => a.2 i s e2⟩
/-- a list of one's own is frozen: from then on its name holds data -/
theorem En.freeze {W0 W : Wd} {σ : L2.St} {Γ : List Sl} (h : En W0 W σ Γ) {i : Nat} {l : Addr} {ds : List D} (e : Γ[i]? = some (.acc l ds)) (hc : ds.length ≤ cap) : ∃ W', Same W.f W'.f ∧ W'.h = W.h ∧ En W0 W' σ (Γ.set i (.dat (.lst ds))) := by
  obtain ⟨o, ho, rfl, n0, n, xs, hx, r⟩ := h.ok i _ e
  have fr := Wd.fz_fr hx
  refine ⟨W.fz l _ hx, fr, rfl, Wd.le_fz0 h.le n0 hx, by rw [List.length_set, h.len], fun j t ej => ?_, fun j k t u q ej ek tj uk => ?_⟩
  · rcases set_get ej with ⟨rfl, rfl, hl⟩ | ⟨hj, ej⟩
    · exact ⟨_, ho, _, rfl, .lst upd_same hc (r.mono fr)⟩
    · obtain ⟨o2, h1, h2⟩ := h.ok j t ej
      refine ⟨o2, h1, ?_⟩
      cases t with
      | no => exact True.intro
      | val v => exact h2
      | dat d =>
        obtain ⟨v, e1, r1⟩ := h2
        exact ⟨v, e1, r1.mono fr⟩
      | acc a es =>
        obtain ⟨e1, m0, m, ys, hy, r1⟩ := h2
        have ne : a ≠ l := fun z => hj (h.ap j i _ _ l ej e (by rw [z]; rfl) rfl)
        refine ⟨e1, m0, ?_, ys, hy, r1.mono fr⟩
        show upd W.f l _ a = none
        rw [upd_ne ne]
        exact m
      | dac a es =>
        obtain ⟨e1, m0, m, ys, hy, r1⟩ := h2
        have ne : a ≠ l := fun z => hj (h.ap j i _ _ l ej e (by rw [z]; rfl) rfl)
        refine ⟨e1, m0, ?_, ys, hy, r1.mono fr⟩
        show upd W.f l _ a = none
        rw [upd_ne ne]
        exact m
  · rcases set_get ej with ⟨rfl, rfl, _⟩ | ⟨hj, ej⟩
    · cases tj
    · rcases set_get ek with ⟨rfl, rfl, _⟩ | ⟨hk, ek⟩
      · cases uk
      · exact h.ap j k t u q ej ek tj uk
theorem En.freezeK {W0 W : Wd} {σ : L2.St} {Γ : List Sl} (h : En W0 W σ Γ) {i : Nat} {l : Addr} {ds : List (List Int × D)} (e : Γ[i]? = some (.dac l ds)) (hc : ds.length ≤ cap) : ∃ W', Same W.f W'.f ∧ W'.h = W.h ∧ En W0 W' σ (Γ.set i (.dat (.dct ds))) := by
  obtain ⟨o, ho, rfl, n0, n, xs, hx, r⟩ := h.ok i _ e
  have fr := Wd.fz_fr hx
  refine ⟨W.fz l _ hx, fr, rfl, Wd.le_fz0 h.le n0 hx, by rw [List.length_set, h.len], fun j t ej => ?_, fun j k t u q ej ek tj uk => ?_⟩
  · rcases set_get ej with ⟨rfl, rfl, hl⟩ | ⟨hj, ej⟩
    · exact ⟨_, ho, _, rfl, .dct upd_same hc (r.mono fr)⟩
    · obtain ⟨o2, h1, h2⟩ := h.ok j t ej
      refine ⟨o2, h1, ?_⟩
      cases t with
      | no => exact True.intro
      | val v => exact h2
      | dat d =>
        obtain ⟨v, e1, r1⟩ := h2
        exact ⟨v, e1, r1.mono fr⟩
      | acc a es =>
        obtain ⟨e1, m0, m, ys, hy, r1⟩ := h2
        have ne : a ≠ l := fun z => hj (h.ap j i _ _ l ej e (by rw [z]; rfl) rfl)
        refine ⟨e1, m0, ?_, ys, hy, r1.mono fr⟩
        show upd W.f l _ a = none
        rw [upd_ne ne]
        exact m
      | dac a es =>
        obtain ⟨e1, m0, m, ys, hy, r1⟩ := h2
        have ne : a ≠ l := fun z => hj (h.ap j i _ _ l ej e (by rw [z]; rfl) rfl)
        refine ⟨e1, m0, ?_, ys, hy, r1.mono fr⟩
        show upd W.f l _ a = none
        rw [upd_ne ne]
        exact m
  · rcases set_get ej with ⟨rfl, rfl, _⟩ | ⟨hj, ej⟩
    · cases tj
    · rcases set_get ek with ⟨rfl, rfl, _⟩ | ⟨hk, ek⟩
      · cases uk
      · exact h.ap j k t u q ej ek tj uk
/-- a list or dict of one's own is written: its slot tells it, all other slots stay -/
theorem En.write {W0 W : Wd} {σ : L2.St} {Γ : List Sl} (h : En W0 W σ Γ) {i : Nat} {s s' : Sl} {l : Addr} {o : HO} (e : Γ[i]? = some s) (hs : s.adr = some l) (hs' : s'.adr = some l) (n : W.f l = none) (n0 : W0.h l = none) {ho : ∀ xs, o ≠ .tup xs}
    (ok : SlOk W0 (W.up l o n ho) (some (.ref l)) s') (hv : σ[i]? = some (some (.ref l))) : En W0 (W.up l o n ho) σ (Γ.set i s') := by
  refine ⟨Wd.le_up0 h.le n0 n ho, by rw [List.length_set, h.len], fun j t ej => ?_, fun j k t u q ej ek tj uk => ?_⟩
  · rcases set_get ej with ⟨rfl, rfl, hl⟩ | ⟨hj, ej⟩
    · exact ⟨_, hv, ok⟩
    · obtain ⟨o2, h1, h2⟩ := h.ok j t ej
      refine ⟨o2, h1, ?_⟩
      cases t with
      | no => exact True.intro
      | val v => exact h2
      | dat d => exact h2
      | acc a es =>
        obtain ⟨e1, m0, m, ys, hy, r1⟩ := h2
        have ne : a ≠ l := fun z => hj (h.ap j i _ _ l ej e (by rw [z]; rfl) hs)
        refine ⟨e1, m0, m, ys, ?_, r1⟩
        show upd W.h l _ a = some _
        rw [upd_ne ne]
        exact hy
      | dac a es =>
        obtain ⟨e1, m0, m, ys, hy, r1⟩ := h2
        have ne : a ≠ l := fun z => hj (h.ap j i _ _ l ej e (by rw [z]; rfl) hs)
        refine ⟨e1, m0, m, ys, ?_, r1⟩
        show upd W.h l _ a = some _
        rw [upd_ne ne]
        exact hy
  · rcases set_get ej with ⟨rfl, rfl, _⟩ | ⟨hj, ej2⟩
    · rcases set_get ek with ⟨rfl, rfl, _⟩ | ⟨hk, ek2⟩
      · rfl
      · rw [hs'] at tj
        cases tj
        exact absurd (h.ap _ _ _ _ l ek2 e uk hs) hk
    · rcases set_get ek with ⟨rfl, rfl, _⟩ | ⟨hk, ek2⟩
      · rw [hs'] at uk
        cases uk
        exact absurd (h.ap _ _ _ _ l ej2 e tj hs) hj
      · exact h.ap j k t u q ej2 ek2 tj uk
end Fg

set_option Elab.async false
set_option linter.all false
set_option maxRecDepth 100000
set_option maxHeartbeats 4000000
/-! What an expression is worth, as plain data. -/
namespace Fg
open PySem L2

/-! ### names for the rules' readings -/
def rLenS (K : PySem.W.Frag) : List V → Hp → VK → Prop := fun xs H Q => ∃ p ys, xs = [.ref p] ∧ (SqL K H p ys ∨ SqT K H p ys) ∧ Q (.int ys.length) H
def rAbs : List V → Hp → VK → Prop := fun xs H Q => ∃ i, xs = [.int i] ∧ Q (.int (if i < 0 then -i else i)) H
def rMax2 : List V → Hp → VK → Prop := fun xs H Q => ∃ i j, xs = [.int i, .int j] ∧ Q (.int (if j > i then j else i)) H
def rMin2 : List V → Hp → VK → Prop := fun xs H Q => ∃ i j, xs = [.int i, .int j] ∧ Q (.int (if j < i then j else i)) H
def rListS (K : PySem.W.Frag) : List V → Hp → VK → Prop := fun xs H Q => ∃ p ys, xs = [.ref p] ∧ (SqL K H p ys ∨ SqT K H p ys) ∧ ∀ l, H l = none → Q (.ref l) (upd H l (.lst ys))
def rTupS (K : PySem.W.Frag) : List V → Hp → VK → Prop := fun xs H Q => ∃ p ys, xs = [.ref p] ∧ ((SqL K H p ys ∧ ∀ l, H l = none → Q (.ref l) (upd H l (.tup ys))) ∨ (SqT K H p ys ∧ Q (.ref p) H))
def rIsN : R2 := fun x y H Q => y = .non ∧ Q (.bl (decide (x = .non))) H
def rNotN : R2 := fun x y H Q => y = .non ∧ Q (.bl (!decide (x = .non))) H
def rIntOf : List V → Hp → VK → Prop := fun xs H Q => (∃ i, xs = [.int i] ∧ Q (.int i) H) ∨ ∃ k, xs = [.bl k] ∧ Q (.int (if k then 1 else 0)) H
section
variable {X : Cx}
theorem c_len : CallR X (.builtin "len") (rLenS X.K) := call_len_seq
theorem c_abs : CallR X (.builtin "abs") rAbs := call_abs
theorem c_max2 (hc : X.calm = true) : CallR X (.builtin "max") rMax2 := call_max2 hc
theorem c_min2 (hc : X.calm = true) : CallR X (.builtin "min") rMin2 := call_min2 hc
theorem c_list : CallR X (.type "list") (rListS X.K) := call_list_of
theorem c_tuple : CallR X (.type "tuple") (rTupS X.K) := call_tuple_of
theorem c_int : CallR X (.type "int") rIntOf := call_int1
theorem o_isN : OpR X (compareOp .Is) rIsN := op_isN
theorem o_notN : OpR X (compareOp .IsNot) rNotN := op_notN
end

/-! ### the words -/
/-- worth d, frozen -/
def EvD (W0 : Wd) (te : TE) (Γ : List Sl) (W : Wd) (d : D) : Prop := ∀ W1, W ≤ W1 → ∀ σ, En W0 W1 σ Γ → ∀ Q : VK, (∀ v W2, W1 ≤ W2 → Rp W2.f v d → Q v W2.h) → te σ W1.h Q
/-- worth d as it stands now -/
def EvH (W0 : Wd) (te : TE) (Γ : List Sl) (W : Wd) (d : D) : Prop := ∀ W1, W ≤ W1 → ∀ σ, En W0 W1 σ Γ → ∀ Q : VK, (∀ v W2, W1 ≤ W2 → Rp W2.h v d → Q v W2.h) → te σ W1.h Q
/-- a new list of one's own -/
def EvL (W0 : Wd) (te : TE) (Γ : List Sl) (W : Wd) (ds : List D) : Prop := ∀ W1, W ≤ W1 → ∀ σ, En W0 W1 σ Γ → ∀ Q : VK,
  (∀ p xs W2, W1 ≤ W2 → W1.h p = none → W2.f p = none → W2.h p = some (.lst xs) → RpL W2.f xs ds → Q (.ref p) W2.h) → te σ W1.h Q
/-- a new dict of one's own -/
def EvK (W0 : Wd) (te : TE) (Γ : List Sl) (W : Wd) (ks : List (List Int × D)) : Prop := ∀ W1, W ≤ W1 → ∀ σ, En W0 W1 σ Γ → ∀ Q : VK,
  (∀ p xs W2, W1 ≤ W2 → W1.h p = none → W2.f p = none → W2.h p = some (.dT xs) → RpK W2.f xs ks → Q (.ref p) W2.h) → te σ W1.h Q
def EvT (W0 : Wd) (tt : TT) (Γ : List Sl) (W : Wd) (b : Bool) : Prop := ∀ W1, W ≤ W1 → ∀ σ, En W0 W1 σ Γ → ∀ Q : Bool → Hp → Prop, (∀ W2, W1 ≤ W2 → Q b W2.h) → tt σ W1.h Q
def EvA (W0 : Wd) (ta : TA) (Γ : List Sl) (W : Wd) (ds : List D) : Prop := ∀ W1, W ≤ W1 → ∀ σ, En W0 W1 σ Γ → ∀ Q : List V → Hp → Prop, (∀ vs W2, W1 ≤ W2 → RpL W2.f vs ds → Q vs W2.h) → ta σ W1.h Q
def EvO (W0 : Wd) (to : TO) (Γ : List Sl) (W : Wd) (o : Option Int) : Prop := ∀ W1, W ≤ W1 → ∀ σ, En W0 W1 σ Γ → ∀ Q : Option Int → Hp → Prop, (∀ W2, W1 ≤ W2 → Q o W2.h) → to σ W1.h Q

section
variable {K : PySem.W.Frag} {W0 W W' : Wd} {Γ : List Sl} {te ta tb tc : TE} {tt tu : TT} {d e : D} {ds es : List D} {a b : Int}
theorem EvD.mono (l : W ≤ W') (h : EvD W0 te Γ W d) : EvD W0 te Γ W' d := fun W1 l1 => h W1 (l.tr l1)
theorem EvH.mono (l : W ≤ W') (h : EvH W0 te Γ W d) : EvH W0 te Γ W' d := fun W1 l1 => h W1 (l.tr l1)
theorem EvT.mono {b : Bool} (l : W ≤ W') (h : EvT W0 tt Γ W b) : EvT W0 tt Γ W' b := fun W1 l1 => h W1 (l.tr l1)
theorem EvD.h (h : EvD W0 te Γ W d) : EvH W0 te Γ W d := fun W1 l1 σ En Q q => h W1 l1 σ En Q fun v W2 l2 r => q v W2 l2 (r.mono W2.ex)
theorem EvD.to (h : EvD W0 te Γ W d) (q : d = e) : EvD W0 te Γ W e := q ▸ h
theorem EvT.to {b c : Bool} (h : EvT W0 tt Γ W b) (q : b = c) : EvT W0 tt Γ W c := q ▸ h
theorem EvL.to (h : EvL W0 te Γ W ds) (q : ds = es) : EvL W0 te Γ W es := q ▸ h
theorem EvL.fz (h : EvL W0 te Γ W ds) (hc : ds.length ≤ cap) : EvD W0 te Γ W (.lst ds) := fun W1 l1 σ E Q q => h W1 l1 σ E Q fun p xs W2 l2 n1 n2 hx r => by
  have fr := Wd.fz_fr hx
  exact q (.ref p) (W2.fz p _ hx) (Wd.le_fz0 l2 n1 hx) (.lst upd_same hc (r.mono fr))
theorem EvK.fz {ks : List (List Int × D)} (h : EvK W0 te Γ W ks) (hc : ks.length ≤ cap) : EvD W0 te Γ W (.dct ks) := fun W1 l1 σ E Q q => h W1 l1 σ E Q fun p xs W2 l2 n1 n2 hx r => by
  have fr := Wd.fz_fr hx
  exact q (.ref p) (W2.fz p _ hx) (Wd.le_fz0 l2 n1 hx) (.dct upd_same hc (r.mono fr))
theorem ev_var {i : Nat} (h : Γ[i]? = some (.dat d)) : EvD W0 (tVar i) Γ W d := fun W1 l1 σ E Q q => by
  obtain ⟨v, h1, r⟩ := E.dat h
  exact ⟨v, h1, q v W1 Wd.rfl r⟩
theorem ev_varV {i : Nat} {v : V} (h : Γ[i]? = some (.val v)) (hr : ∀ W1, W ≤ W1 → Rp W1.f v d) : EvD W0 (tVar i) Γ W d := fun W1 l1 σ E Q q => by
  obtain ⟨o, h1, rfl⟩ := E.ok i _ h
  exact ⟨v, h1, q v W1 Wd.rfl (hr W1 l1)⟩
/-- a list of one's own, read -/
theorem ev_varA {i : Nat} {l : Addr} (h : Γ[i]? = some (.acc l ds)) (hc : ds.length ≤ cap) : EvH W0 (tVar i) Γ W (.lst ds) := fun W1 l1 σ E Q q => by
  obtain ⟨o, h1, rfl, _, _, xs, hx, r⟩ := E.ok i _ h
  exact ⟨_, h1, q _ W1 Wd.rfl (.lst hx hc (r.mono W1.ex))⟩
theorem ev_varK {i : Nat} {l : Addr} {ks : List (List Int × D)} (h : Γ[i]? = some (.dac l ks)) (hc : ks.length ≤ cap) : EvH W0 (tVar i) Γ W (.dct ks) := fun W1 l1 σ E Q q => by
  obtain ⟨o, h1, rfl, _, _, xs, hx, r⟩ := E.ok i _ h
  exact ⟨_, h1, q _ W1 Wd.rfl (.dct hx hc (r.mono W1.ex))⟩
theorem ev_int {i : Int} : EvD W0 (tC (.int i)) Γ W (.int i) := fun W1 _ _ _ _ q => q _ W1 Wd.rfl (.int i)
theorem ev_bl {b : Bool} : EvD W0 (tC (.bl b)) Γ W (.bl b) := fun W1 _ _ _ _ q => q _ W1 Wd.rfl (.bl b)
theorem ev_non : EvD W0 (tC .non) Γ W .non := fun W1 _ _ _ _ q => q _ W1 Wd.rfl .non
theorem ev_str {s : Str} : EvD W0 (tC (.str s)) Γ W (.str s) := fun W1 _ _ _ _ q => q _ W1 Wd.rfl (.str s)

/-! ### two operands -/
theorem ev_op2 {r : R2} {z : D} (ha : EvD W0 ta Γ W d) (hb : EvD W0 tb Γ W e)
    (hr : ∀ W1, W ≤ W1 → ∀ x y, Rp W1.f x d → Rp W1.f y e → ∀ Q : VK, (∀ v W2, W1 ≤ W2 → Rp W2.f v z → Q v W2.h) → r x y W1.h Q) : EvD W0 (tOp r ta tb) Γ W z := fun W1 l1 σ E Q q =>
  ha W1 l1 σ E _ fun x W2 l2 rx => hb W2 (l1.tr l2) σ (E.mono l2) _ fun y W3 l3 ry => hr W3 ((l1.tr l2).tr l3) x y (rx.mono l3.fr) ry Q fun v W4 l4 r4 => q v W4 ((l2.tr l3).tr l4) r4
theorem ev_op2h {r : R2} {z : D} (ha : EvH W0 ta Γ W d) (hb : EvH W0 tb Γ W e)
    (hr : ∀ W1, W ≤ W1 → ∀ x y, Rp W1.h x d → Rp W1.h y e → ∀ Q : VK, (∀ v W2, W1 ≤ W2 → Rp W2.f v z → Q v W2.h) → r x y W1.h Q) : EvD W0 (tOp r ta tb) Γ W z := fun W1 l1 σ E Q q =>
  ha W1 l1 σ E _ fun x W2 l2 rx => hb W2 (l1.tr l2) σ (E.mono l2) _ fun y W3 l3 ry => hr W3 ((l1.tr l2).tr l3) x y (rx.mono l3.hh) ry Q fun v W4 l4 r4 => q v W4 ((l2.tr l3).tr l4) r4
theorem ev_op2L {r : R2} {zs : List D} (ha : EvD W0 ta Γ W d) (hb : EvD W0 tb Γ W e)
    (hr : ∀ W1, W ≤ W1 → ∀ x y, Rp W1.f x d → Rp W1.f y e → ∀ Q : VK, (∀ p xs W2, W1 ≤ W2 → W1.h p = none → W2.f p = none → W2.h p = some (.lst xs) → RpL W2.f xs zs → Q (.ref p) W2.h) → r x y W1.h Q) :
    EvL W0 (tOp r ta tb) Γ W zs := fun W1 l1 σ E Q q =>
  ha W1 l1 σ E _ fun x W2 l2 rx => hb W2 (l1.tr l2) σ (E.mono l2) _ fun y W3 l3 ry => hr W3 ((l1.tr l2).tr l3) x y (rx.mono l3.fr) ry Q fun p xs W4 l4 n1 n2 hx r4 =>
    q p xs W4 ((l2.tr l3).tr l4) ((l2.tr l3).hh.free n1) n2 hx r4
theorem ev_Ii {g : Int → Int → Int} (ha : EvD W0 ta Γ W (.int a)) (hb : EvD W0 tb Γ W (.int b)) : EvD W0 (tOp (rI0 fun i j => .int (g i j)) ta tb) Γ W (.int (g a b)) := ev_op2 ha hb fun W1 _ x y rx ry Q q => by
  cases rx; cases ry
  exact ⟨a, b, rfl, rfl, q _ W1 Wd.rfl (.int _)⟩
theorem ev_Ib {g : Int → Int → Bool} (ha : EvD W0 ta Γ W (.int a)) (hb : EvD W0 tb Γ W (.int b)) : EvD W0 (tOp (rI0 fun i j => .bl (g i j)) ta tb) Γ W (.bl (g a b)) := ev_op2 ha hb fun W1 _ x y rx ry Q q => by
  cases rx; cases ry
  exact ⟨a, b, rfl, rfl, q _ W1 Wd.rfl (.bl _)⟩
theorem ev_add (ha : EvD W0 ta Γ W (.int a)) (hb : EvD W0 tb Γ W (.int b)) : EvD W0 (tOp (rI0 fun i j => .int (i + j)) ta tb) Γ W (.int (a + b)) := ev_Ii (g := fun i j => i + j) ha hb
theorem ev_sub (ha : EvD W0 ta Γ W (.int a)) (hb : EvD W0 tb Γ W (.int b)) : EvD W0 (tOp (rI0 fun i j => .int (i - j)) ta tb) Γ W (.int (a - b)) := ev_Ii (g := fun i j => i - j) ha hb
theorem ev_lt (ha : EvD W0 ta Γ W (.int a)) (hb : EvD W0 tb Γ W (.int b)) : EvD W0 (tOp (rI0 fun i j => .bl (decide (i < j))) ta tb) Γ W (.bl (decide (a < b))) := ev_Ib (g := fun i j => decide (i < j)) ha hb
theorem ev_le (ha : EvD W0 ta Γ W (.int a)) (hb : EvD W0 tb Γ W (.int b)) : EvD W0 (tOp (rI0 fun i j => .bl (decide (i ≤ j))) ta tb) Γ W (.bl (decide (a ≤ b))) := ev_Ib (g := fun i j => decide (i ≤ j)) ha hb
theorem ev_gt (ha : EvD W0 ta Γ W (.int a)) (hb : EvD W0 tb Γ W (.int b)) : EvD W0 (tOp (rI0 fun i j => .bl (decide (j < i))) ta tb) Γ W (.bl (decide (b < a))) := ev_Ib (g := fun i j => decide (j < i)) ha hb
theorem ev_ge (ha : EvD W0 ta Γ W (.int a)) (hb : EvD W0 tb Γ W (.int b)) : EvD W0 (tOp (rI0 fun i j => .bl (decide (j ≤ i))) ta tb) Γ W (.bl (decide (b ≤ a))) := ev_Ib (g := fun i j => decide (j ≤ i)) ha hb
/-- with a condition: // % * .. -/
theorem ev_I {C : Int → Int → Prop} {g : Int → Int → Int} (ha : EvD W0 ta Γ W (.int a)) (hb : EvD W0 tb Γ W (.int b)) (hc : C a b) : EvD W0 (tOp (rI C fun i j => .int (g i j)) ta tb) Γ W (.int (g a b)) := ev_op2 ha hb fun W1 _ x y rx ry Q q => by
  cases rx; cases ry
  exact ⟨a, b, rfl, rfl, hc, q _ W1 Wd.rfl (.int _)⟩
theorem ev_mul (ha : EvD W0 ta Γ W (.int a)) (hb : EvD W0 tb Γ W (.int b)) (hc : CMul a b) : EvD W0 (tOp (rI CMul fun i j => .int (i * j)) ta tb) Γ W (.int (a * b)) := ev_I (g := fun i j => i * j) ha hb hc
theorem ev_mulW (ha : EvD W0 ta Γ W (.int a)) (hb : EvD W0 tb Γ W (.int b)) (hc : CMulW a b) : EvD W0 (tOp (rI CMulW fun i j => .int (i * j)) ta tb) Γ W (.int (a * b)) := ev_I (g := fun i j => i * j) ha hb hc
theorem ev_fdiv (ha : EvD W0 ta Γ W (.int a)) (hb : EvD W0 tb Γ W (.int b)) (hc : CDiv a b) : EvD W0 (tOp (rI CDiv fun i j => .int (i / j)) ta tb) Γ W (.int (a / b)) := ev_I (g := fun i j => i / j) ha hb hc
theorem ev_mod (ha : EvD W0 ta Γ W (.int a)) (hb : EvD W0 tb Γ W (.int b)) (hc : 0 < b) : EvD W0 (tOp (rI (fun _ j => 0 < j) fun i j => .int (i % j)) ta tb) Γ W (.int (a % b)) := ev_I (C := fun _ j => 0 < j) (g := fun i j => i % j) ha hb hc
theorem ev_pow (ha : EvD W0 ta Γ W (.int a)) (hb : EvD W0 tb Γ W (.int b)) (hc : CPow a b) : EvD W0 (tOp (rI CPow fun i j => .int (i ^ j.toNat)) ta tb) Γ W (.int (a ^ b.toNat)) := ev_I (g := fun i j => i ^ j.toNat) ha hb hc
theorem ev_neg (ha : EvD W0 ta Γ W (.int a)) : EvD W0 (tUn (rU fun i => .int (-i)) ta) Γ W (.int (-a)) := fun W1 l1 σ E Q q => ha W1 l1 σ E _ fun x W2 l2 rx => by
  cases rx
  exact ⟨a, rfl, q _ W2 l2 (.int _)⟩
/-- == and != of whole numbers, texts, truths -/
theorem ev_eqI (ha : EvD W0 ta Γ W (.int a)) (hb : EvD W0 tb Γ W (.int b)) : EvD W0 (tOp rEq ta tb) Γ W (.bl (decide (a = b))) := ev_op2 ha hb fun W1 _ x y rx ry Q q => by
  cases rx; cases ry
  refine ⟨rfl, ?_⟩
  have e : decide (V.int a = V.int b) = decide (a = b) := by simp
  rw [e]
  exact q _ W1 Wd.rfl (.bl _)
theorem ev_neI (ha : EvD W0 ta Γ W (.int a)) (hb : EvD W0 tb Γ W (.int b)) : EvD W0 (tOp rNe ta tb) Γ W (.bl (!decide (a = b))) := ev_op2 ha hb fun W1 _ x y rx ry Q q => by
  cases rx; cases ry
  refine ⟨rfl, ?_⟩
  have e : decide (V.int a = V.int b) = decide (a = b) := by simp
  rw [e]
  exact q _ W1 Wd.rfl (.bl _)
theorem ev_eqS {a b : Str} (ha : EvD W0 ta Γ W (.str a)) (hb : EvD W0 tb Γ W (.str b)) : EvD W0 (tOp rEq ta tb) Γ W (.bl (decide (a = b))) := ev_op2 ha hb fun W1 _ x y rx ry Q q => by
  cases rx; cases ry
  refine ⟨rfl, ?_⟩
  have e : decide (V.str a = V.str b) = decide (a = b) := by simp
  rw [e]
  exact q _ W1 Wd.rfl (.bl _)
theorem ev_eqB {a b : Bool} (ha : EvD W0 ta Γ W (.bl a)) (hb : EvD W0 tb Γ W (.bl b)) : EvD W0 (tOp rEq ta tb) Γ W (.bl (decide (a = b))) := ev_op2 ha hb fun W1 _ x y rx ry Q q => by
  cases rx; cases ry
  refine ⟨rfl, ?_⟩
  have e : decide (V.bl a = V.bl b) = decide (a = b) := by simp
  rw [e]
  exact q _ W1 Wd.rfl (.bl _)
theorem ev_neB {a b : Bool} (ha : EvD W0 ta Γ W (.bl a)) (hb : EvD W0 tb Γ W (.bl b)) : EvD W0 (tOp rNe ta tb) Γ W (.bl (!decide (a = b))) := ev_op2 ha hb fun W1 _ x y rx ry Q q => by
  cases rx; cases ry
  refine ⟨rfl, ?_⟩
  have e : decide (V.bl a = V.bl b) = decide (a = b) := by simp
  rw [e]
  exact q _ W1 Wd.rfl (.bl _)
def D.isN : D → Bool
  | .non => true
  | _ => false
theorem Rp.isN {f : Hp} {v : V} {d : D} (r : Rp f v d) : decide (v = .non) = d.isN := by cases r <;> simp [D.isN]
theorem ev_isN (ha : EvH W0 ta Γ W d) : EvD W0 (tOp rIsN ta (tC .non)) Γ W (.bl d.isN) := ev_op2h ha ev_non.h fun W1 _ x y rx ry Q q => by
  cases ry
  refine ⟨rfl, ?_⟩
  rw [rx.isN]
  exact q _ W1 Wd.rfl (.bl _)
theorem ev_notN (ha : EvH W0 ta Γ W d) : EvD W0 (tOp rNotN ta (tC .non)) Γ W (.bl (!d.isN)) := ev_op2h ha ev_non.h fun W1 _ x y rx ry Q q => by
  cases ry
  refine ⟨rfl, ?_⟩
  rw [rx.isN]
  exact q _ W1 Wd.rfl (.bl _)
theorem ev_isB {a b : Bool} (ha : EvD W0 ta Γ W (.bl a)) (hb : EvD W0 tb Γ W (.bl b)) : EvD W0 (tOp rIsB ta tb) Γ W (.bl (decide (a = b))) := ev_op2 ha hb fun W1 _ x y rx ry Q q => by
  cases rx; cases ry
  exact ⟨a, b, rfl, rfl, q _ W1 Wd.rfl (.bl _)⟩
theorem ev_notB {a b : Bool} (ha : EvD W0 ta Γ W (.bl a)) (hb : EvD W0 tb Γ W (.bl b)) : EvD W0 (tOp rNotB ta tb) Γ W (.bl (!decide (a = b))) := ev_op2 ha hb fun W1 _ x y rx ry Q q => by
  cases rx; cases ry
  exact ⟨a, b, rfl, rfl, q _ W1 Wd.rfl (.bl _)⟩
/-- a < b < c -/
theorem ev_chain {p q : Int → Int → Bool} {c : Int} (ha : EvD W0 ta Γ W (.int a)) (hb : EvD W0 tb Γ W (.int b)) (hc : p a b = true → EvD W0 tc Γ W (.int c)) :
    EvD W0 (tChain (rI0 fun i j => .bl (p i j)) (rI0 fun i j => .bl (q i j)) ta tb tc) Γ W (.bl (p a b && q b c)) := fun W1 l1 σ E Q k =>
  ha W1 l1 σ E _ fun x W2 l2 rx => hb W2 (l1.tr l2) σ (E.mono l2) _ fun y W3 l3 ry => by
    cases rx; cases ry
    refine ⟨a, b, rfl, rfl, p a b, rfl, ?_⟩
    cases h : p a b with
    | false =>
      rw [if_neg Bool.false_ne_true]
      exact k _ W3 (l2.tr l3) (by rw [h]; exact .bl _)
    | true =>
      rw [if_pos rfl]
      refine hc h W3 ((l1.tr l2).tr l3) σ (E.mono (l2.tr l3)) _ fun z W4 l4 rz => ?_
      cases rz
      exact ⟨b, c, rfl, rfl, k _ W4 ((l2.tr l3).tr l4) (by rw [h, Bool.true_and]; exact .bl _)⟩
/-! ### sequences -/
theorem ixN_of {n : Nat} {i : Int} (h0 : 0 ≤ i) (h1 : i < n) : ixN n i = some i.toNat := by
  unfold ixN
  rw [if_pos h0, if_pos h1]
theorem atI_of {α : Type} {xs : List α} {i : Int} {x : α} (h0 : 0 ≤ i) (h : xs[i.toNat]? = some x) : atI xs i = some x := by
  have := (List.getElem?_eq_some_iff.mp h).1
  unfold atI
  rw [ixN_of h0 (by omega)]
  exact h
theorem atI_rp {f : Hp} {xs : List V} {ds : List D} {i : Int} {d : D} (r : RpL f xs ds) (h : atI ds i = some d) : ∃ v, atI xs i = some v ∧ Rp f v d := by
  unfold atI at h ⊢
  rw [r.length]
  cases e : ixN ds.length i with
  | none =>
    rw [e] at h
    cases h
  | some j =>
    rw [e] at h
    exact r.get h
theorem atI_last {α : Type} {xs : List α} {x : α} (h : xs.getLast? = some x) : atI xs (-1) = some x := by
  have hl : xs ≠ [] := by
    intro z
    subst z
    cases h
  have h0 : 0 < xs.length := List.length_pos_iff.mpr hl
  unfold atI ixN
  rw [if_neg (by omega), if_pos (by omega)]
  show xs[(-1 + (xs.length : Int)).toNat]? = some x
  rw [List.getLast?_eq_getElem?] at h
  have e : (-1 + (xs.length : Int)).toNat = xs.length - 1 := by omega
  rw [e]
  exact h
theorem ev_ixL (ha : EvD W0 ta Γ W (.lst ds)) (hb : EvD W0 tb Γ W (.int a)) (h : atI ds a = some d) : EvD W0 (tOp (rIxL K) ta tb) Γ W d := ev_op2 ha hb fun W1 _ x y rx ry Q q => by
  cases ry
  cases rx with
  | lst hx hz r =>
    obtain ⟨v, h1, h2⟩ := atI_rp r h
    exact ⟨_, _, a, v, rfl, rfl, SqL.of (W1.ex _ _ hx), h1, q v W1 Wd.rfl h2⟩
theorem ev_ixT (ha : EvD W0 ta Γ W (.tup ds)) (hb : EvD W0 tb Γ W (.int a)) (h : atI ds a = some d) : EvD W0 (tOp (rIxT K) ta tb) Γ W d := ev_op2 ha hb fun W1 _ x y rx ry Q q => by
  cases ry
  cases rx with
  | tup hx hz r =>
    obtain ⟨v, h1, h2⟩ := atI_rp r h
    exact ⟨_, _, a, v, rfl, rfl, SqT.of (W1.ex _ _ hx), h1, q v W1 Wd.rfl h2⟩
/-- an item of a list of one's own -/
theorem ev_ixA {i : Nat} {l : Addr} (hi : Γ[i]? = some (.acc l ds)) (hb : EvD W0 tb Γ W (.int a)) (h : atI ds a = some d) : EvD W0 (tOp (rIxL K) (tVar i) tb) Γ W d := fun W1 l1 σ E Q q => by
  obtain ⟨o, h1, rfl, _, _, _, _, _⟩ := E.ok i _ hi
  refine ⟨_, h1, ?_⟩
  refine hb W1 l1 σ E _ fun y W2 l2 ry => ?_
  cases ry
  obtain ⟨o, h2, h3, _, _, xs, hx, r⟩ := (E.mono l2).ok i _ hi
  obtain ⟨v, h4, h5⟩ := atI_rp r h
  exact ⟨l, xs, a, v, rfl, rfl, SqL.of hx, h4, q v W2 l2 h5⟩
theorem ev_lenL (ha : EvH W0 ta Γ W (.lst ds)) : EvD W0 (tCB (rLenS K) (tCons ta tNil)) Γ W (.int ds.length) := fun W1 l1 σ E Q q => ha W1 l1 σ E _ fun x W2 l2 rx => by
  cases rx with
  | lst hx hz r => exact ⟨_, _, rfl, .inl (SqL.of hx), by rw [r.length]; exact q _ W2 l2 (.int _)⟩
theorem ev_lenT (ha : EvH W0 ta Γ W (.tup ds)) : EvD W0 (tCB (rLenS K) (tCons ta tNil)) Γ W (.int ds.length) := fun W1 l1 σ E Q q => ha W1 l1 σ E _ fun x W2 l2 rx => by
  cases rx with
  | tup hx hz r => exact ⟨_, _, rfl, .inr (SqT.of hx), by rw [r.length]; exact q _ W2 l2 (.int _)⟩
theorem ev_lenLM {α : Type} {as : List α} {c : α → D} (ha : EvH W0 ta Γ W (.lst (as.map c))) : EvD W0 (tCB (rLenS K) (tCons ta tNil)) Γ W (.int as.length) := by
  have := ev_lenL (K := K) ha
  rw [List.length_map] at this
  exact this
theorem ev_lenTM {α : Type} {as : List α} {c : α → D} (ha : EvH W0 ta Γ W (.tup (as.map c))) : EvD W0 (tCB (rLenS K) (tCons ta tNil)) Γ W (.int as.length) := by
  have := ev_lenT (K := K) ha
  rw [List.length_map] at this
  exact this
theorem ev_lenA {i : Nat} {l : Addr} (hi : Γ[i]? = some (.acc l ds)) : EvD W0 (tCB (rLenS K) (tCons (tVar i) tNil)) Γ W (.int ds.length) := fun W1 l1 σ E Q q => by
  obtain ⟨o, h1, rfl, _, _, xs, hx, r⟩ := E.ok i _ hi
  exact ⟨_, h1, _, _, rfl, .inl (SqL.of hx), by rw [r.length]; exact q _ W1 Wd.rfl (.int _)⟩
theorem ev_lenK {ks : List (List Int × D)} (ha : EvH W0 ta Γ W (.dct ks)) : EvD W0 (tCB rLenT (tCons ta tNil)) Γ W (.int ks.length) := fun W1 l1 σ E Q q => ha W1 l1 σ E _ fun x W2 l2 rx => by
  cases rx with
  | dct hx hz r => exact ⟨_, _, rfl, hx, by rw [r.length]; exact q _ W2 l2 (.int _)⟩
theorem ea_nil : EvA W0 tNil Γ W [] := fun W1 _ _ _ _ q => q [] W1 Wd.rfl .nil
theorem ea_cons {tr : TA} (h : EvD W0 ta Γ W d) (hr : EvA W0 tr Γ W ds) : EvA W0 (tCons ta tr) Γ W (d :: ds) := fun W1 l1 σ E Q q =>
  h W1 l1 σ E _ fun v W2 l2 r => hr W2 (l1.tr l2) σ (E.mono l2) _ fun vs W3 l3 rs => q _ W3 (l2.tr l3) (.cons (r.mono l3.fr) rs)
theorem ev_tup {ta : TA} (h : EvA W0 ta Γ W ds) (hc : ds.length ≤ cap) : EvD W0 (tTup ta) Γ W (.tup ds) := fun W1 l1 σ E Q q => h W1 l1 σ E _ fun vs W2 l2 rs => by
  refine ⟨by rw [rs.length]; exact le_cap hc, fun p hp => ?_⟩
  exact q (.ref p) (W2.nw p _) (l2.tr (Wd.le_nw hp)) (.tup upd_same hc (rs.mono (Wd.le_nw hp).fr))
theorem el_lst {ta : TA} (h : EvA W0 ta Γ W ds) (hc : ds.length ≤ cap) : EvL W0 (tLst ta) Γ W ds := fun W1 l1 σ E Q q => h W1 l1 σ E _ fun vs W2 l2 rs => by
  refine ⟨by rw [rs.length]; exact le_cap hc, fun p hp => ?_⟩
  exact q p vs (W2.up p _ (none_of W2.ex hp)) (l2.tr (Wd.le_up hp)) (l2.hh.free hp) (none_of W2.ex hp) upd_same rs
theorem ev_lst {ta : TA} (h : EvA W0 ta Γ W ds) (hc : ds.length ≤ cap) : EvD W0 (tLst ta) Γ W (.lst ds) := (el_lst h hc).fz hc
theorem el_cat (ha : EvD W0 ta Γ W (.lst ds)) (hb : EvD W0 tb Γ W (.lst es)) (hz : ds.length + es.length ≤ cap) : EvL W0 (tOp rCat ta tb) Γ W (ds ++ es) := ev_op2L ha hb fun W1 _ x y rx ry Q q => by
  cases rx with
  | lst hx _ r =>
    cases ry with
    | lst hy _ s =>
      refine ⟨_, _, _, _, rfl, rfl, W1.ex _ _ hx, W1.ex _ _ hy, by rw [r.length, s.length]; exact le_cap hz, fun p hp => ?_⟩
      exact q p _ (W1.up p _ (none_of W1.ex hp)) (Wd.le_up hp) hp (none_of W1.ex hp) upd_same (r.append s)
theorem ev_cat (ha : EvD W0 ta Γ W (.lst ds)) (hb : EvD W0 tb Γ W (.lst es)) (hz : ds.length + es.length ≤ cap) : EvD W0 (tOp rCat ta tb) Γ W (.lst (ds ++ es)) := (el_cat ha hb hz).fz (by rw [List.length_append]; exact hz)
theorem ev_catT (ha : EvD W0 ta Γ W (.tup ds)) (hb : EvD W0 tb Γ W (.tup es)) (hz : ds.length + es.length ≤ cap) : EvD W0 (tOp (rCatA K) ta tb) Γ W (.tup (ds ++ es)) := ev_op2 ha hb fun W1 _ x y rx ry Q q => by
  cases rx with
  | tup hx z1 r =>
    cases ry with
    | tup hy z2 s =>
      refine ⟨_, _, _, _, rfl, rfl, SqT.of (W1.ex _ _ hx), SqT.of (W1.ex _ _ hy), by rw [r.length, s.length]; exact le_cap hz, fun e => ?_, fun _ e => ?_, fun _ _ p hp => ?_⟩
      · subst e
        cases r
        exact q _ W1 Wd.rfl (.tup hy z2 s)
      · subst e
        cases s
        exact q _ W1 Wd.rfl (by rw [List.append_nil]; exact .tup hx z1 r)
      · exact q (.ref p) (W1.nw p _) (Wd.le_nw hp) (.tup upd_same (by rw [List.length_append]; exact hz) ((r.append s).mono (Wd.le_nw hp).fr))
/-- a list or tuple cut -/
def cutL {α : Type} (xs : List α) (lo hi : Option Int) : List α := (xs.drop (HT.sIx xs.length 0 lo)).take (HT.sIx xs.length xs.length hi - HT.sIx xs.length 0 lo)
theorem RpL.cut {f : Hp} {xs : List V} {ds : List D} (r : RpL f xs ds) (lo hi : Option Int) : RpL f (cutV xs lo hi) (cutL ds lo hi) := by
  unfold cutV cutL
  rw [r.length]
  exact (r.drop _).take _
theorem cutL_le {α : Type} (xs : List α) (lo hi : Option Int) : (cutL xs lo hi).length ≤ xs.length := by
  unfold cutL
  rw [List.length_take, List.length_drop]
  omega
theorem eo_none : EvO W0 tNoPart Γ W none := fun W1 _ _ _ _ q => q W1 Wd.rfl
theorem eo_some (h : EvD W0 te Γ W (.int a)) : EvO W0 (tPart te) Γ W (some a) := fun W1 l1 σ E Q q => h W1 l1 σ E _ fun x W2 l2 r => by
  cases r
  exact ⟨a, rfl, q W2 l2⟩
theorem el_sl {tl th : TO} {lo hi : Option Int} (h : EvD W0 te Γ W (.lst ds)) (h1 : EvO W0 tl Γ W lo) (h2 : EvO W0 th Γ W hi) : EvL W0 (tSl (rSlL K) te tl th) Γ W (cutL ds lo hi) := fun W1 l1 σ E Q q =>
  h W1 l1 σ E _ fun x W2 l2 r => h1 W2 (l1.tr l2) σ (E.mono l2) _ fun W3 l3 => h2 W3 ((l1.tr l2).tr l3) σ (E.mono (l2.tr l3)) _ fun W4 l4 => by
    cases r with
    | lst hx z r =>
      have l34 := l3.tr l4
      refine ⟨_, _, rfl, SqL.of (W4.ex _ _ (l34.fr _ _ hx)), fun p hp => ?_⟩
      exact q p _ (W4.up p _ (none_of W4.ex hp)) ((l2.tr l34).tr (Wd.le_up hp)) ((l2.tr l34).hh.free hp) (none_of W4.ex hp) upd_same ((r.mono l34.fr).cut _ _)
theorem ev_sl {tl th : TO} {lo hi : Option Int} (h : EvD W0 te Γ W (.lst ds)) (h1 : EvO W0 tl Γ W lo) (h2 : EvO W0 th Γ W hi) (hc : ds.length ≤ cap) : EvD W0 (tSl (rSlL K) te tl th) Γ W (.lst (cutL ds lo hi)) :=
  (el_sl h h1 h2).fz (Nat.le_trans (cutL_le _ _ _) hc)
/-- a part of the script -/
theorem el_slF {tl th : TO} {lo hi : Option Int} (h : EvD W0 te Γ W (.fl K ds)) (h1 : EvO W0 tl Γ W lo) (h2 : EvO W0 th Γ W hi) : EvL W0 (tSl (rSlL K) te tl th) Γ W (cutL ds lo hi) := fun W1 l1 σ E Q q =>
  h W1 l1 σ E _ fun x W2 l2 r => h1 W2 (l1.tr l2) σ (E.mono l2) _ fun W3 l3 => h2 W3 ((l1.tr l2).tr l3) σ (E.mono (l2.tr l3)) _ fun W4 l4 => by
    cases r with
    | fl hx z r =>
      have l34 := l3.tr l4
      refine ⟨_, _, rfl, ((hx.mono l34.fr).mono W4.ex).sq, fun p hp => ?_⟩
      exact q p _ (W4.up p _ (none_of W4.ex hp)) ((l2.tr l34).tr (Wd.le_up hp)) ((l2.tr l34).hh.free hp) (none_of W4.ex hp) upd_same ((r.mono l34.fr).cut _ _)
theorem cutL_whole {α : Type} {xs : List α} {lo hi : Option Int} (h : HT.sIx xs.length 0 lo = 0 ∧ HT.sIx xs.length xs.length hi = xs.length) : cutL xs lo hi = xs := by
  unfold cutL
  rw [h.1, h.2]
  simp
theorem ev_slT {tl th : TO} {lo hi : Option Int} (h : EvD W0 te Γ W (.tup ds)) (h1 : EvO W0 tl Γ W lo) (h2 : EvO W0 th Γ W hi) : EvD W0 (tSl (rSlA K) te tl th) Γ W (.tup (cutL ds lo hi)) := fun W1 l1 σ E Q q =>
  h W1 l1 σ E _ fun x W2 l2 r => h1 W2 (l1.tr l2) σ (E.mono l2) _ fun W3 l3 => h2 W3 ((l1.tr l2).tr l3) σ (E.mono (l2.tr l3)) _ fun W4 l4 => by
    cases r with
    | tup hx z r =>
      have l34 := l3.tr l4
      refine ⟨_, _, rfl, SqT.of (W4.ex _ _ (l34.fr _ _ hx)), fun e => ?_, fun _ p hp => ?_⟩
      · rw [r.length] at e
        exact q _ W4 (l2.tr l34) (by rw [cutL_whole e]; exact .tup (l34.fr _ _ hx) z (r.mono l34.fr))
      · exact q (.ref p) (W4.nw p _) ((l2.tr l34).tr (Wd.le_nw hp)) (.tup upd_same (Nat.le_trans (cutL_le _ _ _) z) (((r.mono l34.fr).mono (Wd.le_nw hp).fr).cut _ _))
theorem el_rev (h : EvD W0 te Γ W (.lst ds)) : EvL W0 (tRevL K te) Γ W ds.reverse := fun W1 l1 σ E Q q => h W1 l1 σ E _ fun x W2 l2 r => by
  cases r with
  | lst hx z r =>
    refine ⟨_, _, rfl, SqL.of (W2.ex _ _ hx), fun p hp => ?_⟩
    exact q p _ (W2.up p _ (none_of W2.ex hp)) (l2.tr (Wd.le_up hp)) (l2.hh.free hp) (none_of W2.ex hp) upd_same r.reverse
/-- n in a tuple, a list of whole numbers -/
theorem inV_ints (n : Int) : ∀ ns : List Int, inV (.int n) (ns.map V.int) = decide (n ∈ ns)
  | [] => rfl
  | m :: ns => by
    unfold inV
    rw [List.map_cons, List.any_cons]
    have ih : inV (.int n) (ns.map V.int) = decide (n ∈ ns) := inV_ints n ns
    unfold inV at ih
    rw [ih]
    show ((m == n) || decide (n ∈ ns)) = decide (n ∈ m :: ns)
    rw [Bool.eq_iff_iff, Bool.or_eq_true, beq_iff_eq, decide_eq_true_eq, decide_eq_true_eq, List.mem_cons]
    constructor
    · rintro (h | h)
      · exact .inl h.symm
      · exact .inr h
    · rintro (h | h)
      · exact .inl h.symm
      · exact .inr h
theorem flat_ints (ns : List Int) : (ns.map V.int).all flatV = true := by
  rw [List.all_eq_true]
  intro x hx
  obtain ⟨i, _, rfl⟩ := List.mem_map.mp hx
  rfl
theorem ev_inT {ns : List Int} (ha : EvD W0 ta Γ W (.int a)) (hb : EvD W0 tb Γ W (.tup (ns.map .int))) : EvD W0 (tOp (rIn K false) ta tb) Γ W (.bl (decide (a ∈ ns))) := ev_op2 ha hb fun W1 _ x y rx ry Q q => by
  cases rx
  cases ry with
  | tup hx z r =>
    have e := r.ints
    subst e
    refine ⟨_, _, rfl, .inr (SqT.of (W1.ex _ _ hx)), rfl, flat_ints ns, ?_⟩
    rw [if_neg Bool.false_ne_true, inV_ints]
    exact q _ W1 Wd.rfl (.bl _)
/-- data in a list of data -/
def inb (d : D) (ds : List D) : Bool := ds.any fun z => z.eqb d
theorem any_pys {p : PyData → Bool} : ∀ ds : List D, (D.pys ds).any p = ds.any fun z => p z.py
  | [] => by unfold D.pys; rfl
  | d :: ds => by
    unfold D.pys
    rw [List.any_cons, List.any_cons, any_pys ds]
theorem shp_pl (h : d.shp = true) : d.pl = true := (Bool.and_eq_true_iff.mp h).1
theorem shp_sh (h : d.shp = true) : SeqAt.shaped d.py = true := (Bool.and_eq_true_iff.mp h).2
theorem py_lst : D.py (.lst ds) = .list (D.pys ds) := by unfold D.py; rfl
theorem ev_inD (ha : EvH W0 ta Γ W d) (hb : EvH W0 tb Γ W (.lst ds)) (h1 : d.shp = true) (h2 : (D.lst ds).shp = true) : EvD W0 (tOp (rInD K) ta tb) Γ W (.bl (inb d ds)) := ev_op2h ha hb fun W1 _ x y rx ry Q q => by
  refine ⟨_, D.pys ds, rx.dp (Same.refl _) (shp_pl h1), by rw [← py_lst]; exact ry.dp (Same.refl _) (shp_pl h2), shp_sh h1, by rw [← py_lst]; exact shp_sh h2, ?_⟩
  rw [any_pys]
  exact q _ W1 Wd.rfl (.bl _)
theorem ev_notInD (ha : EvH W0 ta Γ W d) (hb : EvH W0 tb Γ W (.lst ds)) (h1 : d.shp = true) (h2 : (D.lst ds).shp = true) : EvD W0 (tOp (rNotInD K) ta tb) Γ W (.bl (!inb d ds)) := ev_op2h ha hb fun W1 _ x y rx ry Q q => by
  refine ⟨_, D.pys ds, rx.dp (Same.refl _) (shp_pl h1), by rw [← py_lst]; exact ry.dp (Same.refl _) (shp_pl h2), shp_sh h1, by rw [← py_lst]; exact shp_sh h2, ?_⟩
  rw [any_pys]
  exact q _ W1 Wd.rfl (.bl _)
theorem ev_eqD (ha : EvH W0 ta Γ W d) (hb : EvH W0 tb Γ W e) (h1 : d.shp = true) (h2 : e.shp = true) : EvD W0 (tOp (rEqD K) ta tb) Γ W (.bl (d.eqb e)) := ev_op2h ha hb fun W1 _ x y rx ry Q q =>
  ⟨_, _, rx.dp (Same.refl _) (shp_pl h1), ry.dp (Same.refl _) (shp_pl h2), shp_sh h1, shp_sh h2, q _ W1 Wd.rfl (.bl _)⟩
theorem ev_neD (ha : EvH W0 ta Γ W d) (hb : EvH W0 tb Γ W e) (h1 : d.shp = true) (h2 : e.shp = true) : EvD W0 (tOp (rNeD K) ta tb) Γ W (.bl (!d.eqb e)) := ev_op2h ha hb fun W1 _ x y rx ry Q q =>
  ⟨_, _, rx.dp (Same.refl _) (shp_pl h1), ry.dp (Same.refl _) (shp_pl h2), shp_sh h1, shp_sh h2, q _ W1 Wd.rfl (.bl _)⟩

/-! ### dicts -/
theorem key_map (k : List Int) : (k.map (Sum.inl : Int → Key)).map kV = k.map V.int := by
  rw [List.map_map]
  rfl
theorem dget_rp {f H : Hp} {x y : V} {ks : List (List Int × D)} {k : List Int} (rx : Rp f x (.dct ks)) (ry : Rp H y (.tup (k.map .int))) (e : Same f H) :
    ∃ a o, x = .ref a ∧ DGet H a y o ∧ o.isSome = (lk ks k).isSome ∧ ∀ d, lk ks k = some d → ∃ v, o = some v ∧ Rp f v d := by
  cases rx with
  | dct hx hz r =>
    cases ry with
    | tup hy _ s =>
      have q := s.ints
      subst q
      refine ⟨_, _, rfl, DGet.t (k := k.map Sum.inl) (e _ _ hx) (by rw [key_map]; exact hy), r.isSome, fun d hd => ?_⟩
      exact (r.val k).1 d hd
theorem ev_din {ks : List (List Int × D)} {k : List Int} (ha : EvH W0 ta Γ W (.tup (k.map .int))) (hb : EvH W0 tb Γ W (.dct ks)) : EvD W0 (tDIn ta tb) Γ W (.bl (lk ks k).isSome) := fun W1 l1 σ E Q q =>
  ha W1 l1 σ E _ fun x W2 l2 rx => hb W2 (l1.tr l2) σ (E.mono l2) _ fun y W3 l3 ry => by
    obtain ⟨a, o, e1, e2, e3, _⟩ := dget_rp ry (rx.mono l3.hh) (Same.refl _)
    refine ⟨a, o, e1, e2, ?_⟩
    rw [e3]
    exact q _ W3 (l2.tr l3) (.bl _)
theorem ev_dnotin {ks : List (List Int × D)} {k : List Int} (ha : EvH W0 ta Γ W (.tup (k.map .int))) (hb : EvH W0 tb Γ W (.dct ks)) : EvD W0 (tDNotIn ta tb) Γ W (.bl (!(lk ks k).isSome)) := fun W1 l1 σ E Q q =>
  ha W1 l1 σ E _ fun x W2 l2 rx => hb W2 (l1.tr l2) σ (E.mono l2) _ fun y W3 l3 ry => by
    obtain ⟨a, o, e1, e2, e3, _⟩ := dget_rp ry (rx.mono l3.hh) (Same.refl _)
    refine ⟨a, o, e1, e2, ?_⟩
    rw [e3]
    exact q _ W3 (l2.tr l3) (.bl _)
theorem ev_dget {ks : List (List Int × D)} {k : List Int} (ha : EvD W0 ta Γ W (.dct ks)) (hb : EvH W0 tb Γ W (.tup (k.map .int))) (h : lk ks k = some d) : EvD W0 (tDGet ta tb) Γ W d := fun W1 l1 σ E Q q =>
  ha W1 l1 σ E _ fun x W2 l2 rx => hb W2 (l1.tr l2) σ (E.mono l2) _ fun y W3 l3 ry => by
    obtain ⟨a, o, e1, e2, _, e4⟩ := dget_rp (rx.mono l3.fr) ry W3.ex
    obtain ⟨v, rfl, rv⟩ := e4 d h
    exact ⟨a, v, e1, e2, q v W3 (l2.tr l3) rv⟩
/-- an item of a dict of one's own -/
theorem ev_dgetA {i : Nat} {l : Addr} {ks : List (List Int × D)} {k : List Int} (hi : Γ[i]? = some (.dac l ks)) (hb : EvH W0 tb Γ W (.tup (k.map .int))) (h : lk ks k = some d) : EvD W0 (tDGet (tVar i) tb) Γ W d := fun W1 l1 σ E Q q => by
  obtain ⟨o, h1, rfl, _, _, _, _, _⟩ := E.ok i _ hi
  refine ⟨_, h1, ?_⟩
  refine hb W1 l1 σ E _ fun y W2 l2 ry => ?_
  obtain ⟨o, h2, h3, _, _, xs, hx, r⟩ := (E.mono l2).ok i _ hi
  cases ry with
  | tup hy _ s =>
    have z := s.ints
    subst z
    obtain ⟨v, e1, e2⟩ := (r.val k).1 d h
    exact ⟨l, v, rfl, by rw [← e1]; exact DGet.t (k := k.map Sum.inl) hx (by rw [key_map]; exact hy), q v W2 l2 e2⟩
/-- in, not in a dict of one's own -/
theorem ev_dinA {i : Nat} {l : Addr} {ks : List (List Int × D)} {k : List Int} (ha : EvH W0 ta Γ W (.tup (k.map .int))) (hi : Γ[i]? = some (.dac l ks)) : EvD W0 (tDIn ta (tVar i)) Γ W (.bl (lk ks k).isSome) := fun W1 l1 σ E Q q =>
  ha W1 l1 σ E _ fun x W2 l2 rx => by
    obtain ⟨o, h1, rfl, _, _, xs, hx, r⟩ := (E.mono l2).ok i _ hi
    refine ⟨_, h1, ?_⟩
    cases rx with
    | tup hy _ s =>
      have z := s.ints
      subst z
      refine ⟨l, _, rfl, DGet.t (k := k.map Sum.inl) hx (by rw [key_map]; exact hy), ?_⟩
      rw [r.isSome]
      exact q _ W2 l2 (.bl _)
theorem ev_dnotinA {i : Nat} {l : Addr} {ks : List (List Int × D)} {k : List Int} (ha : EvH W0 ta Γ W (.tup (k.map .int))) (hi : Γ[i]? = some (.dac l ks)) : EvD W0 (tDNotIn ta (tVar i)) Γ W (.bl (!(lk ks k).isSome)) := fun W1 l1 σ E Q q =>
  ha W1 l1 σ E _ fun x W2 l2 rx => by
    obtain ⟨o, h1, rfl, _, _, xs, hx, r⟩ := (E.mono l2).ok i _ hi
    refine ⟨_, h1, ?_⟩
    cases rx with
    | tup hy _ s =>
      have z := s.ints
      subst z
      refine ⟨l, _, rfl, DGet.t (k := k.map Sum.inl) hx (by rw [key_map]; exact hy), ?_⟩
      rw [r.isSome]
      exact q _ W2 l2 (.bl _)
/-- d.get(k, x), d one's own -/
theorem ev_dget2A {i : Nat} {l : Addr} {ks : List (List Int × D)} {k : List Int} (hi : Γ[i]? = some (.dac l ks)) (hb : EvH W0 tb Γ W (.tup (k.map .int))) (hc : EvD W0 tc Γ W e) : EvD W0 (tDGet2 (tVar i) tb tc) Γ W ((lk ks k).getD e) := fun W1 l1 σ E Q q => by
  obtain ⟨o, h1, rfl, _, _, _, hx0, _⟩ := E.ok i _ hi
  refine ⟨_, h1, l, rfl, .inr ⟨_, .inl hx0⟩, ?_⟩
  refine hb W1 l1 σ E _ fun y W2 l2 ry => ?_
  refine hc W2 (l1.tr l2) σ (E.mono l2) _ fun z W3 l3 rz => ?_
  obtain ⟨o, h2, h3, _, _, xs, hx, r⟩ := (E.mono (l2.tr l3)).ok i _ hi
  cases ry with
  | tup hy _ s =>
    have u := s.ints
    subst u
    refine ⟨_, DGet.t (k := k.map Sum.inl) hx (by rw [key_map]; exact l3.hh _ _ hy), ?_⟩
    cases h : lk ks k with
    | none =>
      rw [(r.val k).2 h]
      exact q _ W3 (l2.tr l3) (by rw [h]; exact rz)
    | some d =>
      obtain ⟨v, e1, e2⟩ := (r.val k).1 d h
      rw [e1]
      exact q _ W3 (l2.tr l3) (by rw [h]; exact e2)

/-! ### calls of built-in words -/
theorem ev_abs (ha : EvD W0 ta Γ W (.int a)) : EvD W0 (tCB rAbs (tCons ta tNil)) Γ W (.int (if a < 0 then -a else a)) := fun W1 l1 σ E Q q => ha W1 l1 σ E _ fun x W2 l2 r => by
  cases r
  exact ⟨a, rfl, q _ W2 l2 (.int _)⟩
theorem ev_max2 (ha : EvD W0 ta Γ W (.int a)) (hb : EvD W0 tb Γ W (.int b)) : EvD W0 (tCB rMax2 (tCons ta (tCons tb tNil))) Γ W (.int (max a b)) := fun W1 l1 σ E Q q =>
  ha W1 l1 σ E _ fun x W2 l2 r => hb W2 (l1.tr l2) σ (E.mono l2) _ fun y W3 l3 s => by
    cases r; cases s
    refine ⟨a, b, rfl, ?_⟩
    have e : (if b > a then b else a) = max a b := by omega
    rw [e]
    exact q _ W3 (l2.tr l3) (.int _)
theorem ev_min2 (ha : EvD W0 ta Γ W (.int a)) (hb : EvD W0 tb Γ W (.int b)) : EvD W0 (tCB rMin2 (tCons ta (tCons tb tNil))) Γ W (.int (min a b)) := fun W1 l1 σ E Q q =>
  ha W1 l1 σ E _ fun x W2 l2 r => hb W2 (l1.tr l2) σ (E.mono l2) _ fun y W3 l3 s => by
    cases r; cases s
    refine ⟨a, b, rfl, ?_⟩
    have e : (if b < a then b else a) = min a b := by omega
    rw [e]
    exact q _ W3 (l2.tr l3) (.int _)
theorem ev_all {bs : List Bool} (ha : EvH W0 ta Γ W (.lst (bs.map .bl))) : EvD W0 (tCB (rAll K) (tCons ta tNil)) Γ W (.bl (bs.all id)) := fun W1 l1 σ E Q q => ha W1 l1 σ E _ fun x W2 l2 r => by
  cases r with
  | lst hx z r =>
    have e := r.bools
    subst e
    exact ⟨_, bs, rfl, SqL.of hx, q _ W2 l2 (.bl _)⟩
theorem ev_any {bs : List Bool} (ha : EvH W0 ta Γ W (.lst (bs.map .bl))) : EvD W0 (tCB (rAny K) (tCons ta tNil)) Γ W (.bl (bs.any id)) := fun W1 l1 σ E Q q => ha W1 l1 σ E _ fun x W2 l2 r => by
  cases r with
  | lst hx z r =>
    have e := r.bools
    subst e
    exact ⟨_, bs, rfl, SqL.of hx, q _ W2 l2 (.bl _)⟩
theorem ev_sum {ns : List Int} (ha : EvH W0 ta Γ W (.lst (ns.map .int))) : EvD W0 (tCB (rSum K) (tCons ta tNil)) Γ W (.int ns.sum) := fun W1 l1 σ E Q q => ha W1 l1 σ E _ fun x W2 l2 r => by
  cases r with
  | lst hx z r =>
    have e := r.ints
    subst e
    exact ⟨_, ns, rfl, SqL.of hx, q _ W2 l2 (.int _)⟩
theorem el_list (ha : EvD W0 ta Γ W (.lst ds)) : EvL W0 (tCB (rListS K) (tCons ta tNil)) Γ W ds := fun W1 l1 σ E Q q => ha W1 l1 σ E _ fun x W2 l2 r => by
  cases r with
  | lst hx z r =>
    refine ⟨_, _, rfl, .inl (SqL.of (W2.ex _ _ hx)), fun p hp => ?_⟩
    exact q p _ (W2.up p _ (none_of W2.ex hp)) (l2.tr (Wd.le_up hp)) (l2.hh.free hp) (none_of W2.ex hp) upd_same r
theorem el_listT (ha : EvD W0 ta Γ W (.tup ds)) : EvL W0 (tCB (rListS K) (tCons ta tNil)) Γ W ds := fun W1 l1 σ E Q q => ha W1 l1 σ E _ fun x W2 l2 r => by
  cases r with
  | tup hx z r =>
    refine ⟨_, _, rfl, .inr (SqT.of (W2.ex _ _ hx)), fun p hp => ?_⟩
    exact q p _ (W2.up p _ (none_of W2.ex hp)) (l2.tr (Wd.le_up hp)) (l2.hh.free hp) (none_of W2.ex hp) upd_same r
theorem ev_tupL (ha : EvD W0 ta Γ W (.lst ds)) : EvD W0 (tCB (rTupS K) (tCons ta tNil)) Γ W (.tup ds) := fun W1 l1 σ E Q q => ha W1 l1 σ E _ fun x W2 l2 r => by
  cases r with
  | lst hx z r =>
    refine ⟨_, _, rfl, .inl ⟨SqL.of (W2.ex _ _ hx), fun p hp => ?_⟩⟩
    exact q (.ref p) (W2.nw p _) (l2.tr (Wd.le_nw hp)) (.tup upd_same z (r.mono (Wd.le_nw hp).fr))
theorem ev_tupT (ha : EvD W0 ta Γ W (.tup ds)) : EvD W0 (tCB (rTupS K) (tCons ta tNil)) Γ W (.tup ds) := fun W1 l1 σ E Q q => ha W1 l1 σ E _ fun x W2 l2 r => by
  cases r with
  | tup hx z r => exact ⟨_, _, rfl, .inr ⟨SqT.of (W2.ex _ _ hx), q _ W2 l2 (.tup hx z r)⟩⟩
theorem ev_intB {b : Bool} (ha : EvD W0 ta Γ W (.bl b)) : EvD W0 (tCB rIntOf (tCons ta tNil)) Γ W (.int (if b then 1 else 0)) := fun W1 l1 σ E Q q => ha W1 l1 σ E _ fun x W2 l2 r => by
  cases r
  exact ⟨b, rfl, q _ W2 l2 (.int _)⟩ |> Or.inr
/-- isinstance: the type of data, and the library's own answer for two types -/
def D.ty : D → Value
  | .non => .type "NoneType"
  | .bl _ => .type "bool"
  | .int _ => .type "int"
  | .str _ => .type "str"
  | .lst _ => .type "list"
  | .tup _ => .type "tuple"
  | .dct _ => .type "dict"
  | .obj C _ => .ref C
  | .fl _ _ => .type "list"
structure OkC (K : PySem.W.Frag) (C : Addr) : Prop where
  cl : Cls K C
  ha : PySem.W.findIn K (.ref C) "__class__" = some (some (.builtin "object.__class__"))
  hn : PySem.W.specialIn K (.builtin "object.__class__") "__get__" = some (some (.builtin "getset_descriptor.__get__"))
  htk : PySem.W.takesIn K (.builtin "object.__class__") = some true
  hm : PySem.W.mroIn K C (.type "object") = some true
def D.okC (K : PySem.W.Frag) : D → Prop
  | .obj C _ => OkC K C
  | .fl _ _ => False
  | _ => True
theorem Rp.tyx {H : Hp} {v : V} (r : Rp H v d) (h : d.okC K) : TyX K H v d.ty := by
  cases r with
  | non => exact .base .non
  | bl b => exact .base (.bl b)
  | int i => exact .base (.int i)
  | str s => exact .base (.str s)
  | lst e _ _ => exact .base (.lst e)
  | tup e _ _ => exact .base (.tup e)
  | dct e _ _ => exact .base (.dT e)
  | obj e _ => exact .base (.ins e h.cl h.ha h.hn h.htk h.hm)
  | fl _ _ _ => exact h.elim
theorem ev_isi {c : V} {u : Value} {b : Bool} (ha : EvH W0 ta Γ W d) (k : ClsV c u) (hd : d.okC K) (hb : PySem.W.kitOne K d.ty u = some b) : EvD W0 (tCB (rIsi K) (tCons ta (tCons (tC c) tNil))) Γ W (.bl b) := fun W1 l1 σ E Q q => ha W1 l1 σ E _ fun x W2 l2 r =>
  ⟨x, c, d.ty, u, b, rfl, k, r.tyx hd, hb, q _ W2 l2 (.bl _)⟩

/-! ### fields, calls -/
theorem ev_fld {C : Addr} {fs : List (Str × D)} {f : Str} (ha : EvD W0 ta Γ W (.obj C fs)) (hl : fs.lookup f = some d) (hc : Cls K C) (hn : NoAttr K C f) : EvD W0 (tFld K ta f) Γ W d := fun W1 l1 σ E Q q => ha W1 l1 σ E _ fun x W2 l2 r => by
  cases r with
  | obj e r =>
    obtain ⟨v, h1, h2⟩ := r.lookup hl
    exact ⟨_, C, _, _, v, rfl, W2.ex _ _ e, hc, hn, h1, q v W2 l2 h2⟩
/-- the promise of a def that makes data of data and changes nothing: from the arguments ds it hands back r with g ds r -/
def Pure (g : List D → D → Prop) : Sp := fun vs H Q _ => ∃ (W : Wd) (ds : List D) (r : D), W.h = H ∧ RpL W.f vs ds ∧ g ds r ∧ ∀ v W', W ≤ W' → Rp W'.f v r → Q v W'.h
theorem ev_call {g : List D → D → Prop} {E : XK} {ta : TA} (h : EvA W0 ta Γ W ds) (hg : g ds d) : EvD W0 (tCall (Pure g) [] E ta) Γ W d := fun W1 l1 σ En Q q => h W1 l1 σ En _ fun vs W2 l2 r => by
  refine ⟨W2, ds, d, rfl, ?_, hg, fun v W' l' r' => q v W' (l2.tr l') r'⟩
  rw [List.append_nil]
  exact r
theorem ev_meth {g : List D → D → Prop} {E : XK} {ta : TA} {C : Addr} {m : Str} {fs : List (Str × D)} (ho : EvD W0 te Γ W (.obj C fs)) (hm : fs.lookup m = none) (h : EvA W0 ta Γ W ds) (hg : g (.obj C fs :: ds) d) :
    EvD W0 (tMeth C m (Pure g) [] E te ta) Γ W d := fun W1 l1 σ En Q q => ho W1 l1 σ En _ fun x W2 l2 r => by
  cases r with
  | obj e r =>
    refine ⟨_, _, _, rfl, W2.ex _ _ e, r.lookup_none hm, ?_⟩
    refine h W2 (l1.tr l2) σ (En.mono l2) _ fun vs W3 l3 rs => ?_
    refine ⟨W3, _, d, rfl, .cons (.obj (l3.fr _ _ e) (r.mono l3.fr)) ?_, hg, fun v W' l' r' => q v W' ((l2.tr l3).tr l') r'⟩
    rw [List.append_nil]
    exact rs

/-! ### and, or, not, if, as values -/
theorem ev_if {b : Bool} (h : EvT W0 tt Γ W b) (h1 : b = true → EvD W0 ta Γ W d) (h2 : b = false → EvD W0 tb Γ W e) : EvD W0 (tIf tt ta tb) Γ W (if b then d else e) := fun W1 l1 σ E Q q => h W1 l1 σ E _ fun W2 l2 => by
  cases b with
  | true => exact h1 rfl W2 (l1.tr l2) σ (E.mono l2) _ fun v W3 l3 r => q v W3 (l2.tr l3) r
  | false => exact h2 rfl W2 (l1.tr l2) σ (E.mono l2) _ fun v W3 l3 r => q v W3 (l2.tr l3) r
theorem ev_and {a b : Bool} (h1 : EvD W0 ta Γ W (.bl a)) (h2 : a = true → EvD W0 tb Γ W (.bl b)) : EvD W0 (tAndV ta tb) Γ W (.bl (a && b)) := fun W1 l1 σ E Q q => h1 W1 l1 σ E _ fun x W2 l2 r => by
  cases r
  refine ⟨a, rfl, ?_⟩
  cases a with
  | true => exact h2 rfl W2 (l1.tr l2) σ (E.mono l2) _ fun v W3 l3 r => q v W3 (l2.tr l3) r
  | false => exact q _ W2 l2 (.bl _)
theorem ev_or {a b : Bool} (h1 : EvD W0 ta Γ W (.bl a)) (h2 : a = false → EvD W0 tb Γ W (.bl b)) : EvD W0 (tOrV ta tb) Γ W (.bl (a || b)) := fun W1 l1 σ E Q q => h1 W1 l1 σ E _ fun x W2 l2 r => by
  cases r
  refine ⟨a, rfl, ?_⟩
  cases a with
  | false => exact h2 rfl W2 (l1.tr l2) σ (E.mono l2) _ fun v W3 l3 r => q v W3 (l2.tr l3) r
  | true => exact q _ W2 l2 (.bl _)
theorem ev_not {a : Bool} (h : EvD W0 ta Γ W (.bl a)) : EvD W0 (tNotV ta) Γ W (.bl (!a)) := fun W1 l1 σ E Q q => h W1 l1 σ E _ fun x W2 l2 r => by
  cases r
  exact ⟨a, rfl, q _ W2 l2 (.bl _)⟩
/-! ### tests -/
theorem et_test {b : Bool} (h : EvD W0 te Γ W (.bl b)) : EvT W0 (tTest te) Γ W b := fun W1 l1 σ E Q q => h W1 l1 σ E _ fun x W2 l2 r => by
  cases r
  exact ⟨b, rfl, q W2 l2⟩
theorem et_B {b : Bool} (h : EvD W0 te Γ W (.bl b)) : EvT W0 (tB te) Γ W b := fun W1 l1 σ E Q q => h W1 l1 σ E _ fun x W2 l2 r => by
  cases r
  exact ⟨b, rfl, q W2 l2⟩
theorem et_and {a b : Bool} (h1 : EvT W0 tt Γ W a) (h2 : a = true → EvT W0 tu Γ W b) : EvT W0 (tAnd tt tu) Γ W (a && b) := fun W1 l1 σ E Q q => h1 W1 l1 σ E _ fun W2 l2 => by
  cases a with
  | true => exact h2 rfl W2 (l1.tr l2) σ (E.mono l2) _ fun W3 l3 => q W3 (l2.tr l3)
  | false => exact q W2 l2
theorem et_or {a b : Bool} (h1 : EvT W0 tt Γ W a) (h2 : a = false → EvT W0 tu Γ W b) : EvT W0 (tOr tt tu) Γ W (a || b) := fun W1 l1 σ E Q q => h1 W1 l1 σ E _ fun W2 l2 => by
  cases a with
  | false => exact h2 rfl W2 (l1.tr l2) σ (E.mono l2) _ fun W3 l3 => q W3 (l2.tr l3)
  | true => exact q W2 l2
theorem et_not {a : Bool} (h : EvT W0 tt Γ W a) : EvT W0 (tNot tt) Γ W (!a) := fun W1 l1 σ E Q q => h W1 l1 σ E _ fun W2 l2 => q W2 l2
theorem et_yes : EvT W0 tYes Γ W true := fun W1 _ _ _ _ q => q W1 Wd.rfl
end
end Fg

set_option Elab.async false
set_option linter.all false
set_option maxRecDepth 100000
set_option maxHeartbeats 4000000
/-! Walks, targets, comprehensions, statements, loops, defs. -/
namespace Fg
open PySem L2 RZ

/-! ### targets -/
def TgD (W0 : Wd) (g : TG) (sl : List Nat) (d : D) (Γ Γ' : List Sl) : Prop := ∀ W σ v, En W0 W σ Γ → Rp W.f v d → ∀ Q : L2.St → Hp → Prop,
  (∀ σ', En W0 W σ' Γ' → (∀ i, i ∉ sl → σ'[i]? = σ[i]?) → σ'.length = σ.length → Q σ' W.h) → g v σ W.h Q
def TgsD (W0 : Wd) (g : TGs) (sl : List Nat) (ds : List D) (Γ Γ' : List Sl) : Prop := ∀ W σ vs, En W0 W σ Γ → RpL W.f vs ds → ∀ Q : L2.St → Hp → Prop,
  (∀ σ', En W0 W σ' Γ' → (∀ i, i ∉ sl → σ'[i]? = σ[i]?) → σ'.length = σ.length → Q σ' W.h) → g vs σ W.h Q
section
variable {K : PySem.W.Frag} {W0 W W' : Wd} {Γ Γ1 Γ2 Γ' : List Sl} {d : D} {ds : List D} {g : TG} {gs : TGs} {s1 s2 : List Nat}
theorem tg_name {i : Nat} : TgD W0 (gName i) [i] d Γ (Γ.set i (.dat d)) := fun W σ v E r Q q => q _ (E.putD r) (fun j hj => List.getElem?_set_ne (fun z => hj (by simp [z]))) (List.length_set ..)
theorem tg_nil : TgsD W0 gNil [] [] Γ Γ := fun W σ vs E r Q q => by
  cases r
  exact ⟨rfl, q σ E (fun _ _ => rfl) rfl⟩
theorem tg_cons (h1 : TgD W0 g s1 d Γ Γ1) (h2 : TgsD W0 gs s2 ds Γ1 Γ2) : TgsD W0 (gCons g gs) (s1 ++ s2) (d :: ds) Γ Γ2 := fun W σ vs E r Q q => by
  cases r with
  | cons r rs =>
    refine ⟨_, _, rfl, h1 W σ _ E r _ fun σ1 E1 a1 b1 => h2 W σ1 _ E1 rs _ fun σ2 E2 a2 b2 => q σ2 E2 (fun i hi => ?_) (b2.trans b1)⟩
    rw [a2 i (fun z => hi (List.mem_append_right _ z)), a1 i (fun z => hi (List.mem_append_left _ z))]
theorem tg_tup {n : Nat} (h : TgsD W0 gs s1 ds Γ Γ') (hn : ds.length = n) : TgD W0 (gTup K n gs) s1 (.tup ds) Γ Γ' := fun W σ v E r Q q => by
  cases r with
  | tup hx hz r => exact ⟨_, _, rfl, SqT.of (W.ex _ _ hx), by rw [r.length]; exact hn, h W σ _ E r Q q⟩
/-- (a, b) = a pair -/
theorem tg_pair {i j : Nat} {x y : D} : TgD W0 (gTup K 2 (gCons (gName i) (gCons (gName j) gNil))) [i, j] (.tup [x, y]) Γ ((Γ.set i (.dat x)).set j (.dat y)) := tg_tup (tg_cons tg_name (tg_cons tg_name tg_nil)) rfl
end

/-! ### walks -/
def WkD (J : It) (W2 : Wd) (ds : List D) : Prop := ∃ (G : Hp → Prop) (Y : Nat → Hp → V → Hp → Prop), Walk J ds.length G Y ∧ (∀ W' : Wd, Same W2.f W'.f → G W'.h) ∧
  ∀ (i : Nat) (W' : Wd) (x : V) (H' : Hp), i < ds.length → Same W2.f W'.f → Y i W'.h x H' → ∃ W'' : Wd, W' ≤ W'' ∧ W''.h = H' ∧ ∃ d, ds[i]? = some d ∧ Rp W''.f x d
def ItD (W0 : Wd) (wi : TI) (Γ : List Sl) (W : Wd) (ds : List D) : Prop := ∀ W1, W ≤ W1 → ∀ σ, En W0 W1 σ Γ → ∀ R : It → Hp → Prop, (∀ J W2, W1 ≤ W2 → WkD J W2 ds → R J W2.h) → wi σ W1.h R
section
variable {K : PySem.W.Frag} {W0 W W' : Wd} {Γ : List Sl} {te ta tb : TE} {d e : D} {ds es : List D} {a b : Int}
theorem ItD.to (h : ItD W0 wi Γ W ds) (q : ds = es) : ItD W0 wi Γ W es := q ▸ h
theorem wkd_list {W2 : Wd} {p : Addr} {xs : List V} (hx : W2.f p = some (.lst xs)) (r : RpL W2.f xs ds) : WkD (Itl K p) W2 ds := by
  refine ⟨_, _, by rw [← r.length]; exact walk_list (K := K) (a := p) (xs := xs), fun W' l => SqL.of (W'.ex _ _ (l _ _ hx)), fun i W' x H' hi l y => ?_⟩
  obtain ⟨e, hxi⟩ := y
  obtain ⟨d, h1, h2⟩ := r.getV hxi
  exact ⟨W', Wd.rfl, e.symm, d, h1, h2.mono l⟩
theorem wkd_tup {W2 : Wd} {p : Addr} {xs : List V} (hx : W2.f p = some (.tup xs)) (r : RpL W2.f xs ds) : WkD (Itt K p) W2 ds := by
  refine ⟨_, _, by rw [← r.length]; exact walk_tup (K := K) (a := p) (xs := xs), fun W' l => SqT.of (W'.ex _ _ (l _ _ hx)), fun i W' x H' hi l y => ?_⟩
  obtain ⟨e, hxi⟩ := y
  obtain ⟨d, h1, h2⟩ := r.getV hxi
  exact ⟨W', Wd.rfl, e.symm, d, h1, h2.mono l⟩
theorem it_list (h : EvD W0 te Γ W (.lst ds)) : ItD W0 (iList K te) Γ W ds := fun W1 l1 σ E R q => h W1 l1 σ E _ fun v W2 l2 r => by
  cases r with
  | lst hx hz r => exact ⟨_, rfl, ⟨_, SqL.of (W2.ex _ _ hx)⟩, q _ W2 l2 (wkd_list hx r)⟩
theorem it_tup (h : EvD W0 te Γ W (.tup ds)) : ItD W0 (iTup K te) Γ W ds := fun W1 l1 σ E R q => h W1 l1 σ E _ fun v W2 l2 r => by
  cases r with
  | tup hx hz r => exact ⟨_, rfl, ⟨_, SqT.of (W2.ex _ _ hx)⟩, q _ W2 l2 (wkd_tup hx r)⟩
theorem wkd_rng {W2 : Wd} {lo : Int} {n : Nat} : WkD (Itr lo n) W2 ((List.range n).map fun i => .int (lo + (i : Nat))) := by
  refine ⟨_, _, by rw [List.length_map, List.length_range]; exact walk_range, fun _ _ => True.intro, fun i W' x H' hi _ y => ?_⟩
  rw [List.length_map, List.length_range] at hi
  obtain ⟨e, rfl⟩ := y
  exact ⟨W', Wd.rfl, e.symm, .int (lo + (i : Nat)), by simp [hi], .int _⟩
theorem it_rng1 {ta : TA} {n : Int} (h : EvA W0 ta Γ W [.int n]) (hn : n < 2 ^ 62 ∧ -(2 ^ 62) ≤ n) : ItD W0 (iRng1 ta) Γ W ((List.range n.toNat).map fun (i : Nat) => .int (i : Int)) := fun W1 l1 σ E R q => h W1 l1 σ E _ fun vs W2 l2 r => by
  cases r with
  | cons h1 r =>
    cases h1; cases r
    refine ⟨n, rfl, hn.2, hn.1, q _ W2 l2 ?_⟩
    have := wkd_rng (W2 := W2) (lo := 0) (n := n.toNat)
    simpa using this
theorem it_rng2 {ta : TA} (h : EvA W0 ta Γ W [.int a, .int b]) (hn : -(2 ^ 62) ≤ a ∧ a < 2 ^ 62 ∧ -(2 ^ 62) ≤ b ∧ b < 2 ^ 62) : ItD W0 (iRng2 ta) Γ W ((List.range (b - a).toNat).map fun (i : Nat) => .int (a + (i : Int))) := fun W1 l1 σ E R q => h W1 l1 σ E _ fun vs W2 l2 r => by
  cases r with
  | cons h1 r =>
    cases r with
    | cons h2 r =>
      cases h1; cases h2; cases r
      exact ⟨a, b, rfl, hn, q _ W2 l2 wkd_rng⟩
/-- what enumerate gives -/
def enm : Nat → List D → List D
  | _, [] => []
  | i, d :: ds => .tup [.int (i : Int), d] :: enm (i + 1) ds
theorem enm_length : ∀ (k : Nat) (ds : List D), (enm k ds).length = ds.length
  | _, [] => rfl
  | k, d :: ds => by rw [enm, List.length_cons, List.length_cons, enm_length]
theorem enm_get : ∀ (k : Nat) (ds : List D) (i : Nat), (enm k ds)[i]? = ds[i]?.map fun d => .tup [.int ((k + i : Nat) : Int), d]
  | _, [], i => by simp [enm]
  | k, d :: ds, 0 => by simp [enm]
  | k, d :: ds, i + 1 => by
    rw [enm, List.getElem?_cons_succ, List.getElem?_cons_succ, enm_get (k + 1) ds i]
    have e : k + 1 + i = k + (i + 1) := by omega
    rw [e]
theorem pair_new {W' : Wd} {T : Addr} {x y : V} {dx dy : D} (hT : W'.h T = none) (rx : Rp W'.f x dx) (ry : Rp W'.f y dy) : ∃ W'' : Wd, W' ≤ W'' ∧ W''.h = upd W'.h T (.tup [x, y]) ∧ Rp W''.f (.ref T) (.tup [dx, dy]) := by
  have l := Wd.le_nw (W := W') (o := .tup [x, y]) hT
  exact ⟨W'.nw T _, l, rfl, .tup upd_same (by show 2 ≤ cap; decide) (.cons (rx.mono l.fr) (.cons (ry.mono l.fr) .nil))⟩
theorem it_enum {ta : TA} (h : EvA W0 ta Γ W [.lst ds]) : ItD W0 (iEnum K ta) Γ W (enm 0 ds) := fun W1 l1 σ E R q => h W1 l1 σ E _ fun vs W2 l2 r => by
  cases r with
  | cons h1 r =>
    cases r
    cases h1 with
    | lst hx hz r =>
      rename_i p xs
      refine ⟨p, xs, rfl, SqL.of (W2.ex _ _ hx), q _ W2 l2 ?_⟩
      refine ⟨_, _, by rw [enm_length, ← r.length]; exact walk_enum (K := K) (a := p) (xs := xs), fun W' l => SqL.of (W'.ex _ _ (l _ _ hx)), fun i W' x H' hi l y => ?_⟩
      obtain ⟨T, u, v, rfl, hT, rfl, e1, e2⟩ := y
      cases e1
      obtain ⟨d, h1, h2⟩ := r.getV e2
      obtain ⟨W'', l3, e3, r3⟩ := pair_new hT (.int (i : Int)) (h2.mono l)
      refine ⟨W'', l3, e3, _, ?_, r3⟩
      rw [enm_get, h1]
      simp
def zipD (ds es : List D) : List D := List.zipWith (fun x y => D.tup [x, y]) ds es
theorem zipD_get {ds es : List D} {i : Nat} {d e : D} (h1 : ds[i]? = some d) (h2 : es[i]? = some e) : (zipD ds es)[i]? = some (.tup [d, e]) := by
  unfold zipD
  rw [List.getElem?_zipWith, h1, h2]
theorem it_zipL {ta : TA} (h : EvA W0 ta Γ W [.lst ds, .lst es]) : ItD W0 (iZipA K ta) Γ W (zipD ds es) := fun W1 l1 σ E R q => h W1 l1 σ E _ fun vs W2 l2 r => by
  cases r with
  | cons h1 r =>
    cases r with
    | cons h2 r =>
      cases r
      cases h1 with
      | lst hx hz r =>
        cases h2 with
        | lst hy hz2 s =>
          rename_i p xs q0 ys
          refine ⟨p, q0, xs, ys, rfl, .inl ⟨SqL.of (W2.ex _ _ hx), SqL.of (W2.ex _ _ hy), q _ W2 l2 ?_⟩⟩
          refine ⟨_, _, walk_zip (K := K) (a := p) (b := q0) (xs := xs) (ys := ys) (by unfold zipD; rw [List.length_zipWith, r.length, s.length]), fun W' l => ⟨SqL.of (W'.ex _ _ (l _ _ hx)), SqL.of (W'.ex _ _ (l _ _ hy))⟩, fun i W' x H' hi l y => ?_⟩
          obtain ⟨T, u, v, rfl, hT, rfl, e1, e2⟩ := y
          obtain ⟨d, h1, h2⟩ := r.getV e1
          obtain ⟨e, h3, h4⟩ := s.getV e2
          obtain ⟨W'', l3, e3, r3⟩ := pair_new hT (h2.mono l) (h4.mono l)
          exact ⟨W'', l3, e3, _, zipD_get h1 h3, r3⟩
end

/-! ### comprehensions -/
theorem wipe_of {σ σ' : L2.St} {sl : List Nat} (hl : σ'.length = σ.length) (h : ∀ i, i ∉ sl → σ'[i]? = σ[i]?) : ∀ {vs : List Nat}, (∀ i ∈ sl, i ∈ vs) → wipe σ' vs = wipe σ vs := by
  intro vs hs
  apply List.ext_getElem?
  intro i
  have key : ∀ (τ : L2.St) (us : List Nat) (i : Nat), (wipe τ us)[i]? = if i ∈ us then (if i < τ.length then some none else none) else τ[i]? := by
    intro τ us
    induction us with
    | nil => intro i; simp [wipe]
    | cons v us ih =>
      intro i
      unfold wipe
      by_cases e : v = i
      · subst e
        rw [if_pos (List.mem_cons_self ..)]
        by_cases hv : v < τ.length
        · rw [List.getElem?_set_self (by rw [wipe_length]; exact hv), if_pos hv]
        · rw [List.getElem?_eq_none (by rw [List.length_set, wipe_length]; omega), if_neg hv]
      · rw [List.getElem?_set_ne e, ih i]
        by_cases hi : i ∈ us
        · rw [if_pos hi, if_pos (List.mem_cons_of_mem _ hi)]
        · rw [if_neg hi, if_neg (fun z => (List.mem_cons.mp z).elim (fun q => e q.symm) hi)]
  rw [key, key]
  by_cases hi : i ∈ vs
  · rw [if_pos hi, if_pos hi, hl]
  · rw [if_neg hi, if_neg hi, h i (fun z => hi (hs i z))]
/-- the block's own names forgotten -/
def wipeG (Γ : List Sl) : List Nat → List Sl
  | [] => Γ
  | v :: vs => (wipeG Γ vs).set v .no
theorem wipeG_length (Γ : List Sl) : ∀ vs : List Nat, (wipeG Γ vs).length = Γ.length
  | [] => rfl
  | v :: vs => by unfold wipeG; rw [List.length_set, wipeG_length Γ vs]
theorem En.setNo {W0 W : Wd} {σ : L2.St} {Γ : List Sl} (h : En W0 W σ Γ) {i : Nat} : En W0 W (σ.set i none) (Γ.set i .no) := by
  refine ⟨h.le, by rw [List.length_set, List.length_set, h.len], fun j t e => ?_, fun j k t u l ej ek tj uk => ?_⟩
  · rcases set_get e with ⟨rfl, rfl, hl⟩ | ⟨hj, e⟩
    · exact ⟨none, by rw [List.getElem?_set_self (by rw [h.len]; exact hl)], True.intro⟩
    · obtain ⟨o, h1, h2⟩ := h.ok j t e
      exact ⟨o, by rw [List.getElem?_set_ne (fun z => hj z.symm)]; exact h1, h2⟩
  · rcases set_get ej with ⟨rfl, rfl, _⟩ | ⟨hj, ej2⟩
    · cases tj
    · rcases set_get ek with ⟨rfl, rfl, _⟩ | ⟨hk, ek2⟩
      · cases uk
      · exact h.ap j k t u l ej2 ek2 tj uk
theorem En.wipe {W0 W : Wd} {σ : L2.St} {Γ : List Sl} (h : En W0 W σ Γ) : ∀ vs : List Nat, En W0 W (L2.wipe σ vs) (wipeG Γ vs)
  | [] => h
  | v :: vs => (En.wipe h vs).setNo
section
variable {K : PySem.W.Frag} {W0 W W' : Wd} {Γ : List Sl} {te : TE} {tt : TT} {wi : TI} {g : TG} {vs : List Nat}
/-- [e for a in as if p] -/
theorem el_lc {α : Type} (as : List α) (c : α → D) (p : α → Bool) (e : α → D) (hi : ItD W0 wi Γ W (as.map c)) (hn : as.length ≤ cap)
    (hs : ∀ a ∈ as, ∃ sl Γ', (∀ i ∈ sl, i ∈ vs) ∧ TgD W0 g sl (c a) (wipeG Γ vs) Γ' ∧ ∀ W1, W ≤ W1 → EvT W0 tt Γ' W1 (p a) ∧ (p a = true → EvD W0 te Γ' W1 (e a))) :
    EvL W0 (tLc wi g tt te vs) Γ W ((as.filter p).map e) := fun W1 l1 σ E Q q => by
  refine hi W1 l1 σ E _ fun J W2 l2 ⟨G, Y, wk, hG, hY⟩ => ?_
  intro Dl hD
  have hfD : W2.f Dl = none := none_of W2.ex hD
  refine lc_it wk (fun i H => ∃ W' : Wd, W'.h = H ∧ W2 ≤ W' ∧ W'.f Dl = none ∧ ∃ xs, H Dl = some (.lst xs) ∧ RpL W'.f xs (((as.take i).filter p).map e))
    ⟨W2.up Dl _ hfD, rfl, Wd.le_up hD, hfD, [], upd_same, .nil⟩ (fun i H _ ⟨W', e1, l3, _⟩ => by rw [← e1]; exact hG W' l3.fr) ?_ ?_
  · rintro i x H H' hin ⟨W', rfl, l3, hf, xs, hx, r⟩ y
    obtain ⟨W4, l4, rfl, d, hd, rd⟩ := hY i W' x H' hin l3.fr y
    rw [List.length_map] at hin
    rw [List.getElem?_map] at hd
    obtain ⟨a, ha, rfl⟩ := Option.map_eq_some_iff.mp hd
    obtain ⟨sl, Γ', hsl, htg, hev⟩ := hs a (List.mem_of_getElem? ha)
    have l24 := l3.tr l4
    have E4 : En W0 W4 (wipe σ vs) (wipeG Γ vs) := ((E.mono (l2.tr l24)).wipe vs)
    obtain ⟨hfD4, hx4⟩ := l4.ow _ _ hx hf
    have htake : as.take (i + 1) = as.take i ++ [a] := by
      rw [List.take_add_one, ha]
      rfl
    have hacc : xs.length < sizeLine := by
      rw [r.length, List.length_map]
      refine lt_cap (Nat.le_trans (List.length_filter_le ..) ?_)
      rw [List.length_take]
      omega
    refine htg W4 _ x E4 rd _ fun σ' E' a1 b1 => ⟨?_, ?_⟩
    · have := wipe_of (σ := wipe σ vs) (σ' := σ') b1 a1 hsl
      rw [this]
      apply wipe_of (sl := vs) (wipe_length ..) _ (fun i h => h)
      intro j hj
      have : ∀ (τ : L2.St) (us : List Nat), j ∉ us → (wipe τ us)[j]? = τ[j]? := by
        intro τ us
        induction us with
        | nil => intro _; rfl
        | cons v us ih =>
          intro hu
          unfold wipe
          rw [List.getElem?_set_ne (fun z => hu (by rw [z]; exact List.mem_cons_self ..)), ih (fun z => hu (List.mem_cons_of_mem _ z))]
      exact this σ vs hj
    · obtain ⟨ht, he⟩ := hev W4 (l1.tr (l2.tr l24))
      refine ht W4 Wd.rfl σ' E' _ fun W5 l5 => ?_
      obtain ⟨hfD5, hx5⟩ := l5.ow _ _ hx4 hfD4
      cases hp : p a with
      | true =>
        rw [if_pos rfl]
        refine he hp W5 l5 σ' (E'.mono l5) _ fun v W6 l6 rv => ?_
        obtain ⟨hfD6, hx6⟩ := l6.ow _ _ hx5 hfD5
        refine ⟨xs, hx6, hacc, W6.up Dl _ hfD6, rfl, ?_, hfD6, _, upd_same, ?_⟩
        · exact Wd.le_up0 (l24.tr (l5.tr l6)) hD hfD6
        · rw [htake, List.filter_append, List.map_append]
          have ef : ([a].filter p).map e = [e a] := by simp [hp]
          rw [ef]
          exact (r.mono (l4.tr (l5.tr l6)).fr).append (.cons rv .nil)
      | false =>
        rw [if_neg Bool.false_ne_true]
        refine ⟨W5, rfl, l24.tr l5, hfD5, xs, hx5, ?_⟩
        rw [htake, List.filter_append, List.map_append]
        have ef : ([a].filter p).map e = [] := by simp [hp]
        rw [ef, List.append_nil]
        exact r.mono (l4.tr l5).fr
  · rintro H ⟨W', rfl, l3, hf, xs, hx, r⟩
    rw [List.length_map, List.take_length] at r
    exact q Dl xs W' (l2.tr l3) (l2.hh.free hD) hf hx r
/-- [e for a in as] -/
theorem el_lcA {α : Type} (as : List α) (c : α → D) (e : α → D) (hi : ItD W0 wi Γ W (as.map c)) (hn : as.length ≤ cap)
    (hs : ∀ a ∈ as, ∃ sl Γ', (∀ i ∈ sl, i ∈ vs) ∧ TgD W0 g sl (c a) (wipeG Γ vs) Γ' ∧ ∀ W1, W ≤ W1 → EvD W0 te Γ' W1 (e a)) :
    EvL W0 (tLc wi g tYes te vs) Γ W (as.map e) := by
  have h := el_lc (tt := tYes) as c (fun _ => true) e hi hn fun a ha => by
    obtain ⟨sl, Γ', h1, h2, h3⟩ := hs a ha
    exact ⟨sl, Γ', h1, h2, fun W1 l1 => ⟨et_yes, fun _ => h3 W1 l1⟩⟩
  have e : as.filter (fun _ => true) = as := by simp
  rw [e] at h
  exact h
end

/-! ### what is laid by a name: data, a list, a dict of one's own -/
inductive Kd where
  | dt (x : D) | ls (ds : List D) | dc (ks : List (List Int × D))
def Kd.sl : Kd → Addr → Sl
  | .dt x, _ => .dat x
  | .ls ds, p => .acc p ds
  | .dc ks, p => .dac p ks
def KdOk (W1 W2 : Wd) (v : V) (p : Addr) : Kd → Prop
  | .dt x => Rp W2.f v x
  | .ls ds => v = .ref p ∧ W1.h p = none ∧ W2.f p = none ∧ ∃ xs, W2.h p = some (.lst xs) ∧ RpL W2.f xs ds
  | .dc ks => v = .ref p ∧ W1.h p = none ∧ W2.f p = none ∧ ∃ xs, W2.h p = some (.dT xs) ∧ RpK W2.f xs ks
def EvG (W0 : Wd) (te : TE) (Γ : List Sl) (W : Wd) (k : Kd) : Prop := ∀ W1, W ≤ W1 → ∀ σ, En W0 W1 σ Γ → ∀ Q : VK, (∀ v p W2, W1 ≤ W2 → KdOk W1 W2 v p k → Q v W2.h) → te σ W1.h Q
section
variable {K : PySem.W.Frag} {W0 W W' : Wd} {Γ Γ' : List Sl} {te t1 t2 t3 : TE} {tt : TT} {d : D} {ds : List D} {ks : List (List Int × D)} {k k1 k2 k3 : Kd}
theorem EvD.g (h : EvD W0 te Γ W d) : EvG W0 te Γ W (.dt d) := fun W1 l1 σ E Q q => h W1 l1 σ E Q fun v W2 l2 r => q v 0 W2 l2 r
theorem EvL.g (h : EvL W0 te Γ W ds) : EvG W0 te Γ W (.ls ds) := fun W1 l1 σ E Q q => h W1 l1 σ E Q fun p xs W2 l2 n1 n2 hx r => q _ p W2 l2 ⟨rfl, n1, n2, xs, hx, r⟩
theorem EvK.g (h : EvK W0 te Γ W ks) : EvG W0 te Γ W (.dc ks) := fun W1 l1 σ E Q q => h W1 l1 σ E Q fun p xs W2 l2 n1 n2 hx r => q _ p W2 l2 ⟨rfl, n1, n2, xs, hx, r⟩
theorem KdOk.mono {W1 W2 W3 : Wd} {v : V} {p : Addr} (l : W2 ≤ W3) (h : KdOk W1 W2 v p k) : KdOk W1 W3 v p k := by
  cases k with
  | dt x => exact Rp.mono l.fr h
  | ls ds =>
    obtain ⟨e, n1, n2, xs, hx, r⟩ := h
    obtain ⟨n3, hx3⟩ := l.ow _ _ hx n2
    exact ⟨e, n1, n3, xs, hx3, r.mono l.fr⟩
  | dc ds =>
    obtain ⟨e, n1, n2, xs, hx, r⟩ := h
    obtain ⟨n3, hx3⟩ := l.ow _ _ hx n2
    exact ⟨e, n1, n3, xs, hx3, r.mono l.fr⟩
theorem En.putK {W1 W2 : Wd} {σ : L2.St} (E1 : En W0 W1 σ Γ) (E2 : En W0 W2 σ Γ) {v : V} {p : Addr} (h : KdOk W1 W2 v p k) (i : Nat) : En W0 W2 (σ.set i (some v)) (Γ.set i (k.sl p)) := by
  cases k with
  | dt x => exact En.putD (d := x) E2 h
  | ls ds =>
    obtain ⟨rfl, n1, n2, xs, hx, r⟩ := h
    refine En.put (s := .acc p ds) E2 ⟨rfl, E1.le.hh.free n1, n2, xs, hx, r⟩ fun l e j t _ ej => ?_
    cases e
    exact E1.apart n1 j t ej
  | dc ds =>
    obtain ⟨rfl, n1, n2, xs, hx, r⟩ := h
    refine En.put (s := .dac p ds) E2 ⟨rfl, E1.le.hh.free n1, n2, xs, hx, r⟩ fun l e j t _ ej => ?_
    cases e
    exact E1.apart n1 j t ej

/-! ### statements -/
/-- from Γ and W: what comes next finds Γ' and W' with N, or data r with R is handed back -/
def ST (W0 : Wd) (ts : TS) (Γ : List Sl) (W : Wd) (N : List Sl → Wd → Prop) (R : Wd → V → Prop) : Prop := ∀ σ, En W0 W σ Γ → ∀ D : Ends,
  (∀ σ' W' Γ', Same W.f W'.f → N Γ' W' → En W0 W' σ' Γ' → D.nx σ' W'.h) → (∀ v W', W0 ≤ W' → R W' v → D.rt v W'.h) → ts D σ W.h
/-- what is handed back is data -/
def RD (R : D → Prop) : Wd → V → Prop := fun W' v => ∃ r, R r ∧ Rp W'.f v r
variable {N : List Sl → Wd → Prop} {R : Wd → V → Prop} {RR : D → Prop} {ts tu tw tb : TS} {i j n : Nat}
theorem ST.imp {N' : List Sl → Wd → Prop} (h : ST W0 ts Γ W N R) (q : ∀ Γ' W', Same W.f W'.f → N Γ' W' → N' Γ' W') : ST W0 ts Γ W N' R := fun σ E D hn hr => h σ E D (fun σ' W' Γ' l n => hn σ' W' Γ' l (q Γ' W' l n)) hr
theorem st_seq (h : ST W0 ts Γ W (fun Γ' W' => ST W0 tu Γ' W' N R) R) : ST W0 (tSeq ts tu) Γ W N R := fun σ E D hn hr =>
  h σ E { D with nx := tu D } (fun σ' W' Γ' l n E' => n σ' E' D (fun σ2 W2 Γ2 l2 n2 E2 => hn σ2 W2 Γ2 (l.trans l2) n2 E2) hr) hr
theorem st_next (h : N Γ W) : ST W0 tNext Γ W N R := fun σ E D hn hr => hn σ W Γ (Same.refl _) h E
theorem st_ret (h : EvD W0 te Γ W d) (hR : RR d) : ST W0 (tRet te) Γ W N (RD RR) := fun σ E D hn hr => h W Wd.rfl σ E _ fun v W2 l2 r => hr v W2 (E.le.tr l2) ⟨d, hR, r⟩
theorem st_retX (h : EvD W0 te Γ W d) (hR : ∀ W2 v, W ≤ W2 → Rp W2.f v d → R W2 v) : ST W0 (tRet te) Γ W N R := fun σ E D hn hr => h W Wd.rfl σ E _ fun v W2 l2 r => hr v W2 (E.le.tr l2) (hR W2 v l2 r)
/-- what stood at the begin of these steps, is still so -/
theorem st_le (h : W0 ≤ W → ST W0 ts Γ W N R) : ST W0 ts Γ W N R := fun σ E D hn hr => h E.le σ E D hn hr
theorem En.rebase {σ : L2.St} (h : En W0 W σ Γ) (ha : ∀ s ∈ Γ, s.adr = none) : En W W σ Γ := by
  refine ⟨Wd.rfl, h.len, fun i s e => ?_, h.ap⟩
  obtain ⟨o, h1, h2⟩ := h.ok i s e
  refine ⟨o, h1, ?_⟩
  have := ha s (List.mem_of_getElem? e)
  cases s with
  | no => exact True.intro
  | dat d => exact h2
  | val v => exact h2
  | acc a ds => cases this
  | dac a ds => cases this
theorem En.unbase {W1 : Wd} {σ : L2.St} (l : W0 ≤ W1) (h : En W1 W σ Γ) : En W0 W σ Γ := by
  refine ⟨l.tr h.le, h.len, fun i s e => ?_, h.ap⟩
  obtain ⟨o, h1, h2⟩ := h.ok i s e
  refine ⟨o, h1, ?_⟩
  cases s with
  | no => exact True.intro
  | dat d => exact h2
  | val v => exact h2
  | acc a ds => exact ⟨h2.1, l.hh.free h2.2.1, h2.2.2⟩
  | dac a ds => exact ⟨h2.1, l.hh.free h2.2.1, h2.2.2⟩
/-- steps that leave all that stands now -/
theorem st_frame (ha : ∀ s ∈ Γ, s.adr = none) (h : ST W ts Γ W (fun Γ' W' => W ≤ W' → N Γ' W') R) : ST W0 ts Γ W N R := fun σ E D hn hr =>
  h σ (E.rebase ha) D (fun σ' W' Γ' l n E' => hn σ' W' Γ' l (n E'.le) (E'.unbase E.le)) (fun v W' l => hr v W' (E.le.tr l))
theorem st_drop (h : EvD W0 te Γ W d) (k : ∀ W1, W ≤ W1 → N Γ W1) : ST W0 (tDrop te) Γ W N R := fun σ E D hn hr => h W Wd.rfl σ E _ fun v W2 l2 r => hn σ W2 Γ l2.fr (k W2 l2) (E.mono l2)
theorem st_never (h : False) : ST W0 tNever Γ W N R := h.elim
theorem st_asg (h : EvG W0 te Γ W k) (q : ∀ p W1, W ≤ W1 → N (Γ.set i (k.sl p)) W1) : ST W0 (tAsg te (gName i)) Γ W N R := fun σ E D hn hr => h W Wd.rfl σ E _ fun v p W2 l2 r =>
  hn _ W2 _ l2.fr (q p W2 l2) (E.putK (E.mono l2) r i)
theorem st_asgD (h : EvD W0 te Γ W d) (q : ∀ W1, W ≤ W1 → N (Γ.set i (.dat d)) W1) : ST W0 (tAsg te (gName i)) Γ W N R := st_asg h.g fun _ W1 l => q W1 l
theorem st_asgL (h : EvL W0 te Γ W ds) (q : ∀ l W1, W ≤ W1 → N (Γ.set i (.acc l ds)) W1) : ST W0 (tAsg te (gName i)) Γ W N R := st_asg h.g q
theorem st_asgK (h : EvK W0 te Γ W ks) (q : ∀ l W1, W ≤ W1 → N (Γ.set i (.dac l ks)) W1) : ST W0 (tAsg te (gName i)) Γ W N R := st_asg h.g q
/-- to a tuple of names -/
theorem st_asgT {g : TG} {sl : List Nat} (h : EvD W0 te Γ W d) (hg : TgD W0 g sl d Γ Γ') (q : ∀ W1, W ≤ W1 → N Γ' W1) : ST W0 (tAsg te g) Γ W N R := fun σ E D hn hr => h W Wd.rfl σ E _ fun v W2 l2 r =>
  hg W2 σ v (E.mono l2) r _ fun σ' E' _ _ => hn σ' W2 Γ' l2.fr (q W2 l2) E'
/-- a, b = e, f without a tuple -/
theorem st_par (h1 : EvG W0 t1 Γ W k1) (h2 : EvG W0 t2 Γ W k2) (q : ∀ p1 p2 W1, W ≤ W1 → N ((Γ.set i (k1.sl p1)).set j (k2.sl p2)) W1) : ST W0 (tPar i j (tCons t1 (tCons t2 tNil))) Γ W N R := fun σ E D hn hr =>
  h1 W Wd.rfl σ E _ fun v p W2 l2 r => h2 W2 l2 σ (E.mono l2) _ fun u p2 W3 l3 s => by
    refine ⟨v, u, rfl, hn _ W3 _ (l2.tr l3).fr (q p p2 W3 (l2.tr l3)) ?_⟩
    have E3 := E.putK (E.mono (l2.tr l3)) (r.mono l3) i
    have E2 := E.putK (E.mono l2) r i
    exact E2.putK E3 s j
theorem st_par3 (h1 : EvG W0 t1 Γ W k1) (h2 : EvG W0 t2 Γ W k2) (h3 : EvG W0 t3 Γ W k3) (q : ∀ p1 p2 p3 W1, W ≤ W1 → N (((Γ.set i (k1.sl p1)).set j (k2.sl p2)).set n (k3.sl p3)) W1) :
    ST W0 (tPar3 i j n (tCons t1 (tCons t2 (tCons t3 tNil)))) Γ W N R := fun σ E D hn hr =>
  h1 W Wd.rfl σ E _ fun v p W2 l2 r => h2 W2 l2 σ (E.mono l2) _ fun u p2 W3 l3 s => h3 W3 (l2.tr l3) σ (E.mono (l2.tr l3)) _ fun z p3 W4 l4 t => by
    refine ⟨v, u, z, rfl, hn _ W4 _ ((l2.tr l3).tr l4).fr (q p p2 p3 W4 ((l2.tr l3).tr l4)) ?_⟩
    have A2 := E.putK (E.mono l2) r i
    have A3 := E.putK (E.mono (l2.tr l3)) (r.mono l3) i
    have A4 := E.putK (E.mono ((l2.tr l3).tr l4)) (r.mono (l3.tr l4)) i
    have B3 := A2.putK A3 s j
    have B4 := A2.putK A4 (s.mono l4) j
    exact B3.putK B4 t n
theorem st_if {b : Bool} (h : EvT W0 tt Γ W b) (h1 : b = true → ∀ W1, W ≤ W1 → ST W0 tu Γ W1 N R) (h2 : b = false → ∀ W1, W ≤ W1 → ST W0 tw Γ W1 N R) : ST W0 (tIfS tt tu tw) Γ W N R := fun σ E D hn hr => h W Wd.rfl σ E _ fun W2 l2 => by
  cases b with
  | true => exact h1 rfl W2 l2 σ (E.mono l2) D (fun σ' W' Γ' l n E' => hn σ' W' Γ' (l2.fr.trans l) n E') hr
  | false => exact h2 rfl W2 l2 σ (E.mono l2) D (fun σ' W' Γ' l n E' => hn σ' W' Γ' (l2.fr.trans l) n E') hr
/-- if without else -/
theorem st_when {b : Bool} (h : EvT W0 tt Γ W b) (h1 : b = true → ∀ W1, W ≤ W1 → ST W0 tu Γ W1 N R) (h2 : b = false → ∀ W1, W ≤ W1 → N Γ W1) : ST W0 (tIfS tt tu tNext) Γ W N R := st_if h h1 fun hb W1 l => st_next (h2 hb W1 l)
/-- told less, frozen: steps of the proof alone -/
theorem st_weak (w : Wk Γ Γ') (h : ST W0 ts Γ' W N R) : ST W0 ts Γ W N R := fun σ E D hn hr => h σ (E.weak w) D hn hr
theorem st_freeze {l : Addr} (e : Γ[i]? = some (.acc l ds)) (hc : ds.length ≤ cap) (h : ∀ W', Same W.f W'.f → ST W0 ts (Γ.set i (.dat (.lst ds))) W' N R) : ST W0 ts Γ W N R := fun σ E D hn hr => by
  obtain ⟨W', fr, hh, E'⟩ := E.freeze e hc
  rw [← hh]
  exact h W' fr σ E' D (fun σ' W2 Γ2 l2 n2 E2 => hn σ' W2 Γ2 (fr.trans l2) n2 E2) hr
theorem st_freezeK {l : Addr} (e : Γ[i]? = some (.dac l ks)) (hc : ks.length ≤ cap) (h : ∀ W', Same W.f W'.f → ST W0 ts (Γ.set i (.dat (.dct ks))) W' N R) : ST W0 ts Γ W N R := fun σ E D hn hr => by
  obtain ⟨W', fr, hh, E'⟩ := E.freezeK e hc
  rw [← hh]
  exact h W' fr σ E' D (fun σ' W2 Γ2 l2 n2 E2 => hn σ' W2 Γ2 (fr.trans l2) n2 E2) hr
/-- xs.append(e), xs one's own -/
theorem st_app {l : Addr} (hi : Γ[i]? = some (.acc l ds)) (h : EvD W0 te Γ W d) (hz : ds.length ≤ cap) (q : ∀ W1, Same W.f W1.f → N (Γ.set i (.acc l (ds ++ [d]))) W1) :
    ST W0 (tDrop (tBM K "list" rAppend (tVar i) (tCons te tNil))) Γ W N R := fun σ E D hn hr => by
  obtain ⟨o, h1, rfl, n0, n1, xs, hx, r⟩ := E.ok i _ hi
  refine ⟨_, h1, .inl ⟨rfl, xs, SqL.of hx⟩, ?_⟩
  refine h W Wd.rfl σ E _ fun v W2 l2 rv => ?_
  obtain ⟨n2, hx2⟩ := l2.ow _ _ hx n1
  refine ⟨l, xs, v, rfl, rfl, hx2, by rw [r.length]; exact lt_cap hz, ?_⟩
  refine hn σ (W2.up l _ n2) _ l2.fr (q _ l2.fr) ((E.mono l2).write hi rfl rfl n2 n0 ⟨rfl, n0, n2, _, upd_same, ?_⟩ h1)
  exact (r.mono l2.fr).append (.cons rv .nil)
/-- xs.extend(e) -/
theorem st_ext {l : Addr} {es : List D} (hi : Γ[i]? = some (.acc l ds)) (h : EvD W0 te Γ W (.lst es)) (hz : ds.length + es.length ≤ cap) (q : ∀ W1, Same W.f W1.f → N (Γ.set i (.acc l (ds ++ es))) W1) :
    ST W0 (tDrop (tBM K "list" rExtend (tVar i) (tCons te tNil))) Γ W N R := fun σ E D hn hr => by
  obtain ⟨o, h1, rfl, n0, n1, xs, hx, r⟩ := E.ok i _ hi
  refine ⟨_, h1, .inl ⟨rfl, xs, SqL.of hx⟩, ?_⟩
  refine h W Wd.rfl σ E _ fun v W2 l2 rv => ?_
  obtain ⟨n2, hx2⟩ := l2.ow _ _ hx n1
  cases rv with
  | lst hy _ s =>
    refine ⟨l, _, xs, _, rfl, rfl, hx2, W2.ex _ _ hy, by rw [r.length, s.length]; exact le_cap hz, ?_⟩
    exact hn σ (W2.up l _ n2) _ l2.fr (q _ l2.fr) ((E.mono l2).write hi rfl rfl n2 n0 ⟨rfl, n0, n2, _, upd_same, (r.mono l2.fr).append s⟩ h1)
/-- xs[e] = e', xs one's own -/
theorem st_setA {l : Addr} {ti : TE} {a : Int} {m : Nat} (hi : Γ[i]? = some (.acc l ds)) (h : EvD W0 te Γ W d) (hx : EvD W0 ti Γ W (.int a)) (hm : ixN ds.length a = some m) (q : ∀ W1, Same W.f W1.f → N (Γ.set i (.acc l (ds.set m d))) W1) :
    ST W0 (tAsg te (gSub (tVar i) ti rSetL)) Γ W N R := fun σ E D hn hr => h W Wd.rfl σ E _ fun v W2 l2 rv => by
  have E2 := E.mono l2
  obtain ⟨o, h1, rfl, n0, n1, xs, hxs, r⟩ := E2.ok i _ hi
  refine ⟨_, h1, ?_⟩
  refine hx W2 l2 σ E2 _ fun y W3 l3 ry => ?_
  cases ry
  obtain ⟨n2, hx2⟩ := l3.ow _ _ hxs n1
  refine ⟨l, xs, a, m, rfl, rfl, hx2, by rw [r.length]; exact hm, ?_⟩
  exact hn σ (W3.up l _ n2) _ (l2.tr l3).fr (q _ (l2.tr l3).fr) ((E2.mono l3).write hi rfl rfl n2 n0 ⟨rfl, n0, n2, _, upd_same, (r.mono l3.fr).set (rv.mono l3.fr) m⟩ h1)
/-- d[k] = e, d one's own -/
theorem st_dput {l : Addr} {ty : TE} {k : List Int} (hi : Γ[i]? = some (.dac l ks)) (h : EvD W0 te Γ W d) (hk : EvD W0 ty Γ W (.tup (k.map .int))) (hz : ks.length ≤ cap) (q : ∀ W1, Same W.f W1.f → N (Γ.set i (.dac l (pt ks k d))) W1) :
    ST W0 (sDPut (tVar i) ty te) Γ W N R := fun σ E D hn hr => h W Wd.rfl σ E _ fun v W2 l2 rv => by
  have E2 := E.mono l2
  obtain ⟨o, h1, rfl, n0, n1, xs, hxs, r⟩ := E2.ok i _ hi
  refine ⟨_, h1, ?_⟩
  refine hk W2 l2 σ E2 _ fun y W3 l3 ry => ?_
  obtain ⟨n2, hx2⟩ := l3.ow _ _ hxs n1
  cases ry with
  | tup hy _ s =>
    have e := s.ints
    subst e
    refine ⟨l, _, rfl, DPut.t (k := k.map Sum.inl) hx2 (by rw [key_map]; exact W3.ex _ _ hy) (by rw [r.length]; exact lt_cap hz), ?_⟩
    exact hn σ (W3.up l _ n2) _ (l2.tr l3).fr (q _ (l2.tr l3).fr) ((E2.mono l3).write hi rfl rfl n2 n0 ⟨rfl, n0, n2, _, upd_same, (r.mono l3.fr).put (rv.mono l3.fr)⟩ h1)

/-! ### loops -/
/-- for: I by the turn -/
theorem st_forI {wi : TI} {g : TG} (hi : ItD W0 wi Γ W ds) (I : Nat → List Sl → Wd → Prop) (h0 : ∀ W1, W ≤ W1 → I 0 Γ W1)
    (hs : ∀ i d Γi Wi, ds[i]? = some d → I i Γi Wi → Same W.f Wi.f → ∃ sl Γ', TgD W0 g sl d Γi Γ' ∧ ∀ W1, Wi ≤ W1 → ST W0 tb Γ' W1 (I (i + 1)) R) (hd : ∀ Γn Wn, Same W.f Wn.f → I ds.length Γn Wn → N Γn Wn) :
    ST W0 (tFor wi g tb) Γ W N R := fun σ E D hn hr => hi W Wd.rfl σ E _ fun J W2 l2 ⟨G, Y, wk, hG, hY⟩ => by
  refine for_it wk (fun i σ' H => ∃ W' Γ', W'.h = H ∧ Same W2.f W'.f ∧ I i Γ' W' ∧ En W0 W' σ' Γ') ⟨W2, Γ, rfl, Same.refl _, h0 W2 l2, E.mono l2⟩ (fun i σ' H _ ⟨W', _, e, l3, _⟩ => by rw [← e]; exact hG W' l3) ?_ ?_
  · rintro i x σ' H H' hin ⟨W', Γ', rfl, l3, hI, E'⟩ y
    obtain ⟨W4, l4, rfl, d, hd', rd⟩ := hY i W' x H' hin l3 y
    obtain ⟨sl, Γ2, htg, hb⟩ := hs i d Γ' W' hd' hI (l2.fr.trans l3)
    refine htg W4 σ' x (E'.mono l4) rd _ fun σ2 E2 _ _ => ?_
    refine hb W4 l4 σ2 E2 _ (fun σ3 W3 Γ3 l5 n3 E3 => ⟨W3, Γ3, rfl, l3.trans (l4.fr.trans l5), n3, E3⟩) hr
  · rintro σ' H ⟨W', Γ', rfl, l3, hI, E'⟩
    exact hn σ' W' Γ' (l2.fr.trans l3) (hd Γ' W' (l2.fr.trans l3) hI) E'
/-- for, as a fold over typed items -/
theorem st_fold {α S : Type} {wi : TI} {g : TG} (as : List α) (c : α → D) (Γs : S → List Sl) (step : S → α → S) (s0 : S) (hi : ItD W0 wi Γ W (as.map c)) (h0 : Wk Γ (Γs s0))
    (hs : ∀ i s a W', as[i]? = some a → s = (as.take i).foldl step s0 → Same W.f W'.f → ∃ sl Γ', TgD W0 g sl (c a) (Γs s) Γ' ∧ ∀ W1, W' ≤ W1 → ST W0 tb Γ' W1 (fun Γ2 _ => Wk Γ2 (Γs (step s a))) R)
    (hd : ∀ Wn, Same W.f Wn.f → N (Γs (as.foldl step s0)) Wn) : ST W0 (tFor wi g tb) Γ W N R := by
  have H := st_forI (N := fun Γ' W' => Wk Γ' (Γs (as.foldl step s0)) ∧ Same W.f W'.f) (R := R) (tb := tb) (g := g) hi (fun i Γ' _ => Wk Γ' (Γs ((as.take i).foldl step s0))) (fun W1 _ => h0) ?_ ?_
  · intro σ E D hn hr
    refine H σ E D (fun σ' W' Γ' l n E' => hn σ' W' _ l (hd W' n.2) (E'.weak n.1)) hr
  · intro i d Γi Wi hdi hI l
    rw [List.getElem?_map] at hdi
    obtain ⟨a, ha, rfl⟩ := Option.map_eq_some_iff.mp hdi
    obtain ⟨sl, Γ', htg, hb⟩ := hs i ((as.take i).foldl step s0) a Wi ha rfl l
    refine ⟨sl, Γ', fun W1 σ v E r Q q => htg W1 σ v (E.weak hI) r Q q, fun W1 l1 => ?_⟩
    have e : (as.take (i + 1)).foldl step s0 = step ((as.take i).foldl step s0) a := by
      rw [List.take_add_one, ha, List.foldl_append]
      rfl
    show ST W0 tb Γ' W1 (fun Γ' _ => Wk Γ' (Γs ((as.take (i + 1)).foldl step s0))) R
    rw [e]
    exact hb W1 l1
  · intro Γn Wn l hI
    rw [List.length_map, List.take_length] at hI
    exact ⟨hI, l⟩
/-- what a loop comes to that may hand back -/
def runL {α S ρ : Type} (step : S → α → Except ρ S) : S → List α → Except ρ S
  | s, [] => .ok s
  | s, a :: as => match step s a with
    | .ok s' => runL step s' as
    | .error r => .error r
theorem runL_append {α S ρ : Type} (step : S → α → Except ρ S) : ∀ (s : S) (xs ys : List α), runL step s (xs ++ ys) = match runL step s xs with
    | .ok s' => runL step s' ys
    | .error r => .error r
  | s, [], ys => rfl
  | s, x :: xs, ys => by
    rw [List.cons_append, runL, runL]
    cases step s x with
    | ok s' => exact runL_append step s' xs ys
    | error r => rfl
/-- for with a return in it -/
theorem st_run {α S ρ : Type} {wi : TI} {g : TG} (as : List α) (c : α → D) (Γs : S → List Sl) (rd : ρ → Wd → V → Prop) (step : S → α → Except ρ S) (s0 : S) (hi : ItD W0 wi Γ W (as.map c)) (h0 : Wk Γ (Γs s0))
    (hs : ∀ i s a W', as[i]? = some a → runL step s0 (as.take i) = .ok s → Same W.f W'.f → ∃ sl Γ', TgD W0 g sl (c a) (Γs s) Γ' ∧ ∀ W1, W' ≤ W1 → ST W0 tb Γ' W1 (fun Γ2 _ => ∃ s', step s a = .ok s' ∧ Wk Γ2 (Γs s')) (fun W' v => ∃ r, step s a = .error r ∧ rd r W' v))
    (hr : ∀ r, runL step s0 as = .error r → ∀ W' v, rd r W' v → R W' v) (hd : ∀ s, runL step s0 as = .ok s → ∀ Wn, Same W.f Wn.f → N (Γs s) Wn) : ST W0 (tFor wi g tb) Γ W N R := by
  have H := st_forI (N := fun Γ' W' => (∃ s, runL step s0 as = .ok s ∧ Wk Γ' (Γs s)) ∧ Same W.f W'.f) (R := R) (tb := tb) (g := g) hi (fun i Γ' _ => ∃ s, runL step s0 (as.take i) = .ok s ∧ Wk Γ' (Γs s)) (fun W1 _ => ⟨s0, rfl, h0⟩) ?_ ?_
  · intro σ E D hn hrt
    refine H σ E D (fun σ' W' Γ' l n E' => ?_) hrt
    obtain ⟨⟨s, hs, w⟩, l2⟩ := n
    exact hn σ' W' _ l (hd s hs W' l2) (E'.weak w)
  · rintro i d Γi Wi hdi ⟨s, hsi, hI⟩ l
    rw [List.getElem?_map] at hdi
    obtain ⟨a, ha, rfl⟩ := Option.map_eq_some_iff.mp hdi
    obtain ⟨sl, Γ', htg, hb⟩ := hs i s a Wi ha hsi l
    refine ⟨sl, Γ', fun W1 σ v E r Q q => htg W1 σ v (E.weak hI) r Q q, fun W1 l1 => ?_⟩
    have etake : as.take (i + 1) = as.take i ++ [a] := by
      rw [List.take_add_one, ha]
      rfl
    have eall : as = as.take i ++ a :: as.drop (i + 1) := by
      have h1 := (List.take_append_drop i as).symm
      have h2 : as.drop i = a :: as.drop (i + 1) := by
        obtain ⟨hlt, e⟩ := List.getElem?_eq_some_iff.mp ha
        rw [List.drop_eq_getElem_cons hlt, e]
      rw [h2] at h1
      exact h1
    intro σ E D hn hrt
    refine hb W1 l1 σ E D (fun σ' W' Γ2 l2 n E' => ?_) (fun v W' l2 hR => ?_)
    · obtain ⟨s', e1, w⟩ := n
      refine hn σ' W' Γ2 l2 ⟨s', ?_, w⟩ E'
      rw [etake, runL_append, hsi]
      show runL step s [a] = _
      unfold runL
      rw [e1]
      rfl
    · obtain ⟨r', e1, rv⟩ := hR
      refine hrt v W' l2 (hr r' ?_ _ _ rv)
      rw [eall, runL_append, hsi]
      show runL step s (a :: _) = _
      unfold runL
      rw [e1]
  · rintro Γn Wn l ⟨s, hs, hI⟩
    rw [List.length_map, List.take_length] at hs
    exact ⟨⟨s, hs, hI⟩, l⟩
/-- for with a return of data in it -/
theorem st_runD {α S ρ : Type} {wi : TI} {g : TG} (as : List α) (c : α → D) (Γs : S → List Sl) (rd : ρ → D) (step : S → α → Except ρ S) (s0 : S) (hi : ItD W0 wi Γ W (as.map c)) (h0 : Wk Γ (Γs s0))
    (hs : ∀ i s a W', as[i]? = some a → runL step s0 (as.take i) = .ok s → Same W.f W'.f → ∃ sl Γ', TgD W0 g sl (c a) (Γs s) Γ' ∧ ∀ W1, W' ≤ W1 → ST W0 tb Γ' W1 (fun Γ2 _ => ∃ s', step s a = .ok s' ∧ Wk Γ2 (Γs s')) (RD fun d => ∃ r, step s a = .error r ∧ d = rd r))
    (hr : ∀ r, runL step s0 as = .error r → RR (rd r)) (hd : ∀ s, runL step s0 as = .ok s → ∀ Wn, Same W.f Wn.f → N (Γs s) Wn) : ST W0 (tFor wi g tb) Γ W N (RD RR) :=
  st_run as c Γs (fun r W' v => Rp W'.f v (rd r)) step s0 hi h0 (fun i s a W' h1 h2 h3 => by
    obtain ⟨sl, Γ', htg, hb⟩ := hs i s a W' h1 h2 h3
    refine ⟨sl, Γ', htg, fun W1 l1 σ E D hn hrt => hb W1 l1 σ E D hn fun v W2 l2 hv => hrt v W2 l2 ?_⟩
    obtain ⟨_, ⟨r, e, rfl⟩, rv⟩ := hv
    exact ⟨r, e, rv⟩) (fun r e W' v rv => ⟨_, hr r e, rv⟩) hd
/-- while, by a measure -/
theorem st_while (I : Nat → List Sl → Wd → Prop) (m0 : Nat) (h0 : I m0 Γ W)
    (hs : ∀ m Γm Wm, I m Γm Wm → Same W.f Wm.f → ∃ b, EvT W0 tt Γm Wm b ∧ (b = true → ∀ W1, Wm ≤ W1 → ST W0 tb Γm W1 (fun Γ' W' => ∃ m', m' < m ∧ I m' Γ' W') R) ∧ (b = false → ∀ W1, Wm ≤ W1 → N Γm W1)) :
    ST W0 (tWhile tt tb) Γ W N R := fun σ E D hn hr => by
  refine ⟨fun m σ' H => ∃ W' Γ', W'.h = H ∧ Same W.f W'.f ∧ I m Γ' W' ∧ En W0 W' σ' Γ', ⟨m0, W, Γ, rfl, Same.refl _, h0, E⟩, ?_⟩
  rintro m σ' H ⟨W', Γ', rfl, l, hI, E'⟩
  obtain ⟨b, hb, h1, h2⟩ := hs m Γ' W' hI l
  refine hb W' Wd.rfl σ' E' _ fun W2 l2 => ?_
  cases b with
  | true =>
    rw [if_pos rfl]
    refine ⟨fun σ2 H2 => ∃ m', m' < m ∧ ∃ W3 Γ3, W3.h = H2 ∧ Same W.f W3.f ∧ I m' Γ3 W3 ∧ En W0 W3 σ2 Γ3, fun σ2 H2 z => z, ?_⟩
    refine h1 rfl W2 l2 σ' (E'.mono l2) _ (fun σ3 W3 Γ3 l3 n3 E3 => ?_) hr
    obtain ⟨m', hm', hI'⟩ := n3
    exact ⟨m', hm', W3, Γ3, rfl, l.trans (l2.fr.trans l3), hI', E3⟩
  | false =>
    rw [if_neg Bool.false_ne_true]
    exact hn σ' W2 Γ' (l.trans l2.fr) (h2 rfl W2 l2) (E'.mono l2)
end

/-! ### defs -/
theorem en_start {W : Wd} {vs : List V} {ds : List D} (r : RpL W.f vs ds) (m : Nat) : En W W (vs.map some ++ List.replicate m none) (ds.map .dat ++ List.replicate m .no) := by
  refine ⟨Wd.rfl, by simp [r.length], fun i s e => ?_, fun i j s t l ei ej si tj => ?_⟩
  · by_cases hi : i < ds.length
    · rw [List.getElem?_append_left (by simpa using hi), List.getElem?_map] at e
      obtain ⟨d, hd, rfl⟩ := Option.map_eq_some_iff.mp e
      obtain ⟨v, hv, rv⟩ := r.get hd
      exact ⟨some v, by rw [List.getElem?_append_left (by rw [List.length_map, r.length]; exact hi), List.getElem?_map, hv]; rfl, v, rfl, rv⟩
    · rw [List.getElem?_append_right (by simpa using hi), List.getElem?_replicate] at e
      split at e
      · rename_i h
        cases e
        refine ⟨none, ?_, True.intro⟩
        rw [List.getElem?_append_right (by rw [List.length_map, r.length]; omega), List.getElem?_replicate, if_pos (by simp at h ⊢; rw [r.length]; exact h)]
      · cases e
  · exfalso
    have : ∀ s ∈ (ds.map Sl.dat ++ List.replicate m Sl.no), s.adr = none := by
      intro s hs
      rcases List.mem_append.mp hs with hs | hs
      · obtain ⟨d, _, rfl⟩ := List.mem_map.mp hs
        rfl
      · rw [(List.mem_replicate.mp hs).2]
        rfl
    rw [this s (List.mem_of_getElem? ei)] at si
    cases si
/-- a def that makes data of data -/
theorem fn_pure {P : Program} {w : World} {K : PySem.W.Frag} {mg : Str → Option Value} {base : Heap} {x qual : Str} {st : Stmt} {f : Addr} {fd : FuncData} {Nm ps : List Str} {k : Nat} {g : List D → D → Prop} (F : Fun K x qual st f fd) (sc : FnScope Nm ps (defScope st))
    (hl : ∀ ds r, g ds r → ds.length = ps.length)
    (hb : ∀ (cdv : Value) (A : Around) (outer : List Env) (s : Shared) (H : Hp) (E : XK), Room k (A.deeper (PyProof.Rows.envOfC qual (defScope st) s.heap.objs.size f cdv)) → ∀ ds r, g ds r →
      ∃ t, PSs (cxOf CX0 P w K mg base Nm qual (defScope st) f cdv A outer s H E).nox (defBody st) t ∧ ∀ W0, ST W0 t (ds.map .dat ++ List.replicate (Nm.length - ps.length) .no) W0 (fun _ _ => r = .non) (RD fun d => d = r)) :
    FnOk P w K mg base CX0 (k + 1) f fd ps (Pure g) := by
  refine F.ok sc (fun vs H Q E h => ?_) (fun cdv A outer s H vs Q E hr h => ?_)
  · obtain ⟨W, ds, r, rfl, rl, hg, _⟩ := h
    rw [rl.length]
    exact hl ds r hg
  · obtain ⟨W, ds, r, rfl, rl, hg, q⟩ := h
    obtain ⟨t, ht, hs⟩ := hb cdv A outer s W.h E hr ds r hg
    refine ⟨t, ht, ?_⟩
    have e : L2.start Nm vs = vs.map some ++ List.replicate (Nm.length - ps.length) none := by
      unfold L2.start
      rw [rl.length, hl ds r hg]
    rw [e]
    refine hs W _ (en_start rl _) _ (fun σ' W' Γ' l n E' => ?_) (fun v W' l hr' => ?_)
    · subst n
      exact q .non W' E'.le .non
    · obtain ⟨r', rfl, rv⟩ := hr'
      exact q v W' l rv
/-- a promise: data are handed in; what is handed back is told by the word -/
def Prm (g : List D → (Wd → Wd → V → Prop) → Prop) : Sp := fun vs H Q _ => ∃ (W : Wd) (ds : List D) (po : Wd → Wd → V → Prop), W.h = H ∧ RpL W.f vs ds ∧ g ds po ∧ ∀ v W', W ≤ W' → po W W' v → Q v W'.h
theorem fn_prm {P : Program} {w : World} {K : PySem.W.Frag} {mg : Str → Option Value} {base : Heap} {x qual : Str} {st : Stmt} {f : Addr} {fd : FuncData} {Nm ps : List Str} {k : Nat} {g : List D → (Wd → Wd → V → Prop) → Prop} (F : Fun K x qual st f fd) (sc : FnScope Nm ps (defScope st))
    (hl : ∀ ds po, g ds po → ds.length = ps.length)
    (hb : ∀ (cdv : Value) (A : Around) (outer : List Env) (s : Shared) (H : Hp) (E : XK), Room k (A.deeper (PyProof.Rows.envOfC qual (defScope st) s.heap.objs.size f cdv)) → ∀ ds po, g ds po →
      ∃ t, PSs (cxOf CX0 P w K mg base Nm qual (defScope st) f cdv A outer s H E).nox (defBody st) t ∧ ∀ W0, ST W0 t (ds.map .dat ++ List.replicate (Nm.length - ps.length) .no) W0 (fun _ W' => po W0 W' .non) (po W0)) :
    FnOk P w K mg base CX0 (k + 1) f fd ps (Prm g) := by
  refine F.ok sc (fun vs H Q E h => ?_) (fun cdv A outer s H vs Q E hr h => ?_)
  · obtain ⟨W, ds, po, rfl, rl, hg, _⟩ := h
    rw [rl.length]
    exact hl ds po hg
  · obtain ⟨W, ds, po, rfl, rl, hg, q⟩ := h
    obtain ⟨t, ht, hs⟩ := hb cdv A outer s W.h E hr ds po hg
    refine ⟨t, ht, ?_⟩
    have e : L2.start Nm vs = vs.map some ++ List.replicate (Nm.length - ps.length) none := by
      unfold L2.start
      rw [rl.length, hl ds po hg]
    rw [e]
    exact hs W _ (en_start rl _) _ (fun σ' W' Γ' l n E' => q .non W' E'.le n) (fun v W' l hr' => q v W' l hr')
/-- a def by its name, its promise -/
structure Df (P : Program) (w : World) (K : PySem.W.Frag) (mg : Str → Option Value) (base : Heap) (k : Nat) (x : Str) (ps : List Str) (sp : Sp) : Prop where
  ex : ∃ f fd, mg x = some (.ref f) ∧ PySem.W.keepIn K (.ref f) = true ∧ Binds K fd ps [] ∧ FnOk P w K mg base CX0 k f fd ps sp
theorem pe_df {X : Cx} {k : Nat} {x : Str} {ps : List Str} {sp : Sp} {e : Expr} {es : List Expr} {t : TA} {p pos : Pos} (G : Df X.prog X.w X.K X.mg X.base k x ps sp) (hr : Room k X.A) (hg : Gl X x) (ha : PA X (e :: es) t)
    (hdb : (x == ("__debug__" : Str)) = false := by decide) (he : starEach (e :: es) X.env = (false, eval e X.env) :: starEach es X.env := by rfl) (hpl : (backTo pos (starEach es X.env)).any (·.1) = false := by rfl) :
    PE X (.Call (.Name x p) (e :: es) [] pos) (tCall sp [] E0 t) := by
  obtain ⟨f, fd, hm, hk, hb, F⟩ := G.ex
  exact pe_call F hr hg hm hk hb .nil pass0 ha hdb he hpl
end Fg

set_option Elab.async false
set_option linter.all false
set_option maxRecDepth 100000
set_option maxHeartbeats 4000000
/-! Rules that the layer lacks: zip of a tuple and a list, enumerate of a tuple, dicts by tuples displayed. -/
namespace Fg
open PySem PySem.Spec PyProof.Rows L2

/-! ### zip(tuple, list), zip(tuple, tuple) -/
/-- a sequence of the sort k (true: a list) at a -/
def SqK (k : Bool) (K : PySem.W.Frag) (H : Hp) (a : Addr) (xs : List V) : Prop := if k then SqL K H a xs else SqT K H a xs
def ItK (k : Bool) (h : Heap) (i a : Addr) (n : Nat) : Prop := if k then h.IsListIter i a n else h.IsTupleIter i a n
def AtK (k : Bool) (h : Heap) (a : Addr) (its : Array Value) : Prop := if k then h.IsList a its else h.IsTuple a its
theorem sqk_at {k : Bool} {X : Cx} {pins : List (Addr × Obj)} {σ : L2.St} {H : Hp} {s : Shared} {a : Addr} {xs : List V} (I : Inv X pins σ H s) (h : SqK k X.K H a xs) : ∃ its : List Value, Vals xs its ∧ AtK k s.heap a its.toArray := by
  cases k with
  | true =>
    obtain ⟨its, r, p, _⟩ := I.list h
    exact ⟨its, r, p.isList⟩
  | false =>
    obtain ⟨its, r, p, _⟩ := I.tuple h
    exact ⟨its, r, p⟩
theorem sqk_inj {k : Bool} {X : Cx} {pins : List (Addr × Obj)} {σ : L2.St} {H : Hp} {s : Shared} {a : Addr} {xs ys : List V} (I : Inv X pins σ H s) (h : SqK k X.K H a xs) (h2 : SqK k X.K H a ys) : xs = ys := by
  cases k with
  | true => exact I.list_inj h h2
  | false => exact I.tuple_inj h h2
theorem atk_lt {k : Bool} {h : Heap} {a : Addr} {its : Array Value} (x : AtK k h a its) : a < h.objs.size := by
  cases k with
  | true =>
    obtain ⟨o, e, _⟩ := x
    exact Heap.lt_size e
  | false =>
    obtain ⟨o, e, _⟩ := x
    exact Heap.lt_size e
theorem itk_obj {k : Bool} {h : Heap} {i a : Addr} {n : Nat} (x : ItK k h i a n) : ∃ o, h.get? i = some o ∧ ∀ v, o.data ≠ .cell v := by
  cases k with
  | true =>
    obtain ⟨o, e, _, d⟩ := x
    exact ⟨o, e, fun v q => by rw [d] at q; cases q⟩
  | false =>
    obtain ⟨o, e, _, d⟩ := x
    exact ⟨o, e, fun v q => by rw [d] at q; cases q⟩
theorem itk_at {k : Bool} {h h' : Heap} {i a : Addr} {n : Nat} (x : ItK k h i a n) (e : ∀ o, h.get? i = some o → h'.get? i = some o) : ItK k h' i a n := by
  cases k with
  | true => exact Heap.IsListIter.at (show h.IsListIter i a n from x) e
  | false => exact Heap.IsTupleIter.at (show h.IsTupleIter i a n from x) e
theorem drawsK {prog : Program} {w : World} {A : Around} (k : Bool) (hh : A.handled = none) (it l : Addr) (hne : l ≠ it) (items : Array Value) :
    Draws prog w A it [it, l] items.size (fun i v => items[i]? = some v) (fun i h => ItK k h it l i ∧ AtK k h l items) := by
  cases k with
  | true => exact Draws.list hh it l hne items
  | false => exact Draws.tuple hh it l hne items
def ItM (k1 k2 : Bool) (K : PySem.W.Frag) (a b : Addr) : It where
  go i H := ∃ (xs ys : List V), SqK k1 K H a xs ∧ SqK k2 K H b ys ∧ i < xs.length ∧ i < ys.length
  yld i H v H' := ∃ T x y, v = .ref T ∧ H T = none ∧ H' = upd H T (.tup [x, y]) ∧ (∀ xs, SqK k1 K H a xs → xs[i]? = some x) ∧ ∀ ys, SqK k2 K H b ys → ys[i]? = some y
  stop i H := ∃ xs ys : List V, SqK k1 K H a xs ∧ SqK k2 K H b ys ∧ i = min xs.length ys.length
def TnM (k1 k2 : Bool) (a b z TI TO i1 i2 : Addr) (i : Nat) (h : Heap) : Prop :=
  IsZip h z TI TO .none ∧ IsTupOf2 h TI (.ref i1) (.ref i2) ∧ (∃ x y, IsTupOf2 h TO x y) ∧ ItK k1 h i1 a i ∧ ItK k2 h i2 b i
theorem mem5 {c z TI TO i1 i2 : Addr} (h : c ∈ [z, TI, TO, i1, i2]) : c = z ∨ c = TI ∨ c = TO ∨ c = i1 ∨ c = i2 := by simpa using h
theorem turnM {P : Program} {w : World} {K : PySem.W.Frag} {elts : List Expr} {kk : Nat} {tpos : Pos} {k1 k2 : Bool} {a b z TI TO i1 i2 : Addr} (S : ZipSep2 z TI TO i1 i2 [i1, a] [i2, b]) (ha : a ≠ i1) (hb : b ≠ i2) :
    Turn P w K (.Tuple elts kk tpos) (ItM k1 k2 K a b) [z, TI, TO, i1, i2] z (TnM k1 k2 a b z TI TO i1 i2) := by
  refine ⟨by simp, fun i h st c hc => ?_, fun i h h' st k => ?_, ?_, ?_, fun A i s Q E st h => wpAny_pyIter_zip st.1 h⟩
  · obtain ⟨hz, hTI, ⟨x, y, hTO⟩, h1, h2⟩ := st
    rcases mem5 hc with rfl | rfl | rfl | rfl | rfl
    · exact ⟨_, hz, fun v q => nomatch q⟩
    · exact ⟨_, hTI, fun v q => nomatch q⟩
    · exact ⟨_, hTO, fun v q => nomatch q⟩
    · exact itk_obj h1
    · exact itk_obj h2
  · obtain ⟨hz, hTI, ⟨x, y, hTO⟩, h1, h2⟩ := st
    exact ⟨k z (by simp) _ hz, k TI (by simp) _ hTI, ⟨x, y, k TO (by simp) _ hTO⟩, itk_at h1 fun o q => k i1 (by simp) o q, itk_at h2 fun o q => k i2 (by simp) o q⟩
  · intro X hP hw hK hc i pins s σ H E I hf st hg
    subst hP hw hK
    obtain ⟨hz, hTI, ⟨x0, y0, hTO⟩, h1, h2⟩ := st
    obtain ⟨xs, ys, hqx, hqy, hx, hy⟩ := hg
    obtain ⟨its, rv, p⟩ := sqk_at I hqx
    obtain ⟨its2, rv2, p2⟩ := sqk_at I hqy
    have hh : X.A.in1.handled = none := I.ok.hd hc
    have l1 := rv.length
    have l2 := rv2.length
    refine wpAny_pyNext_zipD2_item S (drawsK k1 hh i1 a ha its.toArray) (drawsK k2 hh i2 b hb its2.toArray) hz hTI hTO ⟨h1, p⟩ ⟨h2, p2⟩ (by simpa [← l1] using hx) (by simpa [← l2] using hy) fun u u2 h' tk hu hu2 z' TO' s1' s2' hT hsz hk => ?_
    have hzl : z < s.heap.objs.size := Heap.lt_size hz
    refine ⟨_, rfl, wpAny_letOwnedTupleGo_zip (s := { s with heap := h', toks := tk }) z' fun h'' z'' sb => ?_⟩
    have ex : xs[i]? = some xs[i] := by simp [hx]
    have ey : ys[i]? = some ys[i] := by simp [hy]
    obtain ⟨v, hv, ru⟩ := rv.get ex
    obtain ⟨v2, hv2, ru2⟩ := rv2.get ey
    have e1 : its[i]? = some u := by simpa using hu
    have e2 : its2[i]? = some u2 := by simpa using hu2
    rw [hv] at e1
    rw [hv2] at e2
    have e1 := Option.some.inj e1
    have e2 := Option.some.inj e2
    subst e1 e2
    have hT2 : h''.get? s.heap.objs.size = some { cls := .type "tuple", data := .seq #[v, v2] } := Eq.trans (sb.2 _ (Nat.ne_of_gt hzl)) hT
    have kept : ∀ c o, c ∉ [z, TI, TO, i1, i2] → s.heap.get? c = some o → h''.get? c = some o := fun c o hm q =>
      Eq.trans (sb.2 c fun e => hm (by simp [e])) (hk c o (fun e => hm (by simp [e])) (fun e => hm (by simp [e])) (fun e => hm (by simp [e])) (fun e => hm (by simp [e])) q)
    have new : ObjOk X.prog X.w (upd H s.heap.objs.size (.tup [xs[i], ys[i]])) h'' s.heap.objs.size (.tup [xs[i], ys[i]]) :=
      ⟨Nat.le_of_ble_eq_true rfl, [v, v2], .cons ru (.cons ru2 .nil), ⟨_, hT2, rfl, _, rfl⟩⟩
    have I1 : Inv X pins σ (upd H s.heap.objs.size (.tup [xs[i], ys[i]])) { s with heap := h'', toks := tk } := I.turnedNew (ch := [z, TI, TO, i1, i2]) kept hf (Nat.le_refl _) new
    refine ⟨.ref s.heap.objs.size, _, I1, rfl, ⟨_, xs[i], ys[i], rfl, I.hok.fresh (Nat.le_refl _), rfl, fun l hl => by rw [sqk_inj I hl hqx]; exact ex, fun l hl => by rw [sqk_inj I hl hqy]; exact ey⟩, ⟨z'', ?_, ⟨v, v2, ?_⟩, ?_, ?_⟩, fun c hcm => ?_⟩
    · exact Eq.trans (sb.2 _ S.TIz) (hk _ _ S.TIz S.TITO S.TIi1 S.TIi2 hTI)
    · exact Eq.trans (sb.2 _ S.TOz) TO'
    · exact itk_at s1'.1 fun o q => Eq.trans (sb.2 _ (Ne.symm S.zi1)) q
    · exact itk_at s2'.1 fun o q => Eq.trans (sb.2 _ (Ne.symm S.zi2)) q
    · have hlt : c < s.heap.objs.size := by
        rcases mem5 hcm with rfl | rfl | rfl | rfl | rfl
        · exact hzl
        · exact Heap.lt_size hTI
        · exact Heap.lt_size hTO
        · obtain ⟨o, e, _⟩ := itk_obj h1
          exact Heap.lt_size e
        · obtain ⟨o, e, _⟩ := itk_obj h2
          exact Heap.lt_size e
      rw [upd_ne (Nat.ne_of_lt hlt)]
      exact (hf c hcm).1
  · intro X hP hw hK hc i pins s σ H E I hf st hg
    subst hP hw hK
    obtain ⟨hz, hTI, ⟨x0, y0, hTO⟩, h1, h2⟩ := st
    obtain ⟨xs, ys, hqx, hqy, hend⟩ := hg
    obtain ⟨its, rv, p⟩ := sqk_at I hqx
    obtain ⟨its2, rv2, p2⟩ := sqk_at I hqy
    have hh : X.A.in1.handled = none := I.ok.hd hc
    have l1 := rv.length
    have l2 := rv2.length
    refine wpAny_pyNext_zipD2_end S (drawsK k1 hh i1 a ha its.toArray) (drawsK k2 hh i2 b hb its2.toArray) hz hTI hTO ⟨h1, p⟩ ⟨h2, p2⟩ (by simp; omega) (by simp; omega) (by simp; omega) fun h' tk hk => ⟨rfl, ?_⟩
    exact I.turnedL (ch := [z, TI, TO, i1, i2]) (fun c o hm q => hk c o (fun e => hm (by simp [e])) (fun e => hm (by simp [e])) (fun e => hm (by simp [e])) (fun e => hm (by simp [e])) q) hf
def iZipM (k1 k2 : Bool) (K : PySem.W.Frag) (ta : TA) : TI := fun σ H R => ta σ H fun vs H1 => ∃ a b xs ys, vs = [.ref a, .ref b] ∧ SqK k1 K H1 a xs ∧ SqK k2 K H1 b ys ∧ R (ItM k1 k2 K a b) H1
def objK (k : Bool) (l : Addr) : Obj := if k then { cls := .type "list_iterator", data := .fields #[.ref l, .int 0 0] } else { cls := .type "tuple_iterator", data := .fields #[.ref l, .int 0 0] }
theorem beginsK (k : Bool) (l : Addr) (items : Array Value) : Begins (.ref l) (objK k l) fun h => AtK k h l items := by
  cases k with
  | true => exact begins_list l items
  | false => exact begins_tuple l items
theorem itk_new {k : Bool} {h : Heap} {i l : Addr} (e : h.get? i = some (objK k l)) : ItK k h i l 0 := by
  cases k with
  | true => exact ⟨_, e, rfl, rfl⟩
  | false => exact ⟨_, e, rfl, rfl⟩
theorem pi_zipM {X : Cx} (k1 k2 : Bool) {e e2 : Expr} {ta : TA} {p pos tpos : Pos} {elts : List Expr} {kk : Nat} (hg : Gl X "zip") (hm : X.mg "zip" = none) (ha : PA X [e, e2] ta)
    (hs : starEach [e, e2] X.env = (false, eval e X.env) :: starEach [e2] X.env := by rfl) (hpl : (backTo pos (starEach [e2] X.env)).any (·.1) = false := by rfl) :
    PI X (.Tuple elts kk tpos) (.Call (.Name "zip" p) [e, e2] [] pos) (iZipM k1 k2 X.K ta) := by
  refine ⟨fun pins s σ H R I h => ?_⟩
  refine Call_ (ld_blt I hg hm boot_zip (callWith_type1 (thn (ha.run pos pins s σ H _ I h) fun us s1 ⟨vs, H1, I1, r1, q1⟩ => ?_) hs hpl))
  obtain ⟨a, b, xs, ys, ex, hqx, hqy, q⟩ := q1
  subst ex
  cases r1 with
  | cons r rr =>
    cases rr with
    | cons r' rr =>
      cases rr
      cases r
      cases r'
      obtain ⟨its, rv, p1⟩ := sqk_at I1 hqx
      obtain ⟨its2, rv2, p2⟩ := sqk_at I1 hqy
      have la := atk_lt p1
      have lb := atk_lt p2
      refine zip_begins2 (beginsK k1 a its.toArray) (beginsK k2 b its2.toArray) p1 p2 fun h' hz hTI hTO h1 h2 hsz hk => wpAny_pyIter_zip hz ?_
      have I2 : Inv X pins σ H1 { s1 with heap := h' } := I1.kept (t' := s1.toks) hk
      refine ⟨s1.heap.objs.size + 4, [s1.heap.objs.size + 4, s1.heap.objs.size + 2, s1.heap.objs.size + 3, s1.heap.objs.size, s1.heap.objs.size + 1], _, _, H1, rfl, I2,
        turnM (k1 := k1) (k2 := k2) (a := a) (b := b) (zip_sep2 (by simpa using la) (by simpa using lb)) (Nat.ne_of_lt la) (Nat.ne_of_lt (Nat.lt_succ_of_lt lb)), ⟨hz, hTI, ⟨_, _, hTO⟩, itk_new h1, itk_new h2⟩, fun c hcm => ?_, q⟩
      have hle : s1.heap.objs.size ≤ c := by
        rcases mem5 hcm with rfl | rfl | rfl | rfl | rfl
        · exact Nat.le_add_right _ _
        · exact Nat.le_add_right _ _
        · exact Nat.le_add_right _ _
        · exact Nat.le_refl _
        · exact Nat.le_add_right _ _
      exact I1.fpOk hle (I1.hok.fresh hle)
theorem pi_zipTL {X : Cx} {e e2 : Expr} {ta : TA} {p pos tpos : Pos} {elts : List Expr} {kk : Nat} (hg : Gl X "zip") (hm : X.mg "zip" = none) (ha : PA X [e, e2] ta)
    (hs : starEach [e, e2] X.env = (false, eval e X.env) :: starEach [e2] X.env := by rfl) (hpl : (backTo pos (starEach [e2] X.env)).any (·.1) = false := by rfl) :
    PI X (.Tuple elts kk tpos) (.Call (.Name "zip" p) [e, e2] [] pos) (iZipM false true X.K ta) := pi_zipM false true hg hm ha hs hpl
theorem pi_zipTT {X : Cx} {e e2 : Expr} {ta : TA} {p pos tpos : Pos} {elts : List Expr} {kk : Nat} (hg : Gl X "zip") (hm : X.mg "zip" = none) (ha : PA X [e, e2] ta)
    (hs : starEach [e, e2] X.env = (false, eval e X.env) :: starEach [e2] X.env := by rfl) (hpl : (backTo pos (starEach [e2] X.env)).any (·.1) = false := by rfl) :
    PI X (.Tuple elts kk tpos) (.Call (.Name "zip" p) [e, e2] [] pos) (iZipM false false X.K ta) := pi_zipM false false hg hm ha hs hpl
theorem walkM {k1 k2 : Bool} {K : PySem.W.Frag} {a b : Addr} {xs ys : List V} : Walk (ItM k1 k2 K a b) (min xs.length ys.length) (fun H => SqK k1 K H a xs ∧ SqK k2 K H b ys) (YPair (fun i => xs[i]?) (fun i => ys[i]?)) := by
  refine ⟨fun i H hi q => ⟨xs, ys, q.1, q.2, by omega, by omega⟩, fun H q => ⟨xs, ys, q.1, q.2, rfl⟩, fun i H v H' _ q y => ?_⟩
  obtain ⟨T, x, z, h1, h2, h3, h4, h5⟩ := y
  exact ⟨T, x, z, h1, h2, h3, h4 xs q.1, h5 ys q.2⟩
section
variable {K : PySem.W.Frag} {W0 W : Wd} {Γ : List Sl} {ds es : List D}
def seqD (k : Bool) (ds : List D) : D := if k then .lst ds else .tup ds
theorem seqD_at {k : Bool} {f : Hp} {v : V} (r : Rp f v (seqD k ds)) : ∃ a xs, v = .ref a ∧ (∀ H, Same f H → SqK k K H a xs) ∧ RpL f xs ds := by
  cases k with
  | true =>
    cases (show Rp f v (.lst ds) from r) with
    | lst hx hz r => exact ⟨_, _, rfl, fun H e => SqL.of (e _ _ hx), r⟩
  | false =>
    cases (show Rp f v (.tup ds) from r) with
    | tup hx hz r => exact ⟨_, _, rfl, fun H e => SqT.of (e _ _ hx), r⟩
theorem it_zipM {k1 k2 : Bool} {ta : TA} (h : EvA W0 ta Γ W [seqD k1 ds, seqD k2 es]) : ItD W0 (iZipM k1 k2 K ta) Γ W (zipD ds es) := fun W1 l1 σ E R q => h W1 l1 σ E _ fun vs W2 l2 r => by
  cases r with
  | cons h1 r =>
    cases r with
    | cons h2 r =>
      cases r
      obtain ⟨a, xs, rfl, q1, r1⟩ := seqD_at (K := K) h1
      obtain ⟨b, ys, rfl, q2, r2⟩ := seqD_at (K := K) h2
      refine ⟨a, b, xs, ys, rfl, q1 _ W2.ex, q2 _ W2.ex, q _ W2 l2 ?_⟩
      have hl : (zipD ds es).length = min xs.length ys.length := by
        unfold zipD
        rw [List.length_zipWith, r1.length, r2.length]
      refine ⟨fun H => SqK k1 K H a xs ∧ SqK k2 K H b ys, YPair (fun i => xs[i]?) (fun i => ys[i]?), by rw [hl]; exact walkM, fun W' l => ⟨q1 _ (l.trans W'.ex), q2 _ (l.trans W'.ex)⟩, fun i W' x H' hi l y => ?_⟩
      obtain ⟨T, u, v, rfl, hT, rfl, e1, e2⟩ := y
      obtain ⟨d, h1, h2⟩ := r1.getV e1
      obtain ⟨e, h3, h4⟩ := r2.getV e2
      obtain ⟨W'', l3, e3, r3⟩ := pair_new hT (h2.mono l) (h4.mono l)
      exact ⟨W'', l3, e3, _, zipD_get h1 h3, r3⟩
theorem it_zipTL {ta : TA} (h : EvA W0 ta Γ W [.tup ds, .lst es]) : ItD W0 (iZipM false true K ta) Γ W (zipD ds es) := it_zipM (k1 := false) (k2 := true) h
theorem it_zipTT {ta : TA} (h : EvA W0 ta Γ W [.tup ds, .tup es]) : ItD W0 (iZipM false false K ta) Γ W (zipD ds es) := it_zipM (k1 := false) (k2 := false) h
end
/-- {k: v}, the key a tuple -/
def tDisp1T (tk tv : TE) : TE := fun σ H Q => ∀ p, H p = none → tk σ (upd H p (.dT [])) fun x H1 => tv σ H1 fun y H2 =>
  ∃ (b : Addr) (k : List Key), H2 p = some (.dT []) ∧ x = .ref b ∧ H2 b = some (.tup (k.map kV)) ∧ Q (.ref p) (upd H2 p (.dT [(k, y)]))
theorem pe_disp1T {X : Cx} {pos : Pos} {k v : Expr} {tk tv : TE} (hu : X.A.units + 1 < cLine) (hk : PE X k tk) (hv : PE X v tv) : PE X (.Dict [some k] [v] pos) (tDisp1T tk tv) := by
  refine ⟨fun pins s σ H Q I q => ?_⟩
  have hn := I.hok.fresh (Nat.le_refl s.heap.objs.size)
  have I1 := I.laid (a := s.heap.objs.size) (o := .dT []) (h' := s.heap.push { cls := .type "dict", data := .dict #[] }) (t' := s.toks) (fun _ _ q => Heap.get?_push_of_some _ q) (Nat.le_refl _) (dt_empty s.heap I.big)
  have P := pps_cons (pos := pos) hk hv (pps_nil (X := X))
  have hshape : (evalEachOpt [some k] X.env).zip ((evalEach [v] X.env).map fun v => do let x ← v; standAt pos; pure x) = (pairTrees [some k] [v] X.env pos).map fun p => (some p.1, p.2) := rfl
  rw [arm_eval_Dict, hshape, dictDisplay_pairs _ (by intro z; cases z) (show 1 < _ by decide)]
  refine wpAny_bind (wpAny_standAt (wpAny_bind (wpAny_subDictH (knd := tupleKind (mixKind X.prog X.w)) (Nat.lt_of_succ_lt hu) (show 1 ≤ 15 by decide) ?_)))
  refine thn (P.run pins _ σ _ (fun ps H2 => match ps with
    | [(x, y)] => ∃ (b : Addr) (k : List Key), H2 s.heap.objs.size = some (.dT []) ∧ x = .ref b ∧ H2 b = some (.tup (k.map kV)) ∧ Q (.ref s.heap.objs.size) (upd H2 s.heap.objs.size (.dT [(k, y)]))
    | _ => False) I1 (q _ hn)) ?_
  rintro ws s2 ⟨ps, H2, I2, rel, q1⟩
  cases rel with
  | nil => exact q1.elim
  | @cons p w ps ws r rr =>
    obtain ⟨x, y⟩ := p
    cases rr with
    | cons _ _ => exact q1.elim
    | nil =>
      obtain ⟨b, key, e, rfl, eb, q2⟩ := q1
      obtain ⟨w1, w2⟩ := w
      obtain ⟨r1, r2⟩ := r
      cases r1
      obtain ⟨z, hd, xs0, r0, dd⟩ := dt_of I2.hok e
      cases r0
      refine ⟨[(key, b, w2)], ⟨rfl, rfl, key_of I2.hok eb, True.intro⟩, dd, fun h' tk hm hs => wpAny_pure ⟨.ref s.heap.objs.size, _, ?_, rfl, q2⟩⟩
      obtain ⟨o, es, ep, ho, hx, hdat, he, his, hnd⟩ := hm
      refine d_write I2 (by rw [e]; exact True.intro) hs ⟨o, ho⟩ ⟨Nat.le_of_ble_eq_true rfl, hd, [(key, b, w2)], .cons ⟨rfl, ?_, r2⟩ .nil, o, es, ep, ho, hx, hdat, he, hnd⟩
      rw [upd_ne (ne_of eb e (fun z => nomatch z))]
      exact eb
section
variable {W0 W : Wd} {Γ : List Sl} {tk tv : TE} {d : D}
/-- {k: v}: a dict of one's own; the key and the value stood ahead, or are new -/
theorem ek_disp1 {i : Nat} {k : List Int} (hk : Γ[i]? = some (.dat (.tup (k.map .int)))) (hv : ∀ W1, W ≤ W1 → EvD W0 tv Γ W1 d) : EvK W0 (tDisp1T (tVar i) tv) Γ W [(k, d)] := fun W1 l1 σ E Q q p hp => by
  have lu := Wd.le_up (W := W1) (o := .dT []) hp
  have E2 := E.mono lu
  obtain ⟨v, h1, r⟩ := E2.dat hk
  refine ⟨v, h1, ?_⟩
  refine hv W (Wd.rfl) (W1.up p (.dT []) (none_of W1.ex hp)) (l1.tr lu) σ E2 _ fun u W3 l3 rv => ?_
  obtain ⟨n3, hx3⟩ := l3.ow p _ upd_same (none_of W1.ex hp)
  have r3 := r.mono l3.fr
  cases r3 with
  | tup hy _ s =>
    have e := s.ints
    subst e
    refine ⟨_, k.map Sum.inl, hx3, rfl, by rw [key_map]; exact W3.ex _ _ hy, ?_⟩
    refine q p _ (W3.up p _ n3) ?_ hp n3 upd_same (.cons rv .nil)
    exact Wd.le_up0 (lu.tr l3) hp n3
end
/-! ### len(set(t)) -/
/-- the unlike ones -/
def dd : List Int → List Int
  | [] => []
  | x :: xs => if x ∈ xs then dd xs else x :: dd xs
theorem mem_dd {y : Int} : ∀ {xs : List Int}, y ∈ dd xs ↔ y ∈ xs
  | [] => Iff.rfl
  | x :: xs => by
    unfold dd
    by_cases h : x ∈ xs
    · rw [if_pos h, mem_dd]
      refine ⟨fun q => List.mem_cons_of_mem _ q, fun q => ?_⟩
      rcases List.mem_cons.mp q with rfl | q
      · exact h
      · exact q
    · rw [if_neg h, List.mem_cons, mem_dd, List.mem_cons]
theorem nodup_dd : ∀ xs : List Int, (dd xs).Nodup
  | [] => List.nodup_nil
  | x :: xs => by
    unfold dd
    by_cases h : x ∈ xs
    · rw [if_pos h]
      exact nodup_dd xs
    · rw [if_neg h]
      exact List.nodup_cons.mpr ⟨fun q => h (mem_dd.mp q), nodup_dd xs⟩
theorem dd_le : ∀ xs : List Int, (dd xs).length ≤ xs.length
  | [] => Nat.le_refl _
  | x :: xs => by
    unfold dd
    have := dd_le xs
    by_cases h : x ∈ xs
    · rw [if_pos h, List.length_cons]
      omega
    · rw [if_neg h, List.length_cons, List.length_cons]
      omega
theorem dd_nodup : ∀ {xs : List Int}, xs.Nodup → dd xs = xs
  | [], _ => rfl
  | x :: xs, h => by
    obtain ⟨h1, h2⟩ := List.nodup_cons.mp h
    unfold dd
    rw [if_neg h1, dd_nodup h2]
/-- a list of unlike ones, all in another, isn't longer -/
theorem nodup_le {α : Type} [DecidableEq α] : ∀ {xs ys : List α}, xs.Nodup → (∀ x ∈ xs, x ∈ ys) → xs.length ≤ ys.length
  | [], _, _, _ => Nat.zero_le _
  | x :: xs, ys, h, hs => by
    obtain ⟨h1, h2⟩ := List.nodup_cons.mp h
    have hx : x ∈ ys := hs x (List.mem_cons_self ..)
    have h3 : xs.length ≤ (ys.erase x).length := nodup_le h2 fun y hy => by
      have hne : y ≠ x := fun e => h1 (e ▸ hy)
      exact (List.mem_erase_of_ne hne).mpr (hs y (List.mem_cons_of_mem _ hy))
    rw [List.length_erase_of_mem hx] at h3
    have : 0 < ys.length := List.length_pos_of_mem hx
    rw [List.length_cons]
    omega
def tLenSetT (K : PySem.W.Frag) (ta : TE) : TE := fun σ H Q => ta σ H fun x H1 => ∃ (l : Addr) (ns : List Int), x = .ref l ∧ SqT K H1 l (ns.map V.int) ∧ ns.length ≤ 4000 ∧ Q (.int ((dd ns).length : Nat)) H1
theorem pe_lenSetT {X : Cx} {a : Expr} {ta : TE} {p p2 q pos : Pos} (hg : Gl X "len") (hm : X.mg "len" = none) (hg2 : Gl X "set") (hm2 : X.mg "set" = none) (ha : PE X a ta) (hc : X.calm = true := by rfl)
    (na : starEach [a] X.env = (false, eval a X.env) :: starEach [] X.env := by rfl) : PE X (.Call (.Name "len" p) [.Call (.Name "set" p2) [a] [] q] [] pos) (tLenSetT X.K ta) := by
  refine ⟨fun pins s σ H Q I h => ?_⟩
  refine Call_ (ld_blt I hg hm PySem.boot_len (callWith_builtin1 (args_cons ?_ rfl) rfl rfl))
  refine Call_ (ld_blt I hg2 hm2 (by decide +kernel : bootBuiltins "set" = some (.type "set")) (callWith_type1 (args_cons (thn (ha.run pins s σ H _ I h) fun v s1 ⟨x, H1, I1, r1, q1⟩ => args_nil ?_) na) na rfl))
  obtain ⟨l, ns, rfl, hq, hl, q1⟩ := q1
  cases r1
  obtain ⟨its, r, pl, hz⟩ := I1.tuple hq
  refine call_set_tupI ns (I1.ok.hd hc) pl (RZ.intsAre_vals (by simpa using r)) (by unfold scanBound; omega) fun h' tk c hS hc hk => ?_
  refine args_nil ?_
  obtain ⟨o, es, ep, t, ho, hex, hd, hg, hnd, hmem, hsb, hf, hn, _⟩ := hS
  have I2 : Inv X pins σ H1 { s1 with heap := h', toks := tk } := I1.kept hk
  have e : c = (dd ns).length := by
    have hm : ∀ k, k ∈ ns ↔ k ∈ es.toList.map keyOf := fun k => by rw [← hmem k, decide_eq_true_eq]
    have hle : (es.toList.map keyOf).length = es.size := by rw [List.length_map, Array.length_toList]
    have h1 := nodup_le hnd (ys := dd ns) fun k hk => mem_dd.mpr ((hm k).mpr hk)
    have h2 := nodup_le (nodup_dd ns) (ys := es.toList.map keyOf) fun k hk => (hm k).mp (mem_dd.mp hk)
    rw [hle] at h1 h2
    omega
  exact PySem.call_len_set ho hex hd hf (by rw [hn]; have := dd_le ns; omega) ⟨.int (dd ns).length, H1, I2.tok _, ⟨_, by rw [hn, e]⟩, q1⟩
section
variable {K : PySem.W.Frag} {W0 W : Wd} {Γ : List Sl} {te : TE} {ns : List Int}
theorem ev_lenSet (h : EvD W0 te Γ W (.tup (ns.map .int))) (hl : ns.length ≤ 4000) : EvD W0 (tLenSetT K te) Γ W (.int (dd ns).length) := fun W1 l1 σ E Q q => h W1 l1 σ E _ fun v W2 l2 r => by
  cases r with
  | tup hx z r =>
    have e := r.ints
    subst e
    exact ⟨_, ns, rfl, SqT.of (W2.ex _ _ hx), hl, q _ W2 l2 (.int _)⟩
end
/-! ### sorted: tuples of whole numbers, any of them -/
theorem lex_asym : ∀ xs ys : List Int, HT.lexLt xs ys = true → HT.lexLt ys xs = false
  | [], [], _ => rfl
  | [], _ :: _, _ => rfl
  | _ :: _, [], h => by cases h
  | x :: xs, y :: ys, h => by
    rw [HT.lexLt_cons] at h ⊢
    by_cases e : x = y
    · rw [if_pos e] at h
      rw [if_pos e.symm]
      exact lex_asym xs ys h
    · rw [if_neg e] at h
      rw [if_neg (Ne.symm e)]
      have := of_decide_eq_true h
      exact decide_eq_false (by omega)
theorem lex_le_tr : ∀ xs ys zs : List Int, HT.lexLt ys xs = false → HT.lexLt zs ys = false → HT.lexLt zs xs = false
  | [], _, [], _, _ => rfl
  | [], [], _ :: _, _, h => h
  | [], _ :: _, _ :: _, h, _ => rfl
  | _ :: _, [], _, h, _ => by cases h
  | _ :: _, _ :: _, [], _, h => by cases h
  | x :: xs, y :: ys, z :: zs, h1, h2 => by
    rw [HT.lexLt_cons] at h1 h2 ⊢
    by_cases e1 : y = x
    · rw [if_pos e1] at h1
      by_cases e2 : z = y
      · rw [if_pos e2] at h2
        rw [if_pos (e2.trans e1)]
        exact lex_le_tr xs ys zs h1 h2
      · rw [if_neg e2] at h2
        have := of_decide_eq_false h2
        rw [if_neg (by omega)]
        exact decide_eq_false (by omega)
    · rw [if_neg e1] at h1
      have q1 := of_decide_eq_false h1
      by_cases e2 : z = y
      · rw [if_neg (by omega)]
        exact decide_eq_false (by omega)
      · rw [if_neg e2] at h2
        have q2 := of_decide_eq_false h2
        rw [if_neg (by omega)]
        exact decide_eq_false (by omega)
theorem lex_anti : ∀ xs ys : List Int, HT.lexLt xs ys = false → HT.lexLt ys xs = false → xs = ys
  | [], [], _, _ => rfl
  | [], _ :: _, h, _ => by cases h
  | _ :: _, [], _, h => by cases h
  | x :: xs, y :: ys, h1, h2 => by
    rw [HT.lexLt_cons] at h1 h2
    by_cases e : x = y
    · rw [if_pos e] at h1
      rw [if_pos e.symm] at h2
      rw [e, lex_anti xs ys h1 h2]
    · rw [if_neg e] at h1
      rw [if_neg (Ne.symm e)] at h2
      have q1 := of_decide_eq_false h1
      have q2 := of_decide_eq_false h2
      omega
theorem swo_key {α : Type} (k : α → List Int) : SrtO.Swo fun v u => HT.lexLt (k v) (k u) :=
  ⟨fun x y h => lex_asym _ _ h, fun x y z h1 h2 => lex_le_tr _ _ _ h1 h2⟩
/-- v is a tuple of the whole numbers ns in h -/
def TupIn (h : Heap) (v : Value) (ns : List Int) : Prop := ∃ a o xs n, v = .ref a ∧ h.get? a = some o ∧ o.cls = .type "tuple" ∧ o.data = .seq xs n ∧ IntsAre xs.toList ns
section
variable {prog : Program} {w : World} {A : Around} {E : Value → Shared → Prop} {s : Shared}
theorem lex_lex : ∀ (us ws : List Value) (ns ms : List Int) (i : Nat), IntsAre us ns → IntsAre ws ms →
    PySem.W.KatLex prog w A true (decide (us.length < ws.length)) (fun r s' => s' = s ∧ r = HT.lexLt ns ms) (us.zip ws) i s
  | [], [], _, _, i, .nil, .nil => PySem.W.kat_nil ⟨rfl, rfl⟩
  | [], _ :: _, _, _, i, .nil, .cons _ _ _ => PySem.W.kat_nil ⟨rfl, decide_eq_true (Nat.succ_pos _)⟩
  | _ :: _, [], _, _, i, .cons _ _ _, .nil => PySem.W.kat_nil ⟨rfl, decide_eq_false (Nat.not_lt_zero _)⟩
  | _ :: us, _ :: ws, _, _, i, .cons x t hu, .cons y u hw => by
    rename_i ns ms
    have e0 : decide ((Value.int x t :: us).length < (Value.int y u :: ws).length) = decide (us.length < ws.length) := by
      rw [List.length_cons, List.length_cons]
      by_cases h : us.length < ws.length
      · rw [decide_eq_true h, decide_eq_true (by omega)]
      · rw [decide_eq_false h, decide_eq_false (by omega)]
    rw [e0, HT.lexLt_cons, List.zip_cons_cons]
    refine PySem.W.kat_cons (SeqAt.EqAt.int_int x t y u prog w _ _ (PySem.W.kat_go (fun e1 => ?_) (fun e1 => ?_)))
    · rw [if_pos (by simpa using e1)]
      exact PySem.W.kat_yes (lex_lex us ws ns ms (i + 1) hu hw)
    · rw [if_neg (by simpa using e1)]
      exact PySem.W.kat_no (TS.oneLt_ints _ ⟨rfl, rfl⟩)
theorem tups_cmp {vs : List Value} {k : Value → List Int} (hp : ∀ v ∈ vs, TupIn s.heap v (k v)) : SrtO.Cmp prog w A s (tuples' true) (fun p => p.1 ∈ vs) (SrtO.lt2 fun v u => HT.lexLt (k v) (k u)) := by
  intro p q hm hm'
  obtain ⟨a, o, xs, n, e, ho, hc, hd, hi⟩ := hp _ hm
  obtain ⟨b, o', ys, m, e', ho', hc', hd', hi'⟩ := hp _ hm'
  show wpAny (model prog w) A (keyLt' (tuples' true) p.1 q.1) (fun r s' => s' = s ∧ r = HT.lexLt (k p.1) (k q.1)) (fun _ _ => False) s
  generalize k p.1 = ns at hi ⊢
  generalize k q.1 = ms at hi' ⊢
  rw [e, e']
  refine PySem.W.kat_lt ho hd ho' hd' ?_
  have := lex_lex (prog := prog) (w := w) (A := A) (s := s) xs.toList ys.toList ns ms 0 hi hi'
  rw [Array.length_toList, Array.length_toList] at this
  exact this
theorem tups_firsts {h : Heap} {k : Value → List Int} : ∀ {vs : List Value}, (∀ v ∈ vs, TupIn h v (k v) ∧ k v ≠ []) → ∃ fs : List Value, PySem.W.KatTups h vs fs ∧ fs.length = vs.length ∧ ∀ f ∈ fs, ∃ x t, f = Value.int x t
  | [], _ => ⟨[], PySem.W.KatTups.nil, rfl, fun _ hm => by simp at hm⟩
  | v :: vs, hp => by
    obtain ⟨fs, h1, h2, h3⟩ := tups_firsts (vs := vs) fun v' hm => hp v' (List.mem_cons_of_mem _ hm)
    obtain ⟨⟨a, o, xs, n, e, ho, hc, hd, hi⟩, hne⟩ := hp v (List.mem_cons_self ..)
    generalize hk : k v = ns at hi hne
    cases hx : xs.toList with
    | nil =>
      rw [hx] at hi
      cases hi
      exact absurd rfl hne
    | cons y r =>
      rw [hx] at hi
      cases hi with
      | cons z t hr =>
        subst e
        have h0 : xs[0]? = some (Value.int z t) := by
          rw [← Array.getElem?_toList, hx]
          rfl
        refine ⟨.int z t :: fs, PySem.W.KatTups.cons ho hc hd h0 h1, by rw [List.length_cons, List.length_cons, h2], fun f hm => ?_⟩
        rcases List.mem_cons.mp hm with rfl | hm
        · exact ⟨z, t, rfl⟩
        · exact h3 f hm
theorem TupIn.keeps {h h' : Heap} {v : Value} {ns : List Int} (x : TupIn h v ns) (k : ∀ b o, o.cls = .type "tuple" → h.get? b = some o → h'.get? b = some o) : TupIn h' v ns := by
  obtain ⟨a, o, xs, n, e, ho, hc, r⟩ := x
  exact ⟨a, o, xs, n, e, k _ _ hc ho, hc, r⟩
theorem tups_sortable {a : Addr} {vs : List Value} {k : Value → List Int} (h0 : 0 < vs.length) (hp : ∀ v ∈ vs, TupIn s.heap v (k v) ∧ k v ≠ []) (ha : ∀ o, s.heap.get? a = some o → o.cls ≠ .type "tuple") :
    SrtO.SortableO prog w A s a vs fun v u => HT.lexLt (k v) (k u) := by
  intro h' keep
  have hp' : ∀ v ∈ vs, TupIn h' v (k v) ∧ k v ≠ [] := fun v hm => ⟨(hp v hm).1.keeps fun b o c e => keep b o (fun z => by subst z; exact ha o e c) e, (hp v hm).2⟩
  obtain ⟨fs, h1, h2, h3⟩ := tups_firsts hp'
  refine ⟨tuples' true, fun Q E hq => ?_, tups_cmp fun v hv => (hp' v hv).1⟩
  refine PySem.W.kat_kind (T := .type "int") h1 (by omega) (fun f hm => ?_) (by rfl) ?_
  · obtain ⟨x, t, rfl⟩ := h3 f hm
    exact PySem.W.Looks.now
  · have e : (Value.type "int" != Value.type "tuple") = true := by decide +kernel
    rw [e]
    exact hq
end
def rSortedTs (K : PySem.W.Frag) : List V → Hp → VK → Prop := fun vs H Q => ∃ (a : Addr) (xs : List V) (k : V → List Int), vs = [V.ref a] ∧ SqL K H a xs ∧ (∀ x ∈ xs, ∃ t, x = V.ref t ∧ H t = some (.tup ((k x).map V.int)) ∧ k x ≠ []) ∧
  ∀ ys p, SrtO.Srtd (fun x y => HT.lexLt (k x) (k y)) ys → ys.Perm xs → H p = none → Q (.ref p) (upd H p (.lst ys))
theorem c_sorted {X : Cx} (hc : X.calm = true) : CallR X (.builtin "sorted") (rSortedTs X.K) := by
  intro pins s σ H vs us Q I r h
  obtain ⟨a, xs, k, rfl, hs, hx, q⟩ := h
  obtain ⟨its, rv, hl, hz⟩ := I.list hs
  obtain ⟨u, rfl, ru⟩ := vals1 r
  obtain rfl : u = Value.ref a := ru
  obtain ⟨e1, e2⟩ := refs_back rv fun x m => by
    obtain ⟨t, e, _⟩ := hx x m
    exact ⟨t, e⟩
  have hin : ∀ v ∈ its, TupIn s.heap v (k (backV v)) ∧ k (backV v) ≠ [] := fun v hv => by
    obtain ⟨t, rfl⟩ := e2 v hv
    have hm : V.ref t ∈ xs := by
      rw [e1]
      exact List.mem_map.mpr ⟨_, hv, rfl⟩
    obtain ⟨t', e, ht, hne⟩ := hx _ hm
    cases e
    obtain ⟨_, its2, r2, o, ho, hcl, n, hd⟩ := I.hok _ _ ht
    exact ⟨⟨t, o, its2.toArray, n, rfl, ho, hcl, hd, (show IntsAre its2.toArray.toList (k (V.ref t)) by simpa using RZ.intsAre_vals r2)⟩, hne⟩
  refine SrtO.sorted_ord (swo_key fun u => k (backV u)) hl.isList (by rw [← rv.length]; exact hz) (fun h2 h₁ b hb kk => ?_) fun out h1 h2 => ?_
  · refine tups_sortable (s := { s with heap := h₁ }) (by omega) (fun v hv => ⟨(hin v hv).1.keeps fun c o _ e => (kk c o e).2, (hin v hv).2⟩) fun o e => ?_
    have e' := Eq.trans e.symm hb
    cases e'
    intro c
    exact absurd (Value.type.inj c) (by decide)
  · have h3 : ∀ u ∈ out, ∃ a, u = Value.ref a := fun u hu => e2 u (h2.perm.mem_iff.mp hu)
    obtain ⟨n, hn⟩ := sortedAll_at s.heap its out.toArray
    have hp : (out.map backV).Perm xs := by
      rw [e1]
      exact h2.perm.map backV
    refine ⟨.ref (s.heap.objs.size + 1), upd H (s.heap.objs.size + 1) (.lst (out.map backV)), I.laid (t' := s.toks) (fun b o e => sortedAll_old e) (Nat.le_succ _) ⟨?_, out, n, vals_back h3, hn⟩, rfl, q _ _ (SrtO.srtd_map h1) hp (I.hok.fresh (Nat.le_succ _))⟩
    rw [hp.length_eq]
    exact hz
/-! ### the sorted list itself -/
def ins (x : List Int) : List (List Int) → List (List Int)
  | [] => [x]
  | y :: ys => if HT.lexLt y x then y :: ins x ys else x :: y :: ys
def srt : List (List Int) → List (List Int)
  | [] => []
  | x :: xs => ins x (srt xs)
theorem ins_perm (x : List Int) : ∀ ys, (ins x ys).Perm (x :: ys)
  | [] => List.Perm.refl _
  | y :: ys => by
    unfold ins
    cases h : HT.lexLt y x with
    | true =>
      rw [if_pos rfl]
      exact ((ins_perm x ys).cons y).trans (List.Perm.swap x y ys)
    | false =>
      rw [if_neg Bool.false_ne_true]
theorem srt_perm : ∀ xs, (srt xs).Perm xs
  | [] => List.Perm.refl _
  | x :: xs => (ins_perm x (srt xs)).trans ((srt_perm xs).cons x)
abbrev Rise (l : List (List Int)) : Prop := l.Pairwise fun x y => HT.lexLt y x = false
theorem ins_rise (x : List Int) : ∀ ys, Rise ys → Rise (ins x ys)
  | [], _ => List.pairwise_singleton _ _
  | y :: ys, h => by
    obtain ⟨h1, h2⟩ := List.pairwise_cons.mp h
    unfold ins
    cases e : HT.lexLt y x with
    | true =>
      rw [if_pos rfl]
      refine List.pairwise_cons.mpr ⟨fun z hz => ?_, ins_rise x ys h2⟩
      rcases List.mem_cons.mp ((ins_perm x ys).mem_iff.mp hz) with rfl | hz
      · exact lex_asym _ _ e
      · exact h1 z hz
    | false =>
      rw [if_neg Bool.false_ne_true]
      refine List.pairwise_cons.mpr ⟨fun z hz => ?_, h⟩
      rcases List.mem_cons.mp hz with rfl | hz
      · exact e
      · exact lex_le_tr _ _ _ e (h1 z hz)
theorem srt_rise : ∀ xs, Rise (srt xs)
  | [] => List.Pairwise.nil
  | x :: xs => ins_rise x _ (srt_rise xs)
theorem lex_irr (x : List Int) : HT.lexLt x x = false := by
  cases h : HT.lexLt x x with
  | false => rfl
  | true =>
    have := lex_asym _ _ h
    rw [h] at this
    cases this
theorem rise_uniq : ∀ {xs ys : List (List Int)}, Rise xs → Rise ys → xs.Perm ys → xs = ys
  | [], ys, _, _, p => by rw [List.nil_perm.mp p]
  | x :: xs, [], _, _, p => by cases (List.perm_nil.mp p)
  | x :: xs, y :: ys, hx, hy, p => by
    obtain ⟨a1, a2⟩ := List.pairwise_cons.mp hx
    obtain ⟨b1, b2⟩ := List.pairwise_cons.mp hy
    have h1 : HT.lexLt y x = false := by
      rcases List.mem_cons.mp (p.mem_iff.mpr (List.mem_cons_self ..)) with e | h
      · rw [e]
        exact lex_irr _
      · exact a1 y h
    have h2 : HT.lexLt x y = false := by
      rcases List.mem_cons.mp (p.mem_iff.mp (List.mem_cons_self ..)) with e | h
      · rw [e]
        exact lex_irr _
      · exact b1 x h
    have e := lex_anti _ _ h2 h1
    subst e
    rw [rise_uniq a2 b2 (List.Perm.cons_inv p)]
theorem srt_uniq {xs ys : List (List Int)} (h : Rise ys) (p : ys.Perm xs) : ys = srt xs := rise_uniq h (srt_rise xs) (p.trans (srt_perm xs).symm)
def intsV (vs : List V) : List Int := vs.filterMap fun v => match v with
  | .int i => some i
  | _ => none
theorem intsV_map (ns : List Int) : intsV (ns.map V.int) = ns := by
  unfold intsV
  rw [List.filterMap_map]
  induction ns with
  | nil => rfl
  | cons n ns ih =>
    rw [List.filterMap_cons]
    show (n :: _) = _
    rw [ih]
def keyF (f : Hp) (v : V) : List Int := match v with
  | .ref a => match f a with
    | some (.tup vs) => intsV vs
    | _ => []
  | _ => []
theorem Rp.key {f : Hp} {v : V} {ns : List Int} (r : Rp f v (.tup (ns.map .int))) : keyF f v = ns ∧ ∃ t, v = .ref t ∧ f t = some (.tup (ns.map V.int)) := by
  cases r with
  | tup hx hz r =>
    have e := r.ints
    subst e
    refine ⟨?_, _, rfl, hx⟩
    simp only [keyF, hx, intsV_map]
theorem RpL.keys {f : Hp} : ∀ {vs : List V} {ss : List (List Int)}, RpL f vs (ss.map fun s => .tup (s.map .int)) → vs.map (keyF f) = ss ∧ ∀ v ∈ vs, Rp f v (.tup ((keyF f v).map .int))
  | [], ss, r => by
    cases ss with
    | nil => exact ⟨rfl, fun v hv => by cases hv⟩
    | cons _ _ => cases r
  | v :: vs, ss, r => by
    cases ss with
    | nil => cases r
    | cons s ss =>
      rw [List.map_cons] at r
      cases r with
      | cons h r =>
        obtain ⟨e1, e2⟩ := RpL.keys r
        have e3 := h.key.1
        refine ⟨by rw [List.map_cons, e1, e3], fun u hu => ?_⟩
        rcases List.mem_cons.mp hu with rfl | hu
        · rw [e3]
          exact h
        · exact e2 u hu
theorem RpL.of_keys {f : Hp} : ∀ {vs : List V}, (∀ v ∈ vs, Rp f v (.tup ((keyF f v).map .int))) → RpL f vs ((vs.map (keyF f)).map fun s => .tup (s.map .int))
  | [], _ => .nil
  | v :: vs, h => .cons (h v (List.mem_cons_self ..)) (RpL.of_keys fun u hu => h u (List.mem_cons_of_mem _ hu))
section
variable {K : PySem.W.Frag} {W0 W : Wd} {Γ : List Sl} {te : TE} {ss : List (List Int)}
theorem el_sorted (h : EvD W0 te Γ W (.lst (ss.map fun s => .tup (s.map .int)))) (hne : ∀ s ∈ ss, s ≠ []) : EvL W0 (tCB (rSortedTs K) (tCons te tNil)) Γ W ((srt ss).map fun s => .tup (s.map .int)) := fun W1 l1 σ E Q q => h W1 l1 σ E _ fun v W2 l2 r => by
  cases r with
  | lst hx hz r =>
    obtain ⟨e1, e2⟩ := r.keys
    rename_i a xs
    refine ⟨a, xs, keyF W2.f, rfl, SqL.of (W2.ex _ _ hx), fun x hm => ?_, fun ys p hs hp hn => ?_⟩
    · obtain ⟨_, t, e, ht⟩ := (e2 x hm).key
      refine ⟨t, e, W2.ex _ _ ht, hne _ ?_⟩
      rw [← e1]
      exact List.mem_map.mpr ⟨x, hm, rfl⟩
    · have e3 : ys.map (keyF W2.f) = srt ss := by
        refine srt_uniq (List.pairwise_map.mpr hs) ?_
        rw [← e1]
        exact hp.map _
      refine q p ys (W2.up p _ (none_of W2.ex hn)) (l2.tr (Wd.le_up hn)) (l2.hh.free hn) (none_of W2.ex hn) upd_same ?_
      rw [← e3]
      exact RpL.of_keys fun v hv => e2 v (hp.mem_iff.mp hv)
/-- pairs -/
def srtP (gs : List (Int × Int)) : List (Int × Int) := (srt (gs.map fun p => [p.1, p.2])).map fun s => (s.headD 0, (s.drop 1).headD 0)
theorem srt_pairs (gs : List (Int × Int)) : srt (gs.map fun p => [p.1, p.2]) = (srtP gs).map fun p => [p.1, p.2] := by
  unfold srtP
  rw [List.map_map]
  have : ∀ s ∈ srt (gs.map fun p => [p.1, p.2]), ((fun p : Int × Int => [p.1, p.2]) ∘ fun s : List Int => (s.headD 0, (s.drop 1).headD 0)) s = s := by
    intro s hs
    have := (srt_perm _).mem_iff.mp hs
    obtain ⟨p, _, rfl⟩ := List.mem_map.mp this
    rfl
  rw [List.map_congr_left this, List.map_id']
theorem srtP_perm (gs : List (Int × Int)) : (srtP gs).Perm gs := by
  have h := (srt_perm (gs.map fun p => [p.1, p.2])).map fun s => (s.headD 0, (s.drop 1).headD 0)
  rw [List.map_map] at h
  have e : gs.map ((fun s : List Int => (s.headD 0, (s.drop 1).headD 0)) ∘ fun p : Int × Int => [p.1, p.2]) = gs := by
    have : ∀ p ∈ gs, ((fun s : List Int => (s.headD 0, (s.drop 1).headD 0)) ∘ fun p : Int × Int => [p.1, p.2]) p = p := fun p _ => rfl
    rw [List.map_congr_left this, List.map_id']
  rw [e] at h
  exact h
theorem el_sortedP {gs : List (Int × Int)} (h : EvD W0 te Γ W (.lst (gs.map fun p => .tup [.int p.1, .int p.2]))) : EvL W0 (tCB (rSortedTs K) (tCons te tNil)) Γ W ((srtP gs).map fun p => .tup [.int p.1, .int p.2]) := by
  have e : ∀ gs : List (Int × Int), (gs.map fun p : Int × Int => D.tup [.int p.1, .int p.2]) = (gs.map fun p : Int × Int => [p.1, p.2]).map fun s => D.tup (s.map .int) := fun gs => by
    rw [List.map_map]
    rfl
  rw [e] at h ⊢
  have := el_sorted (K := K) h (fun s hs => by
    obtain ⟨p, _, rfl⟩ := List.mem_map.mp hs
    intro z
    cases z)
  rw [srt_pairs] at this
  exact this
end
/-! ### dict(pairs), the keys tuples -/
structure Pt4 where
  p : Addr
  b : Addr
  k : List Key
  v : V
def mergeT (kvs more : List (List Key × V)) : List (List Key × V) := more.foldl (fun acc kv => putK acc kv.1 kv.2) kvs
theorem mergeT_len : ∀ (more kvs : List (List Key × V)), (mergeT kvs more).length ≤ kvs.length + more.length
  | [], kvs => Nat.le_refl _
  | p :: r, kvs => by
    have h1 := mergeT_len r (putK kvs p.1 p.2)
    have h2 : (putK kvs p.1 p.2).length ≤ kvs.length + 1 := length_putK kvs p.1 p.2
    show (mergeT (putK kvs p.1 p.2) r).length ≤ _
    rw [List.length_cons]
    omega
abbrev RelT (H : Hp) (e : Pt4) (q : List Key × Addr × Value) : Prop := q.1 = e.k ∧ q.2.1 = e.b ∧ H e.b = some (.tup (e.k.map kV)) ∧ RelV e.v q.2.2
theorem KT.merge {H : Hp} {es : List Pt4} {prs : List (List Key × Addr × Value)} (r : Paired (RelT H) es prs) : ∀ {kvs : List (List Key × V)} {xs : List (List Key × Addr × Value)}, KT H kvs xs →
    KT H (mergeT kvs (es.map fun e => (e.k, e.v))) (storedAllH xs prs) := by
  induction r with
  | nil => intro kvs xs r0; exact r0
  | @cons e q es prs h t ih =>
    intro kvs xs r0
    obtain ⟨k, b, u⟩ := q
    obtain ⟨h1, h2, h3, h4⟩ := h
    dsimp only at h1 h2
    subst h1 h2
    exact ih (r0.put e.k h3 h4)
section
variable {X : Cx}
theorem pt4_of {pins : List (Addr × Obj)} {σ : L2.St} {H : Hp} {s : Shared} (I : Inv X pins σ H s) : ∀ {es : List Pt4}, (∀ e ∈ es, SqT X.K H e.p [.ref e.b, e.v] ∧ H e.b = some (.tup (e.k.map kV))) →
    ∃ prs : List (List Key × Addr × Value), Paired (RelT H) es prs ∧
      ∀ (j : Nat) (q : List Key × Addr × Value), prs[j]? = some q → ∃ e, es[j]? = some e ∧ q.2.1 = e.b ∧ s.heap.IsTuple e.p #[.ref e.b, q.2.2]
  | [], _ => ⟨[], .nil, fun j q e => by simp at e⟩
  | e :: es, h => by
    obtain ⟨prs, r, hp⟩ := pt4_of I fun e' he => h e' (List.mem_cons_of_mem _ he)
    obtain ⟨h1, h2⟩ := h e (List.mem_cons_self ..)
    obtain ⟨its, rv, ht, _⟩ := I.tuple h1
    obtain ⟨u, y, ei, ru, ry⟩ := vals2 rv
    subst ei
    cases (show u = Value.ref e.b from ru)
    refine ⟨(e.k, e.b, y) :: prs, .cons ⟨rfl, rfl, h2, ry⟩ r, fun j q hq => ?_⟩
    cases j with
    | zero =>
      have e' : (e.k, e.b, y) = q := Option.some.inj hq
      subst e'
      exact ⟨e, rfl, rfl, ht⟩
    | succ j =>
      obtain ⟨e2, g1, g2, g3⟩ := hp j q (by simpa using hq)
      exact ⟨e2, by simpa using g1, g2, g3⟩
def rDictT (K : PySem.W.Frag) : List V → Hp → VK → Prop := fun vs H Q => ∃ (a : Addr) (es : List Pt4), vs = [.ref a] ∧ SqL K H a (es.map fun e => .ref e.p) ∧ (∀ e ∈ es, SqT K H e.p [.ref e.b, e.v] ∧ H e.b = some (.tup (e.k.map kV))) ∧
  ∀ p, H p = none → Q (.ref p) (upd H p (.dT (mergeT [] (es.map fun e => (e.k, e.v)))))
theorem c_dictT (hu : X.A.units + 65 < cLine) (hcalm : X.calm = true) : CallR X (.type "dict") (rDictT X.K) := by
  intro pins s σ H xs us Q I r q
  obtain ⟨a, es, rfl, hq, hp, q⟩ := q
  obtain ⟨u, eu, rx⟩ := vals1 r
  subst eu
  cases rx
  obtain ⟨its, rv, pl, hz⟩ := I.list hq
  have hits : its = (es.map (·.p)).map Value.ref := refs_at (by rw [List.map_map]; exact rv)
  subst hits
  rw [List.length_map] at hz
  obtain ⟨prs, rel, hpr⟩ := pt4_of I hp
  have hlen := Paired.length rel
  obtain ⟨o, n, ho, hc, hd, hdat⟩ := pl
  have hm : (s.heap.objs.size == sysModules) = false := beq_eq_false_iff_ne.mpr (Nat.ne_of_gt I.big)
  have P := PairArg.list (prog := X.prog) (w := X.w) a ((es.map (·.p)).map Value.ref).toArray (fun j => (es.map (·.p)).getD j 0) (prs.map fun q => (Value.ref q.2.1, q.2.2))
  have hrk : ∀ x ∈ prs, H x.2.1 = some (.tup (x.1.map kV)) := by
    intro x hx
    obtain ⟨j, hj⟩ := List.mem_iff_getElem?.mp hx
    obtain ⟨e, he, _⟩ := hpr j x hj
    have : ∀ {es : List Pt4} {prs : List (List Key × Addr × Value)}, Paired (RelT H) es prs → ∀ x ∈ prs, H x.2.1 = some (.tup (x.1.map kV)) := by
      intro es prs r
      induction r with
      | nil => intro x hx; cases hx
      | cons h t ih =>
        intro x hx
        rcases List.mem_cons.mp hx with rfl | hx
        · rw [h.1, h.2.1]
          exact h.2.2.1
        · exact ih x hx
    exact this rel x hx
  refine call_dict_pairsH (knd := tupleKind (mixKind X.prog X.w)) (ps := prs) P (I.ok.hd hcalm) (show X.A.units + 1 + 1 < cLine by omega) ⟨⟨o, n, ho, hc, hd, hdat⟩, ?_, ?_⟩ ⟨by rw [List.length_map], ?_⟩ ?_ ?_ ?_
  · simp [hlen]
  · intro j k v hj
    rw [List.getElem?_map] at hj
    obtain ⟨x, hx, ex⟩ := Option.map_eq_some_iff.mp hj
    cases ex
    obtain ⟨e, he, e2, e3⟩ := hpr j x hx
    have hgd : (es.map (·.p)).getD j 0 = e.p := by
      rw [List.getD_eq_getElem?_getD, List.getElem?_map, he]
      rfl
    refine ⟨?_, .inl ?_⟩
    · simp [he]
    · show s.heap.IsTuple ((es.map fun x => x.p).getD j 0) _
      rw [hgd, e2]
      exact e3
  · intro i key v hr
    have hr' : (prs.map fun q => (Value.ref q.2.1, q.2.2))[i]? = some (key, v) := hr
    rw [List.getElem?_map] at hr'
    obtain ⟨x, hx, ex⟩ := Option.map_eq_some_iff.mp hr'
    cases ex
    exact ⟨x.1, x.2.1, hx, rfl⟩
  · intro h' hk x hx
    have hkey := key_of (P := X.prog) (w := X.w) I.hok (hrk x hx)
    obtain ⟨o, its, n, h1, h2, h3, h4⟩ := hkey
    exact ⟨o, its, n, hk _ _ (Nat.ne_of_lt (Heap.lt_size h1)) (by simp) h1, h2, h3, h4⟩
  · rw [List.length_map, ← hlen]
    exact hz
  · intro h' tk hd' hk
    have hl2 : (mergeT [] (es.map fun e => (e.k, e.v))).length ≤ sizeLine := by
      have := mergeT_len (es.map fun e => (e.k, e.v)) []
      rw [List.length_map, List.length_nil] at this
      omega
    have hn := I.hok.fresh (Nat.le_refl s.heap.objs.size)
    obtain ⟨o2, es2, ep2, g1, g2, g3, g4, g5, g6⟩ := hd'
    refine ⟨.ref s.heap.objs.size, upd H s.heap.objs.size (.dT (mergeT [] (es.map fun e => (e.k, e.v)))), I.laid (t' := tk) (fun b o e => hk b o (by simp) e) (Nat.le_refl _) ⟨hl2, hm, storedAllH [] prs, ?_, o2, es2, ep2, g1, g2, g3, g4, g6⟩, rfl, q _ hn⟩
    refine KT.keeps (KT.merge rel .nil) fun b ys hb => ?_
    rw [upd_ne (ne_of_none hb hn)]
    exact hb
end
/-- what dict(pairs) holds -/
def dOf {β : Type} (as : List (List Int × β)) : List (List Int × β) := as.foldl (fun acc a => pt acc a.1 a.2) []
theorem RpK.merge {f : Hp} {es : List Pt4} {as : List (List Int × D)} (r : Paired (fun (e : Pt4) (a : List Int × D) => e.k = a.1.map Sum.inl ∧ Rp f e.v a.2) es as) : ∀ {kvs : List (List Key × V)} {ks : List (List Int × D)},
    RpK f kvs ks → RpK f (mergeT kvs (es.map fun e => (e.k, e.v))) (as.foldl (fun acc a => pt acc a.1 a.2) ks) := by
  induction r with
  | nil => intro kvs ks r0; exact r0
  | @cons e a es as h t ih =>
    intro kvs ks r0
    obtain ⟨p, b, k, v⟩ := e
    obtain ⟨h1, h2⟩ := h
    dsimp only at h1 h2
    subst h1
    exact ih (r0.put h2)
section
variable {K : PySem.W.Frag} {W0 W : Wd} {Γ : List Sl} {te : TE}
theorem pt4_rp {f : Hp} : ∀ {as : List (List Int × D)} {xs : List V}, RpL f xs (as.map fun a => .tup [.tup (a.1.map .int), a.2]) →
    ∃ es : List Pt4, xs = es.map (fun e => .ref e.p) ∧ Paired (fun (e : Pt4) (a : List Int × D) => e.k = a.1.map Sum.inl ∧ Rp f e.v a.2) es as ∧ ∀ e ∈ es, f e.p = some (.tup [.ref e.b, e.v]) ∧ f e.b = some (.tup (e.k.map kV))
  | [], _, r => by
    cases r
    exact ⟨[], rfl, .nil, fun e he => by cases he⟩
  | a :: as, _, r => by
    rw [List.map_cons] at r
    cases r with
    | cons h r =>
      obtain ⟨es, e1, e2, e3⟩ := pt4_rp r
      cases h with
      | tup hx _ s =>
        cases s with
        | cons s1 s =>
          cases s with
          | cons s2 s =>
            cases s
            cases s1 with
            | tup hy _ t =>
              have q := t.ints
              subst q
              rename_i p z v b z2
              refine ⟨⟨p, b, a.1.map Sum.inl, v⟩ :: es, congrArg _ e1, .cons ⟨rfl, s2⟩ e2, fun e he => ?_⟩
              rcases List.mem_cons.mp he with rfl | he
              · exact ⟨hx, by rw [key_map]; exact hy⟩
              · exact e3 e he
theorem ek_dict {as : List (List Int × D)} (h : EvD W0 te Γ W (.lst (as.map fun a => .tup [.tup (a.1.map .int), a.2]))) : EvK W0 (tCB (rDictT K) (tCons te tNil)) Γ W (dOf as) := fun W1 l1 σ E Q q => h W1 l1 σ E _ fun v W2 l2 r => by
  cases r with
  | lst hx hz r =>
    obtain ⟨es, rfl, e2, e3⟩ := pt4_rp r
    refine ⟨_, es, rfl, SqL.of (W2.ex _ _ hx), fun e he => ⟨SqT.of (W2.ex _ _ (e3 e he).1), W2.ex _ _ (e3 e he).2⟩, fun p hp => ?_⟩
    exact q p _ (W2.up p _ (none_of W2.ex hp)) (l2.tr (Wd.le_up hp)) (l2.hh.free hp) (none_of W2.ex hp) upd_same (RpK.merge e2 .nil)
end
end Fg

set_option Elab.async false
set_option linter.all false
set_option maxRecDepth 100000
set_option maxHeartbeats 4000000
/-! Short words for the terms. -/
namespace Fg
open PySem L2 RZ

theorem b_len : bootBuiltins "len" = some (.builtin "len") := by decide +kernel
theorem b_abs : bootBuiltins "abs" = some (.builtin "abs") := by decide +kernel
theorem b_all : bootBuiltins "all" = some (.builtin "all") := by decide +kernel
theorem b_any : bootBuiltins "any" = some (.builtin "any") := by decide +kernel
theorem b_sum : bootBuiltins "sum" = some (.builtin "sum") := by decide +kernel
theorem b_min : bootBuiltins "min" = some (.builtin "min") := by decide +kernel
theorem b_max : bootBuiltins "max" = some (.builtin "max") := by decide +kernel
theorem b_sorted : bootBuiltins "sorted" = some (.builtin "sorted") := by decide +kernel
theorem b_isinstance : bootBuiltins "isinstance" = some (.builtin "isinstance") := by decide +kernel
theorem b_int : bootBuiltins "int" = some (.type "int") := by decide +kernel
theorem b_bool : bootBuiltins "bool" = some (.type "bool") := by decide +kernel
theorem b_str : bootBuiltins "str" = some (.type "str") := by decide +kernel
theorem b_list : bootBuiltins "list" = some (.type "list") := by decide +kernel
theorem b_tuple : bootBuiltins "tuple" = some (.type "tuple") := by decide +kernel
theorem b_dict : bootBuiltins "dict" = some (.type "dict") := by decide +kernel
theorem b_set : bootBuiltins "set" = some (.type "set") := by decide +kernel
/-- the built-in words are the built-in ones -/
structure Gb (mg : Str → Option Value) : Prop where
  n_len : mg "len" = none
  n_abs : mg "abs" = none
  n_all : mg "all" = none
  n_any : mg "any" = none
  n_sum : mg "sum" = none
  n_min : mg "min" = none
  n_max : mg "max" = none
  n_sorted : mg "sorted" = none
  n_isinstance : mg "isinstance" = none
  n_int : mg "int" = none
  n_bool : mg "bool" = none
  n_str : mg "str" = none
  n_list : mg "list" = none
  n_tuple : mg "tuple" = none
  n_dict : mg "dict" = none
  n_set : mg "set" = none
  n_range : mg "range" = none
  n_zip : mg "zip" = none
  n_enumerate : mg "enumerate" = none
section
variable {X : Cx}
/-- name = e -/
theorem ps_sv (i : Nat) {x : Str} {e : Expr} {te : TE} {pos' pos : Pos} (hN : X.N.Nodup) (he : PE X e te) (hi : X.N[i]? = some x := by rfl) (hx : Loc X.env.scope x := by first | exact Or.inl rfl | exact Or.inr rfl)
    (hs : swapsWith e (some (.Name x pos')) pos.line X.env = pure false := by rfl) (hf : X.fn x = true ∨ X.env.scope.names.lookup x = some .local := by first | exact .inl rfl | exact .inr rfl) : PS X (.Assign [.Name x pos'] e pos) (tAsg te (gName i)) :=
  ps_set hN hi hx he hs hf
theorem pg_n (i : Nat) {x : Str} {pos : Pos} (hN : X.N.Nodup) (hi : X.N[i]? = some x := by rfl) (hx : Loc X.env.scope x := by first | exact Or.inl rfl | exact Or.inr rfl)
    (hf : X.fn x = true ∨ X.env.scope.names.lookup x = some .local := by first | exact .inl rfl | exact .inr rfl) : PG X (.Name x pos) (gName i) := pg_name hN hi hx hf
theorem pg_tupK {K0 : PySem.W.Frag} (hK : X.K = K0) {es : List Expr} {k : Nat} {t : TGs} {n : Nat} {pos : Pos} (hc : X.calm = true) (h : PGs X es t)
    (hn : (assignEach es X.env).length = n := by rfl) (hst : (assignEach es X.env).findIdx? (·.1) = none := by rfl) : PG X (.Tuple es k pos) (gTup K0 n t) := by
  subst hK
  exact pg_tup hc h hn hst
end
theorem hu65_of {A : Around} {k : Nat} (hr : Room k A) : A.units + 65 < cLine := by
  have := hr.un
  omega
/-- a place's fact, by its place -/
theorem at_nat {α : Type} {xs : List α} {i : Nat} {x : α} (h : xs[i]? = some x) : atI xs (i : Int) = some x := atI_of (by omega) (by simpa using h)
theorem at_map {α : Type} {ns : List α} (f : α → D) {i : Int} {n : α} (h : atI ns i = some n) : atI (ns.map f) i = some (f n) := by
  unfold atI at h ⊢
  rw [List.length_map]
  cases e : ixN ns.length i with
  | none =>
    rw [e] at h
    cases h
  | some j =>
    rw [e] at h
    show (ns.map f)[j]? = _
    rw [List.getElem?_map, show ns[j]? = some n from h]
    rfl
theorem at0 {α : Type} {x : α} {xs : List α} : atI (x :: xs) 0 = some x := by
  unfold atI ixN
  rw [if_pos (by omega), if_pos (by simp only [List.length_cons]; omega)]
  rfl
theorem at1 {α : Type} {x y : α} {xs : List α} : atI (x :: y :: xs) 1 = some y := by
  unfold atI ixN
  rw [if_pos (by omega), if_pos (by simp only [List.length_cons]; omega)]
  rfl
/-- the item at a place, 0 beside the list -/
def nth (ns : List Int) (i : Int) : Int := (atI ns i).getD 0
theorem nth_at {ns : List Int} {i : Int} (h0 : 0 ≤ i) (h1 : i < ns.length) : atI ns i = some (nth ns i) := by
  unfold nth
  cases e : atI ns i with
  | some x => rfl
  | none =>
    exfalso
    have : i.toNat < ns.length := by omega
    have h := atI_of (xs := ns) (i := i) (x := ns[i.toNat]) h0 (by simp [this])
    rw [h] at e
    cases e
theorem at_ints {ns : List Int} {i : Int} (h : 0 ≤ i ∧ i < ns.length) : atI (ns.map D.int) i = some (.int (nth ns i)) := at_map D.int (nth_at h.1 h.2)
section
variable {K : PySem.W.Frag} {W0 W : Wd} {Γ : List Sl} {te : TE} {wi : TI} {g : TG} {vs : List Nat}
theorem ev_allM {α : Type} {as : List α} {p : α → Bool} (h : EvH W0 te Γ W (.lst (as.map fun a => .bl (p a)))) : EvD W0 (tCB (rAll K) (tCons te tNil)) Γ W (.bl (as.all p)) := by
  have e : as.map (fun a => D.bl (p a)) = (as.map p).map .bl := by rw [List.map_map]; rfl
  rw [e] at h
  have := ev_all (K := K) h
  rw [List.all_map] at this
  exact this
theorem ev_anyM {α : Type} {as : List α} {p : α → Bool} (h : EvH W0 te Γ W (.lst (as.map fun a => .bl (p a)))) : EvD W0 (tCB (rAny K) (tCons te tNil)) Γ W (.bl (as.any p)) := by
  have e : as.map (fun a => D.bl (p a)) = (as.map p).map .bl := by rw [List.map_map]; rfl
  rw [e] at h
  have := ev_any (K := K) h
  rw [List.any_map] at this
  exact this
/-- all([e for a in as]) -/
theorem ev_allA {α : Type} (as : List α) (c : α → D) (e : α → Bool) (hi : ItD W0 wi Γ W (as.map c)) (hn : as.length ≤ cap)
    (hs : ∀ a ∈ as, ∃ sl Γ', (∀ i ∈ sl, i ∈ vs) ∧ TgD W0 g sl (c a) (wipeG Γ vs) Γ' ∧ ∀ W1, W ≤ W1 → EvD W0 te Γ' W1 (.bl (e a))) :
    EvD W0 (tCB (rAll K) (tCons (tLc wi g tYes te vs) tNil)) Γ W (.bl (as.all e)) :=
  ev_allM (((el_lcA as c (fun a => .bl (e a)) hi hn hs).fz (by rw [List.length_map]; exact hn)).h)
theorem ev_anyA {α : Type} (as : List α) (c : α → D) (e : α → Bool) (hi : ItD W0 wi Γ W (as.map c)) (hn : as.length ≤ cap)
    (hs : ∀ a ∈ as, ∃ sl Γ', (∀ i ∈ sl, i ∈ vs) ∧ TgD W0 g sl (c a) (wipeG Γ vs) Γ' ∧ ∀ W1, W ≤ W1 → EvD W0 te Γ' W1 (.bl (e a))) :
    EvD W0 (tCB (rAny K) (tCons (tLc wi g tYes te vs) tNil)) Γ W (.bl (as.any e)) :=
  ev_anyM (((el_lcA as c (fun a => .bl (e a)) hi hn hs).fz (by rw [List.length_map]; exact hn)).h)
end
section
variable {K : PySem.W.Frag} {W0 W : Wd} {Γ : List Sl} {te : TE} {d : D}
def D.nob : D → Bool
  | .obj _ _ => false
  | .fl _ _ => false
  | _ => true
def D.isaI : D → Bool
  | .int _ => true
  | .bl _ => true
  | _ => false
theorem ev_isaI (ha : EvH W0 te Γ W d) (hd : d.nob = true) : EvD W0 (tCB (rIsi K) (tCons te (tCons (tC (.ty "int")) tNil))) Γ W (.bl d.isaI) := by
  cases d with
  | obj C fs => cases hd
  | fl _ _ => cases hd
  | non => exact ev_isi ha (.ty _) True.intro (kit_ty (by decide +kernel : kitB "NoneType" "int" = some false))
  | bl _ => exact ev_isi ha (.ty _) True.intro (kit_ty (by decide +kernel : kitB "bool" "int" = some true))
  | int _ => exact ev_isi ha (.ty _) True.intro (kit_ty (by decide +kernel : kitB "int" "int" = some true))
  | str _ => exact ev_isi ha (.ty _) True.intro (kit_ty (by decide +kernel : kitB "str" "int" = some false))
  | lst _ => exact ev_isi ha (.ty _) True.intro (kit_ty (by decide +kernel : kitB "list" "int" = some false))
  | tup _ => exact ev_isi ha (.ty _) True.intro (kit_ty (by decide +kernel : kitB "tuple" "int" = some false))
  | dct _ => exact ev_isi ha (.ty _) True.intro (kit_ty (by decide +kernel : kitB "dict" "int" = some false))
def D.isaB : D → Bool
  | .bl _ => true
  | _ => false
theorem ev_isaB (ha : EvH W0 te Γ W d) (hd : d.nob = true) : EvD W0 (tCB (rIsi K) (tCons te (tCons (tC (.ty "bool")) tNil))) Γ W (.bl d.isaB) := by
  cases d with
  | obj C fs => cases hd
  | fl _ _ => cases hd
  | non => exact ev_isi ha (.ty _) True.intro (kit_ty (by decide +kernel : kitB "NoneType" "bool" = some false))
  | bl _ => exact ev_isi ha (.ty _) True.intro (kit_ty (by decide +kernel : kitB "bool" "bool" = some true))
  | int _ => exact ev_isi ha (.ty _) True.intro (kit_ty (by decide +kernel : kitB "int" "bool" = some false))
  | str _ => exact ev_isi ha (.ty _) True.intro (kit_ty (by decide +kernel : kitB "str" "bool" = some false))
  | lst _ => exact ev_isi ha (.ty _) True.intro (kit_ty (by decide +kernel : kitB "list" "bool" = some false))
  | tup _ => exact ev_isi ha (.ty _) True.intro (kit_ty (by decide +kernel : kitB "tuple" "bool" = some false))
  | dct _ => exact ev_isi ha (.ty _) True.intro (kit_ty (by decide +kernel : kitB "dict" "bool" = some false))
def D.isaL : D → Bool
  | .lst _ => true
  | _ => false
theorem ev_isaL (ha : EvH W0 te Γ W d) (hd : d.nob = true) : EvD W0 (tCB (rIsi K) (tCons te (tCons (tC (.ty "list")) tNil))) Γ W (.bl d.isaL) := by
  cases d with
  | obj C fs => cases hd
  | fl _ _ => cases hd
  | non => exact ev_isi ha (.ty _) True.intro (kit_ty (by decide +kernel : kitB "NoneType" "list" = some false))
  | bl _ => exact ev_isi ha (.ty _) True.intro (kit_ty (by decide +kernel : kitB "bool" "list" = some false))
  | int _ => exact ev_isi ha (.ty _) True.intro (kit_ty (by decide +kernel : kitB "int" "list" = some false))
  | str _ => exact ev_isi ha (.ty _) True.intro (kit_ty (by decide +kernel : kitB "str" "list" = some false))
  | lst _ => exact ev_isi ha (.ty _) True.intro (kit_ty (by decide +kernel : kitB "list" "list" = some true))
  | tup _ => exact ev_isi ha (.ty _) True.intro (kit_ty (by decide +kernel : kitB "tuple" "list" = some false))
  | dct _ => exact ev_isi ha (.ty _) True.intro (kit_ty (by decide +kernel : kitB "dict" "list" = some false))
def D.isaT : D → Bool
  | .tup _ => true
  | _ => false
theorem ev_isaT (ha : EvH W0 te Γ W d) (hd : d.nob = true) : EvD W0 (tCB (rIsi K) (tCons te (tCons (tC (.ty "tuple")) tNil))) Γ W (.bl d.isaT) := by
  cases d with
  | obj C fs => cases hd
  | fl _ _ => cases hd
  | non => exact ev_isi ha (.ty _) True.intro (kit_ty (by decide +kernel : kitB "NoneType" "tuple" = some false))
  | bl _ => exact ev_isi ha (.ty _) True.intro (kit_ty (by decide +kernel : kitB "bool" "tuple" = some false))
  | int _ => exact ev_isi ha (.ty _) True.intro (kit_ty (by decide +kernel : kitB "int" "tuple" = some false))
  | str _ => exact ev_isi ha (.ty _) True.intro (kit_ty (by decide +kernel : kitB "str" "tuple" = some false))
  | lst _ => exact ev_isi ha (.ty _) True.intro (kit_ty (by decide +kernel : kitB "list" "tuple" = some false))
  | tup _ => exact ev_isi ha (.ty _) True.intro (kit_ty (by decide +kernel : kitB "tuple" "tuple" = some true))
  | dct _ => exact ev_isi ha (.ty _) True.intro (kit_ty (by decide +kernel : kitB "dict" "tuple" = some false))
end
/-! ### the library's rules with K told -/
section
variable {X : Cx} (K0 : PySem.W.Frag)
theorem kx_ix_list  (hK : X.K = K0 := by rfl) : IxR X (rIxL K0) := by
  subst hK
  exact ix_list 
theorem kx_ix_tup  (hK : X.K = K0 := by rfl) : IxR X (rIxT K0) := by
  subst hK
  exact ix_tup 
theorem kx_sl_list  (hK : X.K = K0 := by rfl) : SlR X (rSlL K0) := by
  subst hK
  exact sl_list 
theorem kx_sl_tupA  (hK : X.K = K0 := by rfl) : SlR X (rSlA K0) := by
  subst hK
  exact sl_tupA 
theorem kx_op_catA  (hK : X.K = K0 := by rfl) : OpR X (binaryOp .Add) (rCatA K0) := by
  subst hK
  exact op_catA 
theorem kx_op_in_seq  (hK : X.K = K0 := by rfl) : OpR X (compareOp .In) (rIn K0 false) := by
  subst hK
  exact op_in_seq 
theorem kx_op_notIn_seq  (hK : X.K = K0 := by rfl) : OpR X (compareOp .NotIn) (rIn K0 true) := by
  subst hK
  exact op_notIn_seq 
theorem kx_op_inD (hu : X.A.units + 65 < cLine) (hK : X.K = K0 := by rfl) : OpR X (compareOp .In) (rInD K0) := by
  subst hK
  exact op_inD hu
theorem kx_op_notInD (hu : X.A.units + 65 < cLine) (hK : X.K = K0 := by rfl) : OpR X (compareOp .NotIn) (rNotInD K0) := by
  subst hK
  exact op_notInD hu
theorem kx_op_eqD (hu : X.A.units + 64 < cLine) (hK : X.K = K0 := by rfl) : OpR X (compareOp .Eq) (rEqD K0) := by
  subst hK
  exact op_eqD hu
theorem kx_op_neD (hu : X.A.units + 64 < cLine) (hK : X.K = K0 := by rfl) : OpR X (compareOp .NotEq) (rNeD K0) := by
  subst hK
  exact op_neD hu
theorem kx_call_isi  (hK : X.K = K0 := by rfl) : CallR X (.builtin "isinstance") (rIsi K0) := by
  subst hK
  exact call_isi 
theorem kx_cr_all (hc : X.calm = true) (hK : X.K = K0 := by rfl) : CallR X (.builtin "all") (rAll K0) := by
  subst hK
  exact cr_all hc
theorem kx_cr_any (hc : X.calm = true) (hK : X.K = K0 := by rfl) : CallR X (.builtin "any") (rAny K0) := by
  subst hK
  exact cr_any hc
theorem kx_cr_sum (hc : X.calm = true) (hK : X.K = K0 := by rfl) : CallR X (.builtin "sum") (rSum K0) := by
  subst hK
  exact cr_sum hc
theorem kx_c_len  (hK : X.K = K0 := by rfl) : CallR X (.builtin "len") (rLenS K0) := by
  subst hK
  exact c_len 
theorem kx_c_list  (hK : X.K = K0 := by rfl) : CallR X (.type "list") (rListS K0) := by
  subst hK
  exact c_list 
theorem kx_c_tuple  (hK : X.K = K0 := by rfl) : CallR X (.type "tuple") (rTupS K0) := by
  subst hK
  exact c_tuple 
theorem kx_c_sorted (hc : X.calm = true) (hK : X.K = K0 := by rfl) : CallR X (.builtin "sorted") (rSortedTs K0) := by
  subst hK
  exact c_sorted hc
theorem kx_c_dictT (hu : X.A.units + 65 < cLine) (hc : X.calm = true) (hK : X.K = K0 := by rfl) : CallR X (.type "dict") (rDictT K0) := by
  subst hK
  exact c_dictT hu hc
theorem kx_fld {e : Expr} {f : Str} {pos : Pos} {ta : TE} (he : PE X e ta) (hb : attributeBase e f X.env (eval e X.env) = eval e X.env) (hK : X.K = K0 := by rfl) : PE X (.Attribute e f pos) (tFld K0 ta f) := by
  subst hK
  exact pe_fld he hb
end
theorem kx_op_ltT (K0 : PySem.W.Frag) {X : Cx} (hu : X.A.units < cLine) (hK : X.K = K0 := by rfl) : OpR X (compareOp .Lt) (rLtT K0) := by
  subst hK
  exact op_ltT hu
theorem ev_ltT {K : PySem.W.Frag} {W0 W : Wd} {Γ : List Sl} {ta tb : TE} {ns ms : List Int} (ha : EvD W0 ta Γ W (.tup (ns.map .int))) (hb : EvD W0 tb Γ W (.tup (ms.map .int))) : EvD W0 (tOp (rLtT K) ta tb) Γ W (.bl (HT.lexLt ns ms)) := ev_op2 ha hb fun W1 _ x y rx ry Q q => by
  cases rx with
  | tup hx _ r =>
    cases ry with
    | tup hy _ s =>
      have e1 := r.ints
      have e2 := s.ints
      subst e1
      subst e2
      exact ⟨_, _, ns, ms, rfl, rfl, SqT.of (W1.ex _ _ hx), SqT.of (W1.ex _ _ hy), q _ W1 Wd.rfl (.bl _)⟩
def ltP (g h : Int × Int) : Bool := HT.lexLt [g.1, g.2] [h.1, h.2]
end Fg

set_option Elab.async false
set_option linter.all false
set_option maxRecDepth 100000
set_option maxHeartbeats 4000000
/-! The program's data and what its functions come to. -/
namespace Fg
open PySem L2 RZ

/-! ### data -/
abbrev dIs (ns : List Int) : D := .lst (ns.map .int)
abbrev dSt (ns : List Int) : D := .tup (ns.map .int)
abbrev dPr (p : Int × Int) : D := .tup [.int p.1, .int p.2]
abbrev dPrs (gs : List (Int × Int)) : D := .lst (gs.map dPr)
/-- a farm: rooms, gates -/
structure Farm where
  rooms : List Int
  gates : List (Int × Int)
  deriving DecidableEq
abbrev dFm (fm : Farm) : D := .tup [dIs fm.rooms, dPrs fm.gates]
abbrev dOi : Option Int → D
  | none => .non
  | some i => .int i
abbrev dWs (w : List (Option Int)) : D := .tup (w.map dOi)
abbrev dRg (r : List (List Int)) : D := .lst (r.map dSt)
abbrev dRgs (rs : List (List (List Int))) : D := .lst (rs.map dRg)
theorem pls_map {α : Type} {f : α → D} (h : ∀ a, (f a).pl = true) : ∀ as : List α, D.pls (as.map f) = true
  | [] => by unfold List.map D.pls; rfl
  | a :: as => by
    rw [List.map_cons]
    unfold D.pls
    rw [h a, pls_map h as]
    rfl
theorem pys_map {α : Type} {f : α → D} : ∀ as : List α, D.pys (as.map f) = as.map fun a => (f a).py
  | [] => by unfold List.map D.pys; rfl
  | a :: as => by
    rw [List.map_cons, List.map_cons]
    unfold D.pys
    rw [pys_map as]
theorem canLayAll_map {α : Type} {f : α → PyData} (h : ∀ a, PyData.canLay0 (f a) = true) : ∀ as : List α, PyData.canLayAll0 (as.map f) = true
  | [] => by simp [PyData.canLayAll0]
  | a :: as => by simp [PyData.canLayAll0, h a, canLayAll_map h as]
theorem depthAll_map {α : Type} {f : α → PyData} {n : Nat} (h : ∀ a, PyData.depth (f a) ≤ n) : ∀ as : List α, PyData.depthAll (as.map f) ≤ n
  | [] => by simp [PyData.depthAll]
  | a :: as => by
    simp only [List.map_cons, PyData.depthAll]
    have h1 := h a
    have h2 := depthAll_map h as
    omega
/-- data of depth n that may be compared -/
def Sh (n : Nat) (d : D) : Prop := d.pl = true ∧ PyData.canLay0 d.py = true ∧ PyData.depth d.py ≤ n
theorem Sh.shp {n : Nat} {d : D} (h : Sh n d) (hn : n ≤ 64) : d.shp = true := by
  unfold D.shp SeqAt.shaped
  rw [h.1, h.2.1]
  simp only [Bool.true_and, decide_eq_true_eq]
  exact Nat.le_trans h.2.2 hn
theorem Sh.le {n m : Nat} {d : D} (h : Sh n d) (hn : n ≤ m) : Sh m d := ⟨h.1, h.2.1, Nat.le_trans h.2.2 hn⟩
theorem sh_int (i : Int) : Sh 0 (.int i) := ⟨by unfold D.pl; rfl, by unfold D.py PyData.canLay0; rfl, by unfold D.py; simp [PyData.depth]⟩
theorem sh_bl (b : Bool) : Sh 0 (.bl b) := ⟨by unfold D.pl; rfl, by unfold D.py PyData.canLay0; rfl, by unfold D.py; simp [PyData.depth]⟩
theorem sh_non : Sh 0 .non := ⟨by unfold D.pl; rfl, by unfold D.py PyData.canLay0; rfl, by unfold D.py; simp [PyData.depth]⟩
theorem sh_lstM {α : Type} {f : α → D} {n : Nat} (h : ∀ a, Sh n (f a)) (as : List α) : Sh (n + 1) (.lst (as.map f)) := by
  refine ⟨by unfold D.pl; exact pls_map (fun a => (h a).1) as, ?_, ?_⟩
  · unfold D.py
    rw [pys_map]
    unfold PyData.canLay0
    exact canLayAll_map (fun a => (h a).2.1) as
  · unfold D.py
    rw [pys_map]
    simp only [PyData.depth]
    have := depthAll_map (f := fun a => (f a).py) (fun a => (h a).2.2) as
    omega
theorem sh_tupM {α : Type} {f : α → D} {n : Nat} (h : ∀ a, Sh n (f a)) (as : List α) : Sh (n + 1) (.tup (as.map f)) := by
  refine ⟨by unfold D.pl; exact pls_map (fun a => (h a).1) as, ?_, ?_⟩
  · unfold D.py
    rw [pys_map]
    unfold PyData.canLay0
    exact canLayAll_map (fun a => (h a).2.1) as
  · unfold D.py
    rw [pys_map]
    simp only [PyData.depth]
    have := depthAll_map (f := fun a => (f a).py) (fun a => (h a).2.2) as
    omega
theorem sh_nil : Sh 1 (.lst []) := sh_lstM (f := D.int) sh_int []
theorem sh_tup2 {n : Nat} {a b : D} (ha : Sh n a) (hb : Sh n b) : Sh (n + 1) (.tup [a, b]) := by
  have := sh_tupM (f := fun x : {d : D // Sh n d} => x.1) (fun x => x.2) [⟨a, ha⟩, ⟨b, hb⟩]
  exact this
theorem sh_lst2 {n : Nat} {a b : D} (ha : Sh n a) (hb : Sh n b) : Sh (n + 1) (.lst [a, b]) := by
  have := sh_lstM (f := fun x : {d : D // Sh n d} => x.1) (fun x => x.2) [⟨a, ha⟩, ⟨b, hb⟩]
  exact this
theorem sh_pr (p : Int × Int) : Sh 1 (dPr p) := sh_tup2 (sh_int _) (sh_int _)
theorem sh_prs (gs : List (Int × Int)) : Sh 2 (dPrs gs) := sh_lstM sh_pr gs
theorem sh_st (s : List Int) : Sh 1 (dSt s) := sh_tupM sh_int s
theorem sh_is (s : List Int) : Sh 1 (dIs s) := sh_lstM sh_int s
theorem sh_oi (o : Option Int) : Sh 0 (dOi o) := by cases o with
  | none => exact sh_non
  | some i => exact sh_int i
theorem sh_ws (s : List (Option Int)) : Sh 1 (dWs s) := sh_tupM sh_oi s
theorem sh_rg (s : List (List Int)) : Sh 2 (dRg s) := sh_lstM sh_st s
theorem sh_rgs (s : List (List (List Int))) : Sh 3 (dRgs s) := sh_lstM sh_rg s
theorem sh_fm (fm : Farm) : Sh 3 (dFm fm) := sh_tup2 ((sh_is _).le (by decide)) (sh_prs _)
theorem sh_bls (bs : List Bool) : Sh 1 (.lst (bs.map .bl)) := sh_lstM sh_bl bs

/-! ### == of data of one sort is equality -/
theorem eqvAll_map {α : Type} {f : α → D} (h : ∀ a b, D.eqb (f a) (f b) = true ↔ a = b) : ∀ as bs : List α, PyData.eqvAll (D.pys (as.map f)) (D.pys (bs.map f)) = true ↔ as = bs
  | [], [] => by unfold List.map D.pys; simp [PyData.eqvAll]
  | [], b :: bs => by
    rw [List.map_cons]
    unfold List.map D.pys
    simp [PyData.eqvAll]
  | a :: as, [] => by
    rw [List.map_cons]
    unfold List.map D.pys
    simp [PyData.eqvAll]
  | a :: as, b :: bs => by
    rw [List.map_cons, List.map_cons]
    unfold D.pys
    simp only [PyData.eqvAll, Bool.and_eq_true]
    have h1 := h a b
    unfold D.eqb at h1
    rw [h1, eqvAll_map h as bs]
    simp
theorem eqb_int (a b : Int) : D.eqb (.int a) (.int b) = true ↔ a = b := by
  unfold D.eqb D.py
  simp [PyData.eqv]
theorem eqb_lst {α : Type} {f : α → D} (h : ∀ a b, D.eqb (f a) (f b) = true ↔ a = b) (as bs : List α) : D.eqb (.lst (as.map f)) (.lst (bs.map f)) = true ↔ as = bs := by
  unfold D.eqb D.py
  simp only [PyData.eqv]
  exact eqvAll_map h as bs
theorem eqb_tup {α : Type} {f : α → D} (h : ∀ a b, D.eqb (f a) (f b) = true ↔ a = b) (as bs : List α) : D.eqb (.tup (as.map f)) (.tup (bs.map f)) = true ↔ as = bs := by
  unfold D.eqb D.py
  simp only [PyData.eqv]
  exact eqvAll_map h as bs
theorem eqb_tup2 (a b c d : D) : D.eqb (.tup [a, b]) (.tup [c, d]) = (D.eqb a c && D.eqb b d) := by
  unfold D.eqb
  simp [D.py, D.pys, PyData.eqv, PyData.eqvAll]
theorem eqb_pr (a b : Int × Int) : D.eqb (dPr a) (dPr b) = true ↔ a = b := by
  rw [eqb_tup2, Bool.and_eq_true, eqb_int, eqb_int]
  exact ⟨fun h => Prod.ext h.1 h.2, fun h => by rw [h]; exact ⟨rfl, rfl⟩⟩
theorem eqb_st : ∀ a b : List Int, D.eqb (dSt a) (dSt b) = true ↔ a = b := eqb_tup eqb_int
theorem eqb_is : ∀ a b : List Int, D.eqb (dIs a) (dIs b) = true ↔ a = b := eqb_lst eqb_int
theorem eqb_prs : ∀ a b : List (Int × Int), D.eqb (dPrs a) (dPrs b) = true ↔ a = b := eqb_lst eqb_pr
theorem eqb_rg : ∀ a b : List (List Int), D.eqb (dRg a) (dRg b) = true ↔ a = b := eqb_lst eqb_st
theorem eqb_rgs : ∀ a b : List (List (List Int)), D.eqb (dRgs a) (dRgs b) = true ↔ a = b := eqb_lst eqb_rg
theorem eqb_fm (a b : Farm) : D.eqb (dFm a) (dFm b) = true ↔ a = b := by
  rw [eqb_tup2, Bool.and_eq_true, eqb_is, eqb_prs]
  cases a
  cases b
  simp
theorem eqb_bl (a b : Bool) : D.eqb (.bl a) (.bl b) = true ↔ a = b := by
  unfold D.eqb D.py
  simp [PyData.eqv]
theorem eqb_dec {α : Type} [DecidableEq α] {f : α → D} (h : ∀ a b, D.eqb (f a) (f b) = true ↔ a = b) (a b : α) : D.eqb (f a) (f b) = decide (a = b) := by
  rw [Bool.eq_iff_iff, h, decide_eq_true_eq]
theorem inb_iff {α : Type} {f : α → D} (h : ∀ a b, D.eqb (f a) (f b) = true ↔ a = b) (a : α) (as : List α) : inb (f a) (as.map f) = true ↔ a ∈ as := by
  unfold inb
  rw [List.any_map, List.any_eq_true]
  constructor
  · rintro ⟨x, hx, e⟩
    have := (h x a).mp e
    rw [← this]
    exact hx
  · intro ha
    exact ⟨a, ha, (h a a).mpr rfl⟩
theorem inb_pr (p : Int × Int) (gs : List (Int × Int)) : inb (dPr p) (gs.map dPr) = decide (p ∈ gs) := by rw [Bool.eq_iff_iff, inb_iff eqb_pr, decide_eq_true_eq]
theorem inb_st (p : List Int) (gs : List (List Int)) : inb (dSt p) (gs.map dSt) = decide (p ∈ gs) := by rw [Bool.eq_iff_iff, inb_iff eqb_st, decide_eq_true_eq]
/-- the script -/
abbrev dFl (K : PySem.W.Frag) (ns : List Int) : D := .fl K (ns.map .int)
theorem dps_ints {K : PySem.W.Frag} {H : Hp} : ∀ ns : List Int, DpAll K H (ns.map V.int) (D.pys (ns.map D.int))
  | [] => by unfold List.map D.pys; exact .nil
  | n :: ns => by
    rw [List.map_cons, List.map_cons]
    unfold D.pys
    refine .cons ?_ (dps_ints ns)
    unfold D.py
    exact .int n
/-- script != [] -/
theorem ev_neF {K : PySem.W.Frag} {W0 W : Wd} {Γ : List Sl} {ta tb : TE} {ns ms : List Int} (ha : EvH W0 ta Γ W (dFl K ns)) (hb : EvH W0 tb Γ W (dIs ms)) : EvD W0 (tOp (rNeD K) ta tb) Γ W (.bl (!decide (ns = ms))) := ev_op2h ha hb fun W1 _ x y rx ry Q q => by
  cases rx with
  | fl hx hz r =>
    have e := r.ints
    subst e
    have h1 := (sh_is ns).shp (by decide)
    have h2 := (sh_is ms).shp (by decide)
    have e1 : (dIs ns).py = .list (D.pys (ns.map D.int)) := by unfold D.py; rfl
    refine ⟨(dIs ns).py, (dIs ms).py, ?_, ry.dp (Same.refl _) (shp_pl h2), shp_sh h1, shp_sh h2, ?_⟩
    · rw [e1]
      exact .lst hx.sq (dps_ints ns)
    · have h3 := eqb_dec eqb_is ns ms
      unfold D.eqb at h3
      rw [h3]
      exact q _ W1 Wd.rfl (.bl _)
end Fg

set_option Elab.async false
set_option linter.all false
set_option maxRecDepth 100000
set_option maxHeartbeats 4000000
/-! What the program's functions come to: plain functions over plain data. -/
namespace Fg
open PySem L2

def norm (a b : Int) : Int × Int := (min a b, max a b)
def canGo (fm : Farm) (fl st : List Int) (f p : Int) : Bool :=
  if !(decide (0 ≤ f) && decide (f < fl.length)) || (!(decide (0 ≤ p) && decide (p < fm.rooms.length)) || (decide (p ∈ st) || decide (nth fm.rooms p < nth fl f))) then false
  else decide (norm (nth st f) p ∈ fm.gates)
def bhd (st : List Int) (f p : Int) : List Int := st.set f.toNat p
def deedsAt (fm : Farm) (fl st : List Int) (i : Nat) : List (Int × Int) := ((List.range fm.rooms.length).filter fun (j : Nat) => canGo fm fl st (i : Int) (j : Int)).map fun (j : Nat) => ((i : Int), (j : Int))
def deedsOf (fm : Farm) (fl st : List Int) : List (Int × Int) := (List.range fl.length).flatMap (deedsAt fm fl st)
def wOk (p : Int × Option Int) : Bool := match p.2 with
  | none => true
  | some i => decide (i = p.1)
def asWished (st : List Int) (w : List (Option Int)) : Bool := (st.zip w).all wOk
def between (d : D) (a b : Int) : Bool := match d with
  | .int t => decide (a ≤ t) && decide (t ≤ b)
  | _ => false
def isStand (fm : Farm) (fl t : List Int) : Bool :=
  if !decide (t.length = fl.length) then false
  else if !(t.all fun p => decide (0 ≤ p) && decide (p ≤ (fm.rooms.length : Int) - 1)) || !decide ((dd t).length = t.length) then false
  else (t.zip fl).all fun q => decide (q.2 ≤ nth fm.rooms q.1)
/-- the first deed that can't be done, from the place k on, and the stand ahead of it -/
def firstBad (fm : Farm) (fl : List Int) : Nat → List Int → List (Int × Int) → Option Nat × List Int
  | _, st, [] => (none, st)
  | k, st, d :: ds => if canGo fm fl st d.1 d.2 then firstBad fm fl (k + 1) (bhd st d.1 d.2) ds else (some k, st)
def nextsOf (fm : Farm) (fl st : List Int) : List (List Int) := (deedsOf fm fl st).map fun d => bhd st d.1 d.2
/-- the sizes are such as the farms, flocks and stands have -/
structure Sz (fm : Farm) (fl st : List Int) : Prop where
  r : fm.rooms.length ≤ 6
  f : fl.length ≤ 4
  s : st.length = fl.length

/-! ### small facts -/
theorem zipD_map {α β : Type} (f : α → D) (g : β → D) : ∀ (as : List α) (bs : List β), zipD (as.map f) (bs.map g) = (as.zip bs).map fun q => .tup [f q.1, g q.2]
  | [], bs => by simp [zipD]
  | a :: as, [] => by simp [zipD]
  | a :: as, b :: bs => by
    have := zipD_map f g as bs
    unfold zipD at this ⊢
    rw [List.map_cons, List.map_cons, List.zipWith_cons_cons, this, List.zip_cons_cons, List.map_cons]
theorem canGo_rng {fm : Farm} {fl st : List Int} {f p : Int} (h : canGo fm fl st f p = true) : 0 ≤ f ∧ f < fl.length ∧ 0 ≤ p ∧ p < fm.rooms.length := by
  unfold canGo at h
  split at h
  · cases h
  · rename_i q
    simp only [Bool.or_eq_true, Bool.not_eq_true', Bool.and_eq_false_imp, decide_eq_true_eq, decide_eq_false_iff_not, not_or] at q
    omega
theorem bhd_len (st : List Int) (f p : Int) : (bhd st f p).length = st.length := by
  unfold bhd
  rw [List.length_set]
theorem cutL_map {α β : Type} (g : α → β) (xs : List α) (lo hi : Option Int) : cutL (xs.map g) lo hi = (cutL xs lo hi).map g := by
  unfold cutL
  rw [List.length_map, List.map_take, List.map_drop]
theorem cutL_to {α : Type} (xs : List α) {i : Int} (h : 0 ≤ i) : cutL xs none (some i) = xs.take i.toNat := by
  unfold cutL
  have e1 : HT.sIx xs.length 0 none = 0 := rfl
  have e2 : HT.sIx xs.length xs.length (some i) = min i.toNat xs.length := by
    unfold HT.sIx
    exact if_neg (by omega)
  rw [e1, e2, List.drop_zero, Nat.sub_zero]
  by_cases q : i.toNat ≤ xs.length
  · rw [Nat.min_eq_left q]
  · rw [Nat.min_eq_right (by omega), List.take_length, List.take_of_length_le (by omega)]
theorem cutL_from {α : Type} (xs : List α) {i : Int} (h : 0 ≤ i) : cutL xs (some i) none = xs.drop i.toNat := by
  unfold cutL
  have e1 : HT.sIx xs.length xs.length none = xs.length := rfl
  have e2 : HT.sIx xs.length 0 (some i) = min i.toNat xs.length := by
    unfold HT.sIx
    exact if_neg (by omega)
  rw [e1, e2]
  by_cases q : i.toNat ≤ xs.length
  · rw [Nat.min_eq_left q, List.take_of_length_le (by rw [List.length_drop]; omega)]
  · rw [Nat.min_eq_right (by omega), List.drop_eq_nil_of_le (Nat.le_refl _), List.drop_eq_nil_of_le (by omega), List.take_nil]
theorem set_cut (st : List Int) {f : Int} (p : Int) (h0 : 0 ≤ f) (h1 : f < st.length) : cutL st none (some f) ++ [p] ++ cutL st (some (f + 1)) none = bhd st f p := by
  rw [cutL_to _ h0, cutL_from _ (by omega)]
  unfold bhd
  have e : (f + 1).toNat = f.toNat + 1 := by omega
  rw [e, List.set_eq_take_append_cons_drop, if_pos (by omega)]
  simp
theorem foldl_flatMap {α β : Type} (f : α → List β) : ∀ (xs : List α) (acc : List β), xs.foldl (fun s a => s ++ f a) acc = acc ++ xs.flatMap f
  | [], acc => by simp
  | x :: xs, acc => by
    rw [List.foldl_cons, foldl_flatMap f xs, List.flatMap_cons, List.append_assoc]
theorem flatMap_le {α β : Type} (f : α → List β) (n : Nat) (h : ∀ a, (f a).length ≤ n) : ∀ xs : List α, (xs.flatMap f).length ≤ xs.length * n
  | [] => by simp
  | x :: xs => by
    rw [List.flatMap_cons, List.length_append, List.length_cons, Nat.add_mul, Nat.one_mul]
    have := h x
    have := flatMap_le f n h xs
    omega
theorem deedsAt_le (fm : Farm) (fl st : List Int) (i : Nat) : (deedsAt fm fl st i).length ≤ fm.rooms.length := by
  unfold deedsAt
  rw [List.length_map]
  exact Nat.le_trans (List.length_filter_le ..) (by rw [List.length_range]; exact Nat.le_refl _)
theorem deedsOf_le {fm : Farm} {fl st : List Int} (h : Sz fm fl st) : (deedsOf fm fl st).length ≤ 24 := by
  have h1 := flatMap_le (deedsAt fm fl st) 6 (fun i => Nat.le_trans (deedsAt_le fm fl st i) h.r) (List.range fl.length)
  rw [List.length_range] at h1
  have := h.f
  unfold deedsOf
  omega
theorem mem_deedsOf {fm : Farm} {fl st : List Int} {d : Int × Int} (h : d ∈ deedsOf fm fl st) : canGo fm fl st d.1 d.2 = true := by
  unfold deedsOf deedsAt at h
  obtain ⟨i, _, h⟩ := List.mem_flatMap.mp h
  obtain ⟨j, hj, rfl⟩ := List.mem_map.mp h
  exact (List.mem_filter.mp hj).2
/-! ### first_bad as a run -/
def fbStep (fm : Farm) (fl : List Int) (st : List Int) (q : (Int × Int) × Nat) : Except (Nat × List Int) (List Int) := if canGo fm fl st q.1.1 q.1.2 then .ok (bhd st q.1.1 q.1.2) else .error (q.2, st)
theorem firstBad_run (fm : Farm) (fl : List Int) : ∀ (k : Nat) (st : List Int) (ds : List (Int × Int)), firstBad fm fl k st ds = match runL (fbStep fm fl) st (ds.zipIdx k) with
    | .ok s => (none, s)
    | .error r => (some r.1, r.2)
  | _, _, [] => rfl
  | k, st, d :: ds => by
    rw [List.zipIdx_cons, runL]
    unfold firstBad fbStep
    dsimp only
    by_cases h : canGo fm fl st d.1 d.2 = true
    · rw [if_pos h, if_pos h]
      exact firstBad_run fm fl (k + 1) (bhd st d.1 d.2) ds
    · rw [if_neg h, if_neg h]
theorem runL_len {fm : Farm} {fl : List Int} : ∀ {st s : List Int} {qs : List ((Int × Int) × Nat)}, runL (fbStep fm fl) st qs = .ok s → s.length = st.length
  | _, _, [], h => by cases h; rfl
  | st, s, q :: qs, h => by
    unfold runL fbStep at h
    by_cases hc : canGo fm fl st q.1.1 q.1.2 = true
    · rw [if_pos hc] at h
      have := runL_len (qs := qs) h
      rw [this, bhd_len]
    · rw [if_neg hc] at h
      cases h
theorem enm_map {α : Type} (f : α → D) : ∀ (k : Nat) (as : List α), enm k (as.map f) = (as.zipIdx k).map fun q => .tup [.int (q.2 : Int), f q.1]
  | _, [] => rfl
  | k, a :: as => by
    rw [List.map_cons, enm, enm_map f (k + 1) as, List.zipIdx_cons, List.map_cons]
def dOn (o : Option Nat) : D := match o with
  | none => .non
  | some n => .int (n : Int)
end Fg

set_option Elab.async false
set_option linter.all false
set_option maxRecDepth 100000
set_option maxHeartbeats 4000000
namespace Fg
open PySem L2 RZ
local macro_rules | `(tactic| walk_at "bo") => `(tactic| simp only [Bool.or_eq_false_iff, Bool.or_eq_true, Bool.and_eq_true, Bool.not_eq_true', Bool.not_eq_false', Bool.not_eq_true, Bool.not_eq_false, decide_eq_true_eq, decide_eq_false_iff_not, Bool.true_eq_false, Bool.false_eq_true, Bool.and_eq_false_imp] at *)
local macro_rules | `(tactic| walk_at "sd") => `(tactic| first
  | assumption
  | exact rfl
  | omega
  | (refine at_ints ?_; first | omega | (walk_at "bo"; omega) | skip)
  | exact Nat.le_of_ble_eq_true rfl
  | (show _ ≤ cap; first | decide | omega | (simp only [List.length_map, List.length_append]; omega))
  | (walk_at "bo"; omega)
  | skip)
local macro_rules | `(tactic| walk_at "ea") => `(tactic| first
  | exact ea_nil
  | (apply ea_cons; (focus walk_at "ev"); walk_at "ea"))
local macro_rules | `(tactic| walk_at "eh") => `(tactic| first
  | exact ev_varA rfl (by first | assumption | omega | decide)
  | exact ev_varK rfl (by first | assumption | omega | decide)
  | (apply EvD.h; walk_at "ev"))
local macro_rules | `(tactic| walk_at "el") => `(tactic| first
  | ((with_reducible apply el_lst); (focus walk_at "ea"); walk_at "sd")
  | ((with_reducible apply el_cat); (focus walk_at "ev"); (focus walk_at "ev"); walk_at "sd")
  | ((with_reducible apply el_sl); (focus walk_at "ev"); (focus walk_at "eo"); (focus walk_at "eo"))
  | ((with_reducible apply el_list); walk_at "ev")
  | ((with_reducible apply el_listT); walk_at "ev")
  | ((with_reducible apply el_rev); walk_at "ev"))
local macro_rules | `(tactic| walk_at "eo") => `(tactic| first
  | exact eo_none
  | (apply eo_some; walk_at "ev"))
local macro_rules | `(tactic| walk_at "ev") => `(tactic| first
  | exact ev_int | exact ev_bl | exact ev_non | exact ev_str
  | exact ev_var rfl
  | ((with_reducible apply ev_add); (focus walk_at "ev"); walk_at "ev")
  | ((with_reducible apply ev_sub); (focus walk_at "ev"); walk_at "ev")
  | ((with_reducible apply ev_lt); (focus walk_at "ev"); walk_at "ev")
  | ((with_reducible apply ev_le); (focus walk_at "ev"); walk_at "ev")
  | ((with_reducible apply ev_gt); (focus walk_at "ev"); walk_at "ev")
  | ((with_reducible apply ev_ge); (focus walk_at "ev"); walk_at "ev")
  | ((with_reducible apply ev_eqI); (focus walk_at "ev"); (focus walk_at "ev"); done)
  | ((with_reducible apply ev_neI); (focus walk_at "ev"); (focus walk_at "ev"); done)
  | ((with_reducible apply ev_mulW); (focus walk_at "ev"); (focus walk_at "ev"); walk_at "sd")
  | ((with_reducible apply ev_fdiv); (focus walk_at "ev"); (focus walk_at "ev"); walk_at "sd")
  | ((with_reducible apply ev_mod); (focus walk_at "ev"); (focus walk_at "ev"); walk_at "sd")
  | ((with_reducible apply ev_neg); walk_at "ev")
  | ((with_reducible apply ev_ixT); (focus walk_at "ev"); (focus walk_at "ev"); walk_at "sd")
  | (with_reducible apply ev_ixA rfl ?_ ?_; (focus walk_at "ev"); walk_at "sd")
  | ((with_reducible apply ev_ixL); (focus walk_at "ev"); (focus walk_at "ev"); walk_at "sd")
  | (with_reducible apply ev_lenA rfl)
  | ((with_reducible apply ev_lenLM); walk_at "eh"; done)
  | ((with_reducible apply ev_lenTM); walk_at "eh"; done)
  | ((with_reducible apply ev_lenL); walk_at "eh")
  | ((with_reducible apply ev_lenT); walk_at "eh")
  | ((with_reducible apply ev_lenK); walk_at "eh")
  | ((with_reducible apply ev_isN); walk_at "eh")
  | ((with_reducible apply ev_notN); walk_at "eh")
  | ((with_reducible apply ev_inT); (focus walk_at "ev"); walk_at "ev")
  | ((with_reducible apply ev_inD); (focus walk_at "eh"); (focus walk_at "eh"); all_goals walk_at "sh")
  | ((with_reducible apply ev_notInD); (focus walk_at "eh"); (focus walk_at "eh"); all_goals walk_at "sh")
  | ((with_reducible apply ev_eqD); (focus walk_at "eh"); (focus walk_at "eh"); all_goals walk_at "sh")
  | ((with_reducible apply ev_neD); (focus walk_at "eh"); (focus walk_at "eh"); all_goals walk_at "sh")
  | ((with_reducible apply ev_all); walk_at "eh")
  | ((with_reducible apply ev_any); walk_at "eh")
  | ((with_reducible apply ev_sum); walk_at "eh")
  | ((with_reducible apply ev_lenSet); (focus walk_at "ev"); walk_at "sd")
  | ((with_reducible apply ev_isaI); (focus walk_at "eh"); walk_at "sd")
  | ((with_reducible apply ev_isaB); (focus walk_at "eh"); walk_at "sd")
  | ((with_reducible apply ev_isaL); (focus walk_at "eh"); walk_at "sd")
  | ((with_reducible apply ev_isaT); (focus walk_at "eh"); walk_at "sd")
  | ((with_reducible apply ev_tup); (focus walk_at "ea"); walk_at "sd")
  | ((with_reducible apply ev_catT); (focus walk_at "ev"); (focus walk_at "ev"); walk_at "sd")
  | ((with_reducible apply ev_slT); (focus walk_at "ev"); (focus walk_at "eo"); (focus walk_at "eo"))
  | ((with_reducible apply ev_max2); (focus walk_at "ev"); walk_at "ev")
  | ((with_reducible apply ev_min2); (focus walk_at "ev"); walk_at "ev")
  | ((with_reducible apply ev_abs); walk_at "ev")
  | ((with_reducible apply ev_chain); (focus walk_at "ev"); (focus walk_at "ev"); intro _; walk_at "ev")
  | ((with_reducible apply ev_and); (focus walk_at "ev"); intro _; walk_at "ev")
  | ((with_reducible apply ev_or); (focus walk_at "ev"); intro _; walk_at "ev")
  | ((with_reducible apply ev_not); walk_at "ev")
  | (apply EvL.fz; (focus walk_at "el"); walk_at "sd"))
local macro_rules | `(tactic| walk_at "et") => `(tactic| first
  | ((with_reducible apply et_test); walk_at "ev")
  | ((with_reducible apply et_B); walk_at "ev")
  | ((with_reducible apply et_and); (focus walk_at "et"); intro _; walk_at "et")
  | ((with_reducible apply et_or); (focus walk_at "et"); intro _; walk_at "et")
  | ((with_reducible apply et_not); walk_at "et"))
local macro_rules | `(tactic| walk_at "sh") => `(tactic| first
  | exact (sh_tup2 (sh_int _) (sh_int _)).shp (by decide) | exact (sh_pr _).shp (by decide) | exact (sh_prs _).shp (by decide) | exact (sh_st _).shp (by decide) | exact (sh_is _).shp (by decide) | exact (sh_ws _).shp (by decide) | exact (sh_rg _).shp (by decide) | exact (sh_rgs _).shp (by decide) | exact (sh_fm _).shp (by decide)
  | exact sh_nil.shp (by decide) | exact (sh_bls _).shp (by decide) | decide +kernel | skip)

def top (i : Nat) : Stmt := PySem.Challenge.pw_flockgates_k08_whole_numbers.main.body.getD i (.Pass ⟨0, 0, 0, 0⟩)
/-- what the walk asks of the top -/
structure Tp (mg : Str → Option Value) : Prop extends Gb mg where
  g_MOST_PENS : ∃ t, mg "MOST_PENS" = some (.int 6 t)
  g_MOST_ROOM : ∃ t, mg "MOST_ROOM" = some (.int 9 t)
  g_MOST_FLOCKS : ∃ t, mg "MOST_FLOCKS" = some (.int 4 t)
section
variable {P : Program} {w : World} {K : PySem.W.Frag} {mg : Str → Option Value} {base : Heap}
abbrev s_can_go : Stmt := top 25
theorem sc_can_go : FnScope ["farm", "flocks", "stand", "flock", "pen", "here"] ["farm", "flocks", "stand", "flock", "pen"] (defScope s_can_go) := ⟨rfl, rfl, rfl, by decide +kernel, rfl, by decide +kernel, by decide +kernel⟩
abbrev s_behind : Stmt := top 26
theorem sc_behind : FnScope ["stand", "flock", "pen"] ["stand", "flock", "pen"] (defScope s_behind) := ⟨rfl, rfl, rfl, by decide +kernel, rfl, by decide +kernel, by decide +kernel⟩
abbrev s_deeds_of : Stmt := top 27
theorem sc_deeds_of : FnScope ["farm", "flocks", "stand", "found", "flock", "pen"] ["farm", "flocks", "stand"] (defScope s_deeds_of) := ⟨rfl, rfl, rfl, by decide +kernel, rfl, by decide +kernel, by decide +kernel⟩
abbrev s_as_wished : Stmt := top 24
theorem sc_as_wished : FnScope ["stand", "wish", "pen", "one"] ["stand", "wish"] (defScope s_as_wished) := ⟨rfl, rfl, rfl, by decide +kernel, rfl, by decide +kernel, by decide +kernel⟩
abbrev s_is_between : Stmt := top 17
theorem sc_is_between : FnScope ["thing", "least", "most"] ["thing", "least", "most"] (defScope s_is_between) := ⟨rfl, rfl, rfl, by decide +kernel, rfl, by decide +kernel, by decide +kernel⟩
abbrev s_is_stand : Stmt := top 21
theorem sc_is_stand : FnScope ["farm", "flocks", "thing", "pen", "size"] ["farm", "flocks", "thing"] (defScope s_is_stand) := ⟨rfl, rfl, rfl, by decide +kernel, rfl, by decide +kernel, by decide +kernel⟩
abbrev s_first_bad : Stmt := top 31
theorem sc_first_bad : FnScope ["farm", "flocks", "stand", "deeds", "place", "flock", "pen"] ["farm", "flocks", "stand", "deeds"] (defScope s_first_bad) := ⟨rfl, rfl, rfl, by decide +kernel, rfl, by decide +kernel, by decide +kernel⟩
abbrev s_nexts_of : Stmt := top 32
theorem sc_nexts_of : FnScope ["farm", "flocks", "stand", "flock", "pen"] ["farm", "flocks", "stand"] (defScope s_nexts_of) := ⟨rfl, rfl, rfl, by decide +kernel, rfl, by decide +kernel, by decide +kernel⟩
/-! ### can_go -/
def gCanGo : List D → D → Prop := fun ds r => ∃ (fm : Farm) (fl st : List Int) (f p : Int), ds = [dFm fm, dIs fl, dSt st, .int f, .int p] ∧ st.length = fl.length ∧ r = .bl (canGo fm fl st f p)
theorem ok_can_go {f : Addr} {fd : FuncData} (F : Fun K "can_go" "can_go" s_can_go f fd) (T : Tp mg) : FnOk P w K mg base CX0 1 f fd ["farm", "flocks", "stand", "flock", "pen"] (Pure gCanGo) := by
  refine fn_pure F sc_can_go (fun ds r h => by obtain ⟨_, _, _, _, _, rfl, _⟩ := h; rfl) (fun cdv A outer s H E hr ds r hg => ?_)
  obtain ⟨fm, fl, st, f, p, rfl, hl, rfl⟩ := hg
  have hu65 := hu65_of hr
  refine ⟨_, (pss_cons (ps_if (PW.pt (pw_or (pt_not (pt_chain op_le op_lt pe_int (pv 3) (pe_callB (kx_c_len K) (by rfl) T.n_len b_len (pa_cons (pv 1) pa_nil)))) (pw_or (pt_not (pt_chain op_le op_lt pe_int (pv 4) (pe_callB (kx_c_len K) (by rfl) T.n_len b_len (pa_cons (pe_ix (kx_ix_tup K) (pv 0) pe_int (fun _ _ => rfl)) pa_nil)))) (pw_or (pt_cmpR (kx_op_in_seq K) (pv 4) (pv 2) (by rfl)) (pw_or1 (pt_cmpR op_lt (pe_ix (kx_ix_list K) (pe_ix (kx_ix_tup K) (pv 0) pe_int (fun _ _ => rfl)) (pv 4) (fun _ _ => rfl)) (pe_ix (kx_ix_list K) (pv 1) (pv 3) (fun _ _ => rfl)) (nomark _))))))) (pss_one (ps_ret pe_bl)) pss_nil)
  (pss_cons (ps_sv 5 sc_can_go.nd (pe_ix (kx_ix_tup K) (pv 2) (pv 3) (fun _ _ => rfl)))
  (pss_one (ps_ret (pe_cmpR (kx_op_inD K hu65) (pe_tup (pa_cons (pe_callB (c_min2 rfl) (by rfl) T.n_min b_min (pa_cons (pv 5) (pa_cons (pv 4) pa_nil))) (pa_cons (pe_callB (c_max2 rfl) (by rfl) T.n_max b_max (pa_cons (pv 5) (pa_cons (pv 4) pa_nil))) pa_nil))) (pe_ix (kx_ix_tup K) (pv 0) pe_int (fun _ _ => rfl)) (by rfl)))))), fun W0 => ?_⟩
  refine st_seq (st_when (by walk_at "et") (fun hb W1 l1 => st_ret ev_bl ?_) (fun hb W1 l1 => ?_))
  · unfold canGo
    rw [hb]
    rfl
  · refine st_seq (st_asgD (by walk_at "ev") (fun W2 l2 => ?_))
    refine st_ret (by walk_at "ev") ?_
    rw [show D.tup [D.int (min (nth st f) p), D.int (max (nth st f) p)] = dPr (norm (nth st f) p) from rfl, inb_pr]
    unfold canGo
    rw [hb]
    rfl
/-! ### behind -/
def gBehind : List D → D → Prop := fun ds r => ∃ (st : List Int) (f p : Int), ds = [dSt st, .int f, .int p] ∧ st.length ≤ 4 ∧ 0 ≤ f ∧ f < st.length ∧ r = dSt (bhd st f p)
theorem ok_behind {f : Addr} {fd : FuncData} (F : Fun K "behind" "behind" s_behind f fd) (T : Tp mg) : FnOk P w K mg base CX0 1 f fd ["stand", "flock", "pen"] (Pure gBehind) := by
  refine fn_pure F sc_behind (fun ds r h => by obtain ⟨_, _, _, rfl, _⟩ := h; rfl) (fun cdv A outer s H E hr ds r hg => ?_)
  obtain ⟨st, f, p, rfl, h4, h0, h1, rfl⟩ := hg
  refine ⟨_, (pss_one (ps_ret (pe_op (kx_op_catA K) (pe_op (kx_op_catA K) (pe_slice (kx_sl_tupA K) (pv 0) po_none (po_some (pv 1))) (pe_tup (pa_cons (pv 2) pa_nil))) (pe_slice (kx_sl_tupA K) (pv 0) (po_some (pe_op op_add (pv 1) pe_int)) po_none)))), fun W0 => ?_⟩
  have c1 := cutL_le (st.map D.int) none (some f)
  have c2 := cutL_le (st.map D.int) (some (f + 1)) none
  rw [List.length_map] at c1 c2
  refine st_ret (d := .tup (cutL (st.map D.int) none (some f) ++ [.int p] ++ cutL (st.map D.int) (some (f + 1)) none)) ?_ ?_
  · refine ev_catT (ev_catT (by walk_at "ev") (by walk_at "ev") ?_) (by walk_at "ev") ?_
    · show _ + 1 ≤ cap
      show _ + 1 ≤ 100000
      omega
    · rw [List.length_append]
      show _ + 1 + _ ≤ 100000
      omega
  · rw [cutL_map, cutL_map, ← set_cut st p h0 h1]
    show _ = D.tup (List.map D.int _)
    simp only [List.map_append, List.map_cons, List.map_nil]
/-! ### deeds_of -/
def gDeedsOf : List D → D → Prop := fun ds r => ∃ (fm : Farm) (fl st : List Int), ds = [dFm fm, dIs fl, dSt st] ∧ Sz fm fl st ∧ r = dPrs (deedsOf fm fl st)
theorem ok_deeds_of {f : Addr} {fd : FuncData} (F : Fun K "deeds_of" "deeds_of" s_deeds_of f fd) (T : Tp mg) (D_can_go : Df P w K mg base 1 "can_go" ["farm", "flocks", "stand", "flock", "pen"] (Pure gCanGo)) :
    FnOk P w K mg base CX0 2 f fd ["farm", "flocks", "stand"] (Pure gDeedsOf) := by
  refine fn_pure F sc_deeds_of (fun ds r h => by obtain ⟨_, _, _, rfl, _⟩ := h; rfl) (fun cdv A outer s H E hr ds r hg => ?_)
  obtain ⟨fm, fl, st, rfl, hz, rfl⟩ := hg
  refine ⟨_, (pss_cons (ps_sv 3 sc_deeds_of.nd (pe_lst pa_nil))
  (pss_cons (ps_for PassesOwn.never rfl (pi_range1 (by rfl) T.n_range (pa_cons (pe_callB (kx_c_len K) (by rfl) T.n_len b_len (pa_cons (pv 1) pa_nil)) pa_nil)) (pg_n 4 sc_deeds_of.nd) (pss_one (ps_expr (pe_bm PySem.F.plainAttrs_list PySem.F.slot_list_extend PySem.F.type_list_extend mt_extend (pv 3) (pa_cons (pe_lc (own := [("pen", 5)]) rfl sc_deeds_of.nd (pi_range1 (by rfl) T.n_range (pa_cons (pe_callB (kx_c_len K) (by rfl) T.n_len b_len (pa_cons (pe_ix (kx_ix_tup K) (pv 0) pe_int (fun _ _ => rfl)) pa_nil)) pa_nil)) (blkOk_by (own := [("pen", 5)]) (N := ["farm", "flocks", "stand", "found", "flock", "pen"]) (sc := defScope s_deeds_of) (by decide +kernel)) (fun _ _ _ _ _ => (pg_n 5 sc_deeds_of.nd)) (fun _ _ _ _ _ => (pts_one (pt_val (pe_df D_can_go (hr.mono (by decide)) (by rfl) (pa_cons (pv 0) (pa_cons (pv 1) (pa_cons (pv 2) (pa_cons (pv 4) (pa_cons (pv 5) pa_nil))))))))) (fun _ _ _ _ _ => (pe_tup (pa_cons (pv 4) (pa_cons (pv 5) pa_nil))))) pa_nil)))))
  (pss_one (ps_ret (pv 3))))), fun W0 => ?_⟩
  refine st_seq (st_asgL (by walk_at "el") (fun l W1 l1 => ?_))
  refine st_seq (st_fold (List.range fl.length) (fun i => .int (i : Int)) (fun gs => [.dat (dFm fm), .dat (dIs fl), .dat (dSt st), .acc l (gs.map dPr), .no, .no]) (fun gs i => gs ++ deedsAt fm fl st i) [] ?_ ?_ ?_ ?_)
  · refine ItD.to (it_rng1 (ea_cons (by walk_at "ev") ea_nil) ?_) ?_
    · have := hz.f
      omega
    · rw [Int.toNat_natCast]
  · exact wk_refl _
  · intro i s a W' hi hs l'
    refine ⟨_, _, tg_name, fun W2 l2 => ?_⟩
    refine st_ext (i := 3) rfl ((el_lc (List.range fm.rooms.length) (fun j => .int (j : Int)) (fun j => canGo fm fl st (a : Int) (j : Int)) (fun j => .tup [.int (a : Int), .int (j : Int)]) (ItD.to (it_rng1 (ea_cons (by walk_at "ev") ea_nil) ?_) ?_) ?_ (fun j _ => ⟨_, _, fun _ h => h, tg_name, fun W3 l3 => ⟨et_test (ev_call (by walk_at "ea") ⟨fm, fl, st, a, j, rfl, hz.s, rfl⟩), fun _ => by walk_at "ev"⟩⟩)).fz ?_) ?_ (fun W3 l3 => ?_)
    · have := hz.r
      omega
    · rw [Int.toNat_natCast]
    · rw [List.length_range]
      have := hz.r
      show _ ≤ 100000
      omega
    · have := deedsAt_le fm fl st a
      unfold deedsAt at this
      rw [List.length_map] at this
      rw [List.length_map]
      have := hz.r
      show _ ≤ 100000
      omega
    · have e1 := flatMap_le (deedsAt fm fl st) 6 (fun i => Nat.le_trans (deedsAt_le fm fl st i) hz.r) ((List.range fl.length).take i)
      have e2 := deedsAt_le fm fl st a
      unfold deedsAt at e2
      rw [List.length_map] at e2
      have := hz.r
      have := hz.f
      have e3 : ((List.range fl.length).take i).length ≤ 4 := by
        rw [List.length_take, List.length_range]
        omega
      rw [hs, foldl_flatMap, List.nil_append, List.length_map, List.length_map]
      show _ ≤ 100000
      omega
    · show Wk _ [_, _, _, Sl.acc l (List.map dPr (s ++ deedsAt fm fl st a)), _, _]
      rw [List.map_append]
      unfold deedsAt
      rw [List.map_map]
      exact wk_cons (wk_cons (wk_cons (wk_cons (wk_drop (wk_drop wk_nil)))))
  · intro Wn ln
    rw [foldl_flatMap, List.nil_append]
    refine st_freeze (i := 3) rfl ?_ fun W' l' => st_ret (by walk_at "ev") rfl
    rw [List.length_map]
    have := deedsOf_le hz
    unfold deedsOf at this
    show _ ≤ 100000
    omega
/-! ### as_wished -/
def dW (o : Option Int) : D := match o with
  | none => .non
  | some i => .int i
def gAsWished : List D → D → Prop := fun ds r => ∃ (st : List Int) (w : List (Option Int)), ds = [dSt st, dWs w] ∧ st.length ≤ 4 ∧ r = .bl (asWished st w)
theorem ok_as_wished {f : Addr} {fd : FuncData} (F : Fun K "as_wished" "as_wished" s_as_wished f fd) (T : Tp mg) : FnOk P w K mg base CX0 1 f fd ["stand", "wish"] (Pure gAsWished) := by
  refine fn_pure F sc_as_wished (fun ds r h => by obtain ⟨_, _, rfl, _⟩ := h; rfl) (fun cdv A outer s H E hr ds r hg => ?_)
  obtain ⟨st, w, rfl, h4, rfl⟩ := hg
  refine ⟨_, (pss_one (ps_ret (pe_callB (kx_cr_all K rfl) (by rfl) T.n_all b_all (pa_cons (pe_lc (own := [("pen", 2), ("one", 3)]) rfl sc_as_wished.nd (pi_zipTT (by rfl) T.n_zip (pa_cons (pv 0) (pa_cons (pv 1) pa_nil))) (blkOk_by (own := [("pen", 2), ("one", 3)]) (N := ["stand", "wish", "pen", "one"]) (sc := defScope s_as_wished) (by decide +kernel)) (fun _ _ _ _ _ => (pg_tupK (K0 := K) (n := 2) rfl rfl (pgs_cons (pg_n 2 sc_as_wished.nd) (pgs_cons (pg_n 3 sc_as_wished.nd) pgs_nil)))) (fun _ _ _ _ _ => pts_nil) (fun _ _ _ _ _ => (pe_or (pe_cmpR o_isN (pv 3) pe_non (nomark _)) (pe_one (pe_cmpR op_eq (pv 3) (pv 2) (nomark _)))))) pa_nil)))), fun W0 => ?_⟩
  have hz : (st.zip w).length ≤ cap := by
    rw [List.length_zip]
    show _ ≤ 100000
    omega
  refine st_ret (ev_allA (st.zip w) (fun q => .tup [.int q.1, dOi q.2]) wOk (ItD.to (it_zipTT (ea_cons (ev_var rfl) (ea_cons (ev_var rfl) ea_nil))) (zipD_map D.int dOi st w)) hz (fun q _ => ⟨_, _, fun _ h => h, tg_pair, fun W3 l3 => ?_⟩)) rfl
  · obtain ⟨a, o⟩ := q
    cases o with
    | none => exact EvD.to (ev_or (b := true) (ev_isN (EvD.h (ev_var rfl))) (fun h => by cases h)) rfl
    | some i => exact EvD.to (ev_or (ev_isN (EvD.h (ev_var rfl))) (fun h => ev_eqI (ev_var rfl) (ev_var rfl))) rfl
/-! ### is_between -/
def gBetween : List D → D → Prop := fun ds r => ∃ (d : D) (a b : Int), ds = [d, .int a, .int b] ∧ d.nob = true ∧ r = .bl (between d a b)
theorem ok_is_between {f : Addr} {fd : FuncData} (F : Fun K "is_between" "is_between" s_is_between f fd) (T : Tp mg) : FnOk P w K mg base CX0 1 f fd ["thing", "least", "most"] (Pure gBetween) := by
  refine fn_pure F sc_is_between (fun ds r h => by obtain ⟨_, _, _, rfl, _⟩ := h; rfl) (fun cdv A outer s H E hr ds r hg => ?_)
  obtain ⟨d, a, b, rfl, hd, rfl⟩ := hg
  refine ⟨_, (pss_one (ps_ret (pe_and (pe_callB (kx_call_isi K) (by rfl) T.n_isinstance b_isinstance (pa_cons (pv 0) (pa_cons (pe_bltn (v := .ty "int") (by rfl) T.n_int b_int rfl) pa_nil))) (pe_and (pe_not (pe_callB (kx_call_isi K) (by rfl) T.n_isinstance b_isinstance (pa_cons (pv 0) (pa_cons (pe_bltn (v := .ty "bool") (by rfl) T.n_bool b_bool rfl) pa_nil)))) (pe_one (pe_chain op_le op_le (pv 1) (pv 0) (pv 2))))))), fun W0 => ?_⟩
  cases d with
  | int i => exact st_ret (EvD.to (by walk_at "ev") (by simp [between, D.isaI, D.isaB])) rfl
  | bl k => exact st_ret (EvD.to (ev_and (b := false) (by walk_at "ev") (fun _ => EvD.to (ev_and (b := false) (by walk_at "ev") (fun h => by cases h)) rfl)) rfl) rfl
  | obj C fs => cases hd
  | fl K ds => cases hd
  | _ => exact st_ret (EvD.to (ev_and (b := false) (by walk_at "ev") (fun h => by cases h)) rfl) rfl
/-! ### first_bad -/
def gFirstBad : List D → D → Prop := fun ds r => ∃ (fm : Farm) (fl st : List Int) (de : List (Int × Int)), ds = [dFm fm, dIs fl, dSt st, dPrs de] ∧ st.length = fl.length ∧ st.length ≤ 4 ∧ r = .tup [dOn (firstBad fm fl 0 st de).1, dSt (firstBad fm fl 0 st de).2]
theorem ok_first_bad {f : Addr} {fd : FuncData} (F : Fun K "first_bad" "first_bad" s_first_bad f fd) (T : Tp mg) (D_can_go : Df P w K mg base 1 "can_go" ["farm", "flocks", "stand", "flock", "pen"] (Pure gCanGo))
    (D_behind : Df P w K mg base 1 "behind" ["stand", "flock", "pen"] (Pure gBehind)) : FnOk P w K mg base CX0 2 f fd ["farm", "flocks", "stand", "deeds"] (Pure gFirstBad) := by
  refine fn_pure F sc_first_bad (fun ds r h => by obtain ⟨_, _, _, _, rfl, _⟩ := h; rfl) (fun cdv A outer s H E hr ds r hg => ?_)
  obtain ⟨fm, fl, st, de, rfl, hl, h4, rfl⟩ := hg
  refine ⟨_, (pss_cons (ps_for PassesOwn.never rfl (pi_enum (by rfl) T.n_enumerate (pa_cons (pv 3) pa_nil)) (pg_tupK (K0 := K) (n := 2) rfl rfl (pgs_cons (pg_n 4 sc_first_bad.nd) (pgs_cons (pg_tupK (K0 := K) (n := 2) rfl rfl (pgs_cons (pg_n 5 sc_first_bad.nd) (pgs_cons (pg_n 6 sc_first_bad.nd) pgs_nil))) pgs_nil))) (pss_cons (ps_if (pt_not (pt_val (pe_df D_can_go (hr.mono (by decide)) (by rfl) (pa_cons (pv 0) (pa_cons (pv 1) (pa_cons (pv 2) (pa_cons (pv 5) (pa_cons (pv 6) pa_nil)))))))) (pss_one (ps_ret (pe_tup (pa_cons (pv 4) (pa_cons (pv 2) pa_nil))))) pss_nil)
  (pss_one (ps_sv 2 sc_first_bad.nd (pe_df D_behind (hr.mono (by decide)) (by rfl) (pa_cons (pv 2) (pa_cons (pv 5) (pa_cons (pv 6) pa_nil))))))))
  (pss_one (ps_ret (pe_tup (pa_cons pe_non (pa_cons (pv 2) pa_nil)))))), fun W0 => ?_⟩
  rw [firstBad_run]
  refine st_seq (st_runD (de.zipIdx 0) (fun q => .tup [.int (q.2 : Int), dPr q.1]) (fun s => [.dat (dFm fm), .dat (dIs fl), .dat (dSt s), .dat (dPrs de), .no, .no, .no]) (fun r => .tup [.int (r.1 : Int), dSt r.2]) (fbStep fm fl) st (ItD.to (it_enum (by walk_at "ea")) (enm_map dPr 0 de)) (wk_refl _) ?_ ?_ ?_)
  · intro i s a W' hi hs l
    have hsl := runL_len hs
    refine ⟨_, _, tg_tup (tg_cons tg_name (tg_cons (tg_tup (tg_cons tg_name (tg_cons tg_name tg_nil)) rfl) tg_nil)) rfl, fun W1 l1 => ?_⟩
    refine st_seq (st_when (et_not (et_test (ev_call (by walk_at "ea") ⟨fm, fl, s, a.1.1, a.1.2, rfl, by omega, rfl⟩))) (fun hb W2 l2 => ?_) (fun hb W2 l2 => ?_))
    · refine st_ret (d := .tup [.int (a.2 : Int), dSt s]) (by walk_at "ev") ⟨(a.2, s), ?_, rfl⟩
      unfold fbStep
      rw [if_neg]
      simpa using hb
    · have hc : canGo fm fl s a.1.1 a.1.2 = true := by simpa using hb
      obtain ⟨b1, b2, b3, b4⟩ := canGo_rng hc
      refine st_asgD (ev_call (by walk_at "ea") ⟨s, a.1.1, a.1.2, rfl, by omega, b1, by omega, rfl⟩) (fun W3 l3 => ⟨bhd s a.1.1 a.1.2, ?_, ?_⟩)
      · unfold fbStep
        rw [if_pos hc]
      · exact wk_cons (wk_cons (wk_cons (wk_cons (wk_drop (wk_drop (wk_drop wk_nil))))))
  · intro r e
    rw [e]
    rfl
  · intro s e Wn ln
    rw [e]
    exact st_ret (by walk_at "ev") rfl
/-! ### nexts_of -/
def gNextsOf : List D → D → Prop := fun ds r => ∃ (fm : Farm) (fl st : List Int), ds = [dFm fm, dIs fl, dSt st] ∧ Sz fm fl st ∧ r = dRg (nextsOf fm fl st)
theorem ok_nexts_of {f : Addr} {fd : FuncData} (F : Fun K "nexts_of" "nexts_of" s_nexts_of f fd) (T : Tp mg) (D_deeds_of : Df P w K mg base 2 "deeds_of" ["farm", "flocks", "stand"] (Pure gDeedsOf))
    (D_behind : Df P w K mg base 1 "behind" ["stand", "flock", "pen"] (Pure gBehind)) : FnOk P w K mg base CX0 3 f fd ["farm", "flocks", "stand"] (Pure gNextsOf) := by
  refine fn_pure F sc_nexts_of (fun ds r h => by obtain ⟨_, _, _, rfl, _⟩ := h; rfl) (fun cdv A outer s H E hr ds r hg => ?_)
  obtain ⟨fm, fl, st, rfl, hz, rfl⟩ := hg
  refine ⟨_, (pss_one (ps_ret (pe_lc (own := [("flock", 3), ("pen", 4)]) rfl sc_nexts_of.nd (pi_list (pe_df D_deeds_of (hr.mono (by decide)) (by rfl) (pa_cons (pv 0) (pa_cons (pv 1) (pa_cons (pv 2) pa_nil))))) (blkOk_by (own := [("flock", 3), ("pen", 4)]) (N := ["farm", "flocks", "stand", "flock", "pen"]) (sc := defScope s_nexts_of) (by decide +kernel)) (fun _ _ _ _ _ => (pg_tupK (K0 := K) (n := 2) rfl rfl (pgs_cons (pg_n 3 sc_nexts_of.nd) (pgs_cons (pg_n 4 sc_nexts_of.nd) pgs_nil)))) (fun _ _ _ _ _ => pts_nil) (fun _ _ _ _ _ => (pe_df D_behind (hr.mono (by decide)) (by rfl) (pa_cons (pv 2) (pa_cons (pv 3) (pa_cons (pv 4) pa_nil)))))))), fun W0 => ?_⟩
  have h24 := deedsOf_le hz
  have hs := hz.s
  have hf := hz.f
  refine st_ret (EvD.to (EvL.fz (el_lcA (deedsOf fm fl st) dPr (fun d => dSt (bhd st d.1 d.2)) (it_list (ev_call (by walk_at "ea") ⟨fm, fl, st, rfl, hz, rfl⟩)) ?_ (fun q hq => ⟨_, _, fun _ h => h, tg_pair, fun W3 l3 => ev_call (by walk_at "ea") ⟨st, q.1, q.2, rfl, by omega, ?_, ?_, rfl⟩⟩)) ?_) ?_) rfl
  · show _ ≤ 100000
    omega
  · have := canGo_rng (mem_deedsOf hq)
    omega
  · have := canGo_rng (mem_deedsOf hq)
    omega
  · rw [List.length_map]
    show _ ≤ 100000
    omega
  · unfold nextsOf
    show D.lst _ = D.lst (List.map dSt _)
    rw [List.map_map]
    rfl
end
end Fg

set_option Elab.async false
set_option linter.all false
set_option maxRecDepth 100000
set_option maxHeartbeats 4000000
/-! The walk through all stands: plain functions, bounds. -/
namespace Fg
open PySem L2

theorem lk_map {β γ : Type} (g : β → γ) (k : List Int) : ∀ c : List (List Int × β), lk (c.map fun q => (q.1, g q.2)) k = (lk c k).map g
  | [] => rfl
  | (q, v) :: c => by
    rw [List.map_cons, lk_cons, lk_cons, lk_map g k c]
    split <;> rfl
theorem lk_some {β : Type} (k : List Int) : ∀ c : List (List Int × β), (lk c k).isSome = decide (k ∈ c.map (·.1))
  | [] => by simp [lk]
  | (q, v) :: c => by
    rw [lk_cons, List.map_cons]
    by_cases h : q = k
    · rw [if_pos h]
      simp [h]
    · rw [if_neg h, lk_some k c, decide_eq_decide, List.mem_cons]
      exact ⟨.inr, fun z => z.elim (fun e => absurd e.symm h) id⟩
theorem pt_map {β γ : Type} (g : β → γ) (k : List Int) (b : β) (c : List (List Int × β)) : pt (c.map fun q => (q.1, g q.2)) k (g b) = (pt c k b).map fun q => (q.1, g q.2) := by
  unfold pt
  rw [lk_map, Option.isSome_map]
  split
  · rw [List.map_map, List.map_map]
    apply List.map_congr_left
    intro q _
    show (if q.1 = k then _ else _) = _
    by_cases h : q.1 = k
    · simp [h]
    · simp [h]
  · rw [List.map_append]
    rfl
theorem pt_new {β : Type} {k : List Int} {b : β} {c : List (List Int × β)} (h : (lk c k).isSome = false) : pt c k b = c ++ [(k, b)] := by
  unfold pt
  rw [h]
  rfl

abbrev Came := List (List Int × Option (List Int × Int × Int))
def dCm : Option (List Int × Int × Int) → D
  | none => .non
  | some q => .tup [dSt q.1, .int q.2.1, .int q.2.2]
def dCame (c : Came) : List (List Int × D) := c.map fun q => (q.1, dCm q.2)
/-- one deed of the walk through all stands -/
def addSt (h : List Int) (s : Came × List (List Int)) (d : Int × Int) : Came × List (List Int) :=
  if (lk s.1 (bhd h d.1 d.2)).isSome then s else (pt s.1 (bhd h d.1 d.2) (some (h, d.1, d.2)), s.2 ++ [bhd h d.1 d.2])
def addHere (fm : Farm) (fl : List Int) (s : Came × List (List Int)) (h : List Int) : Came × List (List Int) := (deedsOf fm fl h).foldl (addSt h) s
def ringOf (fm : Farm) (fl : List Int) (c : Came) (last : List (List Int)) : Came × List (List Int) := last.foldl (addHere fm fl) (c, [])
def ringsGo (fm : Farm) (fl : List Int) : Nat → Came → List (List (List Int)) → List (List (List Int)) × Came
  | 0, c, rs => (rs, c)
  | n + 1, c, rs => if (ringOf fm fl c (rs.getLastD [])).2 = [] then (rs, (ringOf fm fl c (rs.getLastD [])).1) else ringsGo fm fl n (ringOf fm fl c (rs.getLastD [])).1 (rs ++ [(ringOf fm fl c (rs.getLastD [])).2])
def ringsOf (fm : Farm) (fl st : List Int) : List (List (List Int)) × Came := ringsGo fm fl 1300 [(st, none)] [[st]]

/-- a stand of the farm -/
structure Std (fm : Farm) (fl t : List Int) : Prop where
  len : t.length = fl.length
  rng : ∀ x ∈ t, 0 ≤ x ∧ x < fm.rooms.length
  nd : t.Nodup
  rm : ∀ q ∈ t.zip fl, q.2 ≤ nth fm.rooms q.1
theorem nth_get {ns : List Int} {i : Nat} (h : i < ns.length) : nth ns (i : Int) = ns[i] := by
  have := nth_at (ns := ns) (i := (i : Int)) (by omega) (by omega)
  have h2 := at_nat (xs := ns) (i := i) (x := ns[i]) (by simp [h])
  rw [h2] at this
  exact (Option.some.inj this).symm
theorem canGo_all {fm : Farm} {fl st : List Int} {f p : Int} (h : canGo fm fl st f p = true) : (0 ≤ f ∧ f < fl.length ∧ 0 ≤ p ∧ p < fm.rooms.length) ∧ p ∉ st ∧ nth fl f ≤ nth fm.rooms p ∧ norm (nth st f) p ∈ fm.gates := by
  have h0 := canGo_rng h
  unfold canGo at h
  split at h
  · cases h
  · rename_i q
    simp only [Bool.or_eq_true, Bool.not_eq_true', Bool.and_eq_false_imp, decide_eq_true_eq, decide_eq_false_iff_not, not_or] at q h
    exact ⟨h0, q.2.2.1, by omega, h⟩
theorem Std.bhd {fm : Farm} {fl st : List Int} {f p : Int} (h : Std fm fl st) (hc : canGo fm fl st f p = true) : Std fm fl (bhd st f p) := by
  obtain ⟨⟨h0, h1, h2, h3⟩, h4, h5, _⟩ := canGo_all hc
  refine ⟨(bhd_len ..).trans h.len, fun x hx => ?_, ?_, fun q hq => ?_⟩
  · unfold Fg.bhd at hx
    rcases List.mem_or_eq_of_mem_set hx with hx | rfl
    · exact h.rng x hx
    · exact ⟨h2, h3⟩
  · unfold Fg.bhd
    rw [List.nodup_iff_pairwise_ne, List.pairwise_iff_getElem]
    intro i j hi hj hij
    rw [List.length_set] at hi hj
    have nd := h.nd
    rw [List.nodup_iff_pairwise_ne, List.pairwise_iff_getElem] at nd
    rw [List.getElem_set, List.getElem_set]
    split
    · split
      · omega
      · intro e
        exact h4 (e ▸ List.getElem_mem hj)
    · split
      · intro e
        exact h4 (e ▸ List.getElem_mem hi)
      · exact nd i j hi hj hij
  · obtain ⟨i, hi, rfl⟩ := List.mem_iff_getElem.mp hq
    rw [List.length_zip, bhd_len] at hi
    rw [List.getElem_zip]
    dsimp only
    unfold Fg.bhd
    rw [List.getElem_set]
    split
    · rename_i e
      have h6 := nth_get (ns := fl) (i := i) (by omega)
      rw [show (i : Int) = f by omega] at h6
      rw [← h6]
      exact h5
    · exact h.rm (st[i], fl[i]) (List.mem_iff_getElem.mpr ⟨i, by rw [List.length_zip]; omega, by rw [List.getElem_zip]⟩)
/-- all lists of n numbers below r -/
def allL (r : Nat) : Nat → List (List Int)
  | 0 => [[]]
  | n + 1 => (List.range r).flatMap fun (x : Nat) => (allL r n).map ((x : Int) :: ·)
theorem allL_len (r : Nat) : ∀ n, (allL r n).length = r ^ n
  | 0 => rfl
  | n + 1 => by
    unfold allL
    have : ∀ xs : List Nat, (xs.flatMap fun (x : Nat) => (allL r n).map ((x : Int) :: ·)).length = xs.length * r ^ n := by
      intro xs
      induction xs with
      | nil => simp
      | cons x xs ih =>
        rw [List.flatMap_cons, List.length_append, List.length_map, ih, allL_len r n, List.length_cons, Nat.add_mul, Nat.one_mul, Nat.add_comm]
    rw [this, List.length_range, Nat.pow_succ, Nat.mul_comm]
theorem mem_allL (r : Nat) : ∀ (n : Nat) (t : List Int), t.length = n → (∀ x ∈ t, 0 ≤ x ∧ x < r) → t ∈ allL r n
  | 0, t, h, _ => by
    cases t with
    | nil => exact List.mem_singleton.mpr rfl
    | cons => cases h
  | n + 1, t, h, hr => by
    cases t with
    | nil => cases h
    | cons x t =>
      unfold allL
      have hx := hr x (List.mem_cons_self ..)
      refine List.mem_flatMap.mpr ⟨x.toNat, List.mem_range.mpr (by omega), List.mem_map.mpr ⟨t, mem_allL r n t (by simpa using h) (fun y hy => hr y (List.mem_cons_of_mem _ hy)), ?_⟩⟩
      rw [show ((x.toNat : Nat) : Int) = x by omega]
theorem pow_le4 {r n : Nat} (hr : r ≤ 6) (hn : n ≤ 4) : r ^ n ≤ 1296 := by
  have h1 : r ^ n ≤ 6 ^ n := Nat.pow_le_pow_left hr n
  have h2 : 6 ^ n ≤ 6 ^ 4 := Nat.pow_le_pow_right (by omega) hn
  exact Nat.le_trans h1 (Nat.le_trans h2 (by decide))
theorem std_card {fm : Farm} {fl : List Int} {ts : List (List Int)} (hr : fm.rooms.length ≤ 6) (hf : fl.length ≤ 4) (nd : ts.Nodup) (h : ∀ t ∈ ts, Std fm fl t) : ts.length ≤ 1296 := by
  have := nodup_le (ys := allL fm.rooms.length fl.length) nd fun t ht => mem_allL _ _ t (h t ht).len (h t ht).rng
  rw [allL_len] at this
  exact Nat.le_trans this (pow_le4 hr hf)
/-- what stays true while the walk goes on -/
structure BInv (fm : Farm) (fl : List Int) (base : List (List Int)) (s : Came × List (List Int)) : Prop where
  ks : s.1.map (·.1) = base ++ s.2
  nd : (s.1.map (·.1)).Nodup
  st : ∀ t ∈ s.1.map (·.1), Std fm fl t
theorem BInv.len {fm : Farm} {fl : List Int} {base : List (List Int)} {s : Came × List (List Int)} (h : BInv fm fl base s) (hr : fm.rooms.length ≤ 6) (hf : fl.length ≤ 4) : s.1.length ≤ 1296 ∧ s.2.length ≤ 1296 := by
  have h1 := std_card hr hf h.nd h.st
  have h2 := congrArg List.length h.ks
  rw [List.length_map] at h1 h2
  rw [List.length_append] at h2
  omega
theorem BInv.add {fm : Farm} {fl : List Int} {base : List (List Int)} {s : Came × List (List Int)} (h : BInv fm fl base s) {here : List Int} {d : Int × Int} (hh : Std fm fl here) (hd : canGo fm fl here d.1 d.2 = true) : BInv fm fl base (addSt here s d) := by
  unfold addSt
  by_cases q : (lk s.1 (bhd here d.1 d.2)).isSome = true
  · rw [if_pos q]
    exact h
  · rw [if_neg q]
    have q0 : (lk s.1 (bhd here d.1 d.2)).isSome = false := by simpa using q
    have q1 : bhd here d.1 d.2 ∉ s.1.map (·.1) := by
      rw [lk_some, decide_eq_false_iff_not] at q0
      exact q0
    have e : (pt s.1 (bhd here d.1 d.2) (some (here, d.1, d.2))).map (·.1) = s.1.map (·.1) ++ [bhd here d.1 d.2] := by
      rw [pt_new q0, List.map_append]
      rfl
    refine ⟨?_, ?_, fun t ht => ?_⟩
    · rw [e, h.ks, List.append_assoc]
    · rw [e]
      exact List.nodup_append.mpr ⟨h.nd, by simp, fun a ha b hb => by
        rw [List.mem_singleton.mp hb]
        exact fun z => q1 (z ▸ ha)⟩
    · rw [e] at ht
      rcases List.mem_append.mp ht with ht | ht
      · exact h.st t ht
      · rw [List.mem_singleton.mp ht]
        exact hh.bhd hd
theorem BInv.adds {fm : Farm} {fl : List Int} {base : List (List Int)} {here : List Int} (hh : Std fm fl here) : ∀ {ds : List (Int × Int)} {s : Came × List (List Int)}, (∀ d ∈ ds, canGo fm fl here d.1 d.2 = true) → BInv fm fl base s → BInv fm fl base (ds.foldl (addSt here) s)
  | [], _, _, h => h
  | d :: ds, s, hd, h => BInv.adds hh (ds := ds) (fun e he => hd e (List.mem_cons_of_mem _ he)) (h.add hh (hd d (List.mem_cons_self ..)))
theorem BInv.here {fm : Farm} {fl : List Int} {base : List (List Int)} {s : Came × List (List Int)} (h : BInv fm fl base s) {t : List Int} (hh : Std fm fl t) : BInv fm fl base (addHere fm fl s t) := BInv.adds hh (fun d hd => mem_deedsOf hd) h
theorem BInv.heres {fm : Farm} {fl : List Int} {base : List (List Int)} : ∀ {ts : List (List Int)} {s : Came × List (List Int)}, (∀ t ∈ ts, Std fm fl t) → BInv fm fl base s → BInv fm fl base (ts.foldl (addHere fm fl) s)
  | [], _, _, h => h
  | t :: ts, s, ht, h => BInv.heres (ts := ts) (fun e he => ht e (List.mem_cons_of_mem _ he)) (h.here (ht t (List.mem_cons_self ..)))
/-- between two rings -/
structure RInv (fm : Farm) (fl : List Int) (c : Came) (rs : List (List (List Int))) : Prop where
  ks : c.map (·.1) = rs.flatten
  nd : (c.map (·.1)).Nodup
  st : ∀ t ∈ c.map (·.1), Std fm fl t
  ne : ∀ r ∈ rs, r ≠ []
  n0 : rs ≠ []
theorem flatten_ge : ∀ {rs : List (List (List Int))}, (∀ r ∈ rs, r ≠ []) → rs.length ≤ rs.flatten.length
  | [], _ => Nat.le_refl _
  | r :: rs, h => by
    rw [List.flatten_cons, List.length_append, List.length_cons]
    have h1 := flatten_ge (rs := rs) fun x hx => h x (List.mem_cons_of_mem _ hx)
    have h2 := List.length_pos_iff.mpr (h r (List.mem_cons_self ..))
    omega
theorem RInv.len {fm : Farm} {fl : List Int} {c : Came} {rs : List (List (List Int))} (h : RInv fm fl c rs) (hr : fm.rooms.length ≤ 6) (hf : fl.length ≤ 4) : c.length ≤ 1296 ∧ rs.length ≤ c.length := by
  have h1 := std_card hr hf h.nd h.st
  have h2 := congrArg List.length h.ks
  have h3 := flatten_ge h.ne
  rw [List.length_map] at h1 h2
  omega
theorem getLastD_mem : ∀ {rs : List (List (List Int))}, rs ≠ [] → rs.getLastD [] ∈ rs
  | [], h => absurd rfl h
  | r :: rs, _ => by
    rw [List.getLastD_cons]
    cases rs with
    | nil => exact List.mem_singleton.mpr rfl
    | cons r2 rs =>
      rw [List.getLastD_cons]
      have := getLastD_mem (rs := r2 :: rs) (by simp)
      rw [List.getLastD_cons] at this
      exact List.mem_cons_of_mem _ this
theorem RInv.last {fm : Farm} {fl : List Int} {c : Came} {rs : List (List (List Int))} (h : RInv fm fl c rs) : ∀ t ∈ rs.getLastD [], Std fm fl t := fun t ht =>
  h.st t (by rw [h.ks]; exact List.mem_flatten.mpr ⟨_, getLastD_mem h.n0, ht⟩)
theorem RInv.b {fm : Farm} {fl : List Int} {c : Came} {rs : List (List (List Int))} (h : RInv fm fl c rs) : BInv fm fl (c.map (·.1)) (c, []) := ⟨by rw [List.append_nil], h.nd, h.st⟩
theorem RInv.ring {fm : Farm} {fl : List Int} {c : Came} {rs : List (List (List Int))} (h : RInv fm fl c rs) : BInv fm fl (c.map (·.1)) (ringOf fm fl c (rs.getLastD [])) := BInv.heres h.last h.b
theorem RInv.next {fm : Farm} {fl : List Int} {c : Came} {rs : List (List (List Int))} (h : RInv fm fl c rs) (hn : (ringOf fm fl c (rs.getLastD [])).2 ≠ []) : RInv fm fl (ringOf fm fl c (rs.getLastD [])).1 (rs ++ [(ringOf fm fl c (rs.getLastD [])).2]) := by
  have b := h.ring
  refine ⟨?_, b.nd, b.st, fun r hr => ?_, by simp⟩
  · rw [b.ks, h.ks, List.flatten_append, List.flatten_cons, List.flatten_nil, List.append_nil]
  · rcases List.mem_append.mp hr with hr | hr
    · exact h.ne r hr
    · rw [List.mem_singleton.mp hr]
      exact hn
theorem RInv.start {fm : Farm} {fl st : List Int} (h : Std fm fl st) : RInv fm fl [(st, none)] [[st]] := ⟨rfl, by simp, fun t ht => by
  rw [List.mem_singleton.mp ht]
  exact h, by simp, by simp⟩
theorem addSt_grow (h : List Int) (s : Came × List (List Int)) (d : Int × Int) : addSt h s d = s ∨ s.2.length < (addSt h s d).2.length := by
  unfold addSt
  split
  · exact .inl rfl
  · right
    rw [List.length_append]
    show _ < _ + 1
    omega
theorem foldl_grow {α : Type} {f : Came × List (List Int) → α → Came × List (List Int)} (hf : ∀ s a, f s a = s ∨ s.2.length < (f s a).2.length) : ∀ (as : List α) (s : Came × List (List Int)), as.foldl f s = s ∨ s.2.length < (as.foldl f s).2.length
  | [], _ => .inl rfl
  | a :: as, s => by
    rw [List.foldl_cons]
    rcases hf s a with h | h
    · rw [h]
      exact foldl_grow hf as s
    · rcases foldl_grow hf as (f s a) with h2 | h2
      · rw [h2]
        exact .inr h
      · exact .inr (by omega)
theorem ringOf_nil {fm : Farm} {fl : List Int} {c : Came} {last : List (List Int)} (h : (ringOf fm fl c last).2 = []) : (ringOf fm fl c last).1 = c := by
  rcases foldl_grow (fun s a => foldl_grow (addSt_grow a) (deedsOf fm fl a) s) last (c, []) with h2 | h2
  · exact congrArg (·.1) h2
  · exfalso
    have : (ringOf fm fl c last).2.length = 0 := by rw [h]; rfl
    unfold ringOf addHere at this
    dsimp only at h2
    simp only [List.length_nil] at h2
    omega
/-- the walk ends by itself -/
theorem ringsGo_inv {fm : Farm} {fl : List Int} (hr : fm.rooms.length ≤ 6) (hf : fl.length ≤ 4) : ∀ (n : Nat) (c : Came) (rs : List (List (List Int))), RInv fm fl c rs → 1297 ≤ n + rs.length → RInv fm fl (ringsGo fm fl n c rs).2 (ringsGo fm fl n c rs).1 ∧ (ringOf fm fl (ringsGo fm fl n c rs).2 ((ringsGo fm fl n c rs).1.getLastD [])).2 = []
  | 0, c, rs, h, hn => by
    have := h.len hr hf
    omega
  | n + 1, c, rs, h, hn => by
    unfold ringsGo
    by_cases q : (ringOf fm fl c (rs.getLastD [])).2 = []
    · rw [if_pos q]
      have b := h.ring
      have e : (ringOf fm fl c (rs.getLastD [])).1.map (·.1) = c.map (·.1) := by rw [b.ks, q, List.append_nil]
      have e2 : (ringOf fm fl c (rs.getLastD [])).1 = c := ringOf_nil q
      rw [e2]
      exact ⟨h, q⟩
    · rw [if_neg q]
      exact ringsGo_inv hr hf n _ _ (h.next q) (by rw [List.length_append]; show 1297 ≤ n + (rs.length + 1); omega)
end Fg

set_option Elab.async false
set_option linter.all false
set_option maxRecDepth 100000
set_option maxHeartbeats 4000000
namespace Fg
open PySem L2 RZ
local macro_rules | `(tactic| walk_at "bo") => `(tactic| simp only [Bool.or_eq_false_iff, Bool.or_eq_true, Bool.and_eq_true, Bool.not_eq_true', Bool.not_eq_false', Bool.not_eq_true, Bool.not_eq_false, decide_eq_true_eq, decide_eq_false_iff_not, Bool.true_eq_false, Bool.false_eq_true, Bool.and_eq_false_imp] at *)
local macro_rules | `(tactic| walk_at "sd") => `(tactic| first
  | assumption
  | exact rfl
  | omega
  | (refine at_ints ?_; first | omega | (walk_at "bo"; omega) | skip)
  | exact Nat.le_of_ble_eq_true rfl
  | (show _ ≤ cap; first | decide | omega | (simp only [List.length_map, List.length_append]; omega))
  | (walk_at "bo"; omega)
  | skip)
local macro_rules | `(tactic| walk_at "ea") => `(tactic| first
  | exact ea_nil
  | (apply ea_cons; (focus walk_at "ev"); walk_at "ea"))
local macro_rules | `(tactic| walk_at "eh") => `(tactic| first
  | exact ev_varA rfl (by first | assumption | omega | decide)
  | exact ev_varK rfl (by first | assumption | omega | decide)
  | (apply EvD.h; walk_at "ev"))
local macro_rules | `(tactic| walk_at "el") => `(tactic| first
  | ((with_reducible apply el_lst); (focus walk_at "ea"); walk_at "sd")
  | ((with_reducible apply el_cat); (focus walk_at "ev"); (focus walk_at "ev"); walk_at "sd")
  | ((with_reducible apply el_sl); (focus walk_at "ev"); (focus walk_at "eo"); (focus walk_at "eo"))
  | ((with_reducible apply el_list); walk_at "ev")
  | ((with_reducible apply el_listT); walk_at "ev")
  | ((with_reducible apply el_rev); walk_at "ev"))
local macro_rules | `(tactic| walk_at "eo") => `(tactic| first
  | exact eo_none
  | (apply eo_some; walk_at "ev"))
local macro_rules | `(tactic| walk_at "ev") => `(tactic| first
  | exact ev_int | exact ev_bl | exact ev_non | exact ev_str
  | exact ev_var rfl
  | ((with_reducible apply ev_add); (focus walk_at "ev"); walk_at "ev")
  | ((with_reducible apply ev_sub); (focus walk_at "ev"); walk_at "ev")
  | ((with_reducible apply ev_lt); (focus walk_at "ev"); walk_at "ev")
  | ((with_reducible apply ev_le); (focus walk_at "ev"); walk_at "ev")
  | ((with_reducible apply ev_gt); (focus walk_at "ev"); walk_at "ev")
  | ((with_reducible apply ev_ge); (focus walk_at "ev"); walk_at "ev")
  | ((with_reducible apply ev_eqI); (focus walk_at "ev"); (focus walk_at "ev"); done)
  | ((with_reducible apply ev_neI); (focus walk_at "ev"); (focus walk_at "ev"); done)
  | ((with_reducible apply ev_mulW); (focus walk_at "ev"); (focus walk_at "ev"); walk_at "sd")
  | ((with_reducible apply ev_fdiv); (focus walk_at "ev"); (focus walk_at "ev"); walk_at "sd")
  | ((with_reducible apply ev_mod); (focus walk_at "ev"); (focus walk_at "ev"); walk_at "sd")
  | ((with_reducible apply ev_neg); walk_at "ev")
  | ((with_reducible apply ev_ixT); (focus walk_at "ev"); (focus walk_at "ev"); walk_at "sd")
  | (with_reducible apply ev_ixA rfl ?_ ?_; (focus walk_at "ev"); walk_at "sd")
  | ((with_reducible apply ev_ixL); (focus walk_at "ev"); (focus walk_at "ev"); walk_at "sd")
  | (with_reducible apply ev_lenA rfl)
  | ((with_reducible apply ev_lenLM); walk_at "eh"; done)
  | ((with_reducible apply ev_lenTM); walk_at "eh"; done)
  | ((with_reducible apply ev_lenL); walk_at "eh")
  | ((with_reducible apply ev_lenT); walk_at "eh")
  | ((with_reducible apply ev_lenK); walk_at "eh")
  | ((with_reducible apply ev_isN); walk_at "eh")
  | ((with_reducible apply ev_notN); walk_at "eh")
  | ((with_reducible apply ev_inT); (focus walk_at "ev"); walk_at "ev")
  | ((with_reducible apply ev_inD); (focus walk_at "eh"); (focus walk_at "eh"); all_goals walk_at "sh")
  | ((with_reducible apply ev_notInD); (focus walk_at "eh"); (focus walk_at "eh"); all_goals walk_at "sh")
  | ((with_reducible apply ev_eqD); (focus walk_at "eh"); (focus walk_at "eh"); all_goals walk_at "sh")
  | ((with_reducible apply ev_neD); (focus walk_at "eh"); (focus walk_at "eh"); all_goals walk_at "sh")
  | ((with_reducible apply ev_all); walk_at "eh")
  | ((with_reducible apply ev_any); walk_at "eh")
  | ((with_reducible apply ev_sum); walk_at "eh")
  | ((with_reducible apply ev_lenSet); (focus walk_at "ev"); walk_at "sd")
  | ((with_reducible apply ev_isaI); (focus walk_at "eh"); walk_at "sd")
  | ((with_reducible apply ev_isaB); (focus walk_at "eh"); walk_at "sd")
  | ((with_reducible apply ev_isaL); (focus walk_at "eh"); walk_at "sd")
  | ((with_reducible apply ev_isaT); (focus walk_at "eh"); walk_at "sd")
  | ((with_reducible apply ev_tup); (focus walk_at "ea"); walk_at "sd")
  | ((with_reducible apply ev_catT); (focus walk_at "ev"); (focus walk_at "ev"); walk_at "sd")
  | ((with_reducible apply ev_slT); (focus walk_at "ev"); (focus walk_at "eo"); (focus walk_at "eo"))
  | ((with_reducible apply ev_max2); (focus walk_at "ev"); walk_at "ev")
  | ((with_reducible apply ev_min2); (focus walk_at "ev"); walk_at "ev")
  | ((with_reducible apply ev_abs); walk_at "ev")
  | ((with_reducible apply ev_chain); (focus walk_at "ev"); (focus walk_at "ev"); intro _; walk_at "ev")
  | ((with_reducible apply ev_and); (focus walk_at "ev"); intro _; walk_at "ev")
  | ((with_reducible apply ev_or); (focus walk_at "ev"); intro _; walk_at "ev")
  | ((with_reducible apply ev_not); walk_at "ev")
  | (apply EvL.fz; (focus walk_at "el"); walk_at "sd"))
local macro_rules | `(tactic| walk_at "et") => `(tactic| first
  | ((with_reducible apply et_test); walk_at "ev")
  | ((with_reducible apply et_B); walk_at "ev")
  | ((with_reducible apply et_and); (focus walk_at "et"); intro _; walk_at "et")
  | ((with_reducible apply et_or); (focus walk_at "et"); intro _; walk_at "et")
  | ((with_reducible apply et_not); walk_at "et"))
local macro_rules | `(tactic| walk_at "sh") => `(tactic| first
  | exact (sh_tup2 (sh_int _) (sh_int _)).shp (by decide) | exact (sh_pr _).shp (by decide) | exact (sh_prs _).shp (by decide) | exact (sh_st _).shp (by decide) | exact (sh_is _).shp (by decide) | exact (sh_ws _).shp (by decide) | exact (sh_rg _).shp (by decide) | exact (sh_rgs _).shp (by decide) | exact (sh_fm _).shp (by decide)
  | exact sh_nil.shp (by decide) | exact (sh_bls _).shp (by decide) | decide +kernel | skip)

section
variable {P : Program} {w : World} {K : PySem.W.Frag} {mg : Str → Option Value} {base : Heap}
abbrev s_rings_of : Stmt := top 28
theorem sc_rings_of : FnScope ["farm", "flocks", "stand", "came", "rings", "ring", "here", "flock", "pen", "other"] ["farm", "flocks", "stand"] (defScope s_rings_of) := ⟨rfl, rfl, rfl, by decide +kernel, rfl, by decide +kernel, by decide +kernel⟩
/-! ### is_stand -/
def gIsStand : List D → D → Prop := fun ds r => ∃ (fm : Farm) (fl t : List Int), ds = [dFm fm, dIs fl, dSt t] ∧ t.length ≤ 4000 ∧ r = .bl (isStand fm fl t)
theorem ok_is_stand {f : Addr} {fd : FuncData} (F : Fun K "is_stand" "is_stand" s_is_stand f fd) (T : Tp mg) (D_is_between : Df P w K mg base 1 "is_between" ["thing", "least", "most"] (Pure gBetween)) : FnOk P w K mg base CX0 2 f fd ["farm", "flocks", "thing"] (Pure gIsStand) := by
  refine fn_pure F sc_is_stand (fun ds r h => by obtain ⟨_, _, _, rfl, _⟩ := h; rfl) (fun cdv A outer s H E hr ds r hg => ?_)
  obtain ⟨fm, fl, t, rfl, h4, rfl⟩ := hg
  refine ⟨_, (pss_cons (ps_if (PW.pt (pw_or (pt_not (pt_val (pe_callB (kx_call_isi K) (by rfl) T.n_isinstance b_isinstance (pa_cons (pv 2) (pa_cons (pe_bltn (v := .ty "tuple") (by rfl) T.n_tuple b_tuple rfl) pa_nil))))) (pw_or1 (pt_cmpR op_ne (pe_callB (kx_c_len K) (by rfl) T.n_len b_len (pa_cons (pv 2) pa_nil)) (pe_callB (kx_c_len K) (by rfl) T.n_len b_len (pa_cons (pv 1) pa_nil)) (nomark _))))) (pss_one (ps_ret pe_bl)) pss_nil)
  (pss_cons (ps_if (PW.pt (pw_or (pt_not (pt_val (pe_callB (kx_cr_all K rfl) (by rfl) T.n_all b_all (pa_cons (pe_lc (own := [("pen", 3)]) rfl sc_is_stand.nd (pi_tup (pv 2)) (blkOk_by (own := [("pen", 3)]) (N := ["farm", "flocks", "thing", "pen", "size"]) (sc := defScope s_is_stand) (by decide +kernel)) (fun _ _ _ _ _ => (pg_n 3 sc_is_stand.nd)) (fun _ _ _ _ _ => pts_nil) (fun _ _ _ _ _ => (pe_df D_is_between (hr.mono (by decide)) (by rfl) (pa_cons (pv 3) (pa_cons pe_int (pa_cons (pe_op op_sub (pe_callB (kx_c_len K) (by rfl) T.n_len b_len (pa_cons (pe_ix (kx_ix_tup K) (pv 0) pe_int (fun _ _ => rfl)) pa_nil)) pe_int) pa_nil)))))) pa_nil)))) (pw_or1 (pt_cmpR op_ne (pe_lenSetT (by rfl) T.n_len (by rfl) T.n_set (pv 2)) (pe_callB (kx_c_len K) (by rfl) T.n_len b_len (pa_cons (pv 2) pa_nil)) (nomark _))))) (pss_one (ps_ret pe_bl)) pss_nil)
  (pss_one (ps_ret (pe_callB (kx_cr_all K rfl) (by rfl) T.n_all b_all (pa_cons (pe_lc (own := [("pen", 3), ("size", 4)]) rfl sc_is_stand.nd (pi_zipTL (by rfl) T.n_zip (pa_cons (pv 2) (pa_cons (pv 1) pa_nil))) (blkOk_by (own := [("pen", 3), ("size", 4)]) (N := ["farm", "flocks", "thing", "pen", "size"]) (sc := defScope s_is_stand) (by decide +kernel)) (fun _ _ _ _ _ => (pg_tupK (K0 := K) (n := 2) rfl rfl (pgs_cons (pg_n 3 sc_is_stand.nd) (pgs_cons (pg_n 4 sc_is_stand.nd) pgs_nil)))) (fun _ _ _ _ _ => pts_nil) (fun _ _ _ _ _ => (pe_cmpR op_ge (pe_ix (kx_ix_list K) (pe_ix (kx_ix_tup K) (pv 0) pe_int (fun _ _ => rfl)) (pv 3) (fun _ _ => rfl)) (pv 4) (nomark _)))) pa_nil)))))), fun W0 => ?_⟩
  have hz : t.length ≤ cap := by
    show _ ≤ 100000
    omega
  have hz2 : (t.zip fl).length ≤ cap := by
    rw [List.length_zip]
    show _ ≤ 100000
    omega
  refine st_seq (st_when (by walk_at "et") (fun hb W1 l1 => st_ret ev_bl ?_) (fun hb W1 l1 => ?_))
  · unfold isStand
    simp only [D.isaT, Bool.not_true, Bool.false_or, List.length_map] at hb
    rw [if_pos (by simpa [Int.natCast_inj] using hb)]
  · have hlen : t.length = fl.length := by simpa [D.isaT, Int.natCast_inj] using hb
    refine st_seq (st_when (et_or (et_not (et_test (ev_allA t .int (fun p => decide (0 ≤ p) && decide (p ≤ (fm.rooms.length : Int) - 1)) (it_tup (by walk_at "ev")) hz (fun q _ => ⟨_, _, fun _ h => h, tg_name, fun W3 l3 => ev_call (by walk_at "ea") ⟨.int q, 0, _, rfl, rfl, rfl⟩⟩)))) (fun hb2 => by walk_at "et")) (fun hb W1 l1 => st_ret ev_bl ?_) (fun hb W1 l1 => ?_))
    · unfold isStand
      rw [if_neg (by simpa using hlen), if_pos (by simpa [Int.natCast_inj] using hb)]
    · have hq : ∀ q ∈ t.zip fl, 0 ≤ q.1 ∧ q.1 < fm.rooms.length := by
        intro q hq
        have h1 := (List.of_mem_zip hq).1
        simp only [Bool.or_eq_false_iff, Bool.not_eq_false', List.all_eq_true, Bool.and_eq_true, decide_eq_true_eq] at hb
        have := hb.1 q.1 h1
        omega
      refine st_ret (ev_allA (t.zip fl) (fun q => .tup [.int q.1, .int q.2]) (fun q => decide (q.2 ≤ nth fm.rooms q.1)) (ItD.to (it_zipTL (by walk_at "ea")) (zipD_map D.int D.int t fl)) hz2 (fun q hq2 => ⟨_, _, fun _ h => h, tg_pair, fun W3 l3 => ev_ge (ev_ixL (ev_ixT (ev_var rfl) ev_int at0) (ev_var rfl) (at_ints (hq q hq2))) (ev_var rfl)⟩)) ?_
      unfold isStand
      rw [if_neg (by simpa using hlen), if_neg (by simpa [Int.natCast_inj] using hb)]
/-! ### rings_of -/
def gRingsOf : List D → D → Prop := fun ds r => ∃ (fm : Farm) (fl st : List Int), ds = [dFm fm, dIs fl, dSt st] ∧ Sz fm fl st ∧ Std fm fl st ∧ r = .tup [dRgs (ringsOf fm fl st).1, .dct (dCame (ringsOf fm fl st).2)]
theorem ok_rings_of {f : Addr} {fd : FuncData} (F : Fun K "rings_of" "rings_of" s_rings_of f fd) (T : Tp mg) (D_deeds_of : Df P w K mg base 2 "deeds_of" ["farm", "flocks", "stand"] (Pure gDeedsOf))
    (D_behind : Df P w K mg base 1 "behind" ["stand", "flock", "pen"] (Pure gBehind)) : FnOk P w K mg base CX0 3 f fd ["farm", "flocks", "stand"] (Pure gRingsOf) := by
  refine fn_pure F sc_rings_of (fun ds r h => by obtain ⟨_, _, _, rfl, _⟩ := h; rfl) (fun cdv A outer s H E hr ds r hg => ?_)
  obtain ⟨fm, fl, st, rfl, hz, hstd, rfl⟩ := hg
  have hu := hu_of hr
  refine ⟨_, (pss_cons (ps_par (i := 3) (j := 4) (by rfl) sc_rings_of.nd rfl rfl (by decide) rfl rfl (pa_cons (pe_disp1T hu (pv 2) pe_non) (pa_cons (pe_lst (pa_cons (pe_lst (pa_cons (pv 2) pa_nil)) pa_nil)) pa_nil)) (by rfl))
  (pss_one (ps_while PassesOwn.never (pt_val pe_bl) (pss_cons (ps_sv 5 sc_rings_of.nd (pe_lst pa_nil))
  (pss_cons (ps_for PassesOwn.never rfl (pi_list (pe_ix (kx_ix_list K) (pv 4) (pe_un un_neg pe_int) (fun _ _ => rfl))) (pg_n 6 sc_rings_of.nd) (pss_one (ps_for PassesOwn.never rfl (pi_list (pe_df D_deeds_of (hr.mono (by decide)) (by rfl) (pa_cons (pv 0) (pa_cons (pv 1) (pa_cons (pv 6) pa_nil))))) (pg_tupK (K0 := K) (n := 2) rfl rfl (pgs_cons (pg_n 7 sc_rings_of.nd) (pgs_cons (pg_n 8 sc_rings_of.nd) pgs_nil))) (pss_cons (ps_sv 9 sc_rings_of.nd (pe_df D_behind (hr.mono (by decide)) (by rfl) (pa_cons (pv 6) (pa_cons (pv 7) (pa_cons (pv 8) pa_nil)))))
  (pss_one (ps_if (pt_cmp (pc_dnotin hu (pv 9) (pv 3)) (by rfl)) (pss_cons (ps_dput hu (pv 3) (pv 9) (pe_tup (pa_cons (pv 6) (pa_cons (pv 7) (pa_cons (pv 8) pa_nil)))) rfl)
  (pss_one (ps_expr (pe_bm PySem.F.plainAttrs_list PySem.F.slot_list_append PySem.F.type_list_append mt_append (pv 5) (pa_cons (pv 9) pa_nil))))) pss_nil))))))
  (pss_cons (ps_if (pt_cmpR (kx_op_eqD K hr.units) (pv 5) (pe_lst pa_nil) (nomark _)) (pss_one (ps_ret (pe_tup (pa_cons (pv 4) (pa_cons (pv 3) pa_nil))))) pss_nil)
  (pss_one (ps_expr (pe_bm PySem.F.plainAttrs_list PySem.F.slot_list_append PySem.F.type_list_append mt_append (pv 4) (pa_cons (pv 5) pa_nil)))))))))), fun W0 => ?_⟩
  refine st_seq (st_par (ek_disp1 (i := 2) rfl (fun W1 l1 => ev_non)).g (by walk_at "el" : EvL _ _ _ _ [dRg [st]]).g (fun p1 p2 W1 l1 => ?_))
  refine st_while (fun m Γ' W' => ∃ c rs l1 l2 d5 d6 d7 d8 d9, Γ' = [.dat (dFm fm), .dat (dIs fl), .dat (dSt st), .dac l1 (dCame c), .acc l2 (rs.map dRg), d5, d6, d7, d8, d9] ∧ RInv fm fl c rs ∧ 1297 ≤ m + rs.length ∧ ringsGo fm fl m c rs = ringsOf fm fl st ∧ ∀ s ∈ [d5, d6, d7, d8, d9], s.adr = none) 1300 ⟨[(st, none)], [[st]], p1, p2, _, _, _, _, _, rfl, RInv.start hstd, by show 1297 ≤ 1300 + 1; omega, rfl, by simp [Sl.adr]⟩ ?_
  rintro m Γ' W' ⟨c, rs, q1, q2, d5, d6, d7, d8, d9, rfl, hI, hm, he, had⟩ l
  refine ⟨true, et_test ev_bl, fun _ W2 l2 => ?_, fun h => by cases h⟩
  refine st_seq (st_asgL (by walk_at "el") (fun p5 W3 l3 => ?_))
  have hr6 := hz.r
  have hf4 := hz.f
  refine st_weak (Γ' := [.dat (dFm fm), .dat (dIs fl), .dat (dSt st), .dac q1 (dCame c), .acc q2 (rs.map dRg), .acc p5 [], .no, .no, .no, .no]) (wk_cons (wk_cons (wk_cons (wk_cons (wk_cons (wk_cons (wk_drop (wk_drop (wk_drop (wk_drop wk_nil)))))))))) ?_
  have hrl := hI.len hr6 hf4
  have hlast : atI (rs.map dRg) (-1) = some (dRg (rs.getLastD [])) := by
    refine at_map dRg (atI_last ?_)
    obtain ⟨r, rs', rfl⟩ : ∃ r rs', rs = r :: rs' := by
      cases rs with
      | nil => exact absurd rfl hI.n0
      | cons r rs' => exact ⟨r, rs', rfl⟩
    rw [List.getLastD_cons, List.getLast?_cons]
    cases rs' <;> rfl
  refine st_seq (st_fold (rs.getLastD []) dSt (fun s => [.dat (dFm fm), .dat (dIs fl), .dat (dSt st), .dac q1 (dCame s.1), .acc q2 (rs.map dRg), .acc p5 (s.2.map dSt), .no, .no, .no, .no]) (addHere fm fl) (c, []) (it_list (ev_ixA (i := 4) rfl (ev_neg ev_int) hlast)) (wk_refl _) ?_ ?_)
  · intro i s here W4 hi hs l4
    have hst := hI.last here (List.mem_of_getElem? hi)
    have hbi : BInv fm fl (c.map (·.1)) s := by
      rw [hs]
      exact BInv.heres (fun t ht => hI.last t (List.mem_of_mem_take ht)) hI.b
    refine ⟨_, _, tg_name, fun W5 l5 => ?_⟩
    refine (st_fold (deedsOf fm fl here) dPr (fun s => [.dat (dFm fm), .dat (dIs fl), .dat (dSt st), .dac q1 (dCame s.1), .acc q2 (rs.map dRg), .acc p5 (s.2.map dSt), .dat (dSt here), .no, .no, .no]) (addSt here) s (it_list (ev_call (by walk_at "ea") ⟨fm, fl, here, rfl, ⟨hr6, hf4, hst.len⟩, rfl⟩)) (wk_refl _) ?_ ?_)
    · intro j s2 d W6 hj hs2 l6
      have hcg := mem_deedsOf (List.mem_of_getElem? hj)
      obtain ⟨b1, b2, b3, b4⟩ := canGo_rng hcg
      have hbi2 : BInv fm fl (c.map (·.1)) s2 := by
        rw [hs2]
        exact BInv.adds hst (fun e he => mem_deedsOf (List.mem_of_mem_take he)) hbi
      have hlen := hbi2.len hr6 hf4
      have hl4 := hst.len
      refine ⟨_, _, tg_pair, fun W7 l7 => ?_⟩
      refine st_seq (st_asgD (ev_call (by walk_at "ea") ⟨here, d.1, d.2, rfl, by omega, b1, by omega, rfl⟩) (fun W8 l8 => ?_))
      refine st_when (et_test (ev_dnotinA (EvD.h (ev_var rfl)) rfl)) (fun hb W9 l9 => ?_) (fun hb W9 l9 => ?_)
      · have hb2 : (lk s2.1 (bhd here d.1 d.2)).isSome = false := by
          unfold dCame at hb
          rw [lk_map, Option.isSome_map] at hb
          simpa using hb
        have ea : addSt here s2 d = (pt s2.1 (bhd here d.1 d.2) (some (here, d.1, d.2)), s2.2 ++ [bhd here d.1 d.2]) := by
          unfold addSt
          rw [hb2]
          rfl
        rw [ea]
        refine st_seq (st_dput (i := 3) (d := .tup [dSt here, .int d.1, .int d.2]) rfl (by walk_at "ev") (ev_var rfl) ?_ (fun W10 l10 => ?_))
        · unfold dCame
          rw [List.length_map]
          show _ ≤ 100000
          omega
        · refine st_app (i := 5) rfl (ev_var rfl) ?_ (fun W11 l11 => ?_)
          · rw [List.length_map]
            show _ ≤ 100000
            omega
          · rw [List.map_append]
            unfold dCame
            rw [← pt_map dCm]
            exact wk_cons (wk_cons (wk_cons (wk_cons (wk_cons (wk_cons (wk_cons (wk_drop (wk_drop (wk_drop wk_nil)))))))))
      · have ea : addSt here s2 d = s2 := by
          unfold addSt
          unfold dCame at hb
          rw [lk_map, Option.isSome_map] at hb
          rw [if_pos (by simpa using hb)]
        rw [ea]
        exact wk_cons (wk_cons (wk_cons (wk_cons (wk_cons (wk_cons (wk_cons (wk_drop (wk_drop (wk_drop wk_nil)))))))))
    · intro Wn ln
      exact wk_cons (wk_cons (wk_cons (wk_cons (wk_cons (wk_cons (wk_drop (wk_drop (wk_drop (wk_drop wk_nil)))))))))
  · intro Wn ln
    have hbi := hI.ring
    have hlen := hbi.len hr6 hf4
    have hc5 : (((ringOf fm fl c (rs.getLastD [])).2).map dSt).length ≤ cap := by
      rw [List.length_map]
      show _ ≤ 100000
      omega
    have hc4 : (rs.map dRg).length ≤ cap := by
      rw [List.length_map]
      show _ ≤ 100000
      omega
    have hc3 : (dCame (ringOf fm fl c (rs.getLastD [])).1).length ≤ cap := by
      unfold dCame
      rw [List.length_map]
      show _ ≤ 100000
      omega
    have m0 : m ≠ 0 := by omega
    obtain ⟨m', rfl⟩ := Nat.exists_eq_succ_of_ne_zero m0
    refine st_seq (st_when (et_test (ev_eqD (e := dRg []) (ev_varA (i := 5) rfl hc5) (EvD.h (ev_lst ea_nil (by decide))) ((sh_rg _).shp (by decide)) ((sh_rg _).shp (by decide)))) (fun hb W9 l9 => ?_) (fun hb W9 l9 => ?_))
    · have hb2 : (ringOf fm fl c (rs.getLastD [])).2 = [] := (eqb_rg _ _).mp hb
      refine st_freeze (i := 4) rfl hc4 fun W10 l10 => ?_
      refine st_freezeK (i := 3) rfl hc3 fun W11 l11 => st_ret (by walk_at "ev") ?_
      rw [← he]
      unfold ringsGo
      rw [if_pos hb2]
      rfl
    · have hb2 : (ringOf fm fl c (rs.getLastD [])).2 ≠ [] := fun z => by
        have hb3 : D.eqb (dRg (ringOf fm fl c (rs.getLastD [])).2) (dRg []) = false := hb
        rw [(eqb_rg _ _).mpr z] at hb3
        cases hb3
      refine st_freeze (i := 5) rfl hc5 fun W10 l10 => ?_
      refine st_app (i := 4) rfl (ev_var rfl) hc4 (fun W11 l11 => ?_)
      refine ⟨m', Nat.lt_succ_self _, (ringOf fm fl c (rs.getLastD [])).1, rs ++ [(ringOf fm fl c (rs.getLastD [])).2], q1, q2, .dat (dRg (ringOf fm fl c (rs.getLastD [])).2), .no, .no, .no, .no, ?_, hI.next hb2, ?_, ?_, ?_⟩
      · rw [List.map_append]
        rfl
      · rw [List.length_append]
        show 1297 ≤ m' + (rs.length + 1)
        omega
      · rw [← he]
        conv => rhs; unfold ringsGo
        rw [if_neg hb2]
      · simp [Sl.adr]
/-! ### what is asked: of what is right nothing is told -/
def Fok (fm : Farm) : Prop := (2 ≤ fm.rooms.length ∧ fm.rooms.length ≤ 6) ∧ (∀ r ∈ fm.rooms, 1 ≤ r ∧ r ≤ 9) ∧ (∀ g ∈ fm.gates, 0 ≤ g.1 ∧ g.1 < g.2 ∧ g.2 < fm.rooms.length) ∧ (∀ i, i + 1 < fm.gates.length → ltP (fm.gates.getD i (0, 0)) (fm.gates.getD (i + 1) (0, 0)) = true) ∧ fm.gates.length ≤ 100
def Lok (fl : List Int) : Prop := (1 ≤ fl.length ∧ fl.length ≤ 4) ∧ ∀ r ∈ fl, 1 ≤ r ∧ r ≤ 9
def Wok (fm : Farm) (fl : List Int) (w : List (Option Int)) : Prop := w.length = fl.length ∧ ∀ o ∈ w, ∀ i, o = some i → 0 ≤ i ∧ i < fm.rooms.length
abbrev s_is_gate : Stmt := top 18
theorem sc_is_gate : FnScope ["thing", "many", "one"] ["thing", "many"] (defScope s_is_gate) := ⟨rfl, rfl, rfl, by decide +kernel, rfl, by decide +kernel, by decide +kernel⟩
abbrev s_asked_farm : Stmt := top 19
theorem sc_asked_farm : FnScope ["farm", "rooms", "gates", "one", "at"] ["farm"] (defScope s_asked_farm) := ⟨rfl, rfl, rfl, by decide +kernel, rfl, by decide +kernel, by decide +kernel⟩
abbrev s_asked_flocks : Stmt := top 20
theorem sc_asked_flocks : FnScope ["flocks", "one"] ["flocks"] (defScope s_asked_flocks) := ⟨rfl, rfl, rfl, by decide +kernel, rfl, by decide +kernel, by decide +kernel⟩
abbrev s_asked_stand : Stmt := top 22
theorem sc_asked_stand : FnScope ["farm", "flocks", "stand"] ["farm", "flocks", "stand"] (defScope s_asked_stand) := ⟨rfl, rfl, rfl, by decide +kernel, rfl, by decide +kernel, by decide +kernel⟩
abbrev s_asked_wish : Stmt := top 23
theorem sc_asked_wish : FnScope ["farm", "flocks", "wish", "one"] ["farm", "flocks", "wish"] (defScope s_asked_wish) := ⟨rfl, rfl, rfl, by decide +kernel, rfl, by decide +kernel, by decide +kernel⟩
abbrev s_come_to : Stmt := top 41
theorem sc_come_to : FnScope ["farm", "flocks", "stand"] ["farm", "flocks", "stand"] (defScope s_come_to) := ⟨rfl, rfl, rfl, by decide +kernel, rfl, by decide +kernel, by decide +kernel⟩
def gIsGate : List D → D → Prop := fun ds r => ∃ (g : Int × Int) (n : Int), ds = [dPr g, .int n] ∧ r = .bl (decide (0 ≤ g.1 ∧ g.1 < n ∧ 0 ≤ g.2 ∧ g.2 < n) && decide (g.1 < g.2))
theorem ok_is_gate {f : Addr} {fd : FuncData} (F : Fun K "is_gate" "is_gate" s_is_gate f fd) (T : Tp mg) (D_is_between : Df P w K mg base 1 "is_between" ["thing", "least", "most"] (Pure gBetween)) : FnOk P w K mg base CX0 2 f fd ["thing", "many"] (Pure gIsGate) := by
  refine fn_pure F sc_is_gate (fun ds r h => by obtain ⟨_, _, rfl, _⟩ := h; rfl) (fun cdv A outer s H E hr ds r hg => ?_)
  obtain ⟨g, n, rfl, rfl⟩ := hg
  refine ⟨_, (pss_cons (ps_if (PW.pt (pw_or (pt_not (pt_val (pe_callB (kx_call_isi K) (by rfl) T.n_isinstance b_isinstance (pa_cons (pv 0) (pa_cons (pe_bltn (v := .ty "tuple") (by rfl) T.n_tuple b_tuple rfl) pa_nil))))) (pw_or (pt_cmpR op_ne (pe_callB (kx_c_len K) (by rfl) T.n_len b_len (pa_cons (pv 0) pa_nil)) pe_int (nomark _)) (pw_or1 (pt_not (pt_val (pe_callB (kx_cr_all K rfl) (by rfl) T.n_all b_all (pa_cons (pe_lc (own := [("one", 2)]) rfl sc_is_gate.nd (pi_tup (pv 0)) (blkOk_by (own := [("one", 2)]) (N := ["thing", "many", "one"]) (sc := defScope s_is_gate) (by decide +kernel)) (fun _ _ _ _ _ => (pg_n 2 sc_is_gate.nd)) (fun _ _ _ _ _ => pts_nil) (fun _ _ _ _ _ => (pe_df D_is_between (hr.mono (by decide)) (by rfl) (pa_cons (pv 2) (pa_cons pe_int (pa_cons (pe_op op_sub (pv 1) pe_int) pa_nil)))))) pa_nil)))))))) (pss_one (ps_ret pe_bl)) pss_nil)
  (pss_one (ps_ret (pe_cmpR op_lt (pe_ix (kx_ix_tup K) (pv 0) pe_int (fun _ _ => rfl)) (pe_ix (kx_ix_tup K) (pv 0) pe_int (fun _ _ => rfl)) (nomark _))))), fun W0 => ?_⟩
  refine st_seq (st_when (et_or (et_not (by walk_at "et")) (fun _ => et_or (by walk_at "et") (fun _ => et_not (et_test (ev_allA [g.1, g.2] .int (fun p => decide (0 ≤ p) && decide (p ≤ n - 1)) (it_tup (by walk_at "ev")) (by show 2 ≤ 100000; omega) (fun q _ => ⟨_, _, fun _ h => h, tg_name, fun W3 l3 => ev_call (by walk_at "ea") ⟨.int q, 0, _, rfl, rfl, rfl⟩⟩)))))) (fun hb W1 l1 => st_ret ev_bl ?_) (fun hb W1 l1 => ?_))
  · rw [show decide (0 ≤ g.1 ∧ g.1 < n ∧ 0 ≤ g.2 ∧ g.2 < n) = false by
      rw [decide_eq_false_iff_not]
      rintro ⟨a1, a2, a3, a4⟩
      simp [D.isaT] at hb
      omega]
    rfl
  · refine st_ret (ev_lt (ev_ixT (ev_var rfl) ev_int at0) (ev_ixT (ev_var rfl) ev_int at1)) ?_
    rw [show decide (0 ≤ g.1 ∧ g.1 < n ∧ 0 ≤ g.2 ∧ g.2 < n) = true by
      rw [decide_eq_true_eq]
      simp [D.isaT] at hb
      omega, Bool.true_and]
def gAskedFarm : List D → D → Prop := fun ds r => ∃ fm : Farm, ds = [dFm fm] ∧ Fok fm ∧ r = .non
theorem ok_asked_farm {f : Addr} {fd : FuncData} (F : Fun K "asked_farm" "asked_farm" s_asked_farm f fd) (T : Tp mg) (D_is_between : Df P w K mg base 1 "is_between" ["thing", "least", "most"] (Pure gBetween)) (D_is_gate : Df P w K mg base 2 "is_gate" ["thing", "many"] (Pure gIsGate)) : FnOk P w K mg base CX0 3 f fd ["farm"] (Pure gAskedFarm) := by
  refine fn_pure F sc_asked_farm (fun ds r h => by obtain ⟨_, rfl, _⟩ := h; rfl) (fun cdv A outer s H E hr ds r hg => ?_)
  obtain ⟨fm, rfl, ⟨⟨h2, h6⟩, h9, hgt, hrs, hgl⟩, rfl⟩ := hg
  have hun : (A.deeper (PyProof.Rows.envOfC "asked_farm" (defScope s_asked_farm) s.heap.objs.size f cdv)).units < cLine := hr.units0
  obtain ⟨_, gv_MOST_PENS⟩ := T.g_MOST_PENS
  obtain ⟨_, gv_MOST_ROOM⟩ := T.g_MOST_ROOM
  refine ⟨_, (pss_cons (ps_if (PW.pt (pw_or (pt_not (pt_val (pe_callB (kx_call_isi K) (by rfl) T.n_isinstance b_isinstance (pa_cons (pv 0) (pa_cons (pe_bltn (v := .ty "tuple") (by rfl) T.n_tuple b_tuple rfl) pa_nil))))) (pw_or (pt_cmpR op_ne (pe_callB (kx_c_len K) (by rfl) T.n_len b_len (pa_cons (pv 0) pa_nil)) pe_int (nomark _)) (pw_or (pt_not (pt_val (pe_callB (kx_call_isi K) (by rfl) T.n_isinstance b_isinstance (pa_cons (pe_ix (kx_ix_tup K) (pv 0) pe_int (fun _ _ => rfl)) (pa_cons (pe_bltn (v := .ty "list") (by rfl) T.n_list b_list rfl) pa_nil))))) (pw_or1 (pt_not (pt_val (pe_callB (kx_call_isi K) (by rfl) T.n_isinstance b_isinstance (pa_cons (pe_ix (kx_ix_tup K) (pv 0) pe_int (fun _ _ => rfl)) (pa_cons (pe_bltn (v := .ty "list") (by rfl) T.n_list b_list rfl) pa_nil)))))))))) (pss_one ps_never) pss_nil)
  (pss_cons (ps_asg (pv 0) (pg_tupK (K0 := K) (n := 2) rfl rfl (pgs_cons (pg_n 1 sc_asked_farm.nd) (pgs_cons (pg_n 2 sc_asked_farm.nd) pgs_nil))))
  (pss_cons (ps_if (PW.pt (pw_or (pt_not (pt_chain op_le op_le pe_int (pe_callB (kx_c_len K) (by rfl) T.n_len b_len (pa_cons (pv 1) pa_nil)) (pe_glob (v := .int _) (by rfl) gv_MOST_PENS ⟨_, rfl⟩))) (pw_or1 (pt_not (pt_val (pe_callB (kx_cr_all K rfl) (by rfl) T.n_all b_all (pa_cons (pe_lc (own := [("one", 3)]) rfl sc_asked_farm.nd (pi_list (pv 1)) (blkOk_by (own := [("one", 3)]) (N := ["farm", "rooms", "gates", "one", "at"]) (sc := defScope s_asked_farm) (by decide +kernel)) (fun _ _ _ _ _ => (pg_n 3 sc_asked_farm.nd)) (fun _ _ _ _ _ => pts_nil) (fun _ _ _ _ _ => (pe_df D_is_between (hr.mono (by decide)) (by rfl) (pa_cons (pv 3) (pa_cons pe_int (pa_cons (pe_glob (v := .int _) (by rfl) gv_MOST_ROOM ⟨_, rfl⟩) pa_nil)))))) pa_nil))))))) (pss_one ps_never) pss_nil)
  (pss_cons (ps_if (pt_not (pt_val (pe_callB (kx_cr_all K rfl) (by rfl) T.n_all b_all (pa_cons (pe_lc (own := [("one", 3)]) rfl sc_asked_farm.nd (pi_list (pv 2)) (blkOk_by (own := [("one", 3)]) (N := ["farm", "rooms", "gates", "one", "at"]) (sc := defScope s_asked_farm) (by decide +kernel)) (fun _ _ _ _ _ => (pg_n 3 sc_asked_farm.nd)) (fun _ _ _ _ _ => pts_nil) (fun _ _ _ _ _ => (pe_df D_is_gate (hr.mono (by decide)) (by rfl) (pa_cons (pv 3) (pa_cons (pe_callB (kx_c_len K) (by rfl) T.n_len b_len (pa_cons (pv 1) pa_nil)) pa_nil))))) pa_nil)))) (pss_one ps_never) pss_nil)
  (pss_one (ps_if (pt_not (pt_val (pe_callB (kx_cr_all K rfl) (by rfl) T.n_all b_all (pa_cons (pe_lc (own := [("at", 4)]) rfl sc_asked_farm.nd (pi_range2 (by rfl) T.n_range (pa_cons pe_int (pa_cons (pe_callB (kx_c_len K) (by rfl) T.n_len b_len (pa_cons (pv 2) pa_nil)) pa_nil))) (blkOk_by (own := [("at", 4)]) (N := ["farm", "rooms", "gates", "one", "at"]) (sc := defScope s_asked_farm) (by decide +kernel)) (fun _ _ _ _ _ => (pg_n 4 sc_asked_farm.nd)) (fun _ _ _ _ _ => pts_nil) (fun _ _ _ _ _ => (pe_cmpR (kx_op_ltT K hr.units0) (pe_ix (kx_ix_list K) (pv 2) (pe_op op_sub (pv 4) pe_int) (fun _ _ => rfl)) (pe_ix (kx_ix_list K) (pv 2) (pv 4) (fun _ _ => rfl)) (nomark _)))) pa_nil)))) (pss_one ps_never) pss_nil)))))), fun W0 => ?_⟩
  refine st_seq (st_when (et_or (et_not (by walk_at "et")) (fun _ => et_or (by walk_at "et") (fun _ => et_or (et_not (et_test (ev_isaL (EvD.h (ev_ixT (ev_var rfl) ev_int at0)) rfl))) (fun _ => et_not (et_test (ev_isaL (EvD.h (ev_ixT (ev_var rfl) ev_int at1)) rfl)))))) (fun hb W1 l1 => st_never (by cases hb)) (fun _ W1 l1 => ?_))
  refine st_seq (st_asgT (ev_var rfl) tg_pair (fun W2 l2 => ?_))
  have hz : fm.rooms.length ≤ cap := by
    show _ ≤ 100000
    omega
  have hzg : fm.gates.length ≤ cap := by
    show _ ≤ 100000
    omega
  refine st_seq (st_when (et_or (et_not (et_test (ev_chain ev_int (by walk_at "ev") (fun _ => ev_int)))) (fun _ => et_not (et_test (ev_allA fm.rooms .int (fun q => decide (1 ≤ q) && decide (q ≤ 9)) (it_list (by walk_at "ev")) hz (fun q _ => ⟨_, _, fun _ h => h, tg_name, fun W3 l3 => ev_call (by walk_at "ea") ⟨.int q, _, _, rfl, rfl, rfl⟩⟩))))) (fun hb W1 l1 => st_never ?_) (fun _ W1 l1 => ?_))
  · simp only [List.length_map, Bool.or_eq_true, Bool.not_eq_true', Bool.and_eq_false_imp, decide_eq_true_eq, decide_eq_false_iff_not, List.all_eq_false] at hb
    rcases hb with hb | ⟨q, hq, hb⟩
    · omega
    · have := h9 q hq
      simp at hb
      omega
  refine st_seq (st_when (et_not (et_test (ev_allA fm.gates dPr (fun g => decide (0 ≤ g.1 ∧ g.1 < (fm.rooms.length : Int) ∧ 0 ≤ g.2 ∧ g.2 < fm.rooms.length) && decide (g.1 < g.2)) (it_list (by walk_at "ev")) hzg (fun q _ => ⟨_, _, fun _ h => h, tg_name, fun W3 l3 => ev_call (by walk_at "ea") ⟨q, _, rfl, rfl⟩⟩)))) (fun hb W1 l1 => st_never ?_) (fun _ W1 l1 => ?_))
  · simp only [Bool.not_eq_true', List.all_eq_false] at hb
    obtain ⟨g, hg, hb⟩ := hb
    have := hgt g hg
    simp at hb
    omega
  refine st_when (et_not (et_test (ev_allA (List.range (fm.gates.length - 1)) (fun i => .int (1 + (i : Int))) (fun i => ltP (fm.gates.getD i (0, 0)) (fm.gates.getD (i + 1) (0, 0))) (ItD.to (it_rng2 (ea_cons ev_int (ea_cons (by walk_at "ev") ea_nil)) ?_) ?_) ?_ (fun q hq => ⟨_, _, fun _ h => h, tg_name, fun W3 l3 => ev_ltT (ns := [_, _]) (ms := [_, _]) (ev_ixL (ev_var rfl) (ev_sub (ev_var rfl) ev_int) ?_) (ev_ixL (ev_var rfl) (ev_var rfl) ?_)⟩)))) (fun hb W1 l1 => st_never ?_) (fun _ W1 l1 => ?_)
  · omega
  · congr 2
    omega
  · rw [List.length_range]
    show _ ≤ 100000
    omega
  · have hq2 := List.mem_range.mp hq
    have e1 : fm.gates[q]? = some (fm.gates.getD q (0, 0)) := by rw [List.getD_eq_getElem?_getD, List.getElem?_eq_getElem (by omega)]; rfl
    exact at_map dPr (atI_of (by omega) (by rw [show ((1 : Int) + (q : Int) - 1).toNat = q by omega]; exact e1))
  · have hq2 := List.mem_range.mp hq
    have e1 : fm.gates[q + 1]? = some (fm.gates.getD (q + 1) (0, 0)) := by rw [List.getD_eq_getElem?_getD, List.getElem?_eq_getElem (by omega)]; rfl
    exact at_map dPr (atI_of (by omega) (by rw [show ((1 : Int) + (q : Int)).toNat = q + 1 by omega]; exact e1))
  · simp only [Bool.not_eq_true', List.all_eq_false] at hb
    obtain ⟨i, hi, hb⟩ := hb
    exact hb (hrs i (by have := List.mem_range.mp hi; omega))
  · trivial
def gAskedFlocks : List D → D → Prop := fun ds r => ∃ fl : List Int, ds = [dIs fl] ∧ Lok fl ∧ r = .non
theorem ok_asked_flocks {f : Addr} {fd : FuncData} (F : Fun K "asked_flocks" "asked_flocks" s_asked_flocks f fd) (T : Tp mg) (D_is_between : Df P w K mg base 1 "is_between" ["thing", "least", "most"] (Pure gBetween)) : FnOk P w K mg base CX0 2 f fd ["flocks"] (Pure gAskedFlocks) := by
  refine fn_pure F sc_asked_flocks (fun ds r h => by obtain ⟨_, rfl, _⟩ := h; rfl) (fun cdv A outer s H E hr ds r hg => ?_)
  obtain ⟨fl, rfl, ⟨⟨h1, h4⟩, h9⟩, rfl⟩ := hg
  obtain ⟨_, gv_MOST_FLOCKS⟩ := T.g_MOST_FLOCKS
  obtain ⟨_, gv_MOST_ROOM⟩ := T.g_MOST_ROOM
  refine ⟨_, (pss_cons (ps_if (PW.pt (pw_or (pt_not (pt_val (pe_callB (kx_call_isi K) (by rfl) T.n_isinstance b_isinstance (pa_cons (pv 0) (pa_cons (pe_bltn (v := .ty "list") (by rfl) T.n_list b_list rfl) pa_nil))))) (pw_or1 (pt_not (pt_chain op_le op_le pe_int (pe_callB (kx_c_len K) (by rfl) T.n_len b_len (pa_cons (pv 0) pa_nil)) (pe_glob (v := .int _) (by rfl) gv_MOST_FLOCKS ⟨_, rfl⟩)))))) (pss_one ps_never) pss_nil)
  (pss_one (ps_if (pt_not (pt_val (pe_callB (kx_cr_all K rfl) (by rfl) T.n_all b_all (pa_cons (pe_lc (own := [("one", 1)]) rfl sc_asked_flocks.nd (pi_list (pv 0)) (blkOk_by (own := [("one", 1)]) (N := ["flocks", "one"]) (sc := defScope s_asked_flocks) (by decide +kernel)) (fun _ _ _ _ _ => (pg_n 1 sc_asked_flocks.nd)) (fun _ _ _ _ _ => pts_nil) (fun _ _ _ _ _ => (pe_df D_is_between (hr.mono (by decide)) (by rfl) (pa_cons (pv 1) (pa_cons pe_int (pa_cons (pe_glob (v := .int _) (by rfl) gv_MOST_ROOM ⟨_, rfl⟩) pa_nil)))))) pa_nil)))) (pss_one ps_never) pss_nil))), fun W0 => ?_⟩
  have hz : fl.length ≤ cap := by
    show _ ≤ 100000
    omega
  refine st_seq (st_when (et_or (et_not (by walk_at "et")) (fun _ => et_not (et_test (ev_chain ev_int (by walk_at "ev") (fun _ => ev_int))))) (fun hb W1 l1 => st_never ?_) (fun _ W1 l1 => ?_))
  · simp [D.isaL] at hb
    omega
  refine st_when (et_not (et_test (ev_allA fl .int (fun q => decide (1 ≤ q) && decide (q ≤ 9)) (it_list (by walk_at "ev")) hz (fun q _ => ⟨_, _, fun _ h => h, tg_name, fun W3 l3 => ev_call (by walk_at "ea") ⟨.int q, _, _, rfl, rfl, rfl⟩⟩)))) (fun hb W1 l1 => st_never ?_) (fun _ W1 l1 => ?_)
  · simp only [Bool.not_eq_true', List.all_eq_false] at hb
    obtain ⟨q, hq, hb⟩ := hb
    have := h9 q hq
    simp at hb
    omega
  · trivial
theorem Std.is {fm : Farm} {fl t : List Int} (h : Std fm fl t) : isStand fm fl t = true := by
  unfold isStand
  rw [if_neg (by simpa using h.len), if_neg]
  · rw [List.all_eq_true]
    intro q hq
    exact decide_eq_true (h.rm q hq)
  · rw [dd_nodup h.nd]
    simp only [decide_true, Bool.not_true, Bool.or_false, Bool.not_eq_true, Bool.not_eq_false', List.all_eq_true, Bool.and_eq_true, decide_eq_true_eq]
    intro x hx
    have := h.rng x hx
    omega
def gAskedStand : List D → D → Prop := fun ds r => ∃ (fm : Farm) (fl t : List Int), ds = [dFm fm, dIs fl, dSt t] ∧ Fok fm ∧ Lok fl ∧ Std fm fl t ∧ r = .non
theorem ok_asked_stand {f : Addr} {fd : FuncData} (F : Fun K "asked_stand" "asked_stand" s_asked_stand f fd) (T : Tp mg) (D_asked_farm : Df P w K mg base 3 "asked_farm" ["farm"] (Pure gAskedFarm)) (D_asked_flocks : Df P w K mg base 2 "asked_flocks" ["flocks"] (Pure gAskedFlocks))
    (D_is_stand : Df P w K mg base 2 "is_stand" ["farm", "flocks", "thing"] (Pure gIsStand)) : FnOk P w K mg base CX0 4 f fd ["farm", "flocks", "stand"] (Pure gAskedStand) := by
  refine fn_pure F sc_asked_stand (fun ds r h => by obtain ⟨_, _, _, rfl, _⟩ := h; rfl) (fun cdv A outer s H E hr ds r hg => ?_)
  obtain ⟨fm, fl, t, rfl, h1, h2, h3, rfl⟩ := hg
  refine ⟨_, (pss_cons (ps_expr (pe_df D_asked_farm (hr.mono (by decide)) (by rfl) (pa_cons (pv 0) pa_nil)))
  (pss_cons (ps_expr (pe_df D_asked_flocks (hr.mono (by decide)) (by rfl) (pa_cons (pv 1) pa_nil)))
  (pss_one (ps_if (pt_not (pt_val (pe_df D_is_stand (hr.mono (by decide)) (by rfl) (pa_cons (pv 0) (pa_cons (pv 1) (pa_cons (pv 2) pa_nil)))))) (pss_one ps_never) pss_nil)))), fun W0 => ?_⟩
  have := h3.len
  have := h2.1.2
  refine st_seq (st_drop (ev_call (by walk_at "ea") ⟨fm, rfl, h1, rfl⟩) (fun W1 l1 => ?_))
  refine st_seq (st_drop (ev_call (by walk_at "ea") ⟨fl, rfl, h2, rfl⟩) (fun W1 l1 => ?_))
  refine st_when (et_not (et_test (ev_call (by walk_at "ea") ⟨fm, fl, t, rfl, by omega, rfl⟩))) (fun hb W1 l1 => st_never ?_) (fun _ W1 l1 => ?_)
  · rw [h3.is] at hb
    cases hb
  · trivial
def gAskedWish : List D → D → Prop := fun ds r => ∃ (fm : Farm) (fl : List Int) (wi : List (Option Int)), ds = [dFm fm, dIs fl, dWs wi] ∧ Fok fm ∧ Lok fl ∧ Wok fm fl wi ∧ r = .non
theorem ok_asked_wish {f : Addr} {fd : FuncData} (F : Fun K "asked_wish" "asked_wish" s_asked_wish f fd) (T : Tp mg) (D_is_between : Df P w K mg base 1 "is_between" ["thing", "least", "most"] (Pure gBetween)) : FnOk P w K mg base CX0 2 f fd ["farm", "flocks", "wish"] (Pure gAskedWish) := by
  refine fn_pure F sc_asked_wish (fun ds r h => by obtain ⟨_, _, _, rfl, _⟩ := h; rfl) (fun cdv A outer s H E hr ds r hg => ?_)
  obtain ⟨fm, fl, wi, rfl, h1, h2, h3, rfl⟩ := hg
  refine ⟨_, (pss_cons (ps_if (PW.pt (pw_or (pt_not (pt_val (pe_callB (kx_call_isi K) (by rfl) T.n_isinstance b_isinstance (pa_cons (pv 2) (pa_cons (pe_bltn (v := .ty "tuple") (by rfl) T.n_tuple b_tuple rfl) pa_nil))))) (pw_or1 (pt_cmpR op_ne (pe_callB (kx_c_len K) (by rfl) T.n_len b_len (pa_cons (pv 2) pa_nil)) (pe_callB (kx_c_len K) (by rfl) T.n_len b_len (pa_cons (pv 1) pa_nil)) (nomark _))))) (pss_one ps_never) pss_nil)
  (pss_one (ps_if (pt_not (pt_val (pe_callB (kx_cr_all K rfl) (by rfl) T.n_all b_all (pa_cons (pe_lc (own := [("one", 3)]) rfl sc_asked_wish.nd (pi_tup (pv 2)) (blkOk_by (own := [("one", 3)]) (N := ["farm", "flocks", "wish", "one"]) (sc := defScope s_asked_wish) (by decide +kernel)) (fun _ _ _ _ _ => (pg_n 3 sc_asked_wish.nd)) (fun _ _ _ _ _ => pts_nil) (fun _ _ _ _ _ => (pe_or (pe_cmpR o_isN (pv 3) pe_non (nomark _)) (pe_one (pe_df D_is_between (hr.mono (by decide)) (by rfl) (pa_cons (pv 3) (pa_cons pe_int (pa_cons (pe_op op_sub (pe_callB (kx_c_len K) (by rfl) T.n_len b_len (pa_cons (pe_ix (kx_ix_tup K) (pv 0) pe_int (fun _ _ => rfl)) pa_nil)) pe_int) pa_nil)))))))) pa_nil)))) (pss_one ps_never) pss_nil))), fun W0 => ?_⟩
  have hl := h3.1
  have := h2.1.2
  have hz : wi.length ≤ cap := by
    show _ ≤ 100000
    omega
  refine st_seq (st_when (et_or (et_not (by walk_at "et")) (fun _ => by walk_at "et")) (fun hb W1 l1 => st_never ?_) (fun _ W1 l1 => ?_))
  · simp [D.isaT, Int.natCast_inj] at hb
    omega
  refine st_when (et_not (et_test (ev_allA wi dOi (fun o => (dOi o).isN || between (dOi o) 0 ((fm.rooms.length : Int) - 1)) (it_tup (by walk_at "ev")) hz (fun o _ => ⟨_, _, fun _ h => h, tg_name, fun W3 l3 => ev_or (ev_isN (EvD.h (ev_var rfl))) (fun _ => ev_call (by walk_at "ea") ⟨dOi o, _, _, rfl, by cases o <;> rfl, rfl⟩)⟩)))) (fun hb W1 l1 => st_never ?_) (fun _ W1 l1 => ?_)
  · simp only [Bool.not_eq_true', List.all_eq_false] at hb
    obtain ⟨o, ho, hb⟩ := hb
    cases o with
    | none => exact hb rfl
    | some i =>
      have := h3.2 _ ho i rfl
      simp [D.isN, between] at hb
      omega
  · trivial
def gComeTo : List D → D → Prop := fun ds r => ∃ (fm : Farm) (fl t : List Int), ds = [dFm fm, dIs fl, dSt t] ∧ Fok fm ∧ Lok fl ∧ Std fm fl t ∧ r = .int ((ringsOf fm fl t).2.length : Nat)
theorem ok_come_to {f : Addr} {fd : FuncData} (F : Fun K "come_to" "come_to" s_come_to f fd) (T : Tp mg) (D_asked_stand : Df P w K mg base 4 "asked_stand" ["farm", "flocks", "stand"] (Pure gAskedStand)) (D_rings_of : Df P w K mg base 3 "rings_of" ["farm", "flocks", "stand"] (Pure gRingsOf)) :
    FnOk P w K mg base CX0 5 f fd ["farm", "flocks", "stand"] (Pure gComeTo) := by
  refine fn_pure F sc_come_to (fun ds r h => by obtain ⟨_, _, _, rfl, _⟩ := h; rfl) (fun cdv A outer s H E hr ds r hg => ?_)
  obtain ⟨fm, fl, t, rfl, h1, h2, h3, rfl⟩ := hg
  refine ⟨_, (pss_cons (ps_expr (pe_df D_asked_stand (hr.mono (by decide)) (by rfl) (pa_cons (pv 0) (pa_cons (pv 1) (pa_cons (pv 2) pa_nil)))))
  (pss_one (ps_ret (pe_callB call_len_dT (by rfl) T.n_len b_len (pa_cons (pe_ix (kx_ix_tup K) (pe_df D_rings_of (hr.mono (by decide)) (by rfl) (pa_cons (pv 0) (pa_cons (pv 1) (pa_cons (pv 2) pa_nil)))) pe_int (fun _ _ => rfl)) pa_nil))))), fun W0 => ?_⟩
  refine st_seq (st_drop (ev_call (by walk_at "ea") ⟨fm, fl, t, rfl, h1, h2, h3, rfl⟩) (fun W1 l1 => ?_))
  refine st_ret (EvD.to (ev_lenK (EvD.h (ev_ixT (ev_call (by walk_at "ea") ⟨fm, fl, t, rfl, ⟨h1.1.2, h2.1.2, h3.len⟩, h3, rfl⟩) ev_int at1))) ?_) rfl
  unfold dCame
  rw [List.length_map]
end
end Fg

set_option Elab.async false
set_option linter.all false
set_option maxRecDepth 100000
set_option maxHeartbeats 4000000
/-! Things of one's own: objects, calls with what is still to be changed. -/
namespace Fg
open PySem L2 RZ

/-! ### for a while all is taken as frozen -/
def Wd.all (W : Wd) : Wd := ⟨W.h, W.h, fun _ _ e => e, fun _ _ e => e⟩
open Classical in
/-- behind a call that changed nothing: what stood is frozen as it was before -/
noncomputable def Wd.cut (W W' : Wd) (l : W.all ≤ W') : Wd where
  f a := if W.h a = none then W'.f a else W.f a
  h := W'.h
  ex a u e := by
    replace e : (if W.h a = none then W'.f a else W.f a) = some u := e
    split at e
    · exact W'.ex a u e
    · exact l.hh a u (W.ex a u e)
  tp a xs e := by
    have h1 := W'.tp a xs e
    show (if W.h a = none then W'.f a else W.f a) = some (.tup xs)
    split
    · exact h1
    · rename_i q
      obtain ⟨u, hu⟩ := Option.ne_none_iff_exists'.mp q
      have h2 := l.hh a u hu
      rw [e] at h2
      cases h2
      exact W.tp a xs hu
theorem Wd.le_cut {W W' : Wd} (l : W.all ≤ W') : W ≤ W.cut W' l :=
  ⟨fun a u e => by
    show (if W.h a = none then W'.f a else W.f a) = some u
    rw [if_neg (by rw [W.ex a u e]; exact fun z => by cases z)]
    exact e, fun a u e n => by
    refine ⟨?_, l.hh a u e⟩
    show (if W.h a = none then W'.f a else W.f a) = none
    rw [if_neg (by rw [e]; exact fun z => by cases z)]
    exact n⟩
def D.sc : D → Bool
  | .non | .bl _ | .int _ | .str _ => true
  | _ => false
theorem Rp.sc {f g : Hp} {v : V} {d : D} (h : d.sc = true) (r : Rp f v d) : Rp g v d := by
  cases r with
  | non => exact .non
  | bl b => exact .bl b
  | int i => exact .int i
  | str s => exact .str s
  | _ => cases h
section
variable {K : PySem.W.Frag} {W0 W W' : Wd} {Γ Γ' : List Sl} {te ta tb t1 t2 : TE} {tt : TT} {tr : TA} {d e : D} {ds es : List D} {fs : List (Str × D)} {C : Addr}
def EvAH (W0 : Wd) (ta : TA) (Γ : List Sl) (W : Wd) (ds : List D) : Prop := ∀ W1, W ≤ W1 → ∀ σ, En W0 W1 σ Γ → ∀ Q : List V → Hp → Prop, (∀ vs W2, W1 ≤ W2 → RpL W2.h vs ds → Q vs W2.h) → ta σ W1.h Q
theorem eah_nil : EvAH W0 tNil Γ W [] := fun W1 _ _ _ _ q => q [] W1 Wd.rfl .nil
theorem eah_cons (h : EvH W0 ta Γ W d) (hr : EvAH W0 tr Γ W ds) : EvAH W0 (tCons ta tr) Γ W (d :: ds) := fun W1 l1 σ E Q q =>
  h W1 l1 σ E _ fun v W2 l2 r => hr W2 (l1.tr l2) σ (E.mono l2) _ fun vs W3 l3 rs => q (v :: vs) W3 (l2.tr l3) (.cons (r.mono l3.hh) rs)
theorem EvA.h {ta : TA} (h : EvA W0 ta Γ W ds) : EvAH W0 ta Γ W ds := fun W1 l1 σ E Q q => h W1 l1 σ E Q fun vs W2 l2 r => q vs W2 l2 (r.mono W2.ex)
theorem eh_val {i : Nat} {v : V} (h : Γ[i]? = some (.val v)) (hr : ∀ W1, W ≤ W1 → Rp W1.h v d) : EvH W0 (tVar i) Γ W d := fun W1 l1 σ E Q q => by
  obtain ⟨o, h1, rfl⟩ := E.ok i _ h
  exact ⟨v, h1, q v W1 Wd.rfl (hr W1 l1)⟩
theorem eh_fld {f : Str} (ha : EvH W0 ta Γ W (.obj C fs)) (hl : fs.lookup f = some d) (hc : Cls K C) (hn : NoAttr K C f) : EvH W0 (tFld K ta f) Γ W d := fun W1 l1 σ E Q q => ha W1 l1 σ E _ fun x W2 l2 r => by
  cases r with
  | obj e r =>
    obtain ⟨v, h1, h2⟩ := r.lookup hl
    exact ⟨_, C, _, _, v, rfl, e, hc, hn, h1, q v W2 l2 h2⟩
theorem EvH.to (h : EvH W0 te Γ W d) (q : d = e) : EvH W0 te Γ W e := q ▸ h
theorem ev_callH {g : List D → D → Prop} {E : XK} {ta : TA} (h : EvAH W0 ta Γ W ds) (hg : g ds d) (hd : d.sc = true) : EvD W0 (tCall (Pure g) [] E ta) Γ W d := fun W1 l1 σ En Q q => h W1 l1 σ En _ fun vs W2 l2 r => by
  refine ⟨W2.all, ds, d, rfl, ?_, hg, fun v W' l' r' => q v (W2.cut W' l') (l2.tr (Wd.le_cut l')) (r'.sc hd)⟩
  rw [List.append_nil]
  exact r
theorem eh_callH {g : List D → D → Prop} {E : XK} {ta : TA} (h : EvAH W0 ta Γ W ds) (hg : g ds d) : EvH W0 (tCall (Pure g) [] E ta) Γ W d := fun W1 l1 σ En Q q => h W1 l1 σ En _ fun vs W2 l2 r => by
  refine ⟨W2.all, ds, d, rfl, ?_, hg, fun v W' l' r' => q v (W2.cut W' l') (l2.tr (Wd.le_cut l')) (r'.mono W'.ex)⟩
  rw [List.append_nil]
  exact r
theorem ev_methH {g : List D → D → Prop} {E : XK} {ta : TA} {m : Str} (ho : EvH W0 te Γ W (.obj C fs)) (hm : fs.lookup m = none) (h : EvAH W0 ta Γ W ds) (hg : g (.obj C fs :: ds) d) (hd : d.sc = true) :
    EvD W0 (tMeth C m (Pure g) [] E te ta) Γ W d := fun W1 l1 σ En Q q => ho W1 l1 σ En _ fun x W2 l2 r => by
  cases r with
  | obj e r =>
    refine ⟨_, _, _, rfl, e, r.lookup_none hm, ?_⟩
    refine h W2 (l1.tr l2) σ (En.mono l2) _ fun vs W3 l3 rs => ?_
    refine ⟨W3.all, _, d, rfl, .cons (.obj (l3.hh _ _ e) (r.mono l3.hh)) ?_, hg, fun v W' l' r' => q v (W3.cut W' l') ((l2.tr l3).tr (Wd.le_cut l')) (r'.sc hd)⟩
    rw [List.append_nil]
    exact rs
/-- one of two -/
def tEi (t1 t2 : TE) : TE := fun σ H Q => t1 σ H Q ∨ t2 σ H Q
theorem pe_ei {X : Cx} {x : Expr} (h1 : PE X x t1) (h2 : PE X x t2) : PE X x (tEi t1 t2) := ⟨fun pins s σ H Q I h => h.elim (h1.run pins s σ H Q I) (h2.run pins s σ H Q I)⟩
theorem ev_eiL (h : EvD W0 t1 Γ W d) : EvD W0 (tEi t1 t2) Γ W d := fun W1 l1 σ E Q q => .inl (h W1 l1 σ E Q q)
theorem ev_eiR (h : EvD W0 t2 Γ W d) : EvD W0 (tEi t1 t2) Γ W d := fun W1 l1 σ E Q q => .inr (h W1 l1 σ E Q q)

/-! ### what a promise tells of what is handed back -/
def EvP (W0 : Wd) (te : TE) (Γ : List Sl) (W : Wd) (po : Wd → Wd → V → Prop) : Prop := ∀ W1, W ≤ W1 → ∀ σ, En W0 W1 σ Γ → ∀ Q : VK, (∀ v W1' W2, W1 ≤ W1' → W1' ≤ W2 → po W1' W2 v → Q v W2.h) → te σ W1.h Q
theorem ep_call {g : List D → (Wd → Wd → V → Prop) → Prop} {E : XK} {ta : TA} {po : Wd → Wd → V → Prop} (h : EvA W0 ta Γ W ds) (hg : g ds po) : EvP W0 (tCall (Prm g) [] E ta) Γ W po := fun W1 l1 σ En Q q => h W1 l1 σ En _ fun vs W2 l2 r => by
  refine ⟨W2, ds, po, rfl, ?_, hg, fun v W' l' r' => q v W2 W' l2 l' r'⟩
  rw [List.append_nil]
  exact r
/-- a promise of __init__ -/
def Ini (C : Addr) (g : List D → (Wd → Wd → Addr → Prop) → Prop) : Sp := fun vs H Q _ => ∃ (W1 W2 : Wd) (x dx : Addr) (vs' : List V) (ds : List D) (po : Wd → Wd → Addr → Prop), W2.h = H ∧ W1 ≤ W2 ∧ W1.h x = none ∧ W2.f x = none ∧ W2.h x = some (.ins C dx []) ∧ vs = .ref x :: vs' ∧ RpL W2.f vs' ds ∧ g ds po ∧
  ∀ W', W1 ≤ W' → po W1 W' x → Q .non W'.h
theorem ep_make {g : List D → (Wd → Wd → Addr → Prop) → Prop} {E : XK} {ta : TA} {po : Wd → Wd → Addr → Prop} (h : EvA W0 ta Γ W ds) (hg : g ds po) : EvP W0 (tMake C (Ini C g) [] E ta) Γ W (fun W1 W2 v => ∃ x, v = .ref x ∧ po W1 W2 x) := fun W1 l1 σ En Q q => h W1 l1 σ En _ fun vs W2 l2 r => by
  intro x dx hx hdx hne
  have n1 : W2.f dx = none := none_of W2.ex hdx
  have n2 : W2.f x = none := none_of W2.ex hx
  have hx2 : (W2.up dx (.own x) n1).h x = none := by
    show upd W2.h dx _ x = none
    rw [upd_ne (fun z => hne z.symm)]
    exact hx
  refine ⟨W2, (W2.up dx (.own x) n1).up x (.ins C dx []) n2, x, dx, vs, ds, po, rfl, (Wd.le_up hdx).tr (Wd.le_up hx2), hx, n2, upd_same, ?_, r, hg, fun W' l' p => ⟨rfl, q _ W2 W' l2 l' ⟨x, rfl, p⟩⟩⟩
  rw [List.append_nil]
end
section
variable {K : PySem.W.Frag} {W0 W W' : Wd} {Γ Γ' : List Sl} {te : TE} {ts : TS} {d : D} {ds : List D} {N : List Sl → Wd → Prop} {R : Wd → V → Prop} {i : Nat} {po : Wd → Wd → V → Prop}
theorem st_retP (h : EvP W0 te Γ W po) (hR : ∀ v W1 W2, W0 ≤ W1 → W1 ≤ W2 → po W1 W2 v → R W2 v) : ST W0 (tRet te) Γ W N R := fun σ E D hn hr => h W Wd.rfl σ E _ fun v W1 W2 l1 l2 p => hr v W2 (E.le.tr (l1.tr l2)) (hR v W1 W2 (E.le.tr l1) l2 p)
theorem st_asgP (h : EvP W0 te Γ W po) (q : ∀ v W1 W2, W ≤ W1 → W1 ≤ W2 → po W1 W2 v → N (Γ.set i (.val v)) W2) : ST W0 (tAsg te (gName i)) Γ W N R := fun σ E D hn hr => h W Wd.rfl σ E _ fun v W1 W2 l1 l2 p =>
  hn _ W2 _ (l1.tr l2).fr (q v W1 W2 l1 l2 p) ((E.mono (l1.tr l2)).put (s := .val v) rfl (fun l e => by cases e))
/-- a test that comes out False, and what it would do never is -/
theorem st_pass {tt : TT} {tu : TS} (h : EvT W0 tt Γ W false) (q : ∀ W1, W ≤ W1 → N Γ W1) : ST W0 (tIfS tt tu tNext) Γ W N R := st_when h (fun z => by cases z) fun _ => q
/-- self.f = e, self one's own -/
theorem st_fld {k : Kd} {a C dx : Addr} {f : Str} {gs : List (Str × V)} (hi : Γ[i]? = some (.val (.ref a))) (ha : W.h a = some (.ins C dx gs)) (hf : W.f a = none) (h0 : W0.h a = none) (hc : Cls K C) (hn : NoAttr K C f) (hl : gs.length < 1000)
    (h : EvG W0 te Γ W k) (q : ∀ v p W1 (n : W1.f a = none), W ≤ W1 → KdOk W W1 v p k → N Γ (W1.up a (.ins C dx (putF f v gs)) n)) : ST W0 (sFld K (tVar i) te f) Γ W N R := fun σ E D hn' hr => h W Wd.rfl σ E _ fun v p W1 l1 r => by
  obtain ⟨n1, h1⟩ := l1.ow _ _ ha hf
  obtain ⟨o, e1, e2⟩ := E.ok i _ hi
  cases e2
  refine ⟨_, e1, a, C, dx, gs, rfl, h1, hc, hn, hl, ?_⟩
  have E1 := E.mono l1
  refine hn' σ (W1.up a (.ins C dx (putF f v gs)) n1) Γ l1.fr (q v p W1 n1 l1 r) ⟨Wd.le_up0 E1.le h0 n1, E1.len, fun j t ej => ?_, E1.ap⟩
  obtain ⟨o2, h3, h4⟩ := E1.ok j t ej
  refine ⟨o2, h3, ?_⟩
  cases t with
  | no => exact True.intro
  | val v => exact h4
  | dat d => exact h4
  | acc b es =>
    obtain ⟨e5, m0, m, ys, hy, r5⟩ := h4
    have ne : b ≠ a := fun z => by
      rw [z, h1] at hy
      cases hy
    refine ⟨e5, m0, m, ys, ?_, r5⟩
    show upd W1.h a _ b = some _
    rw [upd_ne ne]
    exact hy
  | dac b es =>
    obtain ⟨e5, m0, m, ys, hy, r5⟩ := h4
    have ne : b ≠ a := fun z => by
      rw [z, h1] at hy
      cases hy
    refine ⟨e5, m0, m, ys, ?_, r5⟩
    show upd W1.h a _ b = some _
    rw [upd_ne ne]
    exact hy
end
theorem en_self {W : Wd} {vs : List V} {ds : List D} (r : RpL W.f vs ds) (m : Nat) (v : V) : En W W (some v :: (vs.map some ++ List.replicate m none)) (.val v :: (ds.map .dat ++ List.replicate m .no)) := by
  have E := en_start r m
  refine ⟨Wd.rfl, by simp [E.len], fun i s e => ?_, fun i j s t l ei ej si tj => ?_⟩
  · cases i with
    | zero =>
      cases e
      exact ⟨_, rfl, rfl⟩
    | succ i => exact E.ok i s (by simpa using e)
  · cases i with
    | zero =>
      cases ei
      cases si
    | succ i =>
      cases j with
      | zero =>
        cases ej
        cases tj
      | succ j => exact congrArg _ (E.ap i j s t l (by simpa using ei) (by simpa using ej) si tj)
theorem fn_ini {P : Program} {w : World} {K : PySem.W.Frag} {mg : Str → Option Value} {base : Heap} {x qual : Str} {st : Stmt} {f C : Addr} {fd : FuncData} {Nm ps : List Str} {k : Nat} {g : List D → (Wd → Wd → Addr → Prop) → Prop} (F : Fun K x qual st f fd) (sc : FnScope Nm ps (defScope st))
    (hl : ∀ ds po, g ds po → ds.length + 1 = ps.length)
    (hb : ∀ (cdv : Value) (A : Around) (outer : List Env) (s : Shared) (H : Hp) (E : XK), Room k (A.deeper (PyProof.Rows.envOfC qual (defScope st) s.heap.objs.size f cdv)) → ∀ ds po, g ds po →
      ∃ t, PSs (cxOf CX0 P w K mg base Nm qual (defScope st) f cdv A outer s H E).nox (defBody st) t ∧ ∀ W1 W2 a dx, W1 ≤ W2 → W1.h a = none → W2.f a = none → W2.h a = some (.ins C dx []) → ST W1 t (.val (.ref a) :: (ds.map .dat ++ List.replicate (Nm.length - ps.length) .no)) W2 (fun _ W' => po W1 W' a) (fun _ _ => False)) :
    FnOk P w K mg base CX0 (k + 1) f fd ps (Ini C g) := by
  refine F.ok sc (fun vs H Q E h => ?_) (fun cdv A outer s H vs Q E hr h => ?_)
  · obtain ⟨W1, W2, x, dx, vs', ds, po, rfl, _, _, _, _, rfl, rl, hg, _⟩ := h
    rw [List.length_cons, rl.length]
    exact hl ds po hg
  · obtain ⟨W1, W2, x, dx, vs', ds, po, rfl, l12, h1, h2, h3, rfl, rl, hg, q⟩ := h
    obtain ⟨t, ht, hs⟩ := hb cdv A outer s W2.h E hr ds po hg
    refine ⟨t, ht, ?_⟩
    have e : L2.start Nm (.ref x :: vs') = some (.ref x) :: (vs'.map some ++ List.replicate (Nm.length - ps.length) none) := by
      unfold L2.start
      rw [List.length_cons, rl.length, hl ds po hg]
      rfl
    rw [e]
    exact hs W1 W2 x dx l12 h1 h2 h3 _ ((en_self rl _ _).unbase l12) _ (fun σ' W' Γ' l n E' => q W' E'.le n) (fun v W' l hr' => hr'.elim)

/-! ### an object with lists of its own -/
abbrev OF := List (Str × Addr × List D)
structure OwO (W0 W : Wd) (a C : Addr) (fs : OF) : Prop where
  ob : ∃ dx, W.h a = some (.ins C dx (fs.map fun q => (q.1, .ref q.2.1)))
  fa : W.f a = none
  na : W0.h a = none
  ls : ∀ q ∈ fs, W.f q.2.1 = none ∧ W0.h q.2.1 = none ∧ (∃ xs, W.h q.2.1 = some (.lst xs) ∧ RpL W.f xs q.2.2) ∧ q.2.2.length ≤ cap
  nd : (fs.map (·.2.1)).Nodup
def OF.d (fs : OF) : List (Str × D) := fs.map fun q => (q.1, .lst q.2.2)
theorem OwO.mono {W0 W W' : Wd} {a C : Addr} {fs : OF} (h : OwO W0 W a C fs) (l : W ≤ W') : OwO W0 W' a C fs := by
  obtain ⟨dx, e⟩ := h.ob
  obtain ⟨n, e2⟩ := l.ow _ _ e h.fa
  refine ⟨⟨dx, e2⟩, n, h.na, fun q hq => ?_, h.nd⟩
  obtain ⟨n1, n0, ⟨xs, hx, r⟩, hc⟩ := h.ls q hq
  obtain ⟨n2, hx2⟩ := l.ow _ _ hx n1
  exact ⟨n2, n0, ⟨xs, hx2, r.mono l.fr⟩, hc⟩
theorem OwO.rp {W0 W : Wd} {a C : Addr} {fs : OF} (h : OwO W0 W a C fs) : Rp W.h (.ref a) (.obj C fs.d) := by
  obtain ⟨dx, e⟩ := h.ob
  refine .obj e ?_
  have key : ∀ gs : OF, (∀ q ∈ gs, q ∈ fs) → RpF W.h (gs.map fun q => (q.1, .ref q.2.1)) (gs.map fun q => (q.1, .lst q.2.2)) := by
    intro gs
    induction gs with
    | nil => exact fun _ => .nil
    | cons q gs ih =>
      intro hq
      obtain ⟨_, _, ⟨xs, hx, r⟩, hc⟩ := h.ls q (hq q (List.mem_cons_self ..))
      exact .cons (.lst hx hc (r.mono W.ex)) (ih fun z hz => hq z (List.mem_cons_of_mem _ hz))
  exact key fs fun _ h => h
theorem OwO.base {W0 W1 W : Wd} {a C : Addr} {fs : OF} (h : OwO W1 W a C fs) (l : W0 ≤ W1) : OwO W0 W a C fs :=
  ⟨h.ob, h.fa, l.hh.free h.na, fun q hq => ⟨(h.ls q hq).1, l.hh.free (h.ls q hq).2.1, (h.ls q hq).2.2⟩, h.nd⟩
/-- a class by its __init__'s promise; a method by its promise -/
structure Dm (P : Program) (w : World) (K : PySem.W.Frag) (mg : Str → Option Value) (base : Heap) (k : Nat) (x : Str) (C : Addr) (ps : List Str) (sp : Sp) : Prop where
  ex : mg x = some (.ref C) ∧ ∃ f fd, Mk K C f ∧ Binds K fd ps [] ∧ FnOk P w K mg base CX0 k f fd ps sp
theorem pe_mk {X : Cx} {k : Nat} {x : Str} {C : Addr} {ps : List Str} {sp : Sp} {e : Expr} {es : List Expr} {t : TA} {p pos : Pos} (G : Dm X.prog X.w X.K X.mg X.base k x C ps sp) (hr : Room (k + 1) X.A) (hg : Gl X x) (ha : PA X (e :: es) t)
    (hdb : (x == ("__debug__" : Str)) = false := by decide) (he : starEach (e :: es) X.env = (false, eval e X.env) :: starEach es X.env := by rfl) (hpl : (backTo pos (starEach es X.env)).any (·.1) = false := by rfl) :
    PE X (.Call (.Name x p) (e :: es) [] pos) (tMake C sp [] E0 t) := by
  obtain ⟨hm, f, fd, hk, hb, F⟩ := G.ex
  exact pe_make hk F hr hg hm hb .nil pass0 ha hdb he hpl
structure Dk (P : Program) (w : World) (K : PySem.W.Frag) (mg : Str → Option Value) (base : Heap) (k : Nat) (C : Addr) (m : Str) (ps : List Str) (sp : Sp) : Prop where
  cl : Cls K C
  ex : ∃ f fd, Meth K C m f ∧ Binds K fd ps [] ∧ FnOk P w K mg base CX0 k f fd ps sp
theorem pe_mt {X : Cx} {k : Nat} {C : Addr} {m : Str} {ps : List Str} {sp : Sp} {o e : Expr} {es : List Expr} {ta : TE} {t : TA} {apos pos : Pos} {pl : Sem Bool} (G : Dk X.prog X.w X.K X.mg X.base k C m ps sp) (hr : Room k X.A) (ho : PE X o ta) (ha : PA X (e :: es) t)
    (hst : starEach (e :: es) X.env = (false, eval e X.env) :: starEach es X.env := by rfl) (hpl : (backTo pos (starEach es X.env)).any (·.1) = false := by rfl)
    (ht : eval (.Call (.Attribute o m apos) (e :: es) [] pos) X.env = (do
      let ov ← eval o X.env
      standAt apos.atName
      let (f, first) ← holding [ov] (getMethod ov m pl)
      callWith pos f first (backTo pos (starEach (e :: es) X.env)) (backToKw pos (keywordEach [] X.env))) := by rfl) :
    PE X (.Call (.Attribute o m apos) (e :: es) [] pos) (tMeth C m sp [] E0 ta t) := by
  obtain ⟨f, fd, hk, hb, F⟩ := G.ex
  exact pe_meth ho G.cl hk F hr hb .nil pass0 ha hst hpl ht
end Fg

set_option Elab.async false
set_option linter.all false
set_option maxRecDepth 100000
set_option maxHeartbeats 4000000
/-! The answers' own words, as plain functions. -/
namespace Fg
open PySem L2

theorem ek_new {W0 W : Wd} {Γ : List Sl} : EvK W0 tDNewT Γ W [] := fun W1 l1 σ E Q q p hp =>
  q p [] (W1.up p (.dT []) (none_of W1.ex hp)) (Wd.le_up hp) hp (none_of W1.ex hp) upd_same .nil
theorem dd_len_nodup : ∀ {xs : List Int}, (dd xs).length = xs.length → xs.Nodup
  | [], _ => List.nodup_nil
  | x :: xs, h => by
    unfold dd at h
    by_cases q : x ∈ xs
    · rw [if_pos q, List.length_cons] at h
      have := dd_le xs
      omega
    · rw [if_neg q, List.length_cons, List.length_cons] at h
      exact List.nodup_cons.mpr ⟨q, dd_len_nodup (by omega)⟩
theorem is_std {fm : Farm} {fl t : List Int} (h : isStand fm fl t = true) : Std fm fl t := by
  unfold isStand at h
  split at h
  · cases h
  · split at h
    · cases h
    · rename_i h1 h2
      simp only [Bool.or_eq_true, Bool.not_eq_true', List.all_eq_false, decide_eq_false_iff_not, not_or, not_exists, Bool.and_eq_true, decide_eq_true_eq, not_and, Classical.not_not] at h1 h2
      refine ⟨by simpa using h1, fun x hx => ?_, dd_len_nodup h2.2, fun q hq => ?_⟩
      · have := h2.1 x
        have := List.all_eq_true.mp (by simpa using h2.1 : (t.all fun p => decide (0 ≤ p) && decide (p ≤ (fm.rooms.length : Int) - 1)) = true) x hx
        simp at this
        omega
      · exact of_decide_eq_true (List.all_eq_true.mp h q hq)
/-! ### runs -/
theorem runL_any {α S : Type} (p : α → Bool) (f : S → α → S) : ∀ (as : List α) (s : S), runL (ρ := Unit) (fun s a => if p a then .error () else .ok (f s a)) s as = if as.any p then .error () else .ok (as.foldl f s)
  | [], s => rfl
  | a :: as, s => by
    unfold runL
    rw [List.any_cons]
    by_cases h : p a = true
    · rw [if_pos h, h]
      rfl
    · rw [if_neg h, (by simpa using h : p a = false), Bool.false_or]
      exact runL_any p f as (f s a)
theorem runL_inv {α S ρ : Type} {step : S → α → Except ρ S} (P : S → Prop) : ∀ {as : List α} {s s' : S}, (∀ s a s', a ∈ as → P s → step s a = .ok s' → P s') → runL step s as = .ok s' → P s → P s'
  | [], s, s', _, h, p => by
    cases h
    exact p
  | a :: as, s, s', hs, h, p => by
    unfold runL at h
    cases e : step s a with
    | ok s2 =>
      rw [e] at h
      exact runL_inv P (fun s b s' hb => hs s b s' (List.mem_cons_of_mem _ hb)) h (hs s a s2 (List.mem_cons_self ..) p e)
    | error r =>
      rw [e] at h
      cases h
theorem keys_pt {β : Type} (k : List Int) (b : β) (c : List (List Int × β)) : (pt c k b).map (·.1) = if k ∈ c.map (·.1) then c.map (·.1) else c.map (·.1) ++ [k] := by
  unfold pt
  rw [lk_some]
  by_cases h : k ∈ c.map (·.1)
  · rw [if_pos (by simpa using h), if_pos h, List.map_map]
    apply List.map_congr_left
    intro q _
    show (if q.1 = k then _ else _ : _ × β).1 = _
    split <;> rfl
  · rw [if_neg (by simpa using h), if_neg h, List.map_append]
    rfl
/-! ### Led.shows -/
abbrev Met := List (List Int × Int)
def dMet (m : Met) : List (List Int × D) := m.map fun q => (q.1, .int q.2)
def minAt (i : Nat) (m : Met) (k : List Int) : Met := pt m k (min (i : Int) ((lk m k).getD (i : Int)))
def metRing (m : Met) (q : List (List Int) × Nat) : Met := q.1.foldl (minAt q.2) m
def metAll (rs : List (List (List Int))) : Met := (rs.zipIdx 0).foldl metRing []
def badOne (fm : Farm) (fl : List Int) (w : List (Option Int)) (t : List Int) : Bool := !isStand fm fl t || asWished t w
def ledOk (fm : Farm) (fl : List Int) (n : Nat) (m : Met) (i : Nat) (t : List Int) : Bool := (nextsOf fm fl t).all fun o => decide ((lk m o).getD (n : Int) ≤ (i : Int) + 1)
def ledShows (fm : Farm) (fl st : List Int) (w : List (Option Int)) (de : List (Int × Int)) (rs : List (List (List Int))) : Bool :=
  if (firstBad fm fl 0 st de).1.isSome || (!asWished (firstBad fm fl 0 st de).2 w || !decide (rs.length = de.length)) then false
  else if rs = [] then true
  else if rs.any (fun r => r.any (badOne fm fl w)) then false
  else if !decide (st ∈ rs.headD []) then false
  else (rs.dropLast.zipIdx 0).all fun q => q.1.all fun t => ledOk fm fl rs.length (metAll rs) q.2 t
structure MInv (fm : Farm) (fl : List Int) (m : Met) : Prop where
  nd : (m.map (·.1)).Nodup
  st : ∀ t ∈ m.map (·.1), Std fm fl t
theorem MInv.len {fm : Farm} {fl : List Int} {m : Met} (h : MInv fm fl m) (hr : fm.rooms.length ≤ 6) (hf : fl.length ≤ 4) : m.length ≤ 1296 := by
  have := std_card hr hf h.nd h.st
  rwa [List.length_map] at this
theorem MInv.put {fm : Farm} {fl : List Int} {m : Met} (h : MInv fm fl m) {t : List Int} (ht : Std fm fl t) (i : Int) : MInv fm fl (pt m t i) := by
  refine ⟨?_, fun u hu => ?_⟩
  · rw [keys_pt]
    split
    · exact h.nd
    · rename_i q
      exact List.nodup_append.mpr ⟨h.nd, by simp, fun a ha b hb => by
        rw [List.mem_singleton.mp hb]
        exact fun z => q (z ▸ ha)⟩
  · rw [keys_pt] at hu
    split at hu
    · exact h.st u hu
    · rcases List.mem_append.mp hu with hu | hu
      · exact h.st u hu
      · rw [List.mem_singleton.mp hu]
        exact ht
theorem MInv.ring {fm : Farm} {fl : List Int} (i : Nat) : ∀ {r : List (List Int)} {m : Met}, MInv fm fl m → (∀ t ∈ r, Std fm fl t) → MInv fm fl (r.foldl (minAt i) m)
  | [], _, h, _ => h
  | t :: r, m, h, ht => MInv.ring i (r := r) (h.put (ht t (List.mem_cons_self ..)) _) fun u hu => ht u (List.mem_cons_of_mem _ hu)
/-- the first loop's step, by the ring and by the one -/
def shStep (fm : Farm) (fl : List Int) (w : List (Option Int)) (m : Met) (q : List (List Int) × Nat) : Except Unit Met := if q.1.any (badOne fm fl w) then .error () else .ok (metRing m q)
def shOne (fm : Farm) (fl : List Int) (w : List (Option Int)) (i : Nat) (m : Met) (t : List Int) : Except Unit Met := if badOne fm fl w t then .error () else .ok (minAt i m t)
theorem shOne_run (fm : Farm) (fl : List Int) (w : List (Option Int)) (m : Met) (q : List (List Int) × Nat) : runL (shOne fm fl w q.2) m q.1 = shStep fm fl w m q := runL_any (badOne fm fl w) (minAt q.2) q.1 m
theorem shStep_run (fm : Farm) (fl : List Int) (w : List (Option Int)) (m : Met) (qs : List (List (List Int) × Nat)) : runL (shStep fm fl w) m qs = if qs.any (fun q => q.1.any (badOne fm fl w)) then .error () else .ok (qs.foldl metRing m) :=
  runL_any (fun q : List (List Int) × Nat => q.1.any (badOne fm fl w)) metRing qs m
theorem zipIdx_any {α : Type} (p : α → Bool) : ∀ (as : List α) (k : Nat), ((as.zipIdx k).any fun q => p q.1) = as.any p
  | [], _ => rfl
  | a :: as, k => by
    rw [List.zipIdx_cons, List.any_cons, List.any_cons, zipIdx_any p as]
theorem good_std {fm : Farm} {fl : List Int} {w : List (Option Int)} {t : List Int} (h : badOne fm fl w t = false) : Std fm fl t := by
  unfold badOne at h
  rw [Bool.or_eq_false_iff] at h
  exact is_std (by simpa using h.1)
theorem shOne_inv {fm : Farm} {fl : List Int} {w : List (Option Int)} {i : Nat} {m m' : Met} {r : List (List Int)} (h : runL (shOne fm fl w i) m r = .ok m') (p : MInv fm fl m) : MInv fm fl m' :=
  runL_inv (MInv fm fl) (fun s a s' _ ps e => by
    unfold shOne at e
    split at e
    · cases e
    · rename_i q
      cases e
      exact ps.put (good_std (by simpa using q)) _) h p
theorem shStep_inv {fm : Farm} {fl : List Int} {w : List (Option Int)} {m m' : Met} {qs : List (List (List Int) × Nat)} (h : runL (shStep fm fl w) m qs = .ok m') (p : MInv fm fl m) : MInv fm fl m' :=
  runL_inv (MInv fm fl) (fun s a s' _ ps e => by
    rw [← shOne_run] at e
    exact shOne_inv e ps) h p
def uStep {α : Type} (p : α → Bool) (_ : Unit) (a : α) : Except Unit Unit := if p a then .ok () else .error ()
theorem uStep_run {α : Type} (p : α → Bool) : ∀ (as : List α), runL (uStep p) () as = if as.all p then .ok () else .error ()
  | [] => rfl
  | a :: as => by
    unfold runL uStep
    rw [List.all_cons]
    by_cases h : p a = true
    · rw [if_pos h, h, Bool.true_and]
      exact uStep_run p as
    · rw [if_neg h, (by simpa using h : p a = false)]
      rfl
/-! ### Never.shows -/
def neverShows (fm : Farm) (fl st : List Int) (w : List (Option Int)) (ss : List (List Int)) : Bool :=
  if !decide (st ∈ ss) || !(ss.all (isStand fm fl)) then false
  else ss.all fun t => !(asWished t w || !((nextsOf fm fl t).all fun o => decide (o ∈ ss)))
theorem mem_dOf {β : Type} : ∀ (as : List (List Int × β)) (acc : List (List Int × β)) (k : List Int), k ∈ (as.foldl (fun acc a => pt acc a.1 a.2) acc).map (·.1) ↔ k ∈ acc.map (·.1) ∨ k ∈ as.map (·.1)
  | [], acc, k => by simp
  | a :: as, acc, k => by
    rw [List.foldl_cons, mem_dOf as, keys_pt, List.map_cons, List.mem_cons]
    split
    · rename_i q
      constructor
      · rintro (h | h)
        · exact .inl h
        · exact .inr (.inr h)
      · rintro (h | h | h)
        · exact .inl h
        · exact .inl (h ▸ q)
        · exact .inr h
    · rw [List.mem_append, List.mem_singleton]
      constructor
      · rintro ((h | h) | h)
        · exact .inl h
        · exact .inr (.inl h)
        · exact .inr (.inr h)
      · rintro (h | h | h)
        · exact .inl (.inl h)
        · exact .inl (.inr h)
        · exact .inr h
theorem lk_dOf {β : Type} (as : List (List Int × β)) (k : List Int) : (lk (dOf as) k).isSome = decide (k ∈ as.map (·.1)) := by
  rw [lk_some, decide_eq_decide]
  unfold dOf
  rw [mem_dOf]
  simp
theorem firstBad_len (fm : Farm) (fl : List Int) : ∀ (k : Nat) (st : List Int) (ds : List (Int × Int)), (firstBad fm fl k st ds).2.length = st.length
  | _, _, [] => rfl
  | k, st, d :: ds => by
    unfold firstBad
    split
    · rw [firstBad_len fm fl (k + 1) _ ds, bhd_len]
    · rfl
theorem dOn_isN (o : Option Nat) : (dOn o).isN = !o.isSome := by cases o <;> rfl
theorem lk_dMet (m : Met) (k : List Int) : lk (dMet m) k = (lk m k).map .int := lk_map D.int k m
theorem dMet_get (m : Met) (k : List Int) (i : Int) : (lk (dMet m) k).getD (.int i) = .int ((lk m k).getD i) := by
  rw [lk_dMet]
  cases lk m k <;> rfl
theorem dMet_put (m : Met) (k : List Int) (i : Int) : pt (dMet m) k (.int i) = dMet (pt m k i) := pt_map D.int k i m
theorem dMet_len (m : Met) : (dMet m).length = m.length := List.length_map ..
theorem cut_dropLast {α : Type} (xs : List α) (h : xs ≠ []) : cutL xs none (some (-1)) = xs.dropLast := by
  unfold cutL
  have hl := List.length_pos_iff.mpr h
  have e1 : HT.sIx xs.length 0 none = 0 := rfl
  have e2 : HT.sIx xs.length xs.length (some (-1)) = xs.length - 1 := by
    unfold HT.sIx
    show (if (-1 : Int) < 0 then ((-1 : Int) + xs.length).toNat else min (-1 : Int).toNat xs.length) = _
    rw [if_pos (by omega)]
    omega
  rw [e1, e2, List.drop_zero, Nat.sub_zero, List.dropLast_eq_take]
end Fg

set_option Elab.async false
set_option linter.all false
set_option maxRecDepth 100000
set_option maxHeartbeats 4000000
namespace Fg
open PySem L2 RZ
local macro_rules | `(tactic| walk_at "bo") => `(tactic| simp only [Bool.or_eq_false_iff, Bool.or_eq_true, Bool.and_eq_true, Bool.not_eq_true', Bool.not_eq_false', Bool.not_eq_true, Bool.not_eq_false, decide_eq_true_eq, decide_eq_false_iff_not, Bool.true_eq_false, Bool.false_eq_true, Bool.and_eq_false_imp] at *)
local macro_rules | `(tactic| walk_at "sd") => `(tactic| first
  | assumption
  | exact rfl
  | omega
  | (refine at_ints ?_; first | omega | (walk_at "bo"; omega) | skip)
  | exact Nat.le_of_ble_eq_true rfl
  | (show _ ≤ cap; first | decide | omega | (simp only [List.length_map, List.length_append]; omega))
  | (walk_at "bo"; omega)
  | skip)
local macro_rules | `(tactic| walk_at "ea") => `(tactic| first
  | exact ea_nil
  | (apply ea_cons; (focus walk_at "ev"); walk_at "ea"))
local macro_rules | `(tactic| walk_at "eh") => `(tactic| first
  | exact ev_varA rfl (by first | assumption | omega | decide)
  | exact ev_varK rfl (by first | assumption | omega | decide)
  | (apply EvD.h; walk_at "ev"))
local macro_rules | `(tactic| walk_at "el") => `(tactic| first
  | ((with_reducible apply el_lst); (focus walk_at "ea"); walk_at "sd")
  | ((with_reducible apply el_cat); (focus walk_at "ev"); (focus walk_at "ev"); walk_at "sd")
  | ((with_reducible apply el_sl); (focus walk_at "ev"); (focus walk_at "eo"); (focus walk_at "eo"))
  | ((with_reducible apply el_list); walk_at "ev")
  | ((with_reducible apply el_listT); walk_at "ev")
  | ((with_reducible apply el_rev); walk_at "ev"))
local macro_rules | `(tactic| walk_at "eo") => `(tactic| first
  | exact eo_none
  | (apply eo_some; walk_at "ev"))
local macro_rules | `(tactic| walk_at "ev") => `(tactic| first
  | exact ev_int | exact ev_bl | exact ev_non | exact ev_str
  | exact ev_var rfl
  | ((with_reducible apply ev_add); (focus walk_at "ev"); walk_at "ev")
  | ((with_reducible apply ev_sub); (focus walk_at "ev"); walk_at "ev")
  | ((with_reducible apply ev_lt); (focus walk_at "ev"); walk_at "ev")
  | ((with_reducible apply ev_le); (focus walk_at "ev"); walk_at "ev")
  | ((with_reducible apply ev_gt); (focus walk_at "ev"); walk_at "ev")
  | ((with_reducible apply ev_ge); (focus walk_at "ev"); walk_at "ev")
  | ((with_reducible apply ev_eqI); (focus walk_at "ev"); (focus walk_at "ev"); done)
  | ((with_reducible apply ev_neI); (focus walk_at "ev"); (focus walk_at "ev"); done)
  | ((with_reducible apply ev_mulW); (focus walk_at "ev"); (focus walk_at "ev"); walk_at "sd")
  | ((with_reducible apply ev_fdiv); (focus walk_at "ev"); (focus walk_at "ev"); walk_at "sd")
  | ((with_reducible apply ev_mod); (focus walk_at "ev"); (focus walk_at "ev"); walk_at "sd")
  | ((with_reducible apply ev_neg); walk_at "ev")
  | ((with_reducible apply ev_ixT); (focus walk_at "ev"); (focus walk_at "ev"); walk_at "sd")
  | (with_reducible apply ev_ixA rfl ?_ ?_; (focus walk_at "ev"); walk_at "sd")
  | ((with_reducible apply ev_ixL); (focus walk_at "ev"); (focus walk_at "ev"); walk_at "sd")
  | (with_reducible apply ev_lenA rfl)
  | ((with_reducible apply ev_lenLM); walk_at "eh"; done)
  | ((with_reducible apply ev_lenTM); walk_at "eh"; done)
  | ((with_reducible apply ev_lenL); walk_at "eh")
  | ((with_reducible apply ev_lenT); walk_at "eh")
  | ((with_reducible apply ev_lenK); walk_at "eh")
  | ((with_reducible apply ev_isN); walk_at "eh")
  | ((with_reducible apply ev_notN); walk_at "eh")
  | ((with_reducible apply ev_inT); (focus walk_at "ev"); walk_at "ev")
  | ((with_reducible apply ev_inD); (focus walk_at "eh"); (focus walk_at "eh"); all_goals walk_at "sh")
  | ((with_reducible apply ev_notInD); (focus walk_at "eh"); (focus walk_at "eh"); all_goals walk_at "sh")
  | ((with_reducible apply ev_eqD); (focus walk_at "eh"); (focus walk_at "eh"); all_goals walk_at "sh")
  | ((with_reducible apply ev_neD); (focus walk_at "eh"); (focus walk_at "eh"); all_goals walk_at "sh")
  | ((with_reducible apply ev_all); walk_at "eh")
  | ((with_reducible apply ev_any); walk_at "eh")
  | ((with_reducible apply ev_sum); walk_at "eh")
  | ((with_reducible apply ev_lenSet); (focus walk_at "ev"); walk_at "sd")
  | ((with_reducible apply ev_isaI); (focus walk_at "eh"); walk_at "sd")
  | ((with_reducible apply ev_isaB); (focus walk_at "eh"); walk_at "sd")
  | ((with_reducible apply ev_isaL); (focus walk_at "eh"); walk_at "sd")
  | ((with_reducible apply ev_isaT); (focus walk_at "eh"); walk_at "sd")
  | ((with_reducible apply ev_tup); (focus walk_at "ea"); walk_at "sd")
  | ((with_reducible apply ev_catT); (focus walk_at "ev"); (focus walk_at "ev"); walk_at "sd")
  | ((with_reducible apply ev_slT); (focus walk_at "ev"); (focus walk_at "eo"); (focus walk_at "eo"))
  | ((with_reducible apply ev_max2); (focus walk_at "ev"); walk_at "ev")
  | ((with_reducible apply ev_min2); (focus walk_at "ev"); walk_at "ev")
  | ((with_reducible apply ev_abs); walk_at "ev")
  | ((with_reducible apply ev_chain); (focus walk_at "ev"); (focus walk_at "ev"); intro _; walk_at "ev")
  | ((with_reducible apply ev_and); (focus walk_at "ev"); intro _; walk_at "ev")
  | ((with_reducible apply ev_or); (focus walk_at "ev"); intro _; walk_at "ev")
  | ((with_reducible apply ev_not); walk_at "ev")
  | (apply EvL.fz; (focus walk_at "el"); walk_at "sd"))
local macro_rules | `(tactic| walk_at "et") => `(tactic| first
  | ((with_reducible apply et_test); walk_at "ev")
  | ((with_reducible apply et_B); walk_at "ev")
  | ((with_reducible apply et_and); (focus walk_at "et"); intro _; walk_at "et")
  | ((with_reducible apply et_or); (focus walk_at "et"); intro _; walk_at "et")
  | ((with_reducible apply et_not); walk_at "et"))
local macro_rules | `(tactic| walk_at "sh") => `(tactic| first
  | exact (sh_tup2 (sh_int _) (sh_int _)).shp (by decide) | exact (sh_pr _).shp (by decide) | exact (sh_prs _).shp (by decide) | exact (sh_st _).shp (by decide) | exact (sh_is _).shp (by decide) | exact (sh_ws _).shp (by decide) | exact (sh_rg _).shp (by decide) | exact (sh_rgs _).shp (by decide) | exact (sh_fm _).shp (by decide)
  | exact sh_nil.shp (by decide) | exact (sh_bls _).shp (by decide) | decide +kernel | skip)

/-- the classes' places -/
structure Adr where
  c_Answer : Addr
  c_Led : Addr
  c_Never : Addr
  c_Fine : Addr
  c_Halt : Addr
  c_Off : Addr
structure Tk (K : PySem.W.Frag) (A : Adr) : Prop where
  lk : OkC K A.c_Led
  l1 : NoAttr K A.c_Led "deeds"
  l2 : NoAttr K A.c_Led "rings"
  nk : OkC K A.c_Never
  n1 : NoAttr K A.c_Never "stands"
section
variable {P : Program} {w : World} {K : PySem.W.Frag} {mg : Str → Option Value} {base : Heap} {A : Adr}
abbrev s_Led___init__ : Stmt := inClass (top 33) 0
theorem sc_Led___init__ : FnScope ["self", "deeds", "rings", "ring"] ["self", "deeds", "rings"] (defScope s_Led___init__) := ⟨rfl, rfl, rfl, by decide +kernel, rfl, by decide +kernel, by decide +kernel⟩
abbrev s_Led_shows : Stmt := inClass (top 33) 1
theorem sc_Led_shows : FnScope ["self", "farm", "flocks", "stand", "wish", "place", "last", "met", "at", "ring", "one", "other"] ["self", "farm", "flocks", "stand", "wish"] (defScope s_Led_shows) := ⟨rfl, rfl, rfl, by decide +kernel, rfl, by decide +kernel, by decide +kernel⟩
abbrev s_Never___init__ : Stmt := inClass (top 34) 0
theorem sc_Never___init__ : FnScope ["self", "stands"] ["self", "stands"] (defScope s_Never___init__) := ⟨rfl, rfl, rfl, by decide +kernel, rfl, by decide +kernel, by decide +kernel⟩
abbrev s_Never_shows : Stmt := inClass (top 34) 1
theorem sc_Never_shows : FnScope ["self", "farm", "flocks", "stand", "wish", "one", "known", "other"] ["self", "farm", "flocks", "stand", "wish"] (defScope s_Never_shows) := ⟨rfl, rfl, rfl, by decide +kernel, rfl, by decide +kernel, by decide +kernel⟩
def gLedIni (C : Addr) : List D → (Wd → Wd → Addr → Prop) → Prop := fun ds po => ∃ (de : List (Int × Int)) (rs : List (List (List Int))), ds = [dPrs de, dRgs rs] ∧ de.length ≤ cap ∧ rs.length ≤ cap ∧ (∀ r ∈ rs, r.length ≤ cap) ∧
  po = fun W1 W2 x => ∃ pd pr, OwO W1 W2 x C [("deeds", pd, de.map dPr), ("rings", pr, rs.map dRg)]
theorem ok_Led_init {f : Addr} {fd : FuncData} (F : Fun K "__init__" "Led.__init__" s_Led___init__ f fd) (T : Tp mg) (Q : Tk K A) : FnOk P w K mg base CX0 1 f fd ["self", "deeds", "rings"] (Ini A.c_Led (gLedIni A.c_Led)) := by
  refine fn_ini F sc_Led___init__ (fun ds r h => by obtain ⟨_, _, rfl, _⟩ := h; rfl) (fun cdv A2 outer s H E hr ds po hg => ?_)
  obtain ⟨de, rs, rfl, hd1, hd2, hd3, rfl⟩ := hg
  refine ⟨_, (pss_cons (ps_fld (pv 0) (pe_callTy (kx_c_list K) (by rfl) T.n_list b_list (pa_cons (pv 1) pa_nil)) rfl)
  (pss_one (ps_fld (pv 0) (pe_lc (own := [("ring", 3)]) rfl sc_Led___init__.nd (pi_list (pv 2)) (blkOk_by (own := [("ring", 3)]) (N := ["self", "deeds", "rings", "ring"]) (sc := defScope s_Led___init__) (by decide +kernel)) (fun _ _ _ _ _ => (pg_n 3 sc_Led___init__.nd)) (fun _ _ _ _ _ => pts_nil) (fun _ _ _ _ _ => (pe_callTy (kx_c_list K) (by rfl) T.n_list b_list (pa_cons (pv 3) pa_nil)))) rfl))), fun W1 W2 a dx l12 h1 h2 h3 => ?_⟩
  refine st_seq (st_fld (i := 0) rfl h3 h2 h1 Q.lk.cl Q.l1 (by decide) (el_list (ev_var rfl)).g (fun v p W3 n3 l3 r3 => ?_))
  obtain ⟨rfl, p1, p2, xs, p3, p4⟩ := r3
  have na : p ≠ a := fun z => by
    rw [z, h3] at p1
    cases p1
  refine st_fld (i := 0) (gs := [("deeds", .ref p)]) rfl upd_same n3 h1 Q.lk.cl Q.l2 (by show 1 < 1000; omega) (el_lcA rs dRg dRg (it_list (ev_var rfl)) hd2 (fun r hr => ⟨_, _, fun _ h => h, tg_name, fun W4 l4 => EvL.fz (el_list (ev_var rfl)) (by rw [List.length_map]; exact hd3 r hr)⟩)).g (fun v q W4 n4 l4 r4 => ?_)
  obtain ⟨rfl, q1, q2, ys, q3, q4⟩ := r4
  have q5 : upd W3.h a (HO.ins A.c_Led dx [("deeds", V.ref p)]) q = none := q1
  have nq : q ≠ a := fun z => by
    rw [z, upd_same] at q5
    cases q5
  rw [upd_ne nq] at q5
  have nqp : q ≠ p := fun z => by
    rw [z, p3] at q5
    cases q5
  have p5 : upd W3.h a (HO.ins A.c_Led dx [("deeds", V.ref p)]) p = some (.lst xs) := by rw [upd_ne na]; exact p3
  obtain ⟨p6, p7⟩ := l4.ow p (.lst xs) p5 p2
  refine ⟨p, q, ⟨dx, upd_same⟩, n4, h1, fun z hz => ?_, ?_⟩
  · rcases List.mem_cons.mp hz with rfl | hz
    · exact ⟨p6, l12.hh.free p1, ⟨xs, by
        show upd W4.h a _ p = _
        rw [upd_ne na]
        exact p7, p4.mono l4.fr⟩, by rw [List.length_map]; exact hd1⟩
    · rw [List.mem_singleton.mp hz]
      exact ⟨q2, l12.hh.free (l3.hh.free q5), ⟨ys, by
        show upd W4.h a _ q = _
        rw [upd_ne nq]
        exact q3, q4⟩, by rw [List.length_map]; exact hd2⟩
  · simp [Ne.symm nqp]
def gNeverIni (C : Addr) : List D → (Wd → Wd → Addr → Prop) → Prop := fun ds po => ∃ (ss : List (List Int)), ds = [dRg ss] ∧ ss.length ≤ cap ∧
  po = fun W1 W2 x => ∃ p, OwO W1 W2 x C [("stands", p, ss.map dSt)]
theorem ok_Never_init {f : Addr} {fd : FuncData} (F : Fun K "__init__" "Never.__init__" s_Never___init__ f fd) (T : Tp mg) (Q : Tk K A) : FnOk P w K mg base CX0 1 f fd ["self", "stands"] (Ini A.c_Never (gNeverIni A.c_Never)) := by
  refine fn_ini F sc_Never___init__ (fun ds r h => by obtain ⟨_, rfl, _⟩ := h; rfl) (fun cdv A2 outer s H E hr ds po hg => ?_)
  obtain ⟨ss, rfl, hd1, rfl⟩ := hg
  refine ⟨_, (pss_one (ps_fld (pv 0) (pe_callTy (kx_c_list K) (by rfl) T.n_list b_list (pa_cons (pv 1) pa_nil)) rfl)), fun W1 W2 a dx l12 h1 h2 h3 => ?_⟩
  refine (st_fld (i := 0) rfl h3 h2 h1 Q.nk.cl Q.n1 (by decide) (el_list (ev_var rfl)).g (fun v p W3 n3 l3 r3 => ?_))
  obtain ⟨rfl, p1, p2, xs, p3, p4⟩ := r3
  have na : p ≠ a := fun z => by
    rw [z, h3] at p1
    cases p1
  refine ⟨p, ⟨dx, upd_same⟩, n3, h1, fun z hz => ?_, by simp⟩
  rw [List.mem_singleton.mp hz]
  exact ⟨p2, l12.hh.free p1, ⟨xs, by
    show upd W3.h a _ p = _
    rw [upd_ne na]
    exact p3, p4⟩, by rw [List.length_map]; exact hd1⟩
def dLed (C : Addr) (de : List (Int × Int)) (rs : List (List (List Int))) : D := .obj C [("deeds", dPrs de), ("rings", dRgs rs)]
def gLedShows (C : Addr) : List D → D → Prop := fun ds r => ∃ (de : List (Int × Int)) (rs : List (List (List Int))) (fm : Farm) (fl st : List Int) (wi : List (Option Int)), ds = [dLed C de rs, dFm fm, dIs fl, dSt st, dWs wi] ∧ fm.rooms.length ≤ 6 ∧ fl.length ≤ 4 ∧ st.length = fl.length ∧ rs.length ≤ cap ∧
  (∀ r ∈ rs, ∀ t ∈ r, t.length ≤ 4000) ∧ r = .bl (ledShows fm fl st wi de rs)
theorem ok_Led_shows {f : Addr} {fd : FuncData} (F : Fun K "shows" "Led.shows" s_Led_shows f fd) (T : Tp mg) (Q : Tk K A) (D_first_bad : Df P w K mg base 2 "first_bad" ["farm", "flocks", "stand", "deeds"] (Pure gFirstBad))
    (D_as_wished : Df P w K mg base 1 "as_wished" ["stand", "wish"] (Pure gAsWished)) (D_is_stand : Df P w K mg base 2 "is_stand" ["farm", "flocks", "thing"] (Pure gIsStand)) (D_nexts_of : Df P w K mg base 3 "nexts_of" ["farm", "flocks", "stand"] (Pure gNextsOf)) :
    FnOk P w K mg base CX0 4 f fd ["self", "farm", "flocks", "stand", "wish"] (Pure (gLedShows A.c_Led)) := by
  refine fn_pure F sc_Led_shows (fun ds r h => by obtain ⟨_, _, _, _, _, _, rfl, _⟩ := h; rfl) (fun cdv A2 outer s H E hr ds r hg => ?_)
  obtain ⟨de, rs, fm, fl, st, wi, rfl, hr6, hf4, hsl, hrc, ht4, rfl⟩ := hg
  have hu := hu_of hr
  have hu65 := hu65_of hr
  refine ⟨_, (pss_cons (ps_asg (pe_df D_first_bad (hr.mono (by decide)) (by rfl) (pa_cons (pv 1) (pa_cons (pv 2) (pa_cons (pv 3) (pa_cons (kx_fld K (pv 0) rfl) pa_nil))))) (pg_tupK (K0 := K) (n := 2) rfl rfl (pgs_cons (pg_n 5 sc_Led_shows.nd) (pgs_cons (pg_n 6 sc_Led_shows.nd) pgs_nil))))
  (pss_cons (ps_if (PW.pt (pw_or (pt_cmpR o_notN (pv 5) pe_non (nomark _)) (pw_or (pt_not (pt_val (pe_df D_as_wished (hr.mono (by decide)) (by rfl) (pa_cons (pv 6) (pa_cons (pv 4) pa_nil))))) (pw_or1 (pt_cmpR op_ne (pe_callB (kx_c_len K) (by rfl) T.n_len b_len (pa_cons (kx_fld K (pv 0) rfl) pa_nil)) (pe_callB (kx_c_len K) (by rfl) T.n_len b_len (pa_cons (kx_fld K (pv 0) rfl) pa_nil)) (nomark _)))))) (pss_one (ps_ret pe_bl)) pss_nil)
  (pss_cons (ps_if (pt_cmpR (kx_op_eqD K hr.units) (kx_fld K (pv 0) rfl) (pe_lst pa_nil) (nomark _)) (pss_one (ps_ret pe_bl)) pss_nil)
  (pss_cons (ps_sv 7 sc_Led_shows.nd pe_dnewT)
  (pss_cons (ps_for PassesOwn.never rfl (pi_enum (by rfl) T.n_enumerate (pa_cons (kx_fld K (pv 0) rfl) pa_nil)) (pg_tupK (K0 := K) (n := 2) rfl rfl (pgs_cons (pg_n 8 sc_Led_shows.nd) (pgs_cons (pg_n 9 sc_Led_shows.nd) pgs_nil))) (pss_one (ps_for PassesOwn.never rfl (pi_list (pv 9)) (pg_n 10 sc_Led_shows.nd) (pss_cons (ps_if (PW.pt (pw_or (pt_not (pt_val (pe_df D_is_stand (hr.mono (by decide)) (by rfl) (pa_cons (pv 1) (pa_cons (pv 2) (pa_cons (pv 10) pa_nil)))))) (pw_or1 (pt_val (pe_df D_as_wished (hr.mono (by decide)) (by rfl) (pa_cons (pv 10) (pa_cons (pv 4) pa_nil))))))) (pss_one (ps_ret pe_bl)) pss_nil)
  (pss_one (ps_dput hu (pv 7) (pv 10) (pe_callB (c_min2 rfl) (by rfl) T.n_min b_min (pa_cons (pv 8) (pa_cons (pe_dget2 hu (pv 7) (pv 10) (pv 8) ⟨rfl, rfl, rfl, rfl⟩) pa_nil))) rfl))))))
  (pss_cons (ps_if (pt_cmpR (kx_op_notInD K hu65) (pv 3) (pe_ix (kx_ix_list K) (kx_fld K (pv 0) rfl) pe_int (fun _ _ => rfl)) (by rfl)) (pss_one (ps_ret pe_bl)) pss_nil)
  (pss_cons (ps_for PassesOwn.never rfl (pi_enum (by rfl) T.n_enumerate (pa_cons (pe_slice (kx_sl_list K) (kx_fld K (pv 0) rfl) po_none (po_some (pe_un un_neg pe_int))) pa_nil)) (pg_tupK (K0 := K) (n := 2) rfl rfl (pgs_cons (pg_n 8 sc_Led_shows.nd) (pgs_cons (pg_n 9 sc_Led_shows.nd) pgs_nil))) (pss_one (ps_for PassesOwn.never rfl (pi_list (pv 9)) (pg_n 10 sc_Led_shows.nd) (pss_one (ps_if (pt_not (pt_val (pe_callB (kx_cr_all K rfl) (by rfl) T.n_all b_all (pa_cons (pe_lc (own := [("other", 11)]) rfl sc_Led_shows.nd (pi_list (pe_df D_nexts_of (hr.mono (by decide)) (by rfl) (pa_cons (pv 1) (pa_cons (pv 2) (pa_cons (pv 10) pa_nil))))) (blkOk_by (own := [("other", 11)]) (N := ["self", "farm", "flocks", "stand", "wish", "place", "last", "met", "at", "ring", "one", "other"]) (sc := defScope s_Led_shows) (by decide +kernel)) (fun _ _ _ _ _ => (pg_n 11 sc_Led_shows.nd)) (fun _ _ _ _ _ => pts_nil) (fun _ _ _ _ _ => (pe_cmpR op_le (pe_dget2 hu (pv 7) (pv 11) (pe_callB (kx_c_len K) (by rfl) T.n_len b_len (pa_cons (kx_fld K (pv 0) rfl) pa_nil)) ⟨rfl, rfl, rfl, rfl⟩) (pe_op op_add (pv 8) pe_int) (nomark _)))) pa_nil)))) (pss_one (ps_ret pe_bl)) pss_nil)))))
  (pss_one (ps_ret pe_bl))))))))), fun W0 => ?_⟩
  have fD : ∀ Γ W, Γ[0]? = some (.dat (dLed A.c_Led de rs)) → EvD W0 (tFld K (tVar 0) "deeds") Γ W (dPrs de) := fun Γ W h => ev_fld (ev_var h) rfl Q.lk.cl Q.l1
  have fR : ∀ Γ W, Γ[0]? = some (.dat (dLed A.c_Led de rs)) → EvD W0 (tFld K (tVar 0) "rings") Γ W (dRgs rs) := fun Γ W h => ev_fld (ev_var h) rfl Q.lk.cl Q.l2
  have hfl := firstBad_len fm fl 0 st de
  refine st_seq (st_asgT (ev_call (ea_cons (ev_var rfl) (ea_cons (ev_var rfl) (ea_cons (ev_var rfl) (ea_cons (fD _ _ rfl) ea_nil)))) ⟨fm, fl, st, de, rfl, hsl, by omega, rfl⟩) tg_pair (fun W1 l1 => ?_))
  refine st_seq (st_when (et_or (et_test (ev_notN (EvD.h (ev_var rfl)))) (fun _ => et_or (et_not (et_test (ev_call (ea_cons (ev_var rfl) (ea_cons (ev_var rfl) ea_nil)) ⟨_, wi, rfl, by rw [hfl]; omega, rfl⟩))) (fun _ => et_test (ev_neI (ev_lenLM (EvD.h (fR _ _ rfl))) (ev_lenLM (EvD.h (fD _ _ rfl))))))) (fun hb W2 l2 => st_ret ev_bl ?_) (fun hb W2 l2 => ?_))
  · have hb' : ((firstBad fm fl 0 st de).1.isSome || (!asWished (firstBad fm fl 0 st de).2 wi || !decide (rs.length = de.length))) = true := by
      rw [dOn_isN, Bool.not_not] at hb
      simpa [Int.natCast_inj] using hb
    unfold ledShows
    rw [if_pos hb']
  have hb' : ((firstBad fm fl 0 st de).1.isSome || (!asWished (firstBad fm fl 0 st de).2 wi || !decide (rs.length = de.length))) = false := by
    rw [dOn_isN, Bool.not_not] at hb
    simpa [Int.natCast_inj] using hb
  refine st_seq (st_when (et_test (ev_eqD (e := dRgs []) (EvD.h (fR _ _ rfl)) (EvD.h (ev_lst ea_nil (by decide))) ((sh_rgs _).shp (by decide)) ((sh_rgs _).shp (by decide)))) (fun hb2 W3 l3 => st_ret ev_bl ?_) (fun hb2 W3 l3 => ?_))
  · have hb3 := (eqb_rgs _ _).mp hb2
    unfold ledShows
    rw [if_neg (by rw [hb']; exact Bool.false_ne_true), if_pos hb3]
  have hne : rs ≠ [] := fun z => by
    have hb3 : D.eqb (dRgs rs) (dRgs []) = false := hb2
    rw [(eqb_rgs _ _).mpr z] at hb3
    cases hb3
  refine st_seq (st_asgK ek_new (fun p7 W4 l4 => ?_))
  refine st_seq (st_runD (rs.zipIdx 0) (fun q => .tup [.int (q.2 : Int), dRg q.1]) (fun m => [.dat (dLed A.c_Led de rs), .dat (dFm fm), .dat (dIs fl), .dat (dSt st), .dat (dWs wi), .no, .no, .dac p7 (dMet m), .no, .no, .no, .no]) (fun _ => .bl false) (shStep fm fl wi) [] (ItD.to (it_enum (ea_cons (fR _ _ rfl) ea_nil)) (enm_map dRg 0 rs)) ?_ ?_ ?_ ?_)
  · exact wk_cons (wk_cons (wk_cons (wk_cons (wk_cons (wk_drop (wk_drop (wk_cons (wk_cons (wk_cons (wk_cons (wk_cons wk_nil)))))))))))
  · intro i m q W5 hi hm l5
    have hmi := shStep_inv hm ⟨List.nodup_nil, fun t ht => by cases ht⟩
    have hq : q.1 ∈ rs := by
      have := List.mem_of_getElem? hi
      exact (List.mem_zipIdx this).2.2 ▸ List.getElem_mem _
    refine ⟨_, _, tg_pair, fun W6 l6 => ?_⟩
    refine st_runD q.1 dSt (fun m => [.dat (dLed A.c_Led de rs), .dat (dFm fm), .dat (dIs fl), .dat (dSt st), .dat (dWs wi), .no, .no, .dac p7 (dMet m), .dat (.int (q.2 : Int)), .dat (dRg q.1), .no, .no]) (fun _ => .bl false) (shOne fm fl wi q.2) m (it_list (ev_var rfl)) (wk_refl _) ?_ ?_ ?_
    · intro j m2 t W7 hj hm2 l7
      have hmi2 := shOne_inv hm2 hmi
      have htq := ht4 q.1 hq t (List.mem_of_getElem? hj)
      have hml := hmi2.len hr6 hf4
      refine ⟨_, _, tg_name, fun W8 l8 => ?_⟩
      refine st_seq (st_when (et_or (et_not (et_test (ev_call (ea_cons (ev_var rfl) (ea_cons (ev_var rfl) (ea_cons (ev_var rfl) ea_nil))) ⟨fm, fl, t, rfl, htq, rfl⟩))) (fun hs => et_test (ev_call (ea_cons (ev_var rfl) (ea_cons (ev_var rfl) ea_nil)) ⟨t, wi, rfl, by have := (is_std (by simpa using hs : isStand fm fl t = true)).len; omega, rfl⟩))) (fun hb5 W9 l9 => st_ret ev_bl ⟨(), ?_, rfl⟩) (fun hb5 W9 l9 => ?_))
      · unfold shOne badOne
        rw [if_pos hb5]
      · refine st_dput (i := 7) (d := .int (min (q.2 : Int) ((lk m2 t).getD (q.2 : Int)))) rfl ?_ (ev_var rfl) (by rw [dMet_len]; show _ ≤ 100000; omega) (fun W10 l10 => ⟨minAt q.2 m2 t, ?_, ?_⟩)
        · refine ev_min2 (ev_var rfl) (EvD.to (ev_dget2A (i := 7) rfl (EvD.h (ev_var rfl)) (ev_var rfl)) (dMet_get ..))
        · unfold shOne badOne
          rw [if_neg (by rw [hb5]; exact Bool.false_ne_true)]
        · rw [dMet_put]
          exact wk_cons (wk_cons (wk_cons (wk_cons (wk_cons (wk_cons (wk_cons (wk_cons (wk_cons (wk_cons (wk_drop (wk_cons wk_nil)))))))))))
    · intro r e
      exact ⟨r, by rw [← shOne_run]; exact e, rfl⟩
    · intro m' e Wn ln
      refine ⟨m', by rw [← shOne_run]; exact e, ?_⟩
      exact wk_cons (wk_cons (wk_cons (wk_cons (wk_cons (wk_cons (wk_cons (wk_cons (wk_drop (wk_drop (wk_cons (wk_cons wk_nil)))))))))))
  · intro r e
    rw [shStep_run, zipIdx_any (fun r : List (List Int) => r.any (badOne fm fl wi)) rs 0] at e
    split at e
    · rename_i q
      unfold ledShows
      rw [if_neg (by rw [hb']; exact Bool.false_ne_true), if_neg hne, if_pos q]
    · cases e
  intro m e Wn ln
  rw [shStep_run, zipIdx_any (fun r : List (List Int) => r.any (badOne fm fl wi)) rs 0] at e
  split at e
  · cases e
  rename_i hbad
  have em : m = metAll rs := by
    cases e
    rfl
  subst em
  obtain ⟨r0, rs', rfl⟩ : ∃ r rs', rs = r :: rs' := by
    cases rs with
    | nil => exact absurd rfl hne
    | cons r rs' => exact ⟨r, rs', rfl⟩
  refine st_seq (st_when (et_test (EvD.to (ev_notInD (EvD.h (ev_var rfl)) (EvD.h (ev_ixL (fR _ _ rfl) ev_int at0)) ((sh_st _).shp (by decide)) ((sh_rg _).shp (by decide))) (show _ = D.bl (!decide (st ∈ (r0 :: rs').headD [])) by rw [inb_st]; rfl))) (fun hb6 W9 l9 => st_ret ev_bl ?_) (fun hb6 W9 l9 => ?_))
  · unfold ledShows
    rw [if_neg (by rw [hb']; exact Bool.false_ne_true), if_neg hne, if_neg hbad, if_pos hb6]
  have hbad2 : ∀ r ∈ r0 :: rs', ∀ t ∈ r, Std fm fl t := by
    intro r hr t ht
    refine good_std (w := wi) ?_
    have h1 : ((r0 :: rs').any fun r => r.any (badOne fm fl wi)) = false := by simpa using hbad
    rw [List.any_eq_false] at h1
    have h2 := h1 r hr
    rw [Bool.not_eq_true, List.any_eq_false] at h2
    simpa using h2 t ht
  have hfin : ledShows fm fl st wi de (r0 :: rs') = ((r0 :: rs').dropLast.zipIdx 0).all fun q => q.1.all fun t => ledOk fm fl (r0 :: rs').length (metAll (r0 :: rs')) q.2 t := by
    unfold ledShows
    rw [if_neg (by rw [hb']; exact Bool.false_ne_true), if_neg hne, if_neg hbad, if_neg (by rw [hb6]; exact Bool.false_ne_true)]
  rw [hfin]
  have e1 : ∀ Γ W, Γ[0]? = some (.dat (dLed A.c_Led de (r0 :: rs'))) → EvD W0 (tSl (rSlL K) (tFld K (tVar 0) "rings") tNoPart (tPart (tUn (rU fun i => V.int (-i)) (tC (.int 1))))) Γ W (dRgs (r0 :: rs').dropLast) := fun Γ W h => EvD.to (ev_sl (fR _ _ h) eo_none (eo_some (ev_neg ev_int)) (by rw [List.length_map]; exact hrc)) (by rw [cutL_map, cut_dropLast _ (by simp)])
  refine st_seq (st_runD ((r0 :: rs').dropLast.zipIdx 0) (fun q => .tup [.int (q.2 : Int), dRg q.1]) (fun _ => [.dat (dLed A.c_Led de (r0 :: rs')), .dat (dFm fm), .dat (dIs fl), .dat (dSt st), .dat (dWs wi), .no, .no, .dac p7 (dMet (metAll (r0 :: rs'))), .no, .no, .no, .no]) (fun _ => .bl false) (uStep fun q => q.1.all fun t => ledOk fm fl (r0 :: rs').length (metAll (r0 :: rs')) q.2 t) () (ItD.to (it_enum (ea_cons (e1 _ _ rfl) ea_nil)) (enm_map dRg 0 _)) (wk_refl _) ?_ ?_ ?_)
  · intro i m q W5 hi hm l5
    have hq : q.1 ∈ (r0 :: rs').dropLast := (List.mem_zipIdx (List.mem_of_getElem? hi)).2.2 ▸ List.getElem_mem _
    have hq2 := (List.dropLast_sublist _).mem hq
    refine ⟨_, _, tg_pair, fun W6 l6 => ?_⟩
    refine st_runD q.1 dSt (fun _ => [.dat (dLed A.c_Led de (r0 :: rs')), .dat (dFm fm), .dat (dIs fl), .dat (dSt st), .dat (dWs wi), .no, .no, .dac p7 (dMet (metAll (r0 :: rs'))), .dat (.int (q.2 : Int)), .dat (dRg q.1), .no, .no]) (fun _ => .bl false) (uStep fun t => ledOk fm fl (r0 :: rs').length (metAll (r0 :: rs')) q.2 t) () (it_list (ev_var rfl)) (wk_refl _) ?_ ?_ ?_
    · intro j m2 t W7 hj hm2 l7
      have hst := hbad2 q.1 hq2 t (List.mem_of_getElem? hj)
      have hz : Sz fm fl t := ⟨hr6, hf4, hst.len⟩
      have hnl : (nextsOf fm fl t).length ≤ cap := by
        unfold nextsOf
        rw [List.length_map]
        have := deedsOf_le hz
        show _ ≤ 100000
        omega
      refine ⟨_, _, tg_name, fun W8 l8 => ?_⟩
      refine st_when (et_not (et_test (ev_allA (nextsOf fm fl t) dSt (fun o => decide ((lk (metAll (r0 :: rs')) o).getD ((r0 :: rs').length : Int) ≤ (q.2 : Int) + 1)) (it_list (ev_call (ea_cons (ev_var rfl) (ea_cons (ev_var rfl) (ea_cons (ev_var rfl) ea_nil))) ⟨fm, fl, t, rfl, hz, rfl⟩)) hnl (fun o ho => ⟨_, _, fun _ h => h, tg_name, fun W9 l9 => ev_le (EvD.to (ev_dget2A (i := 7) rfl (EvD.h (ev_var rfl)) (ev_lenLM (EvD.h (fR _ _ rfl)))) (dMet_get ..)) (ev_add (ev_var rfl) ev_int)⟩)))) (fun hb5 W9 l9 => st_ret ev_bl ⟨(), ?_, rfl⟩) (fun hb5 W9 l9 => ⟨(), ?_, ?_⟩)
      · unfold uStep ledOk
        rw [if_neg (by simpa using hb5)]
      · unfold uStep ledOk
        rw [if_pos (by simpa using hb5)]
      · exact wk_cons (wk_cons (wk_cons (wk_cons (wk_cons (wk_cons (wk_cons (wk_cons (wk_cons (wk_cons (wk_drop (wk_cons wk_nil)))))))))))
    · intro r e
      rw [uStep_run] at e
      split at e
      · cases e
      · rename_i z
        refine ⟨(), ?_, rfl⟩
        unfold uStep
        rw [if_neg z]
    · intro m' e Wn ln
      rw [uStep_run] at e
      split at e
      · rename_i z
        refine ⟨(), ?_, wk_cons (wk_cons (wk_cons (wk_cons (wk_cons (wk_cons (wk_cons (wk_cons (wk_drop (wk_drop (wk_cons (wk_cons wk_nil)))))))))))⟩
        unfold uStep
        rw [if_pos z]
      · cases e
  · intro r e
    rw [uStep_run] at e
    split at e
    · cases e
    · rename_i q
      rw [Bool.not_eq_true] at q
      rw [q]
  · intro s e Wn ln
    rw [uStep_run] at e
    split at e
    · rename_i q
      rw [q]
      exact st_ret ev_bl rfl
    · cases e
def dNev (C : Addr) (ss : List (List Int)) : D := .obj C [("stands", dRg ss)]
def gNeverShows (C : Addr) : List D → D → Prop := fun ds r => ∃ (ss : List (List Int)) (fm : Farm) (fl st : List Int) (wi : List (Option Int)), ds = [dNev C ss, dFm fm, dIs fl, dSt st, dWs wi] ∧ fm.rooms.length ≤ 6 ∧ fl.length ≤ 4 ∧ ss.length ≤ cap ∧ (∀ t ∈ ss, t.length ≤ 4000) ∧ r = .bl (neverShows fm fl st wi ss)
theorem ok_Never_shows {f : Addr} {fd : FuncData} (F : Fun K "shows" "Never.shows" s_Never_shows f fd) (T : Tp mg) (Q : Tk K A)
    (D_as_wished : Df P w K mg base 1 "as_wished" ["stand", "wish"] (Pure gAsWished)) (D_is_stand : Df P w K mg base 2 "is_stand" ["farm", "flocks", "thing"] (Pure gIsStand)) (D_nexts_of : Df P w K mg base 3 "nexts_of" ["farm", "flocks", "stand"] (Pure gNextsOf)) :
    FnOk P w K mg base CX0 4 f fd ["self", "farm", "flocks", "stand", "wish"] (Pure (gNeverShows A.c_Never)) := by
  refine fn_pure F sc_Never_shows (fun ds r h => by obtain ⟨_, _, _, _, _, rfl, _⟩ := h; rfl) (fun cdv A2 outer s H E hr ds r hg => ?_)
  obtain ⟨ss, fm, fl, st, wi, rfl, hr6, hf4, hsc, ht4, rfl⟩ := hg
  have hu := hu_of hr
  have hu65 := hu65_of hr
  refine ⟨_, (pss_cons (ps_if (PW.pt (pw_or (pt_cmpR (kx_op_notInD K hu65) (pv 3) (kx_fld K (pv 0) rfl) (by rfl)) (pw_or1 (pt_not (pt_val (pe_callB (kx_cr_all K rfl) (by rfl) T.n_all b_all (pa_cons (pe_lc (own := [("one", 5)]) rfl sc_Never_shows.nd (pi_list (kx_fld K (pv 0) rfl)) (blkOk_by (own := [("one", 5)]) (N := ["self", "farm", "flocks", "stand", "wish", "one", "known", "other"]) (sc := defScope s_Never_shows) (by decide +kernel)) (fun _ _ _ _ _ => (pg_n 5 sc_Never_shows.nd)) (fun _ _ _ _ _ => pts_nil) (fun _ _ _ _ _ => (pe_df D_is_stand (hr.mono (by decide)) (by rfl) (pa_cons (pv 1) (pa_cons (pv 2) (pa_cons (pv 5) pa_nil)))))) pa_nil))))))) (pss_one (ps_ret pe_bl)) pss_nil)
  (pss_cons (ps_sv 6 sc_Never_shows.nd (pe_callTy (kx_c_dictT K hu65 rfl) (by rfl) T.n_dict b_dict (pa_cons (pe_lc (own := [("one", 5)]) rfl sc_Never_shows.nd (pi_list (kx_fld K (pv 0) rfl)) (blkOk_by (own := [("one", 5)]) (N := ["self", "farm", "flocks", "stand", "wish", "one", "known", "other"]) (sc := defScope s_Never_shows) (by decide +kernel)) (fun _ _ _ _ _ => (pg_n 5 sc_Never_shows.nd)) (fun _ _ _ _ _ => pts_nil) (fun _ _ _ _ _ => (pe_tup (pa_cons (pv 5) (pa_cons pe_bl pa_nil))))) pa_nil)))
  (pss_cons (ps_for PassesOwn.never rfl (pi_list (kx_fld K (pv 0) rfl)) (pg_n 5 sc_Never_shows.nd) (pss_one (ps_if (PW.pt (pw_or (pt_val (pe_df D_as_wished (hr.mono (by decide)) (by rfl) (pa_cons (pv 5) (pa_cons (pv 4) pa_nil)))) (pw_or1 (pt_not (pt_val (pe_callB (kx_cr_all K rfl) (by rfl) T.n_all b_all (pa_cons (pe_lc (own := [("other", 7)]) rfl sc_Never_shows.nd (pi_list (pe_df D_nexts_of (hr.mono (by decide)) (by rfl) (pa_cons (pv 1) (pa_cons (pv 2) (pa_cons (pv 5) pa_nil))))) (blkOk_by (own := [("other", 7)]) (N := ["self", "farm", "flocks", "stand", "wish", "one", "known", "other"]) (sc := defScope s_Never_shows) (by decide +kernel)) (fun _ _ _ _ _ => (pg_n 7 sc_Never_shows.nd)) (fun _ _ _ _ _ => pts_nil) (fun _ _ _ _ _ => (pe_cmp (pc_din hu (pv 7) (pv 6)) (by rfl)))) pa_nil))))))) (pss_one (ps_ret pe_bl)) pss_nil)))
  (pss_one (ps_ret pe_bl))))), fun W0 => ?_⟩
  have fS : ∀ Γ W, Γ[0]? = some (.dat (dNev A.c_Never ss)) → EvD W0 (tFld K (tVar 0) "stands") Γ W (dRg ss) := fun Γ W h => ev_fld (ev_var h) rfl Q.nk.cl Q.n1
  refine st_seq (st_when (et_or (et_test (EvD.to (ev_notInD (EvD.h (ev_var rfl)) (EvD.h (fS _ _ rfl)) ((sh_st _).shp (by decide)) ((sh_rg _).shp (by decide))) (show _ = D.bl (!decide (st ∈ ss)) by rw [inb_st]))) (fun _ => et_not (et_test (ev_allA ss dSt (isStand fm fl) (it_list (fS _ _ rfl)) hsc (fun t ht => ⟨_, _, fun _ h => h, tg_name, fun W9 l9 => ev_call (ea_cons (ev_var rfl) (ea_cons (ev_var rfl) (ea_cons (ev_var rfl) ea_nil))) ⟨fm, fl, t, rfl, ht4 t ht, rfl⟩⟩))))) (fun hb W2 l2 => st_ret ev_bl ?_) (fun hb W2 l2 => ?_))
  · unfold neverShows
    rw [if_pos hb]
  have hfin : neverShows fm fl st wi ss = ss.all fun t => !(asWished t wi || !((nextsOf fm fl t).all fun o => decide (o ∈ ss))) := by
    unfold neverShows
    rw [if_neg (by rw [hb]; exact Bool.false_ne_true)]
  have hstd : ∀ t ∈ ss, Std fm fl t := fun t ht => is_std (by
    rw [Bool.or_eq_false_iff] at hb
    exact List.all_eq_true.mp (by simpa using hb.2) t ht)
  rw [hfin]
  refine st_seq (st_asgK (ks := dOf (ss.map fun t => (t, D.bl true))) (ek_dict (EvD.to (EvL.fz (el_lcA ss dSt (fun t => .tup [dSt t, .bl true]) (it_list (fS _ _ rfl)) hsc (fun t ht => ⟨_, _, fun _ h => h, tg_name, fun W9 l9 => by walk_at "ev"⟩)) (by rw [List.length_map]; exact hsc)) (by rw [List.map_map]; rfl))) (fun p6 W4 l4 => ?_))
  have hkn : ∀ o, (lk (dOf (ss.map fun t => (t, D.bl true))) o).isSome = decide (o ∈ ss) := fun o => by
    rw [lk_dOf, List.map_map]
    congr 1
    simp
  refine st_seq (st_runD ss dSt (fun _ => [.dat (dNev A.c_Never ss), .dat (dFm fm), .dat (dIs fl), .dat (dSt st), .dat (dWs wi), .no, .dac p6 (dOf (ss.map fun t => (t, D.bl true))), .no]) (fun _ => .bl false) (uStep fun t => !(asWished t wi || !((nextsOf fm fl t).all fun o => decide (o ∈ ss)))) () (it_list (fS _ _ rfl)) ?_ ?_ ?_ ?_)
  · exact wk_refl _
  · intro j m2 t W7 hj hm2 l7
    have hst := hstd t (List.mem_of_getElem? hj)
    have hz : Sz fm fl t := ⟨hr6, hf4, hst.len⟩
    have hnl : (nextsOf fm fl t).length ≤ cap := by
      unfold nextsOf
      rw [List.length_map]
      have := deedsOf_le hz
      show _ ≤ 100000
      omega
    refine ⟨_, _, tg_name, fun W8 l8 => ?_⟩
    refine st_when (et_or (et_test (ev_call (ea_cons (ev_var rfl) (ea_cons (ev_var rfl) ea_nil)) ⟨t, wi, rfl, by have := hst.len; omega, rfl⟩)) (fun _ => et_not (et_test (ev_allA (nextsOf fm fl t) dSt (fun o => decide (o ∈ ss)) (it_list (ev_call (ea_cons (ev_var rfl) (ea_cons (ev_var rfl) (ea_cons (ev_var rfl) ea_nil))) ⟨fm, fl, t, rfl, hz, rfl⟩)) hnl (fun o ho => ⟨_, _, fun _ h => h, tg_name, fun W9 l9 => EvD.to (ev_dinA (EvD.h (ev_var rfl)) rfl) (by rw [hkn])⟩))))) (fun hb5 W9 l9 => st_ret ev_bl ⟨(), ?_, rfl⟩) (fun hb5 W9 l9 => ⟨(), ?_, ?_⟩)
    · unfold uStep
      exact if_neg (by
        show ¬(!(asWished t wi || !((nextsOf fm fl t).all fun o => decide (o ∈ ss)))) = true
        rw [hb5]
        exact Bool.false_ne_true)
    · unfold uStep
      exact if_pos (by
        show (!(asWished t wi || !((nextsOf fm fl t).all fun o => decide (o ∈ ss)))) = true
        rw [hb5]
        rfl)
    · exact wk_cons (wk_cons (wk_cons (wk_cons (wk_cons (wk_drop (wk_cons (wk_cons wk_nil)))))))
  · intro r e
    rw [uStep_run] at e
    split at e
    · cases e
    · rename_i q
      rw [Bool.not_eq_true] at q
      rw [q]
  · intro s e Wn ln
    rw [uStep_run] at e
    split at e
    · rename_i q
      rw [q]
      exact st_ret ev_bl rfl
    · cases e
end
end Fg

set_option Elab.async false
set_option linter.all false
set_option maxRecDepth 100000
set_option maxHeartbeats 4000000
/-! What the walk through all stands comes to. -/
namespace Fg
open PySem L2

theorem lk_append {β : Type} (k : List Int) : ∀ (c e : List (List Int × β)), lk (c ++ e) k = (lk c k).or (lk e k)
  | [], e => by simp [lk]
  | (q, v) :: c, e => by
    rw [List.cons_append, lk_cons, lk_cons, lk_append k c e]
    split <;> rfl
/-- what a fold of deeds keeps -/
structure FInv (fm : Farm) (fl : List Int) (c : Came) (last : List (List Int)) (s : Came × List (List Int)) : Prop where
  per : ∀ k v, lk c k = some v → lk s.1 k = some v
  new : ∀ k ∈ s.2, ∃ b f p, lk s.1 k = some (some (b, f, p)) ∧ b ∈ last ∧ canGo fm fl b f p = true ∧ bhd b f p = k
theorem addSt_per {h : List Int} {s : Came × List (List Int)} {d : Int × Int} {k : List Int} {v : Option (List Int × Int × Int)} (e : lk s.1 k = some v) : lk (addSt h s d).1 k = some v := by
  unfold addSt
  split
  · exact e
  · rename_i q
    dsimp only
    rw [pt_new (by simpa using q), lk_append, e]
    rfl
theorem addSt_mem (h : List Int) (s : Came × List (List Int)) (d : Int × Int) : (lk (addSt h s d).1 (bhd h d.1 d.2)).isSome = true := by
  unfold addSt
  split
  · rename_i q
    exact q
  · rename_i q
    dsimp only
    rw [pt_new (by simpa using q), lk_append, lk_cons, if_pos rfl]
    cases lk s.1 (bhd h d.1 d.2) <;> rfl
theorem FInv.add {fm : Farm} {fl : List Int} {c : Came} {last : List (List Int)} {s : Came × List (List Int)} (i : FInv fm fl c last s) {h : List Int} {d : Int × Int} (hh : h ∈ last) (hd : canGo fm fl h d.1 d.2 = true) : FInv fm fl c last (addSt h s d) := by
  refine ⟨fun k v e => addSt_per (i.per k v e), fun k hk => ?_⟩
  by_cases q : (lk s.1 (bhd h d.1 d.2)).isSome = true
  · have e : addSt h s d = s := by
      unfold addSt
      rw [if_pos q]
    rw [e] at hk ⊢
    exact i.new k hk
  · have e : addSt h s d = (pt s.1 (bhd h d.1 d.2) (some (h, d.1, d.2)), s.2 ++ [bhd h d.1 d.2]) := by
      unfold addSt
      rw [if_neg q]
    rw [e] at hk
    rcases List.mem_append.mp hk with hk | hk
    · obtain ⟨b, f, p, e1, e2⟩ := i.new k hk
      exact ⟨b, f, p, addSt_per e1, e2⟩
    · rw [List.mem_singleton.mp hk]
      refine ⟨h, d.1, d.2, ?_, hh, hd, rfl⟩
      rw [e]
      dsimp only
      have q0 : lk s.1 (bhd h d.1 d.2) = none := by simpa using q
      rw [pt_new (by simpa using q), lk_append, lk_cons, if_pos rfl, q0]
      rfl
theorem adds_per {h : List Int} {k : List Int} {v : Option (List Int × Int × Int)} : ∀ {ds : List (Int × Int)} {s : Came × List (List Int)}, lk s.1 k = some v → lk (ds.foldl (addSt h) s).1 k = some v
  | [], _, e => e
  | d :: ds, s, e => adds_per (ds := ds) (addSt_per e)
theorem some_of_is {β : Type} {o : Option β} (h : o.isSome = true) : ∃ v, o = some v := Option.isSome_iff_exists.mp h
theorem adds_mem {h : List Int} : ∀ {ds : List (Int × Int)} {s : Came × List (List Int)}, ∀ d ∈ ds, (lk (ds.foldl (addSt h) s).1 (bhd h d.1 d.2)).isSome = true
  | d :: ds, s, e, he => by
    rw [List.foldl_cons]
    rcases List.mem_cons.mp he with rfl | he
    · obtain ⟨v, hv⟩ := some_of_is (addSt_mem h s e)
      rw [adds_per hv]
      rfl
    · exact adds_mem e he
theorem FInv.adds {fm : Farm} {fl : List Int} {c : Came} {last : List (List Int)} {h : List Int} (hh : h ∈ last) : ∀ {ds : List (Int × Int)} {s : Came × List (List Int)}, (∀ d ∈ ds, canGo fm fl h d.1 d.2 = true) → FInv fm fl c last s → FInv fm fl c last (ds.foldl (addSt h) s)
  | [], _, _, i => i
  | d :: ds, s, hd, i => FInv.adds hh (ds := ds) (fun e he => hd e (List.mem_cons_of_mem _ he)) (i.add hh (hd d (List.mem_cons_self ..)))
theorem heres_per {fm : Farm} {fl : List Int} {k : List Int} {v : Option (List Int × Int × Int)} : ∀ {ts : List (List Int)} {s : Came × List (List Int)}, lk s.1 k = some v → lk (ts.foldl (addHere fm fl) s).1 k = some v
  | [], _, e => e
  | t :: ts, s, e => heres_per (ts := ts) (adds_per e)
theorem heres_mem {fm : Farm} {fl : List Int} : ∀ {ts : List (List Int)} {s : Came × List (List Int)}, ∀ t ∈ ts, ∀ d ∈ deedsOf fm fl t, (lk (ts.foldl (addHere fm fl) s).1 (bhd t d.1 d.2)).isSome = true
  | t :: ts, s, u, hu, d, hd => by
    rw [List.foldl_cons]
    rcases List.mem_cons.mp hu with rfl | hu
    · obtain ⟨v, hv⟩ := some_of_is (adds_mem (h := u) (s := s) d hd)
      rw [heres_per (s := addHere fm fl s u) hv]
      rfl
    · exact heres_mem u hu d hd
theorem FInv.heres {fm : Farm} {fl : List Int} {c : Came} {last : List (List Int)} : ∀ {ts : List (List Int)} {s : Came × List (List Int)}, (∀ t ∈ ts, t ∈ last) → FInv fm fl c last s → FInv fm fl c last (ts.foldl (addHere fm fl) s)
  | [], _, _, i => i
  | t :: ts, s, ht, i => FInv.heres (ts := ts) (fun e he => ht e (List.mem_cons_of_mem _ he)) (FInv.adds (ht t (List.mem_cons_self ..)) (fun d hd => mem_deedsOf hd) i)
theorem ringOf_f (fm : Farm) (fl : List Int) (c : Came) (last : List (List Int)) : FInv fm fl c last (ringOf fm fl c last) := FInv.heres (fun _ h => h) ⟨fun k v e => e, fun k hk => by cases hk⟩

structure RFac (fm : Farm) (fl st : List Int) (c : Came) (rs : List (List (List Int))) : Prop where
  inv : RInv fm fl c rs
  s0 : lk c st = some none
  r0 : rs[0]? = some [st]
  pr : ∀ i r k, rs[i + 1]? = some r → k ∈ r → ∃ b f p, lk c k = some (some (b, f, p)) ∧ (∃ r', rs[i]? = some r' ∧ b ∈ r') ∧ canGo fm fl b f p = true ∧ bhd b f p = k
  cl : ∀ i r t, rs[i]? = some r → i + 1 < rs.length → t ∈ r → ∀ d ∈ deedsOf fm fl t, bhd t d.1 d.2 ∈ (rs.take (i + 2)).flatten
theorem RFac.start {fm : Farm} {fl st : List Int} (h : Std fm fl st) : RFac fm fl st [(st, none)] [[st]] := by
  refine ⟨RInv.start h, ?_, rfl, fun i r k e => ?_, fun i r t e hi => ?_⟩
  · rw [lk_cons, if_pos rfl]
  · simp at e
  · simp at hi
theorem getLastD_get (rs : List (List (List Int))) (h : rs ≠ []) : rs[rs.length - 1]? = some (rs.getLastD []) := by
  have hl := List.length_pos_iff.mpr h
  rw [← List.getLast?_eq_getElem?, List.getLastD_eq_getLast?]
  cases e : rs.getLast? with
  | none =>
    rw [List.getLast?_eq_none_iff] at e
    exact absurd e h
  | some x => rfl
theorem RFac.next {fm : Farm} {fl st : List Int} {c : Came} {rs : List (List (List Int))} (h : RFac fm fl st c rs) (hn : (ringOf fm fl c (rs.getLastD [])).2 ≠ []) : RFac fm fl st (ringOf fm fl c (rs.getLastD [])).1 (rs ++ [(ringOf fm fl c (rs.getLastD [])).2]) := by
  have F := ringOf_f fm fl c (rs.getLastD [])
  have I := h.inv.next hn
  have n0 := h.inv.n0
  have hl := List.length_pos_iff.mpr n0
  refine ⟨I, F.per _ _ h.s0, ?_, fun i r k e hk => ?_, fun i r t e hi ht d hd => ?_⟩
  · rw [List.getElem?_append_left hl]
    exact h.r0
  · by_cases q : i + 1 < rs.length
    · rw [List.getElem?_append_left q] at e
      obtain ⟨b, f, p, e1, ⟨r', e2, e3⟩, e4⟩ := h.pr i r k e hk
      exact ⟨b, f, p, F.per _ _ e1, ⟨r', by rw [List.getElem?_append_left (by omega)]; exact e2, e3⟩, e4⟩
    · have hi : i + 1 = rs.length := by
        have := (List.getElem?_eq_some_iff.mp e).1
        rw [List.length_append] at this
        have : i + 1 < rs.length + 1 := this
        omega
      rw [hi, List.getElem?_append_right (Nat.le_refl _), Nat.sub_self] at e
      cases e
      obtain ⟨b, f, p, e1, e2, e3⟩ := F.new k hk
      refine ⟨b, f, p, e1, ⟨rs.getLastD [], ?_, e2⟩, e3⟩
      rw [List.getElem?_append_left (by omega), show i = rs.length - 1 by omega]
      exact getLastD_get rs n0
  · rw [List.length_append] at hi
    have hi : i + 1 < rs.length + 1 := hi
    rw [List.getElem?_append_left (by omega)] at e
    by_cases q : i + 1 < rs.length
    · have := h.cl i r t e q ht d hd
      rw [List.take_append_of_le_length (by omega)]
      exact this
    · have hi2 : i = rs.length - 1 := by omega
      rw [hi2, getLastD_get rs n0] at e
      cases e
      have h1 := heres_mem (fm := fm) (fl := fl) (s := (c, [])) t ht d hd
      rw [lk_some] at h1
      have h2 : bhd t d.1 d.2 ∈ (ringOf fm fl c (rs.getLastD [])).1.map (·.1) := of_decide_eq_true h1
      rw [I.ks] at h2
      rw [List.take_of_length_le (by rw [List.length_append]; show rs.length + 1 ≤ _; omega)]
      exact h2
theorem ringsGo_fac {fm : Farm} {fl st : List Int} (hr : fm.rooms.length ≤ 6) (hf : fl.length ≤ 4) : ∀ (n : Nat) (c : Came) (rs : List (List (List Int))), RFac fm fl st c rs → 1297 ≤ n + rs.length → RFac fm fl st (ringsGo fm fl n c rs).2 (ringsGo fm fl n c rs).1 ∧
      ∀ t ∈ (ringsGo fm fl n c rs).1.flatten, ∀ d ∈ deedsOf fm fl t, bhd t d.1 d.2 ∈ (ringsGo fm fl n c rs).1.flatten
  | 0, c, rs, h, hn => by
    have := h.inv.len hr hf
    omega
  | n + 1, c, rs, h, hn => by
    unfold ringsGo
    by_cases q : (ringOf fm fl c (rs.getLastD [])).2 = []
    · rw [if_pos q, ringOf_nil q]
      dsimp only
      refine ⟨h, fun t ht d hd => ?_⟩
      obtain ⟨r, hr', htr⟩ := List.mem_flatten.mp ht
      obtain ⟨i, hi, rfl⟩ := List.mem_iff_getElem.mp hr'
      by_cases z : i + 1 < rs.length
      · have h1 := h.cl i rs[i] t (by simp [hi]) z htr d hd
        obtain ⟨r2, hr2, h2⟩ := List.mem_flatten.mp h1
        exact List.mem_flatten.mpr ⟨r2, List.mem_of_mem_take hr2, h2⟩
      · have e : rs[i]? = some (rs.getLastD []) := by
          rw [show i = rs.length - 1 by omega]
          exact getLastD_get rs h.inv.n0
        rw [List.getElem?_eq_getElem hi] at e
        rw [Option.some.inj e] at htr
        have h1 := heres_mem (fm := fm) (fl := fl) (s := (c, [])) t htr d hd
        rw [lk_some] at h1
        have h2 : bhd t d.1 d.2 ∈ (ringOf fm fl c (rs.getLastD [])).1.map (·.1) := of_decide_eq_true h1
        rw [ringOf_nil q, h.inv.ks] at h2
        exact h2
    · rw [if_neg q]
      exact ringsGo_fac hr hf n _ _ (h.next q) (by rw [List.length_append]; show 1297 ≤ n + (rs.length + 1); omega)
theorem rings_fac {fm : Farm} {fl st : List Int} (hr : fm.rooms.length ≤ 6) (hf : fl.length ≤ 4) (h : Std fm fl st) : RFac fm fl st (ringsOf fm fl st).2 (ringsOf fm fl st).1 ∧ ∀ t ∈ (ringsOf fm fl st).1.flatten, ∀ d ∈ deedsOf fm fl t, bhd t d.1 d.2 ∈ (ringsOf fm fl st).1.flatten :=
  ringsGo_fac hr hf 1300 _ _ (RFac.start h) (by show 1297 ≤ 1300 + 1; omega)

/-! ### the answer told -/
def backFrom (c : Came) : Nat → List Int → List (Int × Int) → List (Int × Int)
  | 0, _, ds => ds
  | n + 1, h, ds => match lk c h with
    | some (some q) => backFrom c n q.1 (q.2 :: ds)
    | _ => ds
def ledOf (fm : Farm) (fl st : List Int) (w : List (Option Int)) : (List (Int × Int) × List (List (List Int))) ⊕ List (List Int) :=
  match (ringsOf fm fl st).1.findIdx? fun r => r.any (asWished · w) with
  | some i => .inl (backFrom (ringsOf fm fl st).2 i ((((ringsOf fm fl st).1.getD i []).filter (asWished · w)).headD []) [], (ringsOf fm fl st).1.take i)
  | none => .inr (ringsOf fm fl st).1.flatten
theorem find_first {α : Type} {p : α → Bool} {xs : List α} {i : Nat} {x : α} (h : xs[i]? = some x) (hp : p x = true) (hn : (xs.take i).any p = false) : xs.findIdx? p = some i := by
  obtain ⟨hi, e⟩ := List.getElem?_eq_some_iff.mp h
  rw [List.findIdx?_eq_some_iff_getElem]
  refine ⟨hi, by rw [e]; exact hp, fun j hj => ?_⟩
  rw [List.any_eq_false] at hn
  exact hn xs[j] (List.mem_iff_getElem.mpr ⟨j, by rw [List.length_take]; omega, by rw [List.getElem_take]⟩)
theorem find_none {α : Type} {p : α → Bool} {xs : List α} (hn : xs.any p = false) : xs.findIdx? p = none := by
  rw [List.findIdx?_eq_none_iff]
  intro x hx
  rw [List.any_eq_false] at hn
  simpa using hn x hx
theorem zipIdx_get {α : Type} {xs : List α} {i : Nat} {q : α × Nat} (h : (xs.zipIdx 0)[i]? = some q) : q.2 = i ∧ xs[i]? = some q.1 := by
  rw [List.getElem?_zipIdx] at h
  obtain ⟨x, hx, rfl⟩ := Option.map_eq_some_iff.mp h
  exact ⟨by simp, hx⟩
theorem zipIdx_take {α : Type} (i : Nat) : ∀ (xs : List α) (k : Nat), (xs.zipIdx k).take i = (xs.take i).zipIdx k := by
  induction i with
  | zero => intro xs k; rfl
  | succ i ih =>
    intro xs k
    cases xs with
    | nil => rfl
    | cons x xs => rw [List.zipIdx_cons, List.take_succ_cons, List.take_succ_cons, List.zipIdx_cons, ih]
theorem flatten_mem_le : ∀ {rs : List (List (List Int))} {r : List (List Int)}, r ∈ rs → r.length ≤ rs.flatten.length
  | x :: rs, r, h => by
    rw [List.flatten_cons, List.length_append]
    rcases List.mem_cons.mp h with rfl | h
    · omega
    · have := flatten_mem_le h
      omega
theorem runL_err {α S ρ : Type} {step : S → α → Except ρ S} (P : ρ → Prop) : ∀ {as : List α} {s : S} {r : ρ}, (∀ s a r, a ∈ as → step s a = .error r → P r) → runL step s as = .error r → P r
  | [], s, r, _, h => by cases h
  | a :: as, s, r, hs, h => by
    unfold runL at h
    cases e : step s a with
    | ok s2 =>
      rw [e] at h
      exact runL_err P (fun s b r hb => hs s b r (List.mem_cons_of_mem _ hb)) h
    | error r2 =>
      rw [e] at h
      cases h
      exact hs s a _ (List.mem_cons_self ..) e
theorem runL_no {α ρ : Type} {p : α → Bool} {g : α → ρ} : ∀ {as : List α}, runL (fun (_ : Unit) a => if p a then .error (g a) else .ok ()) () as = .ok () → as.any p = false
  | [], _ => rfl
  | a :: as, h => by
    unfold runL at h
    by_cases q : p a = true
    · rw [if_pos q] at h
      cases h
    · rw [if_neg q] at h
      rw [List.any_cons, runL_no h, Bool.or_false]
      simpa using q
end Fg

set_option Elab.async false
set_option linter.all false
set_option maxRecDepth 100000
set_option maxHeartbeats 4000000
namespace Fg
open PySem L2 RZ
local macro_rules | `(tactic| walk_at "bo") => `(tactic| simp only [Bool.or_eq_false_iff, Bool.or_eq_true, Bool.and_eq_true, Bool.not_eq_true', Bool.not_eq_false', Bool.not_eq_true, Bool.not_eq_false, decide_eq_true_eq, decide_eq_false_iff_not, Bool.true_eq_false, Bool.false_eq_true, Bool.and_eq_false_imp] at *)
local macro_rules | `(tactic| walk_at "sd") => `(tactic| first
  | assumption
  | exact rfl
  | omega
  | (refine at_ints ?_; first | omega | (walk_at "bo"; omega) | skip)
  | exact Nat.le_of_ble_eq_true rfl
  | (show _ ≤ cap; first | decide | omega | (simp only [List.length_map, List.length_append]; omega))
  | (walk_at "bo"; omega)
  | skip)
local macro_rules | `(tactic| walk_at "ea") => `(tactic| first
  | exact ea_nil
  | (apply ea_cons; (focus walk_at "ev"); walk_at "ea"))
local macro_rules | `(tactic| walk_at "eh") => `(tactic| first
  | exact ev_varA rfl (by first | assumption | omega | decide)
  | exact ev_varK rfl (by first | assumption | omega | decide)
  | (apply EvD.h; walk_at "ev"))
local macro_rules | `(tactic| walk_at "el") => `(tactic| first
  | ((with_reducible apply el_lst); (focus walk_at "ea"); walk_at "sd")
  | ((with_reducible apply el_cat); (focus walk_at "ev"); (focus walk_at "ev"); walk_at "sd")
  | ((with_reducible apply el_sl); (focus walk_at "ev"); (focus walk_at "eo"); (focus walk_at "eo"))
  | ((with_reducible apply el_list); walk_at "ev")
  | ((with_reducible apply el_listT); walk_at "ev")
  | ((with_reducible apply el_rev); walk_at "ev"))
local macro_rules | `(tactic| walk_at "eo") => `(tactic| first
  | exact eo_none
  | (apply eo_some; walk_at "ev"))
local macro_rules | `(tactic| walk_at "ev") => `(tactic| first
  | exact ev_int | exact ev_bl | exact ev_non | exact ev_str
  | exact ev_var rfl
  | ((with_reducible apply ev_add); (focus walk_at "ev"); walk_at "ev")
  | ((with_reducible apply ev_sub); (focus walk_at "ev"); walk_at "ev")
  | ((with_reducible apply ev_lt); (focus walk_at "ev"); walk_at "ev")
  | ((with_reducible apply ev_le); (focus walk_at "ev"); walk_at "ev")
  | ((with_reducible apply ev_gt); (focus walk_at "ev"); walk_at "ev")
  | ((with_reducible apply ev_ge); (focus walk_at "ev"); walk_at "ev")
  | ((with_reducible apply ev_eqI); (focus walk_at "ev"); (focus walk_at "ev"); done)
  | ((with_reducible apply ev_neI); (focus walk_at "ev"); (focus walk_at "ev"); done)
  | ((with_reducible apply ev_mulW); (focus walk_at "ev"); (focus walk_at "ev"); walk_at "sd")
  | ((with_reducible apply ev_fdiv); (focus walk_at "ev"); (focus walk_at "ev"); walk_at "sd")
  | ((with_reducible apply ev_mod); (focus walk_at "ev"); (focus walk_at "ev"); walk_at "sd")
  | ((with_reducible apply ev_neg); walk_at "ev")
  | ((with_reducible apply ev_ixT); (focus walk_at "ev"); (focus walk_at "ev"); walk_at "sd")
  | (with_reducible apply ev_ixA rfl ?_ ?_; (focus walk_at "ev"); walk_at "sd")
  | ((with_reducible apply ev_ixL); (focus walk_at "ev"); (focus walk_at "ev"); walk_at "sd")
  | (with_reducible apply ev_lenA rfl)
  | ((with_reducible apply ev_lenLM); walk_at "eh"; done)
  | ((with_reducible apply ev_lenTM); walk_at "eh"; done)
  | ((with_reducible apply ev_lenL); walk_at "eh")
  | ((with_reducible apply ev_lenT); walk_at "eh")
  | ((with_reducible apply ev_lenK); walk_at "eh")
  | ((with_reducible apply ev_isN); walk_at "eh")
  | ((with_reducible apply ev_notN); walk_at "eh")
  | ((with_reducible apply ev_inT); (focus walk_at "ev"); walk_at "ev")
  | ((with_reducible apply ev_inD); (focus walk_at "eh"); (focus walk_at "eh"); all_goals walk_at "sh")
  | ((with_reducible apply ev_notInD); (focus walk_at "eh"); (focus walk_at "eh"); all_goals walk_at "sh")
  | ((with_reducible apply ev_eqD); (focus walk_at "eh"); (focus walk_at "eh"); all_goals walk_at "sh")
  | ((with_reducible apply ev_neD); (focus walk_at "eh"); (focus walk_at "eh"); all_goals walk_at "sh")
  | ((with_reducible apply ev_all); walk_at "eh")
  | ((with_reducible apply ev_any); walk_at "eh")
  | ((with_reducible apply ev_sum); walk_at "eh")
  | ((with_reducible apply ev_lenSet); (focus walk_at "ev"); walk_at "sd")
  | ((with_reducible apply ev_isaI); (focus walk_at "eh"); walk_at "sd")
  | ((with_reducible apply ev_isaB); (focus walk_at "eh"); walk_at "sd")
  | ((with_reducible apply ev_isaL); (focus walk_at "eh"); walk_at "sd")
  | ((with_reducible apply ev_isaT); (focus walk_at "eh"); walk_at "sd")
  | ((with_reducible apply ev_tup); (focus walk_at "ea"); walk_at "sd")
  | ((with_reducible apply ev_catT); (focus walk_at "ev"); (focus walk_at "ev"); walk_at "sd")
  | ((with_reducible apply ev_slT); (focus walk_at "ev"); (focus walk_at "eo"); (focus walk_at "eo"))
  | ((with_reducible apply ev_max2); (focus walk_at "ev"); walk_at "ev")
  | ((with_reducible apply ev_min2); (focus walk_at "ev"); walk_at "ev")
  | ((with_reducible apply ev_abs); walk_at "ev")
  | ((with_reducible apply ev_chain); (focus walk_at "ev"); (focus walk_at "ev"); intro _; walk_at "ev")
  | ((with_reducible apply ev_and); (focus walk_at "ev"); intro _; walk_at "ev")
  | ((with_reducible apply ev_or); (focus walk_at "ev"); intro _; walk_at "ev")
  | ((with_reducible apply ev_not); walk_at "ev")
  | (apply EvL.fz; (focus walk_at "el"); walk_at "sd"))
local macro_rules | `(tactic| walk_at "et") => `(tactic| first
  | ((with_reducible apply et_test); walk_at "ev")
  | ((with_reducible apply et_B); walk_at "ev")
  | ((with_reducible apply et_and); (focus walk_at "et"); intro _; walk_at "et")
  | ((with_reducible apply et_or); (focus walk_at "et"); intro _; walk_at "et")
  | ((with_reducible apply et_not); walk_at "et"))
local macro_rules | `(tactic| walk_at "sh") => `(tactic| first
  | exact (sh_tup2 (sh_int _) (sh_int _)).shp (by decide) | exact (sh_pr _).shp (by decide) | exact (sh_prs _).shp (by decide) | exact (sh_st _).shp (by decide) | exact (sh_is _).shp (by decide) | exact (sh_ws _).shp (by decide) | exact (sh_rg _).shp (by decide) | exact (sh_rgs _).shp (by decide) | exact (sh_fm _).shp (by decide)
  | exact sh_nil.shp (by decide) | exact (sh_bls _).shp (by decide) | decide +kernel | skip)

def postLed (A : Adr) (r : (List (Int × Int) × List (List (List Int))) ⊕ List (List Int)) (W0 W : Wd) (v : V) : Prop := match r with
  | .inl q => ∃ a pd pr, v = .ref a ∧ OwO W0 W a A.c_Led [("deeds", pd, q.1.map dPr), ("rings", pr, q.2.map dRg)]
  | .inr ss => ∃ a p, v = .ref a ∧ OwO W0 W a A.c_Never [("stands", p, ss.map dSt)]
section
variable {P : Program} {w : World} {K : PySem.W.Frag} {mg : Str → Option Value} {base : Heap} {A : Adr}
abbrev s_led : Stmt := top 40
theorem sc_led : FnScope ["farm", "flocks", "stand", "wish", "rings", "came", "at", "ring", "one", "good", "deeds", "here", "before", "flock", "pen", "every"] ["farm", "flocks", "stand", "wish"] (defScope s_led) := ⟨rfl, rfl, rfl, by decide +kernel, rfl, by decide +kernel, by decide +kernel⟩
def gLed (A : Adr) : List D → (Wd → Wd → V → Prop) → Prop := fun ds po => ∃ (fm : Farm) (fl st : List Int) (wi : List (Option Int)), ds = [dFm fm, dIs fl, dSt st, dWs wi] ∧ Fok fm ∧ Lok fl ∧ Std fm fl st ∧ Wok fm fl wi ∧ po = postLed A (ledOf fm fl st wi)
theorem ok_led {f : Addr} {fd : FuncData} (F : Fun K "led" "led" s_led f fd) (T : Tp mg) (Q : Tk K A) (D_asked_stand : Df P w K mg base 4 "asked_stand" ["farm", "flocks", "stand"] (Pure gAskedStand)) (D_asked_wish : Df P w K mg base 2 "asked_wish" ["farm", "flocks", "wish"] (Pure gAskedWish))
    (D_rings_of : Df P w K mg base 3 "rings_of" ["farm", "flocks", "stand"] (Pure gRingsOf)) (D_as_wished : Df P w K mg base 1 "as_wished" ["stand", "wish"] (Pure gAsWished))
    (M_Led : Dm P w K mg base 1 "Led" A.c_Led ["self", "deeds", "rings"] (Ini A.c_Led (gLedIni A.c_Led))) (M_Never : Dm P w K mg base 1 "Never" A.c_Never ["self", "stands"] (Ini A.c_Never (gNeverIni A.c_Never))) :
    FnOk P w K mg base CX0 5 f fd ["farm", "flocks", "stand", "wish"] (Prm (gLed A)) := by
  refine fn_prm F sc_led (fun ds r h => by obtain ⟨_, _, _, _, rfl, _⟩ := h; rfl) (fun cdv A2 outer s H E hr ds r hg => ?_)
  obtain ⟨fm, fl, st, wi, rfl, h1, h2, h3, h4, rfl⟩ := hg
  have hu := hu_of hr
  refine ⟨_, (pss_cons (ps_expr (pe_df D_asked_stand (hr.mono (by decide)) (by rfl) (pa_cons (pv 0) (pa_cons (pv 1) (pa_cons (pv 2) pa_nil)))))
  (pss_cons (ps_expr (pe_df D_asked_wish (hr.mono (by decide)) (by rfl) (pa_cons (pv 0) (pa_cons (pv 1) (pa_cons (pv 3) pa_nil)))))
  (pss_cons (ps_asg (pe_df D_rings_of (hr.mono (by decide)) (by rfl) (pa_cons (pv 0) (pa_cons (pv 1) (pa_cons (pv 2) pa_nil)))) (pg_tupK (K0 := K) (n := 2) rfl rfl (pgs_cons (pg_n 4 sc_led.nd) (pgs_cons (pg_n 5 sc_led.nd) pgs_nil))))
  (pss_cons (ps_for PassesOwn.never rfl (pi_enum (by rfl) T.n_enumerate (pa_cons (pv 4) pa_nil)) (pg_tupK (K0 := K) (n := 2) rfl rfl (pgs_cons (pg_n 6 sc_led.nd) (pgs_cons (pg_n 7 sc_led.nd) pgs_nil))) (pss_cons (ps_setLc (i := 9) (own := [("one", 8)]) rfl sc_led.nd rfl rfl (sw_true rfl rfl rfl (by decide +kernel)) (pi_list (pv 7)) (blkOk_by (own := [("one", 8)]) (N := ["farm", "flocks", "stand", "wish", "rings", "came", "at", "ring", "one", "good", "deeds", "here", "before", "flock", "pen", "every"]) (sc := defScope s_led) (by decide +kernel)) (fun _ _ _ _ _ => (pg_n 8 sc_led.nd)) (fun _ _ _ _ _ => (pts_one (pt_val (pe_df D_as_wished (hr.mono (by decide)) (by rfl) (pa_cons (pv 8) (pa_cons (pv 3) pa_nil)))))) (fun _ _ _ _ _ => (pv 8)))
  (pss_one (ps_if (pt_cmpR (kx_op_neD K hr.units) (pv 9) (pe_lst pa_nil) (nomark _)) (pss_cons (ps_par (i := 10) (j := 11) (by rfl) sc_led.nd rfl rfl (by decide) rfl rfl (pa_cons (pe_lst pa_nil) (pa_cons (pe_ix (kx_ix_list K) (pv 9) pe_int (fun _ _ => rfl)) pa_nil)) (by rfl))
  (pss_cons (ps_while PassesOwn.never (pt_cmpR o_notN (pe_dget hu (pv 5) (pv 11) (fun _ _ => rfl)) pe_non (nomark _)) (pss_cons (ps_asg (pe_dget hu (pv 5) (pv 11) (fun _ _ => rfl)) (pg_tupK (K0 := K) (n := 3) rfl rfl (pgs_cons (pg_n 12 sc_led.nd) (pgs_cons (pg_n 13 sc_led.nd) (pgs_cons (pg_n 14 sc_led.nd) pgs_nil)))))
  (pss_cons (ps_sv 10 sc_led.nd (pe_op op_cat (pe_lst (pa_cons (pe_tup (pa_cons (pv 13) (pa_cons (pv 14) pa_nil))) pa_nil)) (pv 10)))
  (pss_one (ps_sv 11 sc_led.nd (pv 12))))))
  (pss_one (ps_ret (pe_mk M_Led (hr.mono (by decide)) (by rfl) (pa_cons (pv 10) (pa_cons (pe_slice (kx_sl_list K) (pv 4) po_none (po_some (pv 6))) pa_nil))))))) pss_nil))))
  (pss_cons (ps_sv 15 sc_led.nd (pe_lst pa_nil))
  (pss_cons (ps_for PassesOwn.never rfl (pi_list (pv 4)) (pg_n 7 sc_led.nd) (pss_one (ps_expr (pe_bm PySem.F.plainAttrs_list PySem.F.slot_list_extend PySem.F.type_list_extend mt_extend (pv 15) (pa_cons (pv 7) pa_nil)))))
  (pss_one (ps_ret (pe_mk M_Never (hr.mono (by decide)) (by rfl) (pa_cons (pv 15) pa_nil)))))))))), fun W0 => ?_⟩
  have hr6 := h1.1.2
  have hf4 := h2.1.2
  obtain ⟨hF, hC⟩ := rings_fac hr6 hf4 h3
  have hlen := hF.inv.len hr6 hf4
  refine st_seq (st_drop (ev_call (ea_cons (ev_var rfl) (ea_cons (ev_var rfl) (ea_cons (ev_var rfl) ea_nil))) ⟨fm, fl, st, rfl, h1, h2, h3, rfl⟩) (fun W1 l1 => ?_))
  refine st_seq (st_drop (ev_call (ea_cons (ev_var rfl) (ea_cons (ev_var rfl) (ea_cons (ev_var rfl) ea_nil))) ⟨fm, fl, wi, rfl, h1, h2, h4, rfl⟩) (fun W1 l1 => ?_))
  refine st_seq (st_asgT (ev_call (ea_cons (ev_var rfl) (ea_cons (ev_var rfl) (ea_cons (ev_var rfl) ea_nil))) ⟨fm, fl, st, rfl, ⟨hr6, hf4, h3.len⟩, h3, rfl⟩) tg_pair (fun W2 l2 => ?_))
  generalize hrs : (ringsOf fm fl st).1 = rs at *
  generalize hc : (ringsOf fm fl st).2 = c at *
  refine st_seq (st_run (rs.zipIdx 0) (fun q => .tup [.int (q.2 : Int), dRg q.1]) (fun _ => [.dat (dFm fm), .dat (dIs fl), .dat (dSt st), .dat (dWs wi), .dat (dRgs rs), .dat (.dct (dCame c)), .no, .no, .no, .no, .no, .no, .no, .no, .no, .no]) (fun _ => postLed A (ledOf fm fl st wi) W0) (fun (_ : Unit) (q : List (List Int) × Nat) => if q.1.any (asWished · wi) then .error q else .ok ()) () (ItD.to (it_enum (ea_cons (ev_var rfl) ea_nil)) (enm_map dRg 0 rs)) (wk_refl _) ?_ ?_ ?_)
  · intro i u q W3 hi hrun l3
    obtain ⟨hqi, hqr⟩ := zipIdx_get hi
    obtain ⟨r, j⟩ := q
    dsimp only at hqi hqr
    subst hqi
    have hil := (List.getElem?_eq_some_iff.mp hqr).1
    have hrl : r.length ≤ 1296 := by
      have := flatten_mem_le (List.mem_of_getElem? hqr)
      rw [← hF.inv.ks, List.length_map] at this
      omega
    have hstd : ∀ t ∈ r, Std fm fl t := fun t ht => hF.inv.st t (by rw [hF.inv.ks]; exact List.mem_flatten.mpr ⟨r, List.mem_of_getElem? hqr, ht⟩)
    have hno : (rs.take j).any (fun r => r.any (asWished · wi)) = false := by
      rw [zipIdx_take] at hrun
      have := runL_no (p := fun q : List (List Int) × Nat => q.1.any (asWished · wi)) hrun
      rwa [zipIdx_any (fun r : List (List Int) => r.any (asWished · wi))] at this
    refine ⟨_, _, tg_pair, fun W4 l4 => ?_⟩
    refine st_seq (st_asgL (el_lc r dSt (fun t => asWished t wi) dSt (it_list (ev_var rfl)) (by show _ ≤ 100000; omega) (fun t ht => ⟨_, _, fun _ h => h, tg_name, fun W5 l5 => ⟨et_test (ev_call (ea_cons (ev_var rfl) (ea_cons (ev_var rfl) ea_nil)) ⟨t, wi, rfl, by have := (hstd t ht).len; omega, rfl⟩), fun _ => ev_var rfl⟩⟩)) (fun p9 W5 l5 => ?_))
    have hfl : (r.filter fun t => asWished t wi).length ≤ 1296 := Nat.le_trans (List.length_filter_le ..) hrl
    refine st_freeze (i := 9) rfl (by rw [List.length_map]; show _ ≤ 100000; omega) (fun W6 l6 => ?_)
    refine st_when (et_test (EvD.to (ev_neD (e := dRg []) (EvD.h (ev_var rfl)) (EvD.h (ev_lst ea_nil (by decide))) ((sh_rg _).shp (by decide)) ((sh_rg _).shp (by decide))) (show _ = D.bl (!D.eqb (dRg (r.filter fun t => asWished t wi)) (dRg [])) from rfl))) (fun hb W7 l7 => ?_) (fun hb W7 l7 => ?_)
    · have hne : (r.filter fun t => asWished t wi) ≠ [] := fun z => by
        rw [(eqb_rg _ _).mpr z] at hb
        cases hb
      have hany : r.any (asWished · wi) = true := by
        obtain ⟨t, ht⟩ := List.exists_mem_of_ne_nil _ hne
        rw [List.any_eq_true]
        exact ⟨t, (List.mem_filter.mp ht).1, (List.mem_filter.mp ht).2⟩
      have hld : ledOf fm fl st wi = .inl (backFrom c j ((r.filter fun t => asWished t wi).headD []) [], rs.take j) := by
        unfold ledOf
        rw [hrs, hc, find_first hqr hany hno]
        dsimp only
        rw [List.getD_eq_getElem?_getD, hqr]
        rfl
      obtain ⟨g0, gs, hg⟩ : ∃ g0 gs, (r.filter fun t => asWished t wi) = g0 :: gs := List.exists_cons_of_ne_nil hne
      rw [hg] at hld ⊢
      have hg0 : g0 ∈ r := (List.mem_filter.mp (hg ▸ List.mem_cons_self .. : g0 ∈ r.filter fun t => asWished t wi)).1
      refine st_seq (st_par (k1 := .dt (dPrs [])) (k2 := .dt (dSt g0)) (ev_lst ea_nil (by decide)).g (ev_ixL (ev_var rfl) ev_int at0).g (fun p1 p2 W8 l8 => ?_))
      refine st_seq (st_while (fun m Γ' W' => ∃ h ds s12 s13 s14, Γ' = [.dat (dFm fm), .dat (dIs fl), .dat (dSt st), .dat (dWs wi), .dat (dRgs rs), .dat (.dct (dCame c)), .dat (.int (j : Int)), .dat (dRg r), .no, .dat (dRg (g0 :: gs)), .dat (dPrs ds), .dat (dSt h), s12, s13, s14, .no] ∧
        (∃ r', rs[m]? = some r' ∧ h ∈ r') ∧ backFrom c m h ds = backFrom c j g0 [] ∧ ds.length + m = j) j ⟨g0, [], _, _, _, rfl, ⟨r, hqr, hg0⟩, rfl, by simp⟩ ?_)
      · rintro m Γ' W' ⟨h, ds, s12, s13, s14, rfl, ⟨r', hr', hh⟩, hbk, hdl⟩ lw
        cases m with
        | zero =>
          rw [hF.r0] at hr'
          cases hr'
          rw [List.mem_singleton.mp hh]
          have hlk : lk (dCame c) st = some .non := by
            unfold dCame
            rw [lk_map, hF.s0]
            rfl
          refine ⟨false, et_test (ev_notN (EvD.h (ev_dget (ev_var rfl) (EvD.h (ev_var rfl)) hlk))), (fun z => by cases z), fun _ W9 l9 => ?_⟩
          refine st_retP (ep_make (ea_cons (ev_var rfl) (ea_cons (ev_sl (ev_var rfl) eo_none (eo_some (ev_var rfl)) ?_) ea_nil)) ⟨ds, rs.take j, ?_, ?_, ?_, ?_, rfl⟩) ?_
          · rw [List.length_map]
            show _ ≤ 100000
            omega
          · rw [cutL_map, cutL_to _ (by omega), Int.toNat_natCast]
          · show _ ≤ 100000
            omega
          · rw [List.length_take]
            show _ ≤ 100000
            omega
          · intro r2 hr2
            have := flatten_mem_le (List.mem_of_mem_take hr2)
            rw [← hF.inv.ks, List.length_map] at this
            show _ ≤ 100000
            omega
          · rintro v Wa Wb la lb ⟨x, rfl, pd, pr, hO⟩
            refine ⟨(r, j), if_pos hany, ?_⟩
            rw [hld]
            show postLed A (.inl (backFrom c j g0 [], rs.take j)) W0 Wb (.ref x)
            rw [← hbk]
            exact ⟨x, pd, pr, rfl, hO.base la⟩
        | succ m =>
          obtain ⟨b, f1, p1, e1, ⟨r2, e2, e3⟩, e4, e5⟩ := hF.pr m r' h hr' hh
          have hlk : lk (dCame c) h = some (.tup [dSt b, .int f1, .int p1]) := by
            unfold dCame
            rw [lk_map, e1]
            rfl
          refine ⟨true, et_test (ev_notN (EvD.h (ev_dget (ev_var rfl) (EvD.h (ev_var rfl)) hlk))), fun _ W9 l9 => ?_, (fun z => by cases z)⟩
          refine st_seq (st_asgT (ev_dget (ev_var rfl) (EvD.h (ev_var rfl)) hlk) (tg_tup (tg_cons tg_name (tg_cons tg_name (tg_cons tg_name tg_nil))) rfl) (fun W10 l10 => ?_))
          refine st_seq (st_asgD (ev_cat (ds := [dPr (f1, p1)]) (es := ds.map dPr) (ev_lst (ea_cons (ev_tup (ea_cons (ev_var rfl) (ea_cons (ev_var rfl) ea_nil)) (by show 2 ≤ 100000; omega)) ea_nil) (by show 1 ≤ 100000; omega)) (ev_var rfl) ?_) (fun W11 l11 => ?_))
          · rw [List.length_map]
            show 1 + _ ≤ 100000
            omega
          refine st_asgD (ev_var rfl) (fun W12 l12 => ⟨m, Nat.lt_succ_self _, b, (f1, p1) :: ds, _, _, _, rfl, ⟨r2, e2, e3⟩, ?_, ?_⟩)
          · rw [← hbk]
            conv => rhs; unfold backFrom
            rw [e1]
          · rw [List.length_cons]
            omega
    · refine ⟨(), ?_, wk_cons (wk_cons (wk_cons (wk_cons (wk_cons (wk_cons (wk_drop (wk_drop (wk_drop (wk_drop (wk_drop (wk_drop (wk_drop (wk_drop (wk_drop (wk_drop wk_nil)))))))))))))))⟩
      have h0 : (r.filter fun t => asWished t wi) = [] := (eqb_rg _ _).mp (by simpa using hb)
      rw [if_neg]
      rw [Bool.not_eq_true, List.any_eq_false]
      intro t ht hw
      have : t ∈ r.filter fun t => asWished t wi := List.mem_filter.mpr ⟨ht, hw⟩
      rw [h0] at this
      cases this
  · intro q e W' v hv
    exact hv
  · intro u e Wn ln
    have hno : rs.any (fun r => r.any (asWished · wi)) = false := by
      have := runL_no (p := fun q : List (List Int) × Nat => q.1.any (asWished · wi)) e
      rwa [zipIdx_any (fun r : List (List Int) => r.any (asWished · wi))] at this
    have hld : ledOf fm fl st wi = .inr rs.flatten := by
      unfold ledOf
      rw [hrs, find_none hno]
    have hfl : rs.flatten.length ≤ 1296 := by
      rw [← hF.inv.ks, List.length_map]
      omega
    refine st_seq (st_asgL (el_lst ea_nil (by decide)) (fun p15 W5 l5 => ?_))
    refine st_seq (st_fold rs dRg (fun es => [.dat (dFm fm), .dat (dIs fl), .dat (dSt st), .dat (dWs wi), .dat (dRgs rs), .dat (.dct (dCame c)), .no, .no, .no, .no, .no, .no, .no, .no, .no, .acc p15 (es.map dSt)]) (fun es r => es ++ r) [] (it_list (ev_var rfl)) (wk_refl _) ?_ ?_)
    · intro i es r W6 hi hes l6
      have hes2 : es = (rs.take i).flatten := by
        rw [hes, foldl_flatMap (fun r => r), List.nil_append, List.flatMap_id']
      have hle : es.length + r.length ≤ 1296 := by
        have h5 : rs.flatten.length = (rs.take i).flatten.length + (rs.drop i).flatten.length := by
          rw [← List.length_append, ← List.flatten_append, List.take_append_drop]
        have h6 : r ∈ rs.drop i := by
          obtain ⟨hlt, e6⟩ := List.getElem?_eq_some_iff.mp hi
          rw [List.drop_eq_getElem_cons hlt, e6]
          exact List.mem_cons_self ..
        have h7 := flatten_mem_le h6
        rw [hes2]
        omega
      refine ⟨_, _, tg_name, fun W7 l7 => st_ext (i := 15) rfl (ev_var rfl) ?_ (fun W8 l8 => ?_)⟩
      · rw [List.length_map, List.length_map]
        show _ ≤ 100000
        omega
      · show Wk _ [_, _, _, _, _, _, _, _, _, _, _, _, _, _, _, Sl.acc p15 (List.map dSt (es ++ r))]
        rw [List.map_append]
        exact wk_cons (wk_cons (wk_cons (wk_cons (wk_cons (wk_cons (wk_cons (wk_drop (wk_cons (wk_cons (wk_cons (wk_cons (wk_cons (wk_cons (wk_cons (wk_cons wk_nil)))))))))))))))
    · intro Wm lm
      rw [foldl_flatMap (fun r => r), List.nil_append, List.flatMap_id']
      refine st_freeze (i := 15) rfl (by rw [List.length_map]; show _ ≤ 100000; omega) (fun W6 l6 => ?_)
      refine st_retP (ep_make (ea_cons (ev_var rfl) ea_nil) ⟨rs.flatten, rfl, ?_, rfl⟩) ?_
      · show _ ≤ 100000
        omega
      · rintro v Wa Wb la lb ⟨x, rfl, pd, hO⟩
        rw [hld]
        exact ⟨x, pd, rfl, hO.base la⟩
end
end Fg

set_option Elab.async false
set_option linter.all false
set_option maxRecDepth 100000
set_option maxHeartbeats 4000000
/-! What the laws' own helpers come to. -/
namespace Fg
open PySem L2

/-! ### big products -/
def Lt2 (a : Int) (k : Nat) : Prop := a.natAbs < 2 ^ k
theorem log2_le {n k : Nat} (h : n < 2 ^ (k + 1)) : n.log2 ≤ k := by
  by_cases z : n = 0
  · subst z
    exact Nat.zero_le _
  · exact Nat.le_of_lt_succ ((Nat.log2_lt z).mpr h)
theorem Lt2.w {a b : Int} {k l : Nat} (ha : Lt2 a (k + 1)) (hb : Lt2 b (l + 1)) (h : k + l < 1000000) : CMulW a b := by
  have h1 := log2_le ha
  have h2 := log2_le hb
  show a.natAbs.log2 + b.natAbs.log2 < 1000000
  omega
theorem Lt2.mul {a b : Int} {k l : Nat} (ha : Lt2 a k) (hb : Lt2 b l) : Lt2 (a * b) (k + l) := by
  unfold Lt2 at *
  rw [Int.natAbs_mul, Nat.pow_add]
  exact Nat.mul_lt_mul'' ha hb
theorem Lt2.add {a b : Int} {k : Nat} (ha : Lt2 a k) (hb : Lt2 b k) : Lt2 (a + b) (k + 1) := by
  unfold Lt2 at *
  have := Int.natAbs_add_le a b
  rw [Nat.pow_succ]
  omega
theorem Lt2.up {a : Int} {k l : Nat} (ha : Lt2 a k) (h : k ≤ l) : Lt2 a l := Nat.lt_of_lt_of_le ha (Nat.pow_le_pow_right (by omega) h)
def iabs (a : Int) : Int := if a < 0 then -a else a
theorem iabs_nn (a : Int) : 0 ≤ iabs a := by
  unfold iabs
  split <;> omega
def lawNum (c at' wh : Int) : Int :=
  if 10 ^ 18 ≤ c then c / (1 + at' % 7)
  else ((((c % 10 ^ 18 + 977 * at') * 48271 + wh) % 2147483647) * (c % 10 ^ 18 + 31 * at' + 7)) * ((((c % 10 ^ 18 + 977 * at') * 48271 + wh) % 2147483647) + c % 10 ^ 18 + 5) * ((((c % 10 ^ 18 + 977 * at') * 48271 + wh) % 2147483647) * (((c % 10 ^ 18 + 977 * at') * 48271 + wh) % 2147483647) + 11) / (1009 + at')

/-! ### going -/
def Gok (fm : Farm) : Prop := ∀ g ∈ fm.gates, g.1 < g.2
theorem go_gate {fm : Farm} (hg : Gok fm) {a b : Int} (h : a ≠ b) : decide (norm a b ∈ fm.gates) = (decide ((a, b) ∈ fm.gates) || decide ((b, a) ∈ fm.gates)) := by
  rw [Bool.eq_iff_iff, Bool.or_eq_true, decide_eq_true_eq, decide_eq_true_eq, decide_eq_true_eq]
  unfold norm
  constructor
  · intro m
    by_cases q : a ≤ b
    · rw [Int.min_eq_left q, Int.max_eq_right q] at m
      exact .inl m
    · rw [Int.min_eq_right (by omega), Int.max_eq_left (by omega)] at m
      exact .inr m
  · rintro (m | m)
    · have := hg _ m
      dsimp only at this
      rw [Int.min_eq_left (by omega), Int.max_eq_right (by omega)]
      exact m
    · have := hg _ m
      dsimp only at this
      rw [Int.min_eq_right (by omega), Int.max_eq_left (by omega)]
      exact m
def dGo (fm : Farm) (fl st : List Int) (f p : Int) : D := if canGo fm fl st f p then dSt (bhd st f p) else .non
theorem nth_mem {ns : List Int} {i : Int} (h0 : 0 ≤ i) (h1 : i < ns.length) : nth ns i ∈ ns := by
  have := nth_get (ns := ns) (i := i.toNat) (by omega)
  rw [show ((i.toNat : Nat) : Int) = i by omega] at this
  rw [this]
  exact List.getElem_mem _
/-! ### sharing of rings -/
theorem lk_mapset {β : Type} (k o : List Int) (b : β) : ∀ c : List (List Int × β), lk (c.map fun p => if p.1 = k then (p.1, b) else p) o = if k = o then (if (lk c o).isSome then some b else none) else lk c o
  | [] => by simp [lk]
  | (q, v) :: c => by
    rw [List.map_cons]
    by_cases h : q = k
    · rw [show (if (q, v).1 = k then ((q, v).1, b) else (q, v)) = (q, b) from if_pos h, lk_cons, lk_cons, lk_mapset k o b c]
      by_cases h2 : k = o
      · have h3 : q = o := h.trans h2
        rw [if_pos h3, if_pos h2, if_pos h3]
        rfl
      · have h3 : ¬q = o := fun z => h2 (h ▸ z)
        rw [if_neg h3, if_neg h2, if_neg h2, if_neg h3]
    · rw [show (if (q, v).1 = k then ((q, v).1, b) else (q, v)) = (q, v) from if_neg h, lk_cons, lk_cons, lk_mapset k o b c]
      by_cases h3 : q = o
      · have h2 : ¬k = o := fun z => h (h3.trans z.symm)
        rw [if_pos h3, if_neg h2, if_pos h3]
      · rw [if_neg h3, if_neg h3]
theorem lk_pt {β : Type} (c : List (List Int × β)) (k o : List Int) (b : β) : lk (pt c k b) o = if k = o then some b else lk c o := by
  cases e : (lk c k).isSome with
  | false =>
    rw [pt_new e, lk_append, lk_cons]
    by_cases h : k = o
    · subst h
      rw [if_pos rfl, if_pos rfl, (by simpa using e : lk c k = none)]
      rfl
    · rw [if_neg h, if_neg h]
      have : lk ([] : List (List Int × β)) o = none := rfl
      rw [this]
      cases lk c o <;> rfl
  | true =>
    unfold pt
    rw [if_pos e, lk_mapset]
    by_cases h : k = o
    · subst h
      rw [if_pos rfl, if_pos rfl, if_pos e]
    · rw [if_neg h, if_neg h]
theorem lk_ring (i : Nat) (o : List Int) : ∀ (r : List (List Int)) (m : Met), (∀ v, lk m o = some v → v ≤ i) → lk (r.foldl (minAt i) m) o = match lk m o with
    | some v => some v
    | none => if o ∈ r then some (i : Int) else none
  | [], m, _ => by
    rw [List.foldl_nil]
    cases lk m o <;> rfl
  | k :: r, m, h => by
    rw [List.foldl_cons]
    have e1 : lk (minAt i m k) o = if k = o then some (min (i : Int) ((lk m k).getD (i : Int))) else lk m o := lk_pt ..
    rw [lk_ring i o r (minAt i m k) (by
      intro v hv
      rw [e1] at hv
      by_cases q : k = o
      · rw [if_pos q] at hv
        cases hv
        omega
      · rw [if_neg q] at hv
        exact h v hv), e1]
    by_cases q : k = o
    · subst q
      rw [if_pos rfl]
      cases e : lk m k with
      | none =>
        simp
      | some v =>
        have := h v e
        simp only [Option.getD_some]
        rw [Int.min_eq_right this]
    · rw [if_neg q]
      cases lk m o with
      | some v => rfl
      | none =>
        have : o ∈ k :: r ↔ o ∈ r := by
          rw [List.mem_cons]
          exact ⟨fun z => z.elim (fun e => absurd e.symm q) id, .inr⟩
        simp only [this]
theorem lk_metAll (o : List Int) : ∀ (rs : List (List (List Int))) (k : Nat) (m : Met), (∀ v, lk m o = some v → v ≤ k) → lk ((rs.zipIdx k).foldl metRing m) o = match lk m o with
    | some v => some v
    | none => (rs.findIdx? fun r => decide (o ∈ r)).map fun j => ((k + j : Nat) : Int)
  | [], k, m, _ => by
    rw [List.zipIdx_nil, List.foldl_nil]
    cases lk m o <;> rfl
  | r :: rs, k, m, h => by
    rw [List.zipIdx_cons, List.foldl_cons]
    have e1 := lk_ring k o r m h
    have e2 : metRing m (r, k) = r.foldl (minAt k) m := rfl
    rw [lk_metAll o rs (k + 1) (metRing m (r, k)) (by
      intro v hv
      rw [e2, e1] at hv
      cases e : lk m o with
      | some u =>
        rw [e] at hv
        cases hv
        have := h _ e
        omega
      | none =>
        rw [e] at hv
        dsimp only at hv
        split at hv
        · cases hv
          omega
        · cases hv), e2, e1]
    cases e : lk m o with
    | some u => rfl
    | none =>
      dsimp only
      rw [List.findIdx?_cons]
      by_cases q : o ∈ r
      · rw [if_pos q, if_pos (by simpa using q)]
        rfl
      · rw [if_neg q, if_neg (by simpa using q)]
        dsimp only
        cases rs.findIdx? fun r => decide (o ∈ r) with
        | none => rfl
        | some j =>
          show some _ = some _
          congr 1
          show ((k + 1 + j : Nat) : Int) = ((k + (j + 1) : Nat) : Int)
          omega
theorem met_le (rs : List (List (List Int))) (o : List Int) {i : Nat} (hi : i + 1 < rs.length) : decide ((lk (metAll rs) o).getD (rs.length : Int) ≤ (i : Int) + 1) = decide (o ∈ (rs.take (i + 2)).flatten) := by
  have e := lk_metAll o rs 0 [] (fun v hv => by cases hv)
  unfold metAll
  rw [e, decide_eq_decide]
  have e0 : lk ([] : Met) o = none := rfl
  rw [e0]
  dsimp only
  constructor
  · intro h
    cases e2 : rs.findIdx? fun r => decide (o ∈ r) with
    | none =>
      rw [e2] at h
      have h : (rs.length : Int) ≤ (i : Int) + 1 := h
      omega
    | some j =>
      rw [e2] at h
      have h : ((0 + j : Nat) : Int) ≤ (i : Int) + 1 := h
      rw [List.findIdx?_eq_some_iff_getElem] at e2
      obtain ⟨hj, h1, _⟩ := e2
      refine List.mem_flatten.mpr ⟨rs[j], List.mem_iff_getElem.mpr ⟨j, by rw [List.length_take]; omega, by rw [List.getElem_take]⟩, of_decide_eq_true h1⟩
  · intro h
    obtain ⟨r, hr, ho⟩ := List.mem_flatten.mp h
    obtain ⟨j, hj, rfl⟩ := List.mem_iff_getElem.mp hr
    rw [List.length_take] at hj
    rw [List.getElem_take] at ho
    cases e2 : rs.findIdx? fun r => decide (o ∈ r) with
    | none =>
      rw [List.findIdx?_eq_none_iff] at e2
      have := e2 rs[j] (List.getElem_mem _)
      simp [ho] at this
    | some k =>
      rw [List.findIdx?_eq_some_iff_getElem] at e2
      obtain ⟨hk, h1, h2⟩ := e2
      have hkj : k ≤ j := by
        refine Nat.le_of_not_lt fun z => ?_
        exact h2 j z (decide_eq_true ho)
      show ((0 + k : Nat) : Int) ≤ (i : Int) + 1
      omega
/-- as the law has it: all that the rings tell, by looks -/
def lawLed (fm : Farm) (fl st : List Int) (w : List (Option Int)) (de : List (Int × Int)) (rs : List (List (List Int))) : Bool :=
  if (firstBad fm fl 0 st de).1.isSome || (!asWished (firstBad fm fl 0 st de).2 w || !decide (rs.length = de.length)) then false
  else if rs.any (fun r => r.any (badOne fm fl w)) then false
  else if !decide (rs = []) && !decide (st ∈ rs.headD []) then false
  else (List.range (rs.length - 1)).all fun i => (rs.getD i []).all fun t => (nextsOf fm fl t).all fun o => decide (o ∈ (rs.take (i + 2)).flatten)
theorem lawLed_eq (fm : Farm) (fl st : List Int) (w : List (Option Int)) (de : List (Int × Int)) (rs : List (List (List Int))) : lawLed fm fl st w de rs = ledShows fm fl st w de rs := by
  unfold lawLed ledShows
  split
  · rfl
  by_cases h : rs = []
  · subst h
    rfl
  rw [if_neg h]
  split
  · rfl
  rw [decide_eq_false h, Bool.not_false, Bool.true_and]
  split
  · rfl
  rw [Bool.eq_iff_iff, List.all_eq_true, List.all_eq_true]
  have hl := List.length_pos_iff.mpr h
  constructor
  · intro q z hz
    have h1 := List.mem_zipIdx hz
    obtain ⟨i, hi⟩ : ∃ i, z.2 = i := ⟨_, rfl⟩
    have h2 := q z.2 (List.mem_range.mpr (by rw [List.length_dropLast] at h1; omega))
    have h4 : z.2 < rs.dropLast.length := by omega
    have h3 : rs.getD z.2 [] = z.1 := by
      rw [List.length_dropLast] at h4
      rw [h1.2.2, List.getD_eq_getElem?_getD, List.getElem?_eq_getElem (by omega), List.getElem_dropLast]
      rfl
    rw [h3] at h2
    rw [List.all_eq_true] at h2 ⊢
    intro t ht
    have h5 := h2 t ht
    unfold ledOk
    rw [List.all_eq_true] at h5 ⊢
    intro o ho
    rw [List.length_dropLast] at h4
    rw [met_le rs o (by omega)]
    exact h5 o ho
  · intro q i hi
    have hi2 := List.mem_range.mp hi
    have h1 := q (rs.getD i [], i) (by
      rw [List.mem_zipIdx_iff_getElem?, List.getElem?_dropLast, if_pos (by omega), List.getD_eq_getElem?_getD, List.getElem?_eq_getElem (by omega)]
      rfl)
    rw [List.all_eq_true] at h1 ⊢
    intro t ht
    have h5 := h1 t ht
    unfold ledOk at h5
    rw [List.all_eq_true] at h5 ⊢
    intro o ho
    have := h5 o ho
    rw [met_le rs o (by omega)] at this
    exact this
/-! ### dicts of stands -/
structure KInv (fm : Farm) (fl : List Int) {β : Type} (c : List (List Int × β)) : Prop where
  nd : (c.map (·.1)).Nodup
  st : ∀ t ∈ c.map (·.1), Std fm fl t
theorem KInv.len {fm : Farm} {fl : List Int} {β : Type} {c : List (List Int × β)} (h : KInv fm fl c) (hr : fm.rooms.length ≤ 6) (hf : fl.length ≤ 4) : c.length ≤ 1296 := by
  have := std_card hr hf h.nd h.st
  rwa [List.length_map] at this
theorem KInv.put {fm : Farm} {fl : List Int} {β : Type} {c : List (List Int × β)} (h : KInv fm fl c) {t : List Int} (ht : Std fm fl t) (b : β) : KInv fm fl (pt c t b) := by
  refine ⟨?_, fun u hu => ?_⟩
  · rw [keys_pt]
    split
    · exact h.nd
    · rename_i q
      exact List.nodup_append.mpr ⟨h.nd, by simp, fun a ha b hb => by
        rw [List.mem_singleton.mp hb]
        exact fun z => q (z ▸ ha)⟩
  · rw [keys_pt] at hu
    split at hu
    · exact h.st u hu
    · rcases List.mem_append.mp hu with hu | hu
      · exact h.st u hu
      · rw [List.mem_singleton.mp hu]
        exact ht
def addK (c : List (List Int × D)) (t : List Int) : List (List Int × D) := pt c t (.bl true)
def addKs (c : List (List Int × D)) (r : List (List Int)) : List (List Int × D) := r.foldl addK c
theorem addKs_inv {fm : Farm} {fl : List Int} : ∀ {r : List (List Int)} {c : List (List Int × D)}, KInv fm fl c → (∀ t ∈ r, Std fm fl t) → KInv fm fl (addKs c r)
  | [], _, h, _ => h
  | t :: r, c, h, ht => addKs_inv (r := r) (h.put (ht t (List.mem_cons_self ..)) _) fun u hu => ht u (List.mem_cons_of_mem _ hu)
theorem addKss_inv {fm : Farm} {fl : List Int} : ∀ {rs : List (List (List Int))} {c : List (List Int × D)}, KInv fm fl c → (∀ r ∈ rs, ∀ t ∈ r, Std fm fl t) → KInv fm fl (rs.foldl addKs c)
  | [], _, h, _ => h
  | r :: rs, c, h, ht => addKss_inv (rs := rs) (addKs_inv h (ht r (List.mem_cons_self ..))) fun u hu => ht u (List.mem_cons_of_mem _ hu)
theorem addKs_mem {o : List Int} : ∀ {r : List (List Int)} {c : List (List Int × D)}, (lk (addKs c r) o).isSome = ((lk c o).isSome || decide (o ∈ r))
  | [], c => by simp [addKs]
  | t :: r, c => by
    have := addKs_mem (o := o) (r := r) (c := addK c t)
    unfold addKs at this ⊢
    rw [List.foldl_cons, this]
    unfold addK
    rw [lk_pt]
    by_cases h : t = o
    · rw [if_pos h]
      simp [h]
    · rw [if_neg h]
      have : o ∈ t :: r ↔ o ∈ r := by
        rw [List.mem_cons]
        exact ⟨fun z => z.elim (fun e => absurd e.symm h) id, .inr⟩
      simp only [this]
theorem addKss_mem {o : List Int} : ∀ {rs : List (List (List Int))} {c : List (List Int × D)}, (lk (rs.foldl addKs c) o).isSome = ((lk c o).isSome || decide (o ∈ rs.flatten))
  | [], c => by simp
  | r :: rs, c => by
    rw [List.foldl_cons, addKss_mem (rs := rs), addKs_mem, List.flatten_cons, Bool.or_assoc]
    congr 1
    rw [Bool.eq_iff_iff]
    simp
def lawNever (fm : Farm) (fl st : List Int) (w : List (Option Int)) (ss : List (List Int)) : Bool :=
  if !decide (st ∈ ss) then false else ss.all fun t => !(!isStand fm fl t || asWished t w) && !((nextsOf fm fl t).any fun o => !decide (o ∈ ss))
theorem any_not {α : Type} (p : α → Bool) (as : List α) : (as.any fun a => !p a) = !as.all p := by
  induction as with
  | nil => rfl
  | cons a as ih =>
    rw [List.any_cons, List.all_cons, ih]
    cases p a <;> simp
theorem lawNever_eq (fm : Farm) (fl st : List Int) (w : List (Option Int)) (ss : List (List Int)) : lawNever fm fl st w ss = neverShows fm fl st w ss := by
  unfold lawNever neverShows
  cases h : decide (st ∈ ss) with
  | false => rfl
  | true =>
    simp only [Bool.not_true, Bool.false_or, Bool.false_eq_true, if_false]
    cases h2 : ss.all (isStand fm fl) with
    | false =>
      rw [Bool.not_false, if_pos rfl, List.all_eq_false]
      rw [List.all_eq_false] at h2
      obtain ⟨t, ht, hs⟩ := h2
      exact ⟨t, ht, by simp [hs]⟩
    | true =>
      rw [Bool.not_true, if_neg Bool.false_ne_true, Bool.eq_iff_iff, List.all_eq_true, List.all_eq_true]
      rw [List.all_eq_true] at h2
      constructor
      · intro q t ht
        have := q t ht
        rw [any_not, h2 t ht] at this
        rw [Bool.not_or]
        simpa using this
      · intro q t ht
        have := q t ht
        rw [any_not, h2 t ht]
        rw [Bool.not_or] at this
        simpa using this
theorem uStep_t {α : Type} {p : α → Bool} {u : Unit} {a : α} (h : p a = true) : uStep p u a = .ok () := if_pos h
theorem uStep_f {α : Type} {p : α → Bool} {u : Unit} {a : α} (h : p a = false) : uStep p u a = .error () := if_neg (by rw [h]; exact Bool.false_ne_true)
end Fg

set_option Elab.async false
set_option linter.all false
set_option maxRecDepth 100000
set_option maxHeartbeats 4000000
namespace Fg
open PySem L2 RZ
local macro_rules | `(tactic| walk_at "bo") => `(tactic| simp only [Bool.or_eq_false_iff, Bool.or_eq_true, Bool.and_eq_true, Bool.not_eq_true', Bool.not_eq_false', Bool.not_eq_true, Bool.not_eq_false, decide_eq_true_eq, decide_eq_false_iff_not, Bool.true_eq_false, Bool.false_eq_true, Bool.and_eq_false_imp] at *)
local macro_rules | `(tactic| walk_at "sd") => `(tactic| first
  | assumption
  | exact rfl
  | omega
  | (refine at_ints ?_; first | omega | (walk_at "bo"; omega) | skip)
  | exact Nat.le_of_ble_eq_true rfl
  | (show _ ≤ cap; first | decide | omega | (simp only [List.length_map, List.length_append]; omega))
  | (walk_at "bo"; omega)
  | skip)
local macro_rules | `(tactic| walk_at "ea") => `(tactic| first
  | exact ea_nil
  | (apply ea_cons; (focus walk_at "ev"); walk_at "ea"))
local macro_rules | `(tactic| walk_at "eh") => `(tactic| first
  | exact ev_varA rfl (by first | assumption | omega | decide)
  | exact ev_varK rfl (by first | assumption | omega | decide)
  | (apply EvD.h; walk_at "ev"))
local macro_rules | `(tactic| walk_at "el") => `(tactic| first
  | ((with_reducible apply el_lst); (focus walk_at "ea"); walk_at "sd")
  | ((with_reducible apply el_cat); (focus walk_at "ev"); (focus walk_at "ev"); walk_at "sd")
  | ((with_reducible apply el_sl); (focus walk_at "ev"); (focus walk_at "eo"); (focus walk_at "eo"))
  | ((with_reducible apply el_list); walk_at "ev")
  | ((with_reducible apply el_listT); walk_at "ev")
  | ((with_reducible apply el_rev); walk_at "ev"))
local macro_rules | `(tactic| walk_at "eo") => `(tactic| first
  | exact eo_none
  | (apply eo_some; walk_at "ev"))
local macro_rules | `(tactic| walk_at "ev") => `(tactic| first
  | exact ev_int | exact ev_bl | exact ev_non | exact ev_str
  | exact ev_var rfl
  | ((with_reducible apply ev_add); (focus walk_at "ev"); walk_at "ev")
  | ((with_reducible apply ev_sub); (focus walk_at "ev"); walk_at "ev")
  | ((with_reducible apply ev_lt); (focus walk_at "ev"); walk_at "ev")
  | ((with_reducible apply ev_le); (focus walk_at "ev"); walk_at "ev")
  | ((with_reducible apply ev_gt); (focus walk_at "ev"); walk_at "ev")
  | ((with_reducible apply ev_ge); (focus walk_at "ev"); walk_at "ev")
  | ((with_reducible apply ev_eqI); (focus walk_at "ev"); (focus walk_at "ev"); done)
  | ((with_reducible apply ev_neI); (focus walk_at "ev"); (focus walk_at "ev"); done)
  | ((with_reducible apply ev_mulW); (focus walk_at "ev"); (focus walk_at "ev"); walk_at "sd")
  | ((with_reducible apply ev_fdiv); (focus walk_at "ev"); (focus walk_at "ev"); walk_at "sd")
  | ((with_reducible apply ev_mod); (focus walk_at "ev"); (focus walk_at "ev"); walk_at "sd")
  | ((with_reducible apply ev_neg); walk_at "ev")
  | ((with_reducible apply ev_ixT); (focus walk_at "ev"); (focus walk_at "ev"); walk_at "sd")
  | (with_reducible apply ev_ixA rfl ?_ ?_; (focus walk_at "ev"); walk_at "sd")
  | ((with_reducible apply ev_ixL); (focus walk_at "ev"); (focus walk_at "ev"); walk_at "sd")
  | (with_reducible apply ev_lenA rfl)
  | ((with_reducible apply ev_lenLM); walk_at "eh"; done)
  | ((with_reducible apply ev_lenTM); walk_at "eh"; done)
  | ((with_reducible apply ev_lenL); walk_at "eh")
  | ((with_reducible apply ev_lenT); walk_at "eh")
  | ((with_reducible apply ev_lenK); walk_at "eh")
  | ((with_reducible apply ev_isN); walk_at "eh")
  | ((with_reducible apply ev_notN); walk_at "eh")
  | ((with_reducible apply ev_inT); (focus walk_at "ev"); walk_at "ev")
  | ((with_reducible apply ev_inD); (focus walk_at "eh"); (focus walk_at "eh"); all_goals walk_at "sh")
  | ((with_reducible apply ev_notInD); (focus walk_at "eh"); (focus walk_at "eh"); all_goals walk_at "sh")
  | ((with_reducible apply ev_eqD); (focus walk_at "eh"); (focus walk_at "eh"); all_goals walk_at "sh")
  | ((with_reducible apply ev_neD); (focus walk_at "eh"); (focus walk_at "eh"); all_goals walk_at "sh")
  | ((with_reducible apply ev_all); walk_at "eh")
  | ((with_reducible apply ev_any); walk_at "eh")
  | ((with_reducible apply ev_sum); walk_at "eh")
  | ((with_reducible apply ev_lenSet); (focus walk_at "ev"); walk_at "sd")
  | ((with_reducible apply ev_isaI); (focus walk_at "eh"); walk_at "sd")
  | ((with_reducible apply ev_isaB); (focus walk_at "eh"); walk_at "sd")
  | ((with_reducible apply ev_isaL); (focus walk_at "eh"); walk_at "sd")
  | ((with_reducible apply ev_isaT); (focus walk_at "eh"); walk_at "sd")
  | ((with_reducible apply ev_tup); (focus walk_at "ea"); walk_at "sd")
  | ((with_reducible apply ev_catT); (focus walk_at "ev"); (focus walk_at "ev"); walk_at "sd")
  | ((with_reducible apply ev_slT); (focus walk_at "ev"); (focus walk_at "eo"); (focus walk_at "eo"))
  | ((with_reducible apply ev_max2); (focus walk_at "ev"); walk_at "ev")
  | ((with_reducible apply ev_min2); (focus walk_at "ev"); walk_at "ev")
  | ((with_reducible apply ev_abs); walk_at "ev")
  | ((with_reducible apply ev_chain); (focus walk_at "ev"); (focus walk_at "ev"); intro _; walk_at "ev")
  | ((with_reducible apply ev_and); (focus walk_at "ev"); intro _; walk_at "ev")
  | ((with_reducible apply ev_or); (focus walk_at "ev"); intro _; walk_at "ev")
  | ((with_reducible apply ev_not); walk_at "ev")
  | (apply EvL.fz; (focus walk_at "el"); walk_at "sd"))
local macro_rules | `(tactic| walk_at "et") => `(tactic| first
  | ((with_reducible apply et_test); walk_at "ev")
  | ((with_reducible apply et_B); walk_at "ev")
  | ((with_reducible apply et_and); (focus walk_at "et"); intro _; walk_at "et")
  | ((with_reducible apply et_or); (focus walk_at "et"); intro _; walk_at "et")
  | ((with_reducible apply et_not); walk_at "et"))
local macro_rules | `(tactic| walk_at "sh") => `(tactic| first
  | exact (sh_tup2 (sh_int _) (sh_int _)).shp (by decide) | exact (sh_pr _).shp (by decide) | exact (sh_prs _).shp (by decide) | exact (sh_st _).shp (by decide) | exact (sh_is _).shp (by decide) | exact (sh_ws _).shp (by decide) | exact (sh_rg _).shp (by decide) | exact (sh_rgs _).shp (by decide) | exact (sh_fm _).shp (by decide)
  | exact sh_nil.shp (by decide) | exact (sh_bls _).shp (by decide) | decide +kernel | skip)

/-- the classes, and whose instance is whose -/
structure Tc (K : PySem.W.Frag) (mg : Str → Option Value) (A : Adr) : Prop where
  c_Answer : mg "Answer" = some (.ref A.c_Answer)
  c_Led : mg "Led" = some (.ref A.c_Led)
  c_Never : mg "Never" = some (.ref A.c_Never)
  c_Fine : mg "Fine" = some (.ref A.c_Fine)
  c_Halt : mg "Halt" = some (.ref A.c_Halt)
  c_Off : mg "Off" = some (.ref A.c_Off)
  lA : PySem.W.kitOne K (.ref A.c_Led) (.ref A.c_Answer) = some true
  lL : PySem.W.kitOne K (.ref A.c_Led) (.ref A.c_Led) = some true
  lN : PySem.W.kitOne K (.ref A.c_Led) (.ref A.c_Never) = some false
  lF : PySem.W.kitOne K (.ref A.c_Led) (.ref A.c_Fine) = some false
  lH : PySem.W.kitOne K (.ref A.c_Led) (.ref A.c_Halt) = some false
  lO : PySem.W.kitOne K (.ref A.c_Led) (.ref A.c_Off) = some false
  nA : PySem.W.kitOne K (.ref A.c_Never) (.ref A.c_Answer) = some true
  nL : PySem.W.kitOne K (.ref A.c_Never) (.ref A.c_Led) = some false
  nN : PySem.W.kitOne K (.ref A.c_Never) (.ref A.c_Never) = some true
  nF : PySem.W.kitOne K (.ref A.c_Never) (.ref A.c_Fine) = some false
  nH : PySem.W.kitOne K (.ref A.c_Never) (.ref A.c_Halt) = some false
  nO : PySem.W.kitOne K (.ref A.c_Never) (.ref A.c_Off) = some false
section
variable {P : Program} {w : World} {K : PySem.W.Frag} {mg : Str → Option Value} {base : Heap} {A : Adr}
abbrev s__law_number : Stmt := top 49
theorem sc__law_number : FnScope ["_law_cell", "_law_at", "_law_whole", "_law_small", "_law_blend", "_law_more"] ["_law_cell", "_law_at", "_law_whole"] (defScope s__law_number) := ⟨rfl, rfl, rfl, by decide +kernel, rfl, by decide +kernel, by decide +kernel⟩
def gLawNum : List D → D → Prop := fun ds r => ∃ c a wh : Int, ds = [.int c, .int a, .int wh] ∧ 0 ≤ a ∧ a ≤ 1000 ∧ r = .int (lawNum c a wh)
theorem ok_law_number {f : Addr} {fd : FuncData} (F : Fun K "_law_number" "_law_number" s__law_number f fd) (T : Tp mg) : FnOk P w K mg base CX0 1 f fd ["_law_cell", "_law_at", "_law_whole"] (Pure gLawNum) := by
  refine fn_pure F sc__law_number (fun ds r h => by obtain ⟨_, _, _, rfl, _⟩ := h; rfl) (fun cdv A2 outer s H E hr ds r hg => ?_)
  obtain ⟨c, a, wh, rfl, h0, h1, rfl⟩ := hg
  refine ⟨_, (pss_cons (ps_if (pt_cmpR op_ge (pv 0) (pe_op op_pow pe_int pe_int) (nomark _)) (pss_one (ps_ret (pe_op op_fdiv (pv 0) (pe_op op_add pe_int (pe_op op_mod (pv 1) pe_int))))) pss_nil)
  (pss_cons (ps_sv 3 sc__law_number.nd (pe_op op_mod (pv 0) (pe_op op_pow pe_int pe_int)))
  (pss_cons (ps_sv 4 sc__law_number.nd (pe_op op_mod (pe_op op_add (pe_op op_mulW (pe_op op_add (pv 3) (pe_op op_mulW pe_int (pv 1))) pe_int) (pv 2)) pe_int))
  (pss_cons (ps_sv 5 sc__law_number.nd (pe_op op_mulW (pv 4) (pe_op op_add (pe_op op_add (pv 3) (pe_op op_mulW pe_int (pv 1))) pe_int)))
  (pss_one (ps_ret (pe_op op_fdiv (pe_op op_mulW (pe_op op_mulW (pv 5) (pe_op op_add (pe_op op_add (pv 4) (pv 3)) pe_int)) (pe_op op_add (pe_op op_mulW (pv 4) (pv 4)) pe_int)) (pe_op op_add pe_int (pv 1))))))))), fun W0 => ?_⟩
  have b1 : 0 ≤ c % 10 ^ 18 ∧ c % 10 ^ 18 < 10 ^ 18 := ⟨Int.emod_nonneg _ (by decide), Int.emod_lt_of_pos _ (by decide)⟩
  have hp : CPow 10 18 := ⟨by decide, by decide, by decide⟩
  generalize hbl : ((c % 10 ^ 18 + 977 * a) * 48271 + wh) % 2147483647 = bl
  have b2 : 0 ≤ bl ∧ bl < 2147483647 := by
    subst hbl
    exact ⟨Int.emod_nonneg _ (by decide), Int.emod_lt_of_pos _ (by decide)⟩
  have z1 : Lt2 bl 33 := by unfold Lt2; omega
  have z2 : Lt2 (c % 10 ^ 18 + 31 * a + 7) 65 := by unfold Lt2; omega
  have z3 : Lt2 (bl + c % 10 ^ 18 + 5) 65 := by unfold Lt2; omega
  have z4 : Lt2 (c % 10 ^ 18 + 977 * a) 65 := by unfold Lt2; omega
  have z5 : Lt2 a 65 := by unfold Lt2; omega
  have z6 := z1.mul z2
  have z7 := z6.mul z3
  have z8 : Lt2 (bl * bl + 11) 67 := ((z1.mul z1).add (k := 66) (by unfold Lt2; decide)).up (by decide)
  refine st_seq (st_when (et_test (ev_ge (ev_var rfl) (ev_pow ev_int ev_int hp))) (fun hb W1 l1 => st_ret (ev_fdiv (ev_var rfl) (ev_add ev_int (ev_mod (ev_var rfl) ev_int (by decide))) ⟨by omega, by omega⟩) ?_) (fun hb W1 l1 => ?_))
  · unfold lawNum
    rw [if_pos (by simpa using hb)]
  · refine st_seq (st_asgD (ev_mod (ev_var rfl) (ev_pow ev_int ev_int hp) (by decide)) (fun W2 l2 => ?_))
    refine st_seq (st_asgD (ev_mod (ev_add (ev_mulW (ev_add (ev_var rfl) (ev_mulW ev_int (ev_var rfl) (Lt2.w (k := 64) (l := 64) (by unfold Lt2; decide) z5 (by decide)))) ev_int (Lt2.w (k := 64) (l := 64) z4 (by unfold Lt2; decide) (by decide))) (ev_var rfl)) ev_int (by decide)) (fun W3 l3 => ?_))
    rw [show ((c % 10 ^ (18 : Int).toNat + 977 * a) * 48271 + wh) % 2147483647 = bl from hbl, show (10 : Int) ^ (18 : Int).toNat = 10 ^ 18 from rfl]
    refine st_seq (st_asgD (ev_mulW (ev_var rfl) (ev_add (ev_add (ev_var rfl) (ev_mulW ev_int (ev_var rfl) (Lt2.w (k := 64) (l := 64) (by unfold Lt2; decide) z5 (by decide)))) ev_int) (Lt2.w z1 z2 (by decide))) (fun W4 l4 => ?_))
    refine st_ret (ev_fdiv (ev_mulW (ev_mulW (ev_var rfl) (ev_add (ev_add (ev_var rfl) (ev_var rfl)) ev_int) (Lt2.w (k := 97) z6 z3 (by decide))) (ev_add (ev_mulW (ev_var rfl) (ev_var rfl) (Lt2.w z1 z1 (by decide))) ev_int) (Lt2.w (k := 162) z7 z8 (by decide))) (ev_add ev_int (ev_var rfl)) ⟨by omega, by omega⟩) ?_
    unfold lawNum
    rw [if_neg (by simpa using hb), hbl]
def gLawGo : List D → D → Prop := fun ds r => ∃ (fm : Farm) (fl st : List Int) (f p : Int), ds = [dFm fm, dIs fl, dSt st, .int f, .int p] ∧ Gok fm ∧ st.length = fl.length ∧ st.length ≤ 4 ∧ r = dGo fm fl st f p
def gLawNexts : List D → D → Prop := fun ds r => ∃ (fm : Farm) (fl st : List Int), ds = [dFm fm, dIs fl, dSt st] ∧ Gok fm ∧ Sz fm fl st ∧ r = dRg (nextsOf fm fl st)
def rowOf (fm : Farm) (fl st : List Int) (i : Nat) : List (List Int) := (deedsAt fm fl st i).map fun d => bhd st d.1 d.2
theorem rowOf_all (fm : Farm) (fl st : List Int) : (List.range fl.length).flatMap (rowOf fm fl st) = nextsOf fm fl st := by
  unfold nextsOf deedsOf
  rw [List.map_flatMap]
  rfl
theorem rowOf_le {fm : Farm} {fl st : List Int} (h : Sz fm fl st) (i : Nat) : (rowOf fm fl st i).length ≤ 6 := by
  unfold rowOf
  rw [List.length_map]
  exact Nat.le_trans (deedsAt_le ..) h.r
theorem rowOf_go (fm : Farm) (fl st : List Int) (i : Nat) : (((List.range fm.rooms.length).map fun (j : Nat) => dGo fm fl st (i : Int) (j : Int)).filter fun d => !d.isN) = (rowOf fm fl st i).map dSt := by
  unfold rowOf deedsAt
  rw [List.map_map, List.map_map, List.filter_map]
  have e : ((fun d : D => !d.isN) ∘ fun (j : Nat) => dGo fm fl st (i : Int) (j : Int)) = fun (j : Nat) => canGo fm fl st (i : Int) (j : Int) := by
    funext j
    show (!(dGo fm fl st i j).isN) = _
    unfold dGo
    split
    · rename_i h
      rw [h]
      rfl
    · rename_i h
      rw [(by simpa using h : canGo fm fl st (i : Int) (j : Int) = false)]
      rfl
  rw [e]
  apply List.map_congr_left
  intro j hj
  show dGo fm fl st i j = _
  unfold dGo
  rw [if_pos (List.mem_filter.mp hj).2]
  rfl
def gLawWished : List D → D → Prop := gAsWished
def endAt (o : Option Nat) : Int := match o with
  | none => -1
  | some n => (n : Int)
def gLawEnd : List D → D → Prop := fun ds r => ∃ (fm : Farm) (fl st : List Int) (de : List (Int × Int)), ds = [dFm fm, dIs fl, dSt st, dPrs de] ∧ Gok fm ∧ st.length = fl.length ∧ st.length ≤ 4 ∧ r = .tup [.int (endAt (firstBad fm fl 0 st de).1), dSt (firstBad fm fl 0 st de).2]
def gLawLed : List D → D → Prop := fun ds r => ∃ (fm : Farm) (fl st : List Int) (wi : List (Option Int)) (de : List (Int × Int)) (rs : List (List (List Int))), ds = [dFm fm, dIs fl, dSt st, dWs wi, dPrs de, dRgs rs] ∧ Gok fm ∧ fm.rooms.length ≤ 6 ∧ fl.length ≤ 4 ∧ st.length = fl.length ∧ rs.length ≤ cap ∧
  (∀ r ∈ rs, r.length ≤ cap ∧ ∀ t ∈ r, t.length ≤ 4000) ∧ r = .bl (ledShows fm fl st wi de rs)
def gLawNever : List D → D → Prop := fun ds r => ∃ (fm : Farm) (fl st : List Int) (wi : List (Option Int)) (ss : List (List Int)), ds = [dFm fm, dIs fl, dSt st, dWs wi, dRg ss] ∧ Gok fm ∧ fm.rooms.length ≤ 6 ∧ fl.length ≤ 4 ∧ ss.length ≤ cap ∧ (∀ t ∈ ss, t.length ≤ 4000) ∧ r = .bl (neverShows fm fl st wi ss)
/-- an answer told: deeds and rings, or stands -/
abbrev Ans := (List (Int × Int) × List (List (List Int))) ⊕ List (List Int)
def dAns (A : Adr) : Ans → D
  | .inl q => dLed A.c_Led q.1 q.2
  | .inr ss => dNev A.c_Never ss
def ansShows (fm : Farm) (fl st : List Int) (w : List (Option Int)) : Ans → Bool
  | .inl q => ledShows fm fl st w q.1 q.2
  | .inr ss => neverShows fm fl st w ss
def AnsOk : Ans → Prop
  | .inl q => q.2.length ≤ cap ∧ ∀ r ∈ q.2, r.length ≤ cap ∧ ∀ t ∈ r, t.length ≤ 4000
  | .inr ss => ss.length ≤ cap ∧ ∀ t ∈ ss, t.length ≤ 4000
end
end Fg

set_option Elab.async false
set_option linter.all false
set_option maxRecDepth 100000
set_option maxHeartbeats 4000000
/-! How far all stands are: the law's own walk. -/
namespace Fg
open PySem L2

inductive Pth (fm : Farm) (fl st : List Int) : Nat → List Int → Prop
  | zero : Pth fm fl st 0 st
  | succ {n : Nat} {t : List Int} {d : Int × Int} : Pth fm fl st n t → d ∈ deedsOf fm fl t → Pth fm fl st (n + 1) (bhd t d.1 d.2)
theorem Pth.std {fm : Farm} {fl st : List Int} (h : Std fm fl st) {n : Nat} {t : List Int} (p : Pth fm fl st n t) : Std fm fl t := by
  induction p with
  | zero => exact h
  | succ _ hd ih => exact ih.bhd (mem_deedsOf hd)
theorem lk_get {β : Type} : ∀ {m : List (List Int × β)} {a : Nat} {t : List Int} {i : β}, (m.map (·.1)).Nodup → m[a]? = some (t, i) → lk m t = some i
  | (q, v) :: m, 0, t, i, _, e => by
    cases e
    rw [lk_cons, if_pos rfl]
  | (q, v) :: m, a + 1, t, i, nd, e => by
    rw [List.map_cons, List.nodup_cons] at nd
    have e2 : m[a]? = some (t, i) := by simpa using e
    rw [lk_cons, if_neg, lk_get nd.2 e2]
    intro z
    exact nd.1 (List.mem_map.mpr ⟨(t, i), List.mem_of_getElem? e2, z.symm⟩)
theorem get_lk {β : Type} : ∀ {m : List (List Int × β)} {t : List Int} {i : β}, lk m t = some i → ∃ a : Nat, m[a]? = some (t, i)
  | [], t, i, e => by cases e
  | (q, v) :: m, t, i, e => by
    rw [lk_cons] at e
    by_cases h : q = t
    · rw [if_pos h] at e
      cases e
      exact ⟨0, by rw [h]; rfl⟩
    · rw [if_neg h] at e
      obtain ⟨a, ha⟩ := get_lk e
      exact ⟨a + 1, by simpa using ha⟩
structure FarSpec (fm : Farm) (fl st : List Int) (m : Met) : Prop where
  inv : KInv fm fl m
  s0 : lk m st = some 0
  pa : ∀ t i, lk m t = some i → ∃ n : Nat, i = n ∧ Pth fm fl st n t
  cl : ∀ t i, lk m t = some i → ∀ d ∈ deedsOf fm fl t, ∃ j, lk m (bhd t d.1 d.2) = some j ∧ j ≤ i + 1
/-- one of the next ones -/
def farAdd (i : Int) (m : Met) (o : List Int) : Met := if (lk m o).isSome then m else pt m o (i + 1)
structure FI (fm : Farm) (fl st : List Int) (i : Nat) (m : Met) (os : List (List Int)) (m' : Met) : Prop where
  ext : ∃ ex : Met, m' = m ++ ex ∧ ∀ q ∈ ex, q.2 = (i : Int) + 1
  inv : KInv fm fl m'
  pa : ∀ t v, lk m' t = some v → ∃ n : Nat, v = n ∧ Pth fm fl st n t
  dn : ∀ o ∈ os, ∃ j, lk m' o = some j ∧ j ≤ (i : Int) + 1
  le : ∀ t v, lk m' t = some v → v ≤ (i : Int) + 1
theorem FI.add {fm : Farm} {fl st : List Int} {i : Nat} {m m' : Met} {os : List (List Int)} (h : FI fm fl st i m os m') {o : List Int} (ho : Std fm fl o) (hp : Pth fm fl st (i + 1) o) : FI fm fl st i m (os ++ [o]) (farAdd i m' o) := by
  unfold farAdd
  cases q : (lk m' o).isSome with
  | true =>
    rw [if_pos rfl]
    refine ⟨h.ext, h.inv, h.pa, fun u hu => ?_, h.le⟩
    rcases List.mem_append.mp hu with hu | hu
    · exact h.dn u hu
    · rw [List.mem_singleton.mp hu]
      obtain ⟨v, hv⟩ := some_of_is q
      exact ⟨v, hv, h.le _ _ hv⟩
  | false =>
    rw [if_neg Bool.false_ne_true]
    obtain ⟨ex, e1, e2⟩ := h.ext
    refine ⟨⟨ex ++ [(o, (i : Int) + 1)], by rw [pt_new q, e1, List.append_assoc], fun x hx => ?_⟩, h.inv.put ho _, fun t v hv => ?_, fun u hu => ?_, fun t v hv => ?_⟩
    · rcases List.mem_append.mp hx with hx | hx
      · exact e2 x hx
      · rw [List.mem_singleton.mp hx]
    · rw [lk_pt] at hv
      split at hv
      · rename_i z
        cases hv
        exact ⟨i + 1, by omega, z ▸ hp⟩
      · exact h.pa t v hv
    · rcases List.mem_append.mp hu with hu | hu
      · obtain ⟨j, hj, hl⟩ := h.dn u hu
        refine ⟨j, ?_, hl⟩
        rw [pt_new q, lk_append, hj]
        rfl
      · rw [List.mem_singleton.mp hu]
        exact ⟨(i : Int) + 1, by rw [lk_pt, if_pos rfl], by omega⟩
    · rw [lk_pt] at hv
      split at hv
      · cases hv
        omega
      · exact h.le t v hv
theorem FI.adds {fm : Farm} {fl st : List Int} {i : Nat} {m : Met} : ∀ {ps : List (List Int)} {os : List (List Int)} {m' : Met}, FI fm fl st i m os m' → (∀ o ∈ ps, Std fm fl o ∧ Pth fm fl st (i + 1) o) → FI fm fl st i m (os ++ ps) (ps.foldl (farAdd i) m')
  | [], os, m', h, _ => by
    rw [List.append_nil]
    exact h
  | p :: ps, os, m', h, hp => by
    rw [List.foldl_cons]
    have := FI.adds (ps := ps) (h.add (hp p (List.mem_cons_self ..)).1 (hp p (List.mem_cons_self ..)).2) fun o ho => hp o (List.mem_cons_of_mem _ ho)
    rw [List.append_assoc] at this
    exact this
structure QInv (fm : Farm) (fl st : List Int) (m : Met) (k : Nat) : Prop where
  inv : KInv fm fl m
  s0 : lk m st = some 0
  pa : ∀ t i, lk m t = some i → ∃ n : Nat, i = n ∧ Pth fm fl st n t
  mono : ∀ (a b : Nat) x y, a ≤ b → m[a]? = some x → m[b]? = some y → x.2 ≤ y.2
  cur : ∀ q ∈ m, ∀ x, m[k]? = some x → q.2 ≤ x.2 + 1
  done : ∀ a, a < k → ∀ x, m[a]? = some x → ∀ d ∈ deedsOf fm fl x.1, ∃ j, lk m (bhd x.1 d.1 d.2) = some j ∧ j ≤ x.2 + 1
theorem QInv.start {fm : Farm} {fl st : List Int} (h : Std fm fl st) : QInv fm fl st [(st, 0)] 0 := by
  refine ⟨⟨by simp, fun t ht => ?_⟩, by rw [lk_cons, if_pos rfl], fun t i e => ?_, fun a b x y _ ha hb => ?_, fun q hq x e => ?_, fun a ha => by omega⟩
  · rw [List.mem_singleton.mp ht]
    exact h
  · rw [lk_cons] at e
    split at e
    · rename_i z
      cases e
      exact ⟨0, rfl, z ▸ .zero⟩
    · cases e
  · have h1 := List.mem_singleton.mp (List.mem_of_getElem? ha)
    have h2 := List.mem_singleton.mp (List.mem_of_getElem? hb)
    rw [h1, h2]
    exact Int.le_refl _
  · have h1 := List.mem_singleton.mp hq
    have h2 := List.mem_singleton.mp (List.mem_of_getElem? e)
    rw [h1, h2]
    show (0 : Int) ≤ 0 + 1
    omega
theorem QInv.fi {fm : Farm} {fl st : List Int} {m : Met} {k : Nat} (h : QInv fm fl st m k) {t : List Int} {i : Int} (e : m[k]? = some (t, i)) : ∃ n : Nat, i = n ∧ Pth fm fl st n t ∧ FI fm fl st n m [] m := by
  have hl := lk_get h.inv.nd e
  obtain ⟨n, rfl, hp⟩ := h.pa t i hl
  refine ⟨n, rfl, hp, ⟨[], by rw [List.append_nil], fun q hq => by cases hq⟩, h.inv, h.pa, fun o ho => (by cases ho), fun u v hv => ?_⟩
  obtain ⟨a, ha⟩ := get_lk hv
  exact h.cur (u, v) (List.mem_of_getElem? ha) _ e
theorem QInv.next {fm : Farm} {fl st : List Int} {m m' : Met} {k n : Nat} (h : QInv fm fl st m k) {t : List Int} (e : m[k]? = some (t, (n : Int))) (f : FI fm fl st n m (nextsOf fm fl t) m') : QInv fm fl st m' (k + 1) := by
  obtain ⟨ex, e1, e2⟩ := f.ext
  have hk := (List.getElem?_eq_some_iff.mp e).1
  have hold : ∀ q ∈ m, q.2 ≤ (n : Int) + 1 := fun q hq => h.cur q hq _ e
  have hall : ∀ q ∈ m', q.2 ≤ (n : Int) + 1 := by
    intro q hq
    rw [e1] at hq
    rcases List.mem_append.mp hq with hq | hq
    · exact hold q hq
    · rw [e2 q hq]
      exact Int.le_refl _
  have hmono : ∀ (a b : Nat) x y, a ≤ b → m'[a]? = some x → m'[b]? = some y → x.2 ≤ y.2 := by
    intro a b x y hab ha hb
    by_cases hb2 : b < m.length
    · rw [e1, List.getElem?_append_left hb2] at hb
      rw [e1, List.getElem?_append_left (by omega)] at ha
      exact h.mono a b x y hab ha hb
    · rw [e1, List.getElem?_append_right (by omega)] at hb
      rw [e2 y (List.mem_of_getElem? hb)]
      exact hall x (List.mem_of_getElem? ha)
  refine ⟨f.inv, ?_, f.pa, hmono, fun q hq x hx => ?_, fun a ha x hx d hd => ?_⟩
  · rw [e1, lk_append, h.s0]
    rfl
  · have h1 := hall q hq
    have h2 := hmono k (k + 1) (t, (n : Int)) x (by omega) (by rw [e1, List.getElem?_append_left hk]; exact e) hx
    dsimp only at h2
    omega
  · have hx2 : m[a]? = some x := by
      rw [e1, List.getElem?_append_left (by omega)] at hx
      exact hx
    by_cases q : a < k
    · obtain ⟨j, hj, hl⟩ := h.done a q x hx2 d hd
      exact ⟨j, by rw [e1, lk_append, hj]; rfl, hl⟩
    · have : a = k := by omega
      subst this
      rw [e] at hx2
      cases hx2
      exact f.dn _ (List.mem_map.mpr ⟨d, hd, rfl⟩)
theorem QInv.fin {fm : Farm} {fl st : List Int} {m : Met} {k : Nat} (h : QInv fm fl st m k) (hk : m.length ≤ k) : FarSpec fm fl st m := by
  refine ⟨h.inv, h.s0, h.pa, fun t i e d hd => ?_⟩
  obtain ⟨a, ha⟩ := get_lk e
  exact h.done a (Nat.lt_of_lt_of_le (List.getElem?_eq_some_iff.mp ha).1 hk) _ ha d hd
/-! ### what a far map tells -/
theorem FarSpec.reach {fm : Farm} {fl st : List Int} {m : Met} (h : FarSpec fm fl st m) {n : Nat} {t : List Int} (p : Pth fm fl st n t) : ∃ j, lk m t = some j ∧ j ≤ n := by
  induction p with
  | zero => exact ⟨0, h.s0, Int.le_refl _⟩
  | succ _ hd ih =>
    obtain ⟨j, hj, hl⟩ := ih
    obtain ⟨j2, hj2, hl2⟩ := h.cl _ _ hj _ hd
    exact ⟨j2, hj2, by omega⟩
theorem FarSpec.mem {fm : Farm} {fl st : List Int} {m : Met} (h : FarSpec fm fl st m) (t : List Int) : t ∈ m.map (·.1) ↔ ∃ n, Pth fm fl st n t := by
  constructor
  · intro ht
    have h1 : (lk m t).isSome = true := by
      rw [lk_some]
      exact decide_eq_true ht
    obtain ⟨v, hv⟩ := some_of_is h1
    obtain ⟨n, _, hp⟩ := h.pa t v hv
    exact ⟨n, hp⟩
  · rintro ⟨n, hp⟩
    obtain ⟨j, hj, _⟩ := h.reach hp
    have h1 : (lk m t).isSome = true := by rw [hj]; rfl
    rw [lk_some] at h1
    exact of_decide_eq_true h1
/-! ### the rings are the same stands -/
theorem RFac.pth {fm : Farm} {fl st : List Int} {c : Came} {rs : List (List (List Int))} (h : RFac fm fl st c rs) : ∀ (i : Nat) (r : List (List Int)) (t : List Int), rs[i]? = some r → t ∈ r → Pth fm fl st i t
  | 0, r, t, e, ht => by
    rw [h.r0] at e
    cases e
    rw [List.mem_singleton.mp ht]
    exact .zero
  | i + 1, r, t, e, ht => by
    obtain ⟨b, f, p, _, ⟨r', e2, e3⟩, e4, e5⟩ := h.pr i r t e ht
    have hp := RFac.pth h i r' b e2 e3
    rw [← e5]
    refine Pth.succ (d := (f, p)) hp ?_
    obtain ⟨⟨z1, z2, z3, z4⟩, _⟩ := canGo_all e4
    unfold deedsOf deedsAt
    refine List.mem_flatMap.mpr ⟨f.toNat, List.mem_range.mpr (by omega), List.mem_map.mpr ⟨p.toNat, List.mem_filter.mpr ⟨List.mem_range.mpr (by omega), ?_⟩, ?_⟩⟩
    · rw [show ((f.toNat : Nat) : Int) = f by omega, show ((p.toNat : Nat) : Int) = p by omega]
      exact e4
    · rw [show ((f.toNat : Nat) : Int) = f by omega, show ((p.toNat : Nat) : Int) = p by omega]
theorem rings_mem {fm : Farm} {fl st : List Int} (hr : fm.rooms.length ≤ 6) (hf : fl.length ≤ 4) (h : Std fm fl st) (t : List Int) : t ∈ (ringsOf fm fl st).1.flatten ↔ ∃ n, Pth fm fl st n t := by
  obtain ⟨hF, hC⟩ := rings_fac hr hf h
  constructor
  · intro ht
    obtain ⟨r, hr', htr⟩ := List.mem_flatten.mp ht
    obtain ⟨i, hi, rfl⟩ := List.mem_iff_getElem.mp hr'
    exact ⟨i, hF.pth i _ t (by simp [hi]) htr⟩
  · rintro ⟨n, hp⟩
    induction hp with
    | zero => exact List.mem_flatten.mpr ⟨[st], List.mem_of_getElem? hF.r0, List.mem_singleton.mpr rfl⟩
    | succ _ hd ih => exact hC _ ih _ hd
/-- a stand that n deeds lead to stands in one of the first n + 1 rings -/
theorem rings_near {fm : Farm} {fl st : List Int} (hr : fm.rooms.length ≤ 6) (hf : fl.length ≤ 4) (h : Std fm fl st) {n : Nat} {t : List Int} (p : Pth fm fl st n t) : t ∈ ((ringsOf fm fl st).1.take (n + 1)).flatten := by
  obtain ⟨hF, hC⟩ := rings_fac hr hf h
  induction p with
  | zero => exact List.mem_flatten.mpr ⟨[st], List.mem_iff_getElem?.mpr ⟨0, by rw [List.getElem?_take_of_lt (by omega)]; exact hF.r0⟩, List.mem_singleton.mpr rfl⟩
  | @succ n t d p hd ih =>
    by_cases q : n + 1 < (ringsOf fm fl st).1.length
    · obtain ⟨r, hr', htr⟩ := List.mem_flatten.mp ih
      obtain ⟨i, hi, rfl⟩ := List.mem_iff_getElem.mp hr'
      rw [List.length_take] at hi
      rw [List.getElem_take] at htr
      have h1 := hF.cl i _ t (List.getElem?_eq_getElem (by omega)) (by omega) htr d hd
      obtain ⟨r2, hr2, h2⟩ := List.mem_flatten.mp h1
      refine List.mem_flatten.mpr ⟨r2, ?_, h2⟩
      obtain ⟨j, hj, rfl⟩ := List.mem_iff_getElem.mp hr2
      rw [List.length_take] at hj
      exact List.mem_iff_getElem.mpr ⟨j, by rw [List.length_take]; omega, by rw [List.getElem_take, List.getElem_take]⟩
    · have h1 := (rings_mem hr hf h _).mpr ⟨_, Pth.succ p hd⟩
      rw [List.take_of_length_le (by omega)]
      exact h1
theorem FarSpec.len {fm : Farm} {fl st : List Int} {m : Met} (h : FarSpec fm fl st m) (hr : fm.rooms.length ≤ 6) (hf : fl.length ≤ 4) (hs : Std fm fl st) : (ringsOf fm fl st).2.length = m.length := by
  obtain ⟨hF, _⟩ := rings_fac hr hf hs
  have e1 : ∀ t, t ∈ (ringsOf fm fl st).2.map (·.1) ↔ t ∈ m.map (·.1) := fun t => by rw [hF.inv.ks, rings_mem hr hf hs, h.mem]
  have h1 := nodup_le hF.inv.nd fun t ht => (e1 t).mp ht
  have h2 := nodup_le h.inv.nd fun t ht => (e1 t).mpr ht
  rw [List.length_map, List.length_map] at h1 h2
  omega
end Fg

set_option Elab.async false
set_option linter.all false
set_option maxRecDepth 100000
set_option maxHeartbeats 4000000
/-! More rules. -/
namespace Fg
open PySem L2 RZ
section
variable {K : PySem.W.Frag} {W0 W W' : Wd} {Γ Γ' : List Sl} {te ta tb t1 t2 : TE} {d e : D} {ds es : List D} {k1 k2 : Kd} {N : List Sl → Wd → Prop} {R : Wd → V → Prop} {i j : Nat} {k : Int}
theorem RpL.rep {f : Hp} {xs : List V} {ds : List D} (r : RpL f xs ds) : ∀ n : Nat, RpL f (List.replicate n xs).flatten (List.replicate n ds).flatten
  | 0 => .nil
  | n + 1 => by
    rw [List.replicate_succ, List.replicate_succ, List.flatten_cons, List.flatten_cons]
    exact r.append (RpL.rep r n)
/-- [..] * k -/
theorem el_rep (ha : EvD W0 ta Γ W (.lst ds)) (hb : EvD W0 tb Γ W (.int k)) (h0 : 0 ≤ k) (hz : ds.length * k.toNat ≤ cap) (h1 : k < 2 ^ 62) : EvL W0 (tOp rRep ta tb) Γ W (List.replicate k.toNat ds).flatten := ev_op2L ha hb fun W1 _ x y rx ry Q q => by
  cases rx with
  | lst hx hzx r =>
    cases ry
    refine ⟨_, k, _, rfl, rfl, W1.ex _ _ hx, by omega, by omega, by rw [r.length]; exact le_cap hz, fun p hp => ?_⟩
    exact q p _ (W1.up p _ (none_of W1.ex hp)) (Wd.le_up hp) hp (none_of W1.ex hp) upd_same (r.rep _)
/-- a, b = e, f by a tuple -/
theorem st_tup2 (h1 : EvG W0 t1 Γ W k1) (h2 : EvG W0 t2 Γ W k2) (q : ∀ p1 p2 W1, W ≤ W1 → N ((Γ.set i (k1.sl p1)).set j (k2.sl p2)) W1) : ST W0 (tAsg (tTup (tCons t1 (tCons t2 tNil))) (gTup K 2 (gCons (gName i) (gCons (gName j) gNil)))) Γ W N R := fun σ E D hn hr =>
  h1 W Wd.rfl σ E _ fun v p W2 l2 r => h2 W2 l2 σ (E.mono l2) _ fun u p2 W3 l3 s => by
    refine ⟨(by show 2 ≤ sizeLine; decide), fun T hT => ?_⟩
    have l4 : W3 ≤ W3.nw T (.tup [v, u]) := Wd.le_nw hT
    refine ⟨T, [v, u], rfl, SqT.of upd_same, rfl, ?_⟩
    have A2 := E.putK (E.mono l2) r i
    have A4 := E.putK (E.mono ((l2.tr l3).tr l4)) (r.mono (l3.tr l4)) i
    exact ⟨v, _, rfl, u, _, rfl, rfl, hn _ _ _ ((l2.tr l3).tr l4).fr (q p p2 _ ((l2.tr l3).tr l4)) (A2.putK A4 (s.mono l4) j)⟩
/-- one of many, by the promise -/
theorem st_asgTE {α : Type} {g : TG} {sl : List Nat} {P : α → Prop} {c : α → D} {Γx : α → List Sl} (h : EvP W0 te Γ W (fun _ W2 v => ∃ x, P x ∧ Rp W2.f v (c x))) (hg : ∀ x, P x → TgD W0 g sl (c x) Γ (Γx x)) (q : ∀ x, P x → ∀ W1, W ≤ W1 → N (Γx x) W1) : ST W0 (tAsg te g) Γ W N R := fun σ E D hn hr => h W Wd.rfl σ E _ fun v W1 W2 l1 l2 ⟨x, px, r⟩ =>
  hg x px W2 σ v (E.mono (l1.tr l2)) r _ fun σ' E' _ _ => hn σ' W2 (Γx x) (l1.tr l2).fr (q x px W2 (l1.tr l2)) E'
end
theorem foldl_push {α β : Type} (f : α → β) : ∀ (as : List α) (s : List β), as.foldl (fun s a => s ++ [f a]) s = s ++ as.map f
  | [], s => by simp
  | a :: as, s => by
    rw [List.foldl_cons, foldl_push f as, List.map_cons, List.append_assoc]
    rfl
/-! ### the laws' farms -/
/-- gates so far -/
structure GI (n : Nat) (gs : List (Int × Int)) : Prop where
  nd : gs.Nodup
  ok : ∀ g ∈ gs, 0 ≤ g.1 ∧ g.1 < g.2 ∧ g.2 < n
def allP (n : Nat) : List (Int × Int) := (List.range n).flatMap fun (a : Nat) => (List.range n).map fun (b : Nat) => ((a : Int), (b : Int))
theorem allP_len (n : Nat) : (allP n).length = n * n := by
  unfold allP
  have : ∀ xs : List Nat, (xs.flatMap fun (a : Nat) => (List.range n).map fun (b : Nat) => ((a : Int), (b : Int))).length = xs.length * n := by
    intro xs
    induction xs with
    | nil => simp
    | cons x xs ih => rw [List.flatMap_cons, List.length_append, List.length_map, List.length_range, ih, List.length_cons, Nat.add_mul, Nat.one_mul, Nat.add_comm]
  rw [this, List.length_range]
theorem GI.len {n : Nat} {gs : List (Int × Int)} (h : GI n gs) (hn : n ≤ 6) : gs.length ≤ 36 := by
  have := nodup_le (ys := allP n) h.nd fun g hg => by
    obtain ⟨h1, h2, h3⟩ := h.ok g hg
    refine List.mem_flatMap.mpr ⟨g.1.toNat, List.mem_range.mpr (by omega), List.mem_map.mpr ⟨g.2.toNat, List.mem_range.mpr (by omega), ?_⟩⟩
    rw [show ((g.1.toNat : Nat) : Int) = g.1 by omega, show ((g.2.toNat : Nat) : Int) = g.2 by omega]
  rw [allP_len] at this
  have : n * n ≤ 6 * 6 := Nat.mul_le_mul hn hn
  omega
theorem GI.push {n : Nat} {gs : List (Int × Int)} (h : GI n gs) {g : Int × Int} (hg : g ∉ gs) (ok : 0 ≤ g.1 ∧ g.1 < g.2 ∧ g.2 < n) : GI n (gs ++ [g]) :=
  ⟨List.nodup_append.mpr ⟨h.nd, by simp, fun a ha b hb => by
    rw [List.mem_singleton.mp hb]
    exact fun z => hg (z ▸ ha)⟩, fun x hx => (List.mem_append.mp hx).elim (h.ok x) fun hx => List.mem_singleton.mp hx ▸ ok⟩
def gs0 (n : Nat) (b : Bool) : List (Int × Int) := ((List.range (n - 1)).filter fun _ => b).map fun (i : Nat) => ((1 + (i : Int) - 1, 1 + (i : Int)))
theorem gs0_ok {n : Nat} (b : Bool) (hn : 1 ≤ n) : GI n (gs0 n b) := by
  unfold gs0
  refine ⟨?_, fun g hg => ?_⟩
  · rw [List.nodup_iff_pairwise_ne, List.pairwise_map]
    have h1 : ((List.range (n - 1)).filter fun _ => b).Nodup := List.Nodup.sublist List.filter_sublist List.nodup_range
    rw [List.nodup_iff_pairwise_ne] at h1
    exact h1.imp fun {a c} hac z => hac (by
      have := congrArg Prod.snd z
      dsimp only at this
      omega)
  · obtain ⟨i, hi, rfl⟩ := List.mem_map.mp hg
    have := List.mem_range.mp (List.mem_filter.mp hi).1
    dsimp only
    omega
theorem gs0_far {n : Nat} (b : Bool) (hn : 2 < n) : ((0 : Int), (n : Int) - 1) ∉ gs0 n b := by
  intro hg
  unfold gs0 at hg
  obtain ⟨i, hi, e⟩ := List.mem_map.mp hg
  have h1 := congrArg Prod.fst e
  have h2 := congrArg Prod.snd e
  dsimp only at h1 h2
  omega
theorem rise_lt {gs : List (Int × Int)} (h : GI 6 gs) : ∀ i, i + 1 < (srtP gs).length → ltP ((srtP gs).getD i (0, 0)) ((srtP gs).getD (i + 1) (0, 0)) = true := by
  intro i hi
  have hr := srt_rise (gs.map fun p => [p.1, p.2])
  rw [srt_pairs] at hr
  unfold Rise at hr
  rw [List.pairwise_map] at hr
  have hp := srtP_perm gs
  have nd : (srtP gs).Nodup := hp.nodup_iff.mpr h.nd
  rw [List.getD_eq_getElem?_getD, List.getD_eq_getElem?_getD, List.getElem?_eq_getElem (by omega), List.getElem?_eq_getElem hi]
  show ltP (srtP gs)[i] (srtP gs)[i + 1] = true
  have h1 := List.pairwise_iff_getElem.mp hr i (i + 1) (by omega) hi (by omega)
  have h2 := List.pairwise_iff_getElem.mp (List.nodup_iff_pairwise_ne.mp nd) i (i + 1) (by omega) hi (by omega)
  unfold ltP
  cases e : HT.lexLt [(srtP gs)[i].1, (srtP gs)[i].2] [(srtP gs)[i + 1].1, (srtP gs)[i + 1].2] with
  | true => rfl
  | false =>
    exfalso
    have h3 := lex_anti _ _ h1 e
    simp only [List.cons.injEq] at h3
    exact h2 (Prod.ext h3.1.symm h3.2.1.symm)
structure FarmOk (fm : Farm) (fl st : List Int) (w : List (Option Int)) : Prop where
  f : Fok fm
  l : Lok fl
  s : Std fm fl st
  w : Wok fm fl w
theorem FarmOk.g {fm : Farm} (h : Fok fm) : Gok fm := fun g hg => (h.2.2.1 g hg).2.1
theorem GI.up {n m : Nat} {gs : List (Int × Int)} (h : GI n gs) (hm : n ≤ m) : GI m gs := ⟨h.nd, fun g hg => by have := h.ok g hg; omega⟩
/-- the pens by their drawn numbers -/
def rawL (nu : Int) (pn : Nat) : List (Int × Int) := (List.range pn).map fun (i : Nat) => (nu / (11 + (i : Int)) % 97, (i : Int))
def lpos (nu : Int) (pn : Nat) (a : Nat) : Int := ((srtP (rawL nu pn)).getD a (0, 0)).2
theorem lp_len (nu : Int) (pn : Nat) : (srtP (rawL nu pn)).length = pn := by
  rw [(srtP_perm _).length_eq]
  unfold rawL
  rw [List.length_map, List.length_range]
theorem lp_get {nu : Int} {pn a : Nat} (h : a < pn) : (srtP (rawL nu pn))[a]? = some ((srtP (rawL nu pn)).getD a (0, 0)) := by
  rw [List.getD_eq_getElem?_getD, List.getElem?_eq_getElem (by rw [lp_len]; exact h)]
  rfl
theorem lp_rng {nu : Int} {pn a : Nat} (h : a < pn) : 0 ≤ lpos nu pn a ∧ lpos nu pn a < pn := by
  have h1 : (srtP (rawL nu pn)).getD a (0, 0) ∈ rawL nu pn := (srtP_perm _).mem_iff.mp (List.mem_of_getElem? (lp_get h))
  unfold rawL at h1
  obtain ⟨i, hi, e⟩ := List.mem_map.mp h1
  have h2 := List.mem_range.mp hi
  unfold lpos
  unfold rawL
  rw [← e]
  dsimp only
  omega
theorem lp_inj {nu : Int} {pn a b : Nat} (ha : a < pn) (hb : b < pn) (e : lpos nu pn a = lpos nu pn b) : a = b := by
  have h1 : ((srtP (rawL nu pn)).map (·.2)).Nodup := by
    refine ((srtP_perm (rawL nu pn)).map (·.2)).nodup_iff.mpr ?_
    unfold rawL
    rw [List.map_map, List.nodup_iff_pairwise_ne, List.pairwise_map]
    have h := List.nodup_range (n := pn)
    rw [List.nodup_iff_pairwise_ne] at h
    exact h.imp fun {a c} hac z => hac (by
      have z : (a : Int) = (c : Int) := z
      omega)
  have hl := lp_len nu pn
  have g1 := lp_get (nu := nu) ha
  have g2 := lp_get (nu := nu) hb
  rw [List.getElem?_eq_getElem (by omega)] at g1 g2
  rw [List.nodup_iff_pairwise_ne, List.pairwise_iff_getElem] at h1
  unfold lpos at e
  rw [← Option.some.inj g1, ← Option.some.inj g2] at e
  rcases Nat.lt_trichotomy a b with q | q | q
  · exact absurd (by rw [List.getElem_map, List.getElem_map]; exact e) (h1 a b (by rw [List.length_map]; omega) (by rw [List.length_map]; omega) q)
  · exact q
  · exact absurd (by rw [List.getElem_map, List.getElem_map]; exact e.symm) (h1 b a (by rw [List.length_map]; omega) (by rw [List.length_map]; omega) q)
/-- what the last loop of the farm keeps -/
structure WI (nu : Int) (pn : Nat) (fl : List Int) (i : Nat) (rm : List Int) (wl : List (Option Int)) : Prop where
  rl : rm.length = pn
  rr : ∀ r ∈ rm, 1 ≤ r ∧ r ≤ 9
  wn : wl.length = i
  wo : ∀ o ∈ wl, ∀ j, o = some j → 0 ≤ j ∧ j < pn
  fit : ∀ a, a < i → a < pn → fl.getD a 0 ≤ nth rm (lpos nu pn a)
theorem nth_set {ns : List Int} {i j : Int} {x : Int} (hi : 0 ≤ i) (hi2 : i < ns.length) (hj : 0 ≤ j) (hj2 : j < ns.length) : nth (ns.set i.toNat x) j = if j = i then x else nth ns j := by
  have e1 := nth_get (ns := ns.set i.toNat x) (i := j.toNat) (by rw [List.length_set]; omega)
  have e2 := nth_get (ns := ns) (i := j.toNat) (by omega)
  rw [show ((j.toNat : Nat) : Int) = j by omega] at e1 e2
  rw [e1, e2, List.getElem_set]
  by_cases h : j = i
  · rw [if_pos (by omega), if_pos h]
  · rw [if_neg (by omega), if_neg h]
theorem WI.next {nu : Int} {pn : Nat} {fl : List Int} {i : Nat} {rm : List Int} {wl : List (Option Int)} (h : WI nu pn fl i rm wl) (hi : i < pn) {sz : Int} (hs : fl.getD i 0 = sz) (hz : 1 ≤ sz ∧ sz ≤ 9) {o : Option Int} (ho : ∀ j, o = some j → 0 ≤ j ∧ j < pn) :
    WI nu pn fl (i + 1) (rm.set (lpos nu pn i).toNat (max (nth rm (lpos nu pn i)) sz)) (wl ++ [o]) := by
  have hp := lp_rng (nu := nu) hi
  have hm := h.rr (nth rm (lpos nu pn i)) (nth_mem hp.1 (by rw [h.rl]; exact hp.2))
  refine ⟨by rw [List.length_set]; exact h.rl, fun r hr => ?_, by rw [List.length_append, h.wn]; rfl, fun p hp2 j hj => ?_, fun a ha hap => ?_⟩
  · rcases List.mem_or_eq_of_mem_set hr with hr | rfl
    · exact h.rr r hr
    · omega
  · rcases List.mem_append.mp hp2 with hp2 | hp2
    · exact h.wo p hp2 j hj
    · rw [List.mem_singleton.mp hp2] at hj
      exact ho j hj
  · have hq := lp_rng (nu := nu) hap
    rw [nth_set hp.1 (by rw [h.rl]; exact hp.2) hq.1 (by rw [h.rl]; exact hq.2)]
    by_cases q : a = i
    · subst q
      rw [if_pos rfl, hs]
      omega
    · rw [if_neg (fun z => q (lp_inj hap hi z))]
      exact h.fit a (by omega) hap
def ci (i : Nat) : Int := [16, 112, 784, 5488].getD i 16
theorem ci_at {i : Nat} (h : i < 4) : atI [D.int 16, .int 112, .int 784, .int 5488] (i : Int) = some (.int (ci i)) ∧ 0 < ci i ∧ ci i < 1073741824 := by
  rcases (by omega : i = 0 ∨ i = 1 ∨ i = 2 ∨ i = 3) with rfl | rfl | rfl | rfl
  · exact ⟨rfl, by decide, by decide⟩
  · exact ⟨rfl, by decide, by decide⟩
  · exact ⟨rfl, by decide, by decide⟩
  · exact ⟨rfl, by decide, by decide⟩
theorem wide_at {k : Int} (h0 : 0 ≤ k) (h : k < 3) : ∃ wd, atI [D.int 1, .int 3, .int 7] k = some (.int wd) ∧ 1 ≤ wd ∧ wd ≤ 7 := by
  rcases (by omega : k = 0 ∨ k = 1 ∨ k = 2) with rfl | rfl | rfl
  · exact ⟨1, rfl, by decide, by decide⟩
  · exact ⟨3, rfl, by decide, by decide⟩
  · exact ⟨7, rfl, by decide, by decide⟩
theorem farm_ok {nu : Int} {pn mn : Nat} {gs : List (Int × Int)} {fl rm : List Int} {wl : List (Option Int)} {w : List (Option Int)} (hp : 2 ≤ pn) (hp6 : pn ≤ 6) (hm : 1 ≤ mn) (hm4 : mn ≤ 4) (hmp : mn ≤ pn) (hG : GI pn gs) (hfl : fl.length = mn) (hfr : ∀ x ∈ fl, 1 ≤ x ∧ x ≤ 9) (h : WI nu pn fl mn rm wl)
    (hw : w.length = mn ∧ ∀ o ∈ w, ∀ i, o = some i → 0 ≤ i ∧ i < pn) : FarmOk ⟨rm, srtP gs⟩ fl ((List.range mn).map (lpos nu pn)) w := by
  have hgp := srtP_perm gs
  refine ⟨⟨⟨by show 2 ≤ rm.length; rw [h.rl]; exact hp, by show rm.length ≤ 6; rw [h.rl]; exact hp6⟩, h.rr, fun g hg => ?_, rise_lt (hG.up hp6), ?_⟩, ⟨⟨by omega, by omega⟩, hfr⟩, ⟨by rw [List.length_map, List.length_range, hfl], fun x hx => ?_, ?_, fun q hq => ?_⟩, ⟨by rw [hw.1, hfl], fun o ho i e => ?_⟩⟩
  · have := hG.ok g (hgp.mem_iff.mp hg)
    show 0 ≤ g.1 ∧ g.1 < g.2 ∧ g.2 < (rm.length : Int)
    rw [h.rl]
    exact this
  · show (srtP gs).length ≤ 100
    rw [hgp.length_eq]
    have := hG.len hp6
    omega
  · obtain ⟨a, ha, rfl⟩ := List.mem_map.mp hx
    have := lp_rng (nu := nu) (show a < pn by have := List.mem_range.mp ha; omega)
    show 0 ≤ _ ∧ _ < (rm.length : Int)
    rw [h.rl]
    exact this
  · rw [List.nodup_iff_pairwise_ne, List.pairwise_map, List.pairwise_iff_getElem]
    intro i j hi hj hij z
    rw [List.length_range] at hi hj
    rw [List.getElem_range, List.getElem_range] at z
    have := lp_inj (by omega) (by omega) z
    omega
  · obtain ⟨a, ha, rfl⟩ := List.mem_iff_getElem.mp hq
    rw [List.length_zip, List.length_map, List.length_range] at ha
    rw [List.getElem_zip, List.getElem_map, List.getElem_range]
    dsimp only
    have := h.fit a (by omega) (by omega)
    rw [List.getD_eq_getElem?_getD, List.getElem?_eq_getElem (by omega)] at this
    exact this
  · have := hw.2 o ho i e
    show 0 ≤ i ∧ i < (rm.length : Int)
    rw [h.rl]
    exact this
end Fg

set_option Elab.async false
set_option linter.all false
set_option maxRecDepth 100000
set_option maxHeartbeats 4000000
namespace Fg
open PySem L2 RZ
local macro_rules | `(tactic| walk_at "bo") => `(tactic| simp only [Bool.or_eq_false_iff, Bool.or_eq_true, Bool.and_eq_true, Bool.not_eq_true', Bool.not_eq_false', Bool.not_eq_true, Bool.not_eq_false, decide_eq_true_eq, decide_eq_false_iff_not, Bool.true_eq_false, Bool.false_eq_true, Bool.and_eq_false_imp] at *)
local macro_rules | `(tactic| walk_at "sd") => `(tactic| first
  | assumption
  | exact rfl
  | omega
  | (refine at_ints ?_; first | omega | (walk_at "bo"; omega) | skip)
  | exact Nat.le_of_ble_eq_true rfl
  | (show _ ≤ cap; first | decide | omega | (simp only [List.length_map, List.length_append]; omega))
  | (walk_at "bo"; omega)
  | skip)
local macro_rules | `(tactic| walk_at "ea") => `(tactic| first
  | exact ea_nil
  | (apply ea_cons; (focus walk_at "ev"); walk_at "ea"))
local macro_rules | `(tactic| walk_at "eh") => `(tactic| first
  | exact ev_varA rfl (by first | assumption | omega | decide)
  | exact ev_varK rfl (by first | assumption | omega | decide)
  | (apply EvD.h; walk_at "ev"))
local macro_rules | `(tactic| walk_at "el") => `(tactic| first
  | ((with_reducible apply el_lst); (focus walk_at "ea"); walk_at "sd")
  | ((with_reducible apply el_cat); (focus walk_at "ev"); (focus walk_at "ev"); walk_at "sd")
  | ((with_reducible apply el_sl); (focus walk_at "ev"); (focus walk_at "eo"); (focus walk_at "eo"))
  | ((with_reducible apply el_list); walk_at "ev")
  | ((with_reducible apply el_listT); walk_at "ev")
  | ((with_reducible apply el_rev); walk_at "ev"))
local macro_rules | `(tactic| walk_at "eo") => `(tactic| first
  | exact eo_none
  | (apply eo_some; walk_at "ev"))
local macro_rules | `(tactic| walk_at "ev") => `(tactic| first
  | exact ev_int | exact ev_bl | exact ev_non | exact ev_str
  | exact ev_var rfl
  | ((with_reducible apply ev_add); (focus walk_at "ev"); walk_at "ev")
  | ((with_reducible apply ev_sub); (focus walk_at "ev"); walk_at "ev")
  | ((with_reducible apply ev_lt); (focus walk_at "ev"); walk_at "ev")
  | ((with_reducible apply ev_le); (focus walk_at "ev"); walk_at "ev")
  | ((with_reducible apply ev_gt); (focus walk_at "ev"); walk_at "ev")
  | ((with_reducible apply ev_ge); (focus walk_at "ev"); walk_at "ev")
  | ((with_reducible apply ev_eqI); (focus walk_at "ev"); (focus walk_at "ev"); done)
  | ((with_reducible apply ev_neI); (focus walk_at "ev"); (focus walk_at "ev"); done)
  | ((with_reducible apply ev_mulW); (focus walk_at "ev"); (focus walk_at "ev"); walk_at "sd")
  | ((with_reducible apply ev_fdiv); (focus walk_at "ev"); (focus walk_at "ev"); walk_at "sd")
  | ((with_reducible apply ev_mod); (focus walk_at "ev"); (focus walk_at "ev"); walk_at "sd")
  | ((with_reducible apply ev_neg); walk_at "ev")
  | ((with_reducible apply ev_ixT); (focus walk_at "ev"); (focus walk_at "ev"); walk_at "sd")
  | (with_reducible apply ev_ixA rfl ?_ ?_; (focus walk_at "ev"); walk_at "sd")
  | ((with_reducible apply ev_ixL); (focus walk_at "ev"); (focus walk_at "ev"); walk_at "sd")
  | (with_reducible apply ev_lenA rfl)
  | ((with_reducible apply ev_lenLM); walk_at "eh"; done)
  | ((with_reducible apply ev_lenTM); walk_at "eh"; done)
  | ((with_reducible apply ev_lenL); walk_at "eh")
  | ((with_reducible apply ev_lenT); walk_at "eh")
  | ((with_reducible apply ev_lenK); walk_at "eh")
  | ((with_reducible apply ev_isN); walk_at "eh")
  | ((with_reducible apply ev_notN); walk_at "eh")
  | ((with_reducible apply ev_inT); (focus walk_at "ev"); walk_at "ev")
  | ((with_reducible apply ev_inD); (focus walk_at "eh"); (focus walk_at "eh"); all_goals walk_at "sh")
  | ((with_reducible apply ev_notInD); (focus walk_at "eh"); (focus walk_at "eh"); all_goals walk_at "sh")
  | ((with_reducible apply ev_eqD); (focus walk_at "eh"); (focus walk_at "eh"); all_goals walk_at "sh")
  | ((with_reducible apply ev_neD); (focus walk_at "eh"); (focus walk_at "eh"); all_goals walk_at "sh")
  | ((with_reducible apply ev_all); walk_at "eh")
  | ((with_reducible apply ev_any); walk_at "eh")
  | ((with_reducible apply ev_sum); walk_at "eh")
  | ((with_reducible apply ev_lenSet); (focus walk_at "ev"); walk_at "sd")
  | ((with_reducible apply ev_isaI); (focus walk_at "eh"); walk_at "sd")
  | ((with_reducible apply ev_isaB); (focus walk_at "eh"); walk_at "sd")
  | ((with_reducible apply ev_isaL); (focus walk_at "eh"); walk_at "sd")
  | ((with_reducible apply ev_isaT); (focus walk_at "eh"); walk_at "sd")
  | ((with_reducible apply ev_tup); (focus walk_at "ea"); walk_at "sd")
  | ((with_reducible apply ev_catT); (focus walk_at "ev"); (focus walk_at "ev"); walk_at "sd")
  | ((with_reducible apply ev_slT); (focus walk_at "ev"); (focus walk_at "eo"); (focus walk_at "eo"))
  | ((with_reducible apply ev_max2); (focus walk_at "ev"); walk_at "ev")
  | ((with_reducible apply ev_min2); (focus walk_at "ev"); walk_at "ev")
  | ((with_reducible apply ev_abs); walk_at "ev")
  | ((with_reducible apply ev_chain); (focus walk_at "ev"); (focus walk_at "ev"); intro _; walk_at "ev")
  | ((with_reducible apply ev_and); (focus walk_at "ev"); intro _; walk_at "ev")
  | ((with_reducible apply ev_or); (focus walk_at "ev"); intro _; walk_at "ev")
  | ((with_reducible apply ev_not); walk_at "ev")
  | (apply EvL.fz; (focus walk_at "el"); walk_at "sd"))
local macro_rules | `(tactic| walk_at "et") => `(tactic| first
  | ((with_reducible apply et_test); walk_at "ev")
  | ((with_reducible apply et_B); walk_at "ev")
  | ((with_reducible apply et_and); (focus walk_at "et"); intro _; walk_at "et")
  | ((with_reducible apply et_or); (focus walk_at "et"); intro _; walk_at "et")
  | ((with_reducible apply et_not); walk_at "et"))
local macro_rules | `(tactic| walk_at "sh") => `(tactic| first
  | exact (sh_tup2 (sh_int _) (sh_int _)).shp (by decide) | exact (sh_pr _).shp (by decide) | exact (sh_prs _).shp (by decide) | exact (sh_st _).shp (by decide) | exact (sh_is _).shp (by decide) | exact (sh_ws _).shp (by decide) | exact (sh_rg _).shp (by decide) | exact (sh_rgs _).shp (by decide) | exact (sh_fm _).shp (by decide)
  | exact sh_nil.shp (by decide) | exact (sh_bls _).shp (by decide) | decide +kernel | skip)

section
variable {P : Program} {w : World} {K : PySem.W.Frag} {mg : Str → Option Value} {base : Heap} {A : Adr}
abbrev s__law_farm : Stmt := top 50
theorem sc__law_farm : FnScope ["_law_script", "_law_by", "_law_most", "_law_cells", "_law_whole", "_law_number_here", "_law_pens", "_law_kind", "_law_at", "_law_gates", "_law_one", "_law_other", "_law_cell", "_law_far", "_law_many", "_law_wide", "_law_flocks", "_law_rooms", "_law_line", "_law_wish", "_law_size", "_law_stand"] ["_law_script", "_law_by", "_law_most"] (defScope s__law_farm) := ⟨rfl, rfl, rfl, by decide +kernel, rfl, by decide +kernel, by decide +kernel⟩
def gLawFar : List D → (Wd → Wd → V → Prop) → Prop := fun ds po => ∃ (fm : Farm) (fl st : List Int), ds = [dFm fm, dIs fl, dSt st] ∧ Gok fm ∧ fm.rooms.length ≤ 6 ∧ fl.length ≤ 4 ∧ Std fm fl st ∧ po = fun _ W v => ∃ m, FarSpec fm fl st m ∧ Rp W.f v (.dct (dMet m))
def gLawFarm (K : PySem.W.Frag) : List D → (Wd → Wd → V → Prop) → Prop := fun ds po => ∃ (ns : List Int) (bi most : Int), ds = [dFl K ns, .int bi, .int most] ∧ 0 ≤ bi ∧ bi ≤ 100 ∧ 2 ≤ most ∧ most ≤ 6 ∧
  po = fun _ W v => ∃ q : Farm × List Int × List Int × List (Option Int), (FarmOk q.1 q.2.1 q.2.2.1 q.2.2.2 ∧ (q.1.rooms.length : Int) ≤ most) ∧ Rp W.f v (.tup [dFm q.1, dIs q.2.1, dSt q.2.2.1, dWs q.2.2.2])
theorem ok_law_farm {f : Addr} {fd : FuncData} (F : Fun K "_law_farm" "_law_farm" s__law_farm f fd) (T : Tp mg) (D__law_number : Df P w K mg base 1 "_law_number" ["_law_cell", "_law_at", "_law_whole"] (Pure gLawNum)) :
    FnOk P w K mg base CX0 2 f fd ["_law_script", "_law_by", "_law_most"] (Prm (gLawFarm K)) := by
  refine fn_prm F sc__law_farm (fun ds r h => by obtain ⟨_, _, _, rfl, _⟩ := h; rfl) (fun cdv A2 outer s H E hr ds r hg => ?_)
  obtain ⟨ns, bi, most, rfl, hb0, hb1, hm2, hm6, rfl⟩ := hg
  have hu65 := hu65_of hr
  refine ⟨_, (pss_cons (ps_sv 3 sc__law_farm.nd (pe_ifExp (pt_cmpR (kx_op_neD K hr.units) (pv 0) (pe_lst pa_nil) (nomark _)) (pe_slice (kx_sl_list K) (pv 0) po_none (po_some pe_int)) (pe_lst (pa_cons pe_int pa_nil))))
  (pss_cons (ps_sv 4 sc__law_farm.nd (pe_op op_add (pe_callB c_abs (by rfl) T.n_abs b_abs (pa_cons (pe_callB (kx_cr_sum K rfl) (by rfl) T.n_sum b_sum (pa_cons (pv 3) pa_nil)) pa_nil)) (pe_op op_mulW pe_int (pv 1))))
  (pss_cons (ps_sv 5 sc__law_farm.nd (pe_op op_fdiv (pe_callB c_abs (by rfl) T.n_abs b_abs (pa_cons (pe_df D__law_number (hr.mono (by decide)) (by rfl) (pa_cons (pe_ix (kx_ix_list K) (pv 3) (pe_op op_mod (pv 1) (pe_callB (kx_c_len K) (by rfl) T.n_len b_len (pa_cons (pv 3) pa_nil))) (fun _ _ => rfl)) (pa_cons (pe_op op_add (pv 1) pe_int) (pa_cons (pv 4) pa_nil)))) pa_nil)) pe_int))
  (pss_cons (ps_asg (pe_tup (pa_cons (pe_op op_add pe_int (pe_op op_mod (pv 4) (pe_op op_sub (pv 2) pe_int))) (pa_cons (pe_op op_mod (pv 5) pe_int) pa_nil))) (pg_tupK (K0 := K) (n := 2) rfl rfl (pgs_cons (pg_n 6 sc__law_farm.nd) (pgs_cons (pg_n 7 sc__law_farm.nd) pgs_nil))))
  (pss_cons (ps_setLc (i := 9) (own := [("_law_at", 8)]) rfl sc__law_farm.nd rfl rfl (sw_true rfl rfl rfl (by decide +kernel)) (pi_range2 (by rfl) T.n_range (pa_cons pe_int (pa_cons (pv 6) pa_nil))) (blkOk_by (own := [("_law_at", 8)]) (N := ["_law_script", "_law_by", "_law_most", "_law_cells", "_law_whole", "_law_number_here", "_law_pens", "_law_kind", "_law_at", "_law_gates", "_law_one", "_law_other", "_law_cell", "_law_far", "_law_many", "_law_wide", "_law_flocks", "_law_rooms", "_law_line", "_law_wish", "_law_size", "_law_stand"]) (sc := defScope s__law_farm) (by decide +kernel)) (fun _ _ _ _ _ => (pg_n 8 sc__law_farm.nd)) (fun _ _ _ _ _ => (pts_one (pt_cmpR op_lt (pv 7) pe_int (nomark _)))) (fun _ _ _ _ _ => (pe_tup (pa_cons (pe_op op_sub (pv 8) pe_int) (pa_cons (pv 8) pa_nil)))))
  (pss_cons (ps_if (PW.pt (pw_and (pt_cmpR op_eq (pv 7) pe_int (nomark _)) (pw_and1 (pt_cmpR op_gt (pv 6) pe_int (nomark _))))) (pss_one (ps_expr (pe_bm PySem.F.plainAttrs_list PySem.F.slot_list_append PySem.F.type_list_append mt_append (pv 9) (pa_cons (pe_tup (pa_cons pe_int (pa_cons (pe_op op_sub (pv 6) pe_int) pa_nil))) pa_nil)))) pss_nil)
  (pss_cons (ps_for PassesOwn.never rfl (pi_range1 (by rfl) T.n_range (pa_cons (pv 6) pa_nil)) (pg_n 10 sc__law_farm.nd) (pss_one (ps_for PassesOwn.never rfl (pi_range2 (by rfl) T.n_range (pa_cons (pe_op op_add (pv 10) pe_int) (pa_cons (pv 6) pa_nil))) (pg_n 11 sc__law_farm.nd) (pss_cons (ps_sv 12 sc__law_farm.nd (pe_ix (kx_ix_list K) (pv 3) (pe_op op_mod (pe_op op_add (pv 10) (pv 1)) (pe_callB (kx_c_len K) (by rfl) T.n_len b_len (pa_cons (pv 3) pa_nil))) (fun _ _ => rfl)))
  (pss_cons (ps_sv 13 sc__law_farm.nd (pe_op op_fdiv (pe_callB c_abs (by rfl) T.n_abs b_abs (pa_cons (pe_df D__law_number (hr.mono (by decide)) (by rfl) (pa_cons (pv 12) (pa_cons (pe_op op_add (pe_op op_add (pe_op op_mulW pe_int (pv 10)) (pv 11)) pe_int) (pa_cons (pv 4) pa_nil)))) pa_nil)) pe_int))
  (pss_one (ps_if (PW.pt (pw_and (pt_cmpR op_gt (pv 7) pe_int (nomark _)) (pw_and (pt_cmpR op_eq (pe_op op_mod (pv 13) pe_int) pe_int (nomark _)) (pw_and1 (pt_cmpR (kx_op_notInD K hu65) (pe_tup (pa_cons (pv 10) (pa_cons (pv 11) pa_nil))) (pv 9) (by rfl)))))) (pss_one (ps_expr (pe_bm PySem.F.plainAttrs_list PySem.F.slot_list_append PySem.F.type_list_append mt_append (pv 9) (pa_cons (pe_tup (pa_cons (pv 10) (pa_cons (pv 11) pa_nil))) pa_nil)))) pss_nil)))))))
  (pss_cons (ps_sv 14 sc__law_farm.nd (pe_op op_add pe_int (pe_op op_mod (pe_op op_fdiv (pv 5) pe_int) (pe_callB (c_min2 rfl) (by rfl) T.n_min b_min (pa_cons pe_int (pa_cons (pv 6) pa_nil))))))
  (pss_cons (ps_par3 (i := 15) (j := 16) (l := 17) (by rfl) sc__law_farm.nd rfl rfl rfl (by decide) (by decide) (by decide) rfl rfl rfl (pa_cons (pe_ix (kx_ix_tup K) (pe_tup (pa_cons pe_int (pa_cons pe_int (pa_cons pe_int pa_nil)))) (pe_op op_mod (pe_op op_fdiv (pv 5) pe_int) pe_int) (fun _ _ => rfl)) (pa_cons (pe_lst pa_nil) (pa_cons (pe_op op_rep (pe_lst (pa_cons pe_int pa_nil)) (pv 6)) pa_nil))) (by rfl))
  (pss_cons (ps_for PassesOwn.never rfl (pi_range1 (by rfl) T.n_range (pa_cons (pv 14) pa_nil)) (pg_n 8 sc__law_farm.nd) (pss_one (ps_expr (pe_bm PySem.F.plainAttrs_list PySem.F.slot_list_append PySem.F.type_list_append mt_append (pv 16) (pa_cons (pe_op op_add pe_int (pe_op op_mod (pe_op op_fdiv (pv 5) (pe_ix (kx_ix_tup K) (pe_tup (pa_cons pe_int (pa_cons pe_int (pa_cons pe_int (pa_cons pe_int pa_nil))))) (pv 8) (fun _ _ => rfl))) (pv 15))) pa_nil)))))
  (pss_cons (ps_if (pt_cmpR op_eq (pe_op op_mod (pe_op op_fdiv (pv 5) pe_int) pe_int) pe_int (nomark _)) (pss_one (ps_setLc (i := 17) (own := [("_law_at", 8)]) rfl sc__law_farm.nd rfl rfl (sw_true rfl rfl rfl (by decide +kernel)) (pi_range1 (by rfl) T.n_range (pa_cons (pv 6) pa_nil)) (blkOk_by (own := [("_law_at", 8)]) (N := ["_law_script", "_law_by", "_law_most", "_law_cells", "_law_whole", "_law_number_here", "_law_pens", "_law_kind", "_law_at", "_law_gates", "_law_one", "_law_other", "_law_cell", "_law_far", "_law_many", "_law_wide", "_law_flocks", "_law_rooms", "_law_line", "_law_wish", "_law_size", "_law_stand"]) (sc := defScope s__law_farm) (by decide +kernel)) (fun _ _ _ _ _ => (pg_n 8 sc__law_farm.nd)) (fun _ _ _ _ _ => pts_nil) (fun _ _ _ _ _ => (pe_op op_add pe_int (pe_op op_mod (pe_op op_fdiv (pv 5) (pe_op op_add pe_int (pv 8))) pe_int))))) pss_nil)
  (pss_cons (ps_asg (pe_tup (pa_cons (pe_callB (kx_c_sorted K rfl) (by rfl) T.n_sorted b_sorted (pa_cons (pe_lc (own := [("_law_at", 8)]) rfl sc__law_farm.nd (pi_range1 (by rfl) T.n_range (pa_cons (pv 6) pa_nil)) (blkOk_by (own := [("_law_at", 8)]) (N := ["_law_script", "_law_by", "_law_most", "_law_cells", "_law_whole", "_law_number_here", "_law_pens", "_law_kind", "_law_at", "_law_gates", "_law_one", "_law_other", "_law_cell", "_law_far", "_law_many", "_law_wide", "_law_flocks", "_law_rooms", "_law_line", "_law_wish", "_law_size", "_law_stand"]) (sc := defScope s__law_farm) (by decide +kernel)) (fun _ _ _ _ _ => (pg_n 8 sc__law_farm.nd)) (fun _ _ _ _ _ => pts_nil) (fun _ _ _ _ _ => (pe_tup (pa_cons (pe_op op_mod (pe_op op_fdiv (pv 5) (pe_op op_add pe_int (pv 8))) pe_int) (pa_cons (pv 8) pa_nil))))) pa_nil)) (pa_cons (pe_lst pa_nil) pa_nil))) (pg_tupK (K0 := K) (n := 2) rfl rfl (pgs_cons (pg_n 18 sc__law_farm.nd) (pgs_cons (pg_n 19 sc__law_farm.nd) pgs_nil))))
  (pss_cons (ps_for PassesOwn.never rfl (pi_enum (by rfl) T.n_enumerate (pa_cons (pv 16) pa_nil)) (pg_tupK (K0 := K) (n := 2) rfl rfl (pgs_cons (pg_n 8 sc__law_farm.nd) (pgs_cons (pg_n 20 sc__law_farm.nd) pgs_nil))) (pss_cons (ps_asg (pe_callB (c_max2 rfl) (by rfl) T.n_max b_max (pa_cons (pe_ix (kx_ix_list K) (pv 17) (pe_ix (kx_ix_tup K) (pe_ix (kx_ix_list K) (pv 18) (pv 8) (fun _ _ => rfl)) pe_int (fun _ _ => rfl)) (fun _ _ => rfl)) (pa_cons (pv 20) pa_nil))) (pg_sub (pv 17) (pe_ix (kx_ix_tup K) (pe_ix (kx_ix_list K) (pv 18) (pv 8) (fun _ _ => rfl)) pe_int (fun _ _ => rfl)) set_list))
  (pss_cons (ps_sv 13 sc__law_farm.nd (pe_op op_mod (pe_op op_fdiv (pv 5) (pe_op op_add pe_int (pv 8))) (pe_op op_add (pv 6) pe_int)))
  (pss_one (ps_expr (pe_bm PySem.F.plainAttrs_list PySem.F.slot_list_append PySem.F.type_list_append mt_append (pv 19) (pa_cons (pe_ifExp (pt_cmpR op_lt (pv 13) (pv 6) (nomark _)) (pv 13) pe_non) pa_nil)))))))
  (pss_cons (ps_sv 21 sc__law_farm.nd (pe_callTy (kx_c_tuple K) (by rfl) T.n_tuple b_tuple (pa_cons (pe_lc (own := [("_law_at", 8)]) rfl sc__law_farm.nd (pi_range1 (by rfl) T.n_range (pa_cons (pv 14) pa_nil)) (blkOk_by (own := [("_law_at", 8)]) (N := ["_law_script", "_law_by", "_law_most", "_law_cells", "_law_whole", "_law_number_here", "_law_pens", "_law_kind", "_law_at", "_law_gates", "_law_one", "_law_other", "_law_cell", "_law_far", "_law_many", "_law_wide", "_law_flocks", "_law_rooms", "_law_line", "_law_wish", "_law_size", "_law_stand"]) (sc := defScope s__law_farm) (by decide +kernel)) (fun _ _ _ _ _ => (pg_n 8 sc__law_farm.nd)) (fun _ _ _ _ _ => pts_nil) (fun _ _ _ _ _ => (pe_ix (kx_ix_tup K) (pe_ix (kx_ix_list K) (pv 18) (pv 8) (fun _ _ => rfl)) pe_int (fun _ _ => rfl)))) pa_nil)))
  (pss_cons (ps_if (pt_cmpR op_eq (pe_op op_mod (pe_op op_fdiv (pv 5) pe_int) pe_int) pe_int (nomark _)) (pss_one (ps_sv 19 sc__law_farm.nd (pe_op (kx_op_catA K) (pe_slice (kx_sl_tupA K) (pv 21) (po_some pe_int) po_none) (pe_slice (kx_sl_tupA K) (pv 21) po_none (po_some pe_int))))) pss_nil)
  (pss_one (ps_ret (pe_tup (pa_cons (pe_tup (pa_cons (pv 17) (pa_cons (pe_callB (kx_c_sorted K rfl) (by rfl) T.n_sorted b_sorted (pa_cons (pv 9) pa_nil)) pa_nil))) (pa_cons (pv 16) (pa_cons (pv 21) (pa_cons (pe_callTy (kx_c_tuple K) (by rfl) T.n_tuple b_tuple (pa_cons (pv 19) pa_nil)) pa_nil)))))))))))))))))))))), fun W0 => ?_⟩
  obtain ⟨cs, hcs⟩ : ∃ cs, cs = if ns = [] then [5] else ns.take 63 := ⟨_, rfl⟩
  have hne : cs ≠ [] := by
    rw [hcs]
    split
    · simp
    · rename_i q
      simp [q]
  have hcl : 0 < cs.length := List.length_pos_iff.mpr hne
  have hcl2 : cs.length ≤ 63 := by
    rw [hcs]
    split
    · decide
    · rw [List.length_take]
      omega
  refine st_seq (st_asgD (d := dIs cs) (EvD.to (ev_if (b := !decide (ns = [])) (et_test (ev_neF (ns := ns) (ms := []) (EvD.h (ev_var rfl)) (EvD.h (ev_lst ea_nil (by decide))))) (d := dIs (ns.take 63)) (e := dIs [5]) (fun _ => EvD.to (EvL.fz (el_slF (ev_var rfl) eo_none (eo_some ev_int)) ?_) ?_) (fun _ => ev_lst (ea_cons ev_int ea_nil) (by show 1 ≤ 100000; omega))) ?_) (fun W1 l1 => ?_))
  · rw [cutL_map, cutL_to _ (by omega), List.length_map, List.length_take]
    show min 63 _ ≤ 100000
    omega
  · rw [cutL_map, cutL_to _ (by omega)]
    rfl
  · rw [hcs]
    by_cases q : ns = [] <;> simp [q]
  refine st_seq (st_asgD (ev_add (ev_abs (ev_sum (EvD.h (ev_var rfl)))) (ev_mulW ev_int (ev_var rfl) (Lt2.w (k := 64) (l := 64) (by unfold Lt2; decide) (by unfold Lt2; omega) (by decide)))) (fun W2 l2 => ?_))
  obtain ⟨wh, hwh⟩ : ∃ wh, wh = (if cs.sum < 0 then -cs.sum else cs.sum) + 7 * bi := ⟨_, rfl⟩
  rw [← hwh]
  have hwh0 : 0 ≤ wh := by
    rw [hwh]
    split <;> omega
  have hmod : 0 ≤ bi % (cs.length : Int) ∧ bi % (cs.length : Int) < cs.length := ⟨Int.emod_nonneg _ (by omega), Int.emod_lt_of_pos _ (by omega)⟩
  refine st_seq (st_asgD (ev_fdiv (ev_abs (ev_call (ea_cons (ev_ixL (ev_var rfl) (ev_mod (ev_var rfl) (ev_lenLM (EvD.h (ev_var rfl))) (by omega)) (at_ints hmod)) (ea_cons (ev_add (ev_var rfl) ev_int) (ea_cons (ev_var rfl) ea_nil))) ⟨_, _, _, rfl, by omega, by omega, rfl⟩)) ev_int ⟨by decide, by decide⟩) (fun W3 l3 => ?_))
  generalize hlw : lawNum (nth cs (bi % (cs.length : Int))) (bi + 3) wh = lw
  obtain ⟨nu, hnu⟩ : ∃ nu, nu = (if lw < 0 then -lw else lw) / 3 := ⟨_, rfl⟩
  rw [← hnu]
  have hnu0 : 0 ≤ nu := by
    rw [hnu]
    split <;> omega
  refine st_seq (st_asgT (ev_tup (ea_cons (ev_add ev_int (ev_mod (ev_var rfl) (ev_sub (ev_var rfl) ev_int) (by omega))) (ea_cons (ev_mod (ev_var rfl) ev_int (by decide)) ea_nil)) (by show 2 ≤ 100000; omega)) tg_pair (fun W4 l4 => ?_))
  have hpn0 : 0 ≤ wh % (most - 1) ∧ wh % (most - 1) < most - 1 := ⟨Int.emod_nonneg _ (by omega), Int.emod_lt_of_pos _ (by omega)⟩
  obtain ⟨pn, hpn⟩ : ∃ pn : Nat, 2 + wh % (most - 1) = (pn : Int) := ⟨(2 + wh % (most - 1)).toNat, by omega⟩
  have hp2 : 2 ≤ pn := by omega
  have hpm : (pn : Int) ≤ most := by omega
  have hp6 : pn ≤ 6 := by omega
  rw [hpn]
  generalize hkd : nu % 4 = kd
  refine st_seq (st_asgL (ds := (gs0 pn (decide (kd < 3))).map dPr) (EvL.to (el_lc (List.range (pn - 1)) (fun i => .int (1 + (i : Int))) (fun _ => decide (kd < 3)) (fun i => .tup [.int (1 + (i : Int) - 1), .int (1 + (i : Int))]) (ItD.to (it_rng2 (ea_cons ev_int (ea_cons (ev_var rfl) ea_nil)) ?_) ?_) ?_ (fun i _ => ⟨_, _, fun _ h => h, tg_name, fun W5 l5 => ⟨et_test (ev_lt (ev_var rfl) ev_int), fun _ => ev_tup (ea_cons (ev_sub (ev_var rfl) ev_int) (ea_cons (ev_var rfl) ea_nil)) (by show 2 ≤ 100000; omega)⟩⟩)) ?_) (fun p9 W5 l5 => ?_))
  · omega
  · congr 2
    omega
  · rw [List.length_range]
    show _ ≤ 100000
    omega
  · unfold gs0
    rw [List.map_map]
    rfl
  have hG0 := gs0_ok (decide (kd < 3)) (show 1 ≤ pn by omega)
  -- the rest, from gates on
  suffices hrest : ∀ (gs : List (Int × Int)) (W : Wd), GI pn gs → ST W0 _ [.dat (dFl K ns), .dat (.int bi), .dat (.int most), .dat (dIs cs), .dat (.int wh), .dat (.int nu), .dat (.int (pn : Int)), .dat (.int kd), .no, .acc p9 (gs.map dPr), .no, .no, .no, .no, .no, .no, .no, .no, .no, .no, .no, .no] W (fun _ W' => (fun _ W v => ∃ q : Farm × List Int × List Int × List (Option Int), (FarmOk q.1 q.2.1 q.2.2.1 q.2.2.2 ∧ (q.1.rooms.length : Int) ≤ most) ∧ Rp W.f v (.tup [dFm q.1, dIs q.2.1, dSt q.2.2.1, dWs q.2.2.2])) W0 W' .non) ((fun _ W v => ∃ q : Farm × List Int × List Int × List (Option Int), (FarmOk q.1 q.2.1 q.2.2.1 q.2.2.2 ∧ (q.1.rooms.length : Int) ≤ most) ∧ Rp W.f v (.tup [dFm q.1, dIs q.2.1, dSt q.2.2.1, dWs q.2.2.2])) W0) by
    refine st_seq (st_when (et_and (et_test (ev_eqI (ev_var rfl) ev_int)) (fun _ => et_test (ev_gt (ev_var rfl) ev_int))) (fun hb W6 l6 => ?_) (fun hb W6 l6 => ?_))
    · have hp3 : 2 < pn := by
        simp at hb
        omega
      refine st_app (i := 9) rfl (ev_tup (ea_cons ev_int (ea_cons (ev_sub (ev_var rfl) ev_int) ea_nil)) (by show 2 ≤ 100000; omega)) ?_ (fun W7 l7 => ?_)
      · have := hG0.len hp6
        rw [List.length_map]
        show _ ≤ 100000
        omega
      · have := hrest (gs0 pn (decide (kd < 3)) ++ [(0, (pn : Int) - 1)]) W7 (hG0.push (gs0_far _ hp3) (by dsimp only; omega))
        rw [List.map_append] at this
        exact this
    · exact hrest _ W6 hG0
  intro gs W6 hGI
  have hgl : ∀ gs, GI pn gs → (gs.map dPr).length ≤ cap := fun gs h => by
    have := h.len hp6
    rw [List.length_map]
    show _ ≤ 100000
    omega
  have hrg : ∀ {i : Nat} {d : D} {n : Nat}, ((List.range n).map fun (i : Nat) => D.int (i : Int))[i]? = some d → d = .int (i : Int) ∧ i < n := by
    intro i d n e
    rw [List.getElem?_map] at e
    obtain ⟨a, ha, rfl⟩ := Option.map_eq_some_iff.mp e
    obtain ⟨h1, h2⟩ := List.getElem?_eq_some_iff.mp ha
    rw [List.length_range] at h1
    rw [List.getElem_range] at h2
    subst h2
    exact ⟨rfl, h1⟩
  have hrg2 : ∀ {i : Nat} {d : D} {n : Nat} {b : Int}, ((List.range n).map fun (i : Nat) => D.int (b + (i : Int)))[i]? = some d → d = .int (b + (i : Int)) ∧ i < n := by
    intro i d n b e
    rw [List.getElem?_map] at e
    obtain ⟨a, ha, rfl⟩ := Option.map_eq_some_iff.mp e
    obtain ⟨h1, h2⟩ := List.getElem?_eq_some_iff.mp ha
    rw [List.length_range] at h1
    rw [List.getElem_range] at h2
    subst h2
    exact ⟨rfl, h1⟩
  refine st_seq (st_forI (ItD.to (it_rng1 (ea_cons (ev_var rfl) ea_nil) (by omega)) (by rw [Int.toNat_natCast])) (fun i Γ' W' => ∃ (gs : List (Int × Int)) (s10 s11 s12 s13 : Sl), GI pn gs ∧ Γ' = [.dat (dFl K ns), .dat (.int bi), .dat (.int most), .dat (dIs cs), .dat (.int wh), .dat (.int nu), .dat (.int (pn : Int)), .dat (.int kd), .no, .acc p9 (gs.map dPr), s10, s11, s12, s13, .no, .no, .no, .no, .no, .no, .no, .no]) (fun W7 l7 => ⟨gs, _, _, _, _, hGI, rfl⟩) ?_ ?_)
  · rintro i d Γi Wi hdi ⟨gs1, s10, s11, s12, s13, hG1, rfl⟩ lw
    obtain ⟨rfl, hip⟩ := hrg hdi
    refine ⟨_, _, tg_name, fun W7 l7 => ?_⟩
    refine st_forI (it_rng2 (ea_cons (ev_add (ev_var rfl) ev_int) (ea_cons (ev_var rfl) ea_nil)) (by omega)) (fun j Γ' W' => ∃ (gs : List (Int × Int)) (s11 s12 s13 : Sl), GI pn gs ∧ Γ' = [.dat (dFl K ns), .dat (.int bi), .dat (.int most), .dat (dIs cs), .dat (.int wh), .dat (.int nu), .dat (.int (pn : Int)), .dat (.int kd), .no, .acc p9 (gs.map dPr), .dat (.int (i : Int)), s11, s12, s13, .no, .no, .no, .no, .no, .no, .no, .no]) (fun W8 l8 => ⟨gs1, _, _, _, hG1, rfl⟩) ?_ ?_
    · rintro j d Γj Wj hdj ⟨gs2, s11, s12, s13, hG2, rfl⟩ lw2
      obtain ⟨rfl, hjp⟩ := hrg2 hdj
      have hmod2 : 0 ≤ ((i : Int) + bi) % (cs.length : Int) ∧ ((i : Int) + bi) % (cs.length : Int) < cs.length := ⟨Int.emod_nonneg _ (by omega), Int.emod_lt_of_pos _ (by omega)⟩
      refine ⟨_, _, tg_name, fun W9 l9 => ?_⟩
      refine st_seq (st_asgD (ev_ixL (ev_var rfl) (ev_mod (ev_add (ev_var rfl) (ev_var rfl)) (ev_lenLM (EvD.h (ev_var rfl))) (by omega)) (at_ints hmod2)) (fun W10 l10 => ?_))
      obtain ⟨cv, hcv⟩ : ∃ cv, cv = nth cs (((i : Int) + bi) % (cs.length : Int)) := ⟨_, rfl⟩
      rw [← hcv]
      obtain ⟨fv, hfv⟩ : ∃ fv, fv = iabs (lawNum cv (6 * (i : Int) + ((i : Int) + 1 + (j : Int)) + 20) wh) / 3 := ⟨_, rfl⟩
      refine st_seq (st_asgD (d := .int fv) (EvD.to (ev_fdiv (ev_abs (ev_call (ea_cons (ev_var rfl) (ea_cons (ev_add (ev_add (ev_mulW ev_int (ev_var rfl) (Lt2.w (k := 64) (l := 64) (by unfold Lt2; decide) (by unfold Lt2; omega) (by decide))) (ev_var rfl)) ev_int) (ea_cons (ev_var rfl) ea_nil))) ⟨_, _, _, rfl, by omega, by omega, rfl⟩)) ev_int ⟨by decide, by decide⟩) (by rw [hfv]; rfl)) (fun W11 l11 => ?_))
      refine st_when (et_and (et_test (ev_gt (ev_var rfl) ev_int)) (fun _ => et_and (et_test (ev_eqI (ev_mod (ev_var rfl) ev_int (by decide)) ev_int)) (fun _ => et_test (EvD.to (ev_notInD (d := dPr ((i : Int), (i : Int) + 1 + (j : Int))) (ds := gs2.map dPr) (EvD.h (ev_tup (ea_cons (ev_var rfl) (ea_cons (ev_var rfl) ea_nil)) (by show 2 ≤ 100000; omega))) (ev_varA (i := 9) rfl (hgl _ hG2)) ((sh_pr _).shp (by decide)) ((sh_prs _).shp (by decide))) (by rw [inb_pr]))))) (fun hb W12 l12 => ?_) (fun hb W12 l12 => ?_)
      · have hnin : ((i : Int), (i : Int) + 1 + (j : Int)) ∉ gs2 := by
          simp only [Bool.and_eq_true, Bool.not_eq_true', decide_eq_false_iff_not] at hb
          exact hb.2.2
        refine st_app (i := 9) rfl (ev_tup (ea_cons (ev_var rfl) (ea_cons (ev_var rfl) ea_nil)) (by show 2 ≤ 100000; omega)) (hgl _ hG2) (fun W13 l13 => ?_)
        refine ⟨gs2 ++ [((i : Int), (i : Int) + 1 + (j : Int))], .dat (.int ((i : Int) + 1 + (j : Int))), .dat (.int cv), .dat (.int fv), hG2.push hnin (by dsimp only; omega), ?_⟩
        rw [List.map_append]
        rfl
      · exact ⟨gs2, _, _, _, hG2, rfl⟩
    · rintro Γn Wn ln ⟨gs2, s11, s12, s13, hG2, rfl⟩
      exact ⟨gs2, _, _, _, _, hG2, rfl⟩
  rintro Γn Wn ln ⟨gs1, s10, s11, s12, s13, hG1, rfl⟩
  refine st_weak (Γ' := [.dat (dFl K ns), .dat (.int bi), .dat (.int most), .dat (dIs cs), .dat (.int wh), .dat (.int nu), .dat (.int (pn : Int)), .dat (.int kd), .no, .acc p9 (gs1.map dPr), .no, .no, .no, .no, .no, .no, .no, .no, .no, .no, .no, .no]) (wk_cons (wk_cons (wk_cons (wk_cons (wk_cons (wk_cons (wk_cons (wk_cons (wk_cons (wk_cons (wk_drop (wk_drop (wk_drop (wk_drop (wk_cons (wk_cons (wk_cons (wk_cons (wk_cons (wk_cons (wk_cons (wk_cons wk_nil)))))))))))))))))))))) ?_
  refine st_seq (st_asgD (ev_add ev_int (ev_mod (ev_fdiv (ev_var rfl) ev_int ⟨by decide, by decide⟩) (ev_min2 ev_int (ev_var rfl)) (by omega))) (fun W7 l7 => ?_))
  have hmn0 : 0 ≤ nu / 4 % min 4 (pn : Int) ∧ nu / 4 % min 4 (pn : Int) < min 4 (pn : Int) := ⟨Int.emod_nonneg _ (by omega), Int.emod_lt_of_pos _ (by omega)⟩
  obtain ⟨mn, hmn⟩ : ∃ mn : Nat, 1 + nu / 4 % min 4 (pn : Int) = (mn : Int) := ⟨(1 + nu / 4 % min 4 (pn : Int)).toNat, by omega⟩
  have hm1 : 1 ≤ mn := by omega
  have hm4 : mn ≤ 4 := by omega
  have hmp : mn ≤ pn := by omega
  rw [hmn]
  obtain ⟨wd, hwd, hw1, hw7⟩ := wide_at (k := nu / 40000 % 3) (Int.emod_nonneg _ (by decide)) (Int.emod_lt_of_pos _ (by decide))
  refine st_seq (st_par3 (k1 := .dt (.int wd)) (k2 := .ls []) (k3 := .ls ((List.replicate pn 9).map .int)) (ev_ixT (ev_tup (ea_cons ev_int (ea_cons ev_int (ea_cons ev_int ea_nil))) (by show 3 ≤ 100000; omega)) (ev_mod (ev_fdiv (ev_var rfl) ev_int ⟨by decide, by decide⟩) ev_int (by decide)) hwd).g (el_lst ea_nil (by decide)).g (EvL.to (el_rep (ds := [.int 9]) (ev_lst (ea_cons ev_int ea_nil) (by show 1 ≤ 100000; omega)) (ev_var rfl) (by omega) ?_ (by omega)) ?_).g (fun p1 p2 p3 W8 l8 => ?_))
  · show 1 * _ ≤ 100000
    omega
  · rw [Int.toNat_natCast, List.map_replicate]
    generalize pn = z
    induction z with
    | zero => rfl
    | succ z ih => rw [List.replicate_succ, List.flatten_cons, ih, List.replicate_succ]; rfl
  refine st_seq (st_fold (List.range mn) (fun i => .int (i : Int)) (fun fl => [.dat (dFl K ns), .dat (.int bi), .dat (.int most), .dat (dIs cs), .dat (.int wh), .dat (.int nu), .dat (.int (pn : Int)), .dat (.int kd), .no, .acc p9 (gs1.map dPr), .no, .no, .no, .no, .dat (.int (mn : Int)), .dat (.int wd), .acc p2 (fl.map .int), .acc p3 ((List.replicate pn 9).map .int), .no, .no, .no, .no]) (fun fl i => fl ++ [1 + nu / ci i % wd]) [] (ItD.to (it_rng1 (ea_cons (ev_var rfl) ea_nil) (by omega)) (by rw [Int.toNat_natCast])) (wk_refl _) ?_ ?_)
  · intro i s a W9 hi hs l9
    have ha : a < 4 := by
      have := List.mem_range.mp (List.mem_of_getElem? hi)
      omega
    obtain ⟨c1, c2, c3⟩ := ci_at ha
    refine ⟨_, _, tg_name, fun W10 l10 => ?_⟩
    refine st_app (i := 16) rfl (ev_add ev_int (ev_mod (ev_fdiv (ev_var rfl) (ev_ixT (ev_tup (ea_cons ev_int (ea_cons ev_int (ea_cons ev_int (ea_cons ev_int ea_nil)))) (by show 4 ≤ 100000; omega)) (ev_var rfl) c1) ⟨c2, c3⟩) (ev_var rfl) (by omega))) ?_ (fun W11 l11 => ?_)
    · rw [hs, foldl_push, List.nil_append, List.length_map, List.length_map, List.length_take]
      show _ ≤ 100000
      rw [List.length_range]
      omega
    · show Wk _ [_, _, _, _, _, _, _, _, _, _, _, _, _, _, _, _, Sl.acc p2 (List.map D.int (s ++ [1 + nu / ci a % wd])), _, _, _, _, _]
      rw [List.map_append]
      exact wk_cons (wk_cons (wk_cons (wk_cons (wk_cons (wk_cons (wk_cons (wk_cons (wk_drop (wk_cons (wk_cons (wk_cons (wk_cons (wk_cons (wk_cons (wk_cons (wk_cons (wk_cons (wk_cons (wk_cons (wk_cons (wk_cons wk_nil)))))))))))))))))))))
  intro Wn2 ln2
  rw [foldl_push, List.nil_append]
  obtain ⟨fl, hfl⟩ : ∃ fl, fl = (List.range mn).map fun i => 1 + nu / ci i % wd := ⟨_, rfl⟩
  rw [← hfl]
  have hfll : fl.length = mn := by rw [hfl, List.length_map, List.length_range]
  have hflr : ∀ x ∈ fl, 1 ≤ x ∧ x ≤ 9 := by
    intro x hx
    rw [hfl] at hx
    obtain ⟨i, _, rfl⟩ := List.mem_map.mp hx
    have h1 : 0 ≤ nu / ci i % wd := Int.emod_nonneg _ (by omega)
    have h2 : nu / ci i % wd < wd := Int.emod_lt_of_pos _ (by omega)
    omega
  suffices hrest : ∀ (p17 : Addr) (rm : List Int) (W : Wd), rm.length = pn → (∀ r ∈ rm, 1 ≤ r ∧ r ≤ 9) → ST W0 _ [.dat (dFl K ns), .dat (.int bi), .dat (.int most), .dat (dIs cs), .dat (.int wh), .dat (.int nu), .dat (.int (pn : Int)), .dat (.int kd), .no, .acc p9 (gs1.map dPr), .no, .no, .no, .no, .dat (.int (mn : Int)), .dat (.int wd), .acc p2 (fl.map .int), .acc p17 (rm.map .int), .no, .no, .no, .no] W (fun _ W' => (fun _ W v => ∃ q : Farm × List Int × List Int × List (Option Int), (FarmOk q.1 q.2.1 q.2.2.1 q.2.2.2 ∧ (q.1.rooms.length : Int) ≤ most) ∧ Rp W.f v (.tup [dFm q.1, dIs q.2.1, dSt q.2.2.1, dWs q.2.2.2])) W0 W' .non) ((fun _ W v => ∃ q : Farm × List Int × List Int × List (Option Int), (FarmOk q.1 q.2.1 q.2.2.1 q.2.2.2 ∧ (q.1.rooms.length : Int) ≤ most) ∧ Rp W.f v (.tup [dFm q.1, dIs q.2.1, dSt q.2.2.1, dWs q.2.2.2])) W0) by
    refine st_seq (st_when (et_test (ev_eqI (ev_mod (ev_fdiv (ev_var rfl) ev_int ⟨by decide, by decide⟩) ev_int (by decide)) ev_int)) (fun hb W9 l9 => ?_) (fun hb W9 l9 => ?_))
    · refine st_asgL (ds := ((List.range pn).map fun (i : Nat) => 1 + nu / (7 + (i : Int)) % 9).map .int) (EvL.to (el_lcA (List.range pn) (fun i => .int (i : Int)) (fun (i : Nat) => .int (1 + nu / (7 + (i : Int)) % 9)) (ItD.to (it_rng1 (ea_cons (ev_var rfl) ea_nil) (by omega)) (by rw [Int.toNat_natCast])) ?_ (fun i hi => ⟨_, _, fun _ h => h, tg_name, fun W10 l10 => ev_add ev_int (ev_mod (ev_fdiv (ev_var rfl) (ev_add ev_int (ev_var rfl)) ⟨by omega, ?_⟩) ev_int (by decide))⟩)) ?_) (fun p17 W10 l10 => ?_)
      · rw [List.length_range]
        show _ ≤ 100000
        omega
      · have := List.mem_range.mp hi
        omega
      · rw [List.map_map]
        rfl
      · refine hrest p17 _ W10 (by rw [List.length_map, List.length_range]) (fun r hr => ?_)
        obtain ⟨i, _, rfl⟩ := List.mem_map.mp hr
        have h1 : 0 ≤ nu / (7 + (i : Int)) % 9 := Int.emod_nonneg _ (by decide)
        have h2 : nu / (7 + (i : Int)) % 9 < 9 := Int.emod_lt_of_pos _ (by decide)
        omega
    · refine hrest p3 _ W9 (by rw [List.length_replicate]) (fun r hr => ?_)
      rw [(List.mem_replicate.mp hr).2]
      omega
  intro p17 rm0 W9 hrml hrmr
  have hraw : rawL nu pn = (List.range pn).map fun (i : Nat) => (nu / (11 + (i : Int)) % 97, (i : Int)) := rfl
  refine st_seq (st_tup2 (k1 := .ls ((srtP (rawL nu pn)).map dPr)) (k2 := .ls []) (el_sortedP (gs := rawL nu pn) (EvL.fz (EvL.to (el_lcA (List.range pn) (fun i => .int (i : Int)) (fun (i : Nat) => dPr (nu / (11 + (i : Int)) % 97, (i : Int))) (ItD.to (it_rng1 (ea_cons (ev_var rfl) ea_nil) (by omega)) (by rw [Int.toNat_natCast])) ?_ (fun i hi => ⟨_, _, fun _ h => h, tg_name, fun W10 l10 => ev_tup (ea_cons (ev_mod (ev_fdiv (ev_var rfl) (ev_add ev_int (ev_var rfl)) ⟨by omega, ?_⟩) ev_int (by decide)) (ea_cons (ev_var rfl) ea_nil)) (by show 2 ≤ 100000; omega)⟩)) ?_) ?_)).g (el_lst ea_nil (by decide)).g (fun p18 p19 W10 l10 => ?_))
  · rw [List.length_range]
    show _ ≤ 100000
    omega
  · have := List.mem_range.mp hi
    omega
  · rw [hraw, List.map_map]
    rfl
  · rw [List.length_map, hraw, List.length_map, List.length_range]
    show _ ≤ 100000
    omega
  have hlc : ((srtP (rawL nu pn)).map dPr).length ≤ cap := by
    rw [List.length_map, lp_len]
    show _ ≤ 100000
    omega
  refine st_freeze (i := 18) rfl hlc (fun W11 l11 => ?_)
  refine st_freeze (i := 16) rfl (by rw [List.length_map]; show _ ≤ 100000; omega) (fun W12 l12 => ?_)
  have hlp : ∀ {a : Nat}, a < pn → atI ((srtP (rawL nu pn)).map dPr) (a : Int) = some (.tup [.int ((srtP (rawL nu pn)).getD a (0, 0)).1, .int (lpos nu pn a)]) := fun ha => at_map dPr (at_nat (lp_get ha))
  refine st_seq (st_forI (ItD.to (it_enum (ea_cons (ev_var rfl) ea_nil)) (enm_map D.int 0 fl)) (fun i Γ' W' => ∃ (rm : List Int) (wl : List (Option Int)) (s8 s13 s20 : Sl), WI nu pn fl i rm wl ∧ Γ' = [.dat (dFl K ns), .dat (.int bi), .dat (.int most), .dat (dIs cs), .dat (.int wh), .dat (.int nu), .dat (.int (pn : Int)), .dat (.int kd), s8, .acc p9 (gs1.map dPr), .no, .no, .no, s13, .dat (.int (mn : Int)), .dat (.int wd), .dat (dIs fl), .acc p17 (rm.map .int), .dat (.lst ((srtP (rawL nu pn)).map dPr)), .acc p19 (wl.map dOi), s20, .no]) (fun W13 l13 => ⟨rm0, [], _, _, _, ⟨hrml, hrmr, rfl, fun o ho => (by cases ho), fun a ha => (by omega)⟩, rfl⟩) ?_ ?_)
  · rintro i d Γi Wi hdi ⟨rm, wl, s8, s13, s20, hW, rfl⟩ lw
    rw [List.getElem?_map] at hdi
    obtain ⟨⟨sz, i'⟩, hq, rfl⟩ := Option.map_eq_some_iff.mp hdi
    obtain ⟨hqi, hqs⟩ := zipIdx_get hq
    dsimp only at hqi hqs
    subst hqi
    have him : i' < mn := by
      have := (List.getElem?_eq_some_iff.mp hqs).1
      omega
    have hip : i' < pn := by omega
    have hsz := hflr sz (List.mem_of_getElem? hqs)
    have hgd : fl.getD i' 0 = sz := by
      rw [List.getD_eq_getElem?_getD, hqs]
      rfl
    have hp := lp_rng (nu := nu) hip
    have hprl : 0 ≤ lpos nu pn i' ∧ lpos nu pn i' < rm.length := by rw [hW.rl]; exact hp
    have hpos : ∀ Γ W, Γ[8]? = some (.dat (.int (i' : Int))) → Γ[18]? = some (.dat (.lst ((srtP (rawL nu pn)).map dPr))) → EvD W0 (tOp (rIxT K) (tOp (rIxL K) (tVar 18) (tVar 8)) (tC (.int 1))) Γ W (.int (lpos nu pn i')) := fun Γ W h8 h18 => ev_ixT (ev_ixL (ev_var h18) (ev_var h8) (hlp hip)) ev_int at1
    refine ⟨_, _, tg_pair, fun W13 l13 => ?_⟩
    refine st_seq (st_setA (i := 17) (m := (lpos nu pn i').toNat) rfl (ev_max2 (ev_ixA (i := 17) rfl (hpos _ _ rfl rfl) (at_ints hprl)) (ev_var rfl)) (hpos _ _ rfl rfl) (by rw [List.length_map]; exact ixN_of hprl.1 hprl.2) (fun W14 l14 => ?_))
    obtain ⟨fv, hfv⟩ : ∃ fv, fv = nu / (13 + (i' : Int)) % ((pn : Int) + 2) := ⟨_, rfl⟩
    refine st_seq (st_asgD (d := .int fv) (EvD.to (ev_mod (ev_fdiv (ev_var rfl) (ev_add ev_int (ev_var rfl)) ⟨by omega, by omega⟩) (ev_add (ev_var rfl) ev_int) (by omega)) (by rw [hfv])) (fun W15 l15 => ?_))
    have hfv0 : 0 ≤ fv := by
      rw [hfv]
      exact Int.emod_nonneg _ (by omega)
    obtain ⟨o, ho⟩ : ∃ o : Option Int, o = if fv < pn then some fv else none := ⟨_, rfl⟩
    refine st_app (i := 19) (d := dOi o) rfl (EvD.to (ev_if (et_test (ev_lt (ev_var rfl) (ev_var rfl))) (fun _ => ev_var rfl) (fun _ => ev_non)) ?_) ?_ (fun W16 l16 => ?_)
    · rw [ho]
      by_cases z : fv < (pn : Int)
      · rw [if_pos z, decide_eq_true z]
        rfl
      · rw [if_neg z, decide_eq_false z]
        rfl
    · rw [List.length_map, hW.wn]
      show _ ≤ 100000
      omega
    · refine ⟨rm.set (lpos nu pn i').toNat (max (nth rm (lpos nu pn i')) sz), wl ++ [o], .dat (.int (i' : Int)), .dat (.int fv), .dat (.int sz), hW.next hip hgd hsz (fun j hj => ?_), ?_⟩
      · rw [ho] at hj
        split at hj
        · cases hj
          omega
        · cases hj
      · rw [List.map_append, List.map_set]
        rfl
  rintro Γn Wn ln ⟨rm, wl, s8, s13, s20, hW, rfl⟩
  rw [List.length_map, List.length_zipIdx, hfll] at hW
  obtain ⟨sd, hsd⟩ : ∃ sd, sd = (List.range mn).map (lpos nu pn) := ⟨_, rfl⟩
  have hsdl : sd.length = mn := by rw [hsd, List.length_map, List.length_range]
  have hsdr : ∀ x ∈ sd, 0 ≤ x ∧ x < pn := by
    intro x hx
    rw [hsd] at hx
    obtain ⟨a, ha, rfl⟩ := List.mem_map.mp hx
    exact lp_rng (by have := List.mem_range.mp ha; omega)
  refine st_seq (st_asgD (d := dSt sd) (EvD.to (ev_tupL (EvL.fz (el_lcA (List.range mn) (fun i => .int (i : Int)) (fun (i : Nat) => .int (lpos nu pn i)) (ItD.to (it_rng1 (ea_cons (ev_var rfl) ea_nil) (by omega)) (by rw [Int.toNat_natCast])) ?_ (fun i hi => ⟨_, _, fun _ h => h, tg_name, fun W13 l13 => ev_ixT (ev_ixL (ev_var rfl) (ev_var rfl) (hlp ?_)) ev_int at1⟩)) ?_)) ?_) (fun W13 l13 => ?_))
  · rw [List.length_range]
    show _ ≤ 100000
    omega
  · have := List.mem_range.mp hi
    omega
  · rw [List.length_map, List.length_range]
    show _ ≤ 100000
    omega
  · rw [hsd]
    show D.tup _ = D.tup (List.map D.int _)
    rw [List.map_map]
    rfl
  have hrmc : (rm.map D.int).length ≤ cap := by
    rw [List.length_map, hW.rl]
    show _ ≤ 100000
    omega
  have hfin : ∀ w : List (Option Int), (w.length = mn ∧ ∀ o ∈ w, ∀ i, o = some i → 0 ≤ i ∧ i < pn) → FarmOk ⟨rm, srtP gs1⟩ fl sd w := fun w hw => hsd ▸ farm_ok hp2 hp6 hm1 hm4 hmp hG1 hfll hflr hW hw
  have hrml2 : ((⟨rm, srtP gs1⟩ : Farm).rooms.length : Int) ≤ most := by
    show (rm.length : Int) ≤ most
    rw [hW.rl]
    exact hpm
  have hgc := hgl _ hG1
  have hgc2 : ((srtP gs1).map dPr).length ≤ cap := by
    rw [List.length_map, (srtP_perm gs1).length_eq]
    rw [List.length_map] at hgc
    exact hgc
  refine st_seq (st_when (et_test (ev_eqI (ev_mod (ev_fdiv (ev_var rfl) ev_int ⟨by decide, by decide⟩) ev_int (by decide)) ev_int)) (fun hb W14 l14 => ?_) (fun hb W14 l14 => ?_))
  · have hc1 : cutL sd (some 1) none = sd.drop 1 := cutL_from _ (by omega)
    have hc2 : cutL sd none (some 1) = sd.take 1 := cutL_to _ (by omega)
    refine st_asgD (d := dWs ((sd.drop 1 ++ sd.take 1).map some)) (EvD.to (ev_catT (ev_slT (ev_var rfl) (eo_some ev_int) eo_none) (ev_slT (ev_var rfl) eo_none (eo_some ev_int)) ?_) ?_) (fun W15 l15 => ?_)
    · have := cutL_le (sd.map D.int) (some 1) none
      have := cutL_le (sd.map D.int) none (some 1)
      rw [List.length_map] at *
      show _ ≤ 100000
      omega
    · rw [cutL_map, cutL_map, hc1, hc2, ← List.map_append]
      show D.tup _ = D.tup (List.map dOi _)
      rw [List.map_map]
      rfl
    refine st_freeze (i := 17) rfl hrmc (fun W16 l16 => ?_)
    refine st_freeze (i := 9) rfl hgc (fun W17 l17 => ?_)
    refine st_retX (ev_tup (ea_cons (ev_tup (ea_cons (ev_var rfl) (ea_cons (EvL.fz (el_sortedP (gs := gs1) (ev_var rfl)) hgc2) ea_nil)) (by show 2 ≤ 100000; omega)) (ea_cons (ev_var rfl) (ea_cons (ev_var rfl) (ea_cons (ev_tupT (ev_var rfl)) ea_nil)))) (by show 4 ≤ 100000; omega)) (fun W18 v l18 rv => ⟨(⟨rm, srtP gs1⟩, fl, sd, (sd.drop 1 ++ sd.take 1).map some), ⟨hfin _ ⟨?_, fun o ho i e => ?_⟩, hrml2⟩, rv⟩)
    · rw [List.length_map, List.length_append, List.length_drop, List.length_take]
      omega
    · obtain ⟨x, hx, rfl⟩ := List.mem_map.mp ho
      cases e
      rcases List.mem_append.mp hx with hx | hx
      · exact hsdr _ (List.mem_of_mem_drop hx)
      · exact hsdr _ (List.mem_of_mem_take hx)
  · refine st_freeze (i := 17) rfl hrmc (fun W16 l16 => ?_)
    refine st_freeze (i := 9) rfl hgc (fun W17 l17 => ?_)
    refine st_freeze (i := 19) rfl (by rw [List.length_map, hW.wn]; show _ ≤ 100000; omega) (fun W18 l18 => ?_)
    exact st_retX (ev_tup (ea_cons (ev_tup (ea_cons (ev_var rfl) (ea_cons (EvL.fz (el_sortedP (gs := gs1) (ev_var rfl)) hgc2) ea_nil)) (by show 2 ≤ 100000; omega)) (ea_cons (ev_var rfl) (ea_cons (ev_var rfl) (ea_cons (ev_tupL (ev_var rfl)) ea_nil)))) (by show 4 ≤ 100000; omega)) (fun W19 v l19 rv => ⟨(⟨rm, srtP gs1⟩, fl, sd, wl), ⟨hfin _ ⟨hW.wn, hW.wo⟩, hrml2⟩, rv⟩)
end
end Fg

set_option Elab.async false
set_option linter.all false
set_option maxRecDepth 100000
set_option maxHeartbeats 4000000
namespace Fg
open PySem L2 RZ
local macro_rules | `(tactic| walk_at "bo") => `(tactic| simp only [Bool.or_eq_false_iff, Bool.or_eq_true, Bool.and_eq_true, Bool.not_eq_true', Bool.not_eq_false', Bool.not_eq_true, Bool.not_eq_false, decide_eq_true_eq, decide_eq_false_iff_not, Bool.true_eq_false, Bool.false_eq_true, Bool.and_eq_false_imp] at *)
local macro_rules | `(tactic| walk_at "sd") => `(tactic| first
  | assumption
  | exact rfl
  | omega
  | (refine at_ints ?_; first | omega | (walk_at "bo"; omega) | skip)
  | exact Nat.le_of_ble_eq_true rfl
  | (show _ ≤ cap; first | decide | omega | (simp only [List.length_map, List.length_append]; omega))
  | (walk_at "bo"; omega)
  | skip)
local macro_rules | `(tactic| walk_at "ea") => `(tactic| first
  | exact ea_nil
  | (apply ea_cons; (focus walk_at "ev"); walk_at "ea"))
local macro_rules | `(tactic| walk_at "eh") => `(tactic| first
  | exact ev_varA rfl (by first | assumption | omega | decide)
  | exact ev_varK rfl (by first | assumption | omega | decide)
  | (apply EvD.h; walk_at "ev"))
local macro_rules | `(tactic| walk_at "el") => `(tactic| first
  | ((with_reducible apply el_lst); (focus walk_at "ea"); walk_at "sd")
  | ((with_reducible apply el_cat); (focus walk_at "ev"); (focus walk_at "ev"); walk_at "sd")
  | ((with_reducible apply el_sl); (focus walk_at "ev"); (focus walk_at "eo"); (focus walk_at "eo"))
  | ((with_reducible apply el_list); walk_at "ev")
  | ((with_reducible apply el_listT); walk_at "ev")
  | ((with_reducible apply el_rev); walk_at "ev"))
local macro_rules | `(tactic| walk_at "eo") => `(tactic| first
  | exact eo_none
  | (apply eo_some; walk_at "ev"))
local macro_rules | `(tactic| walk_at "ev") => `(tactic| first
  | exact ev_int | exact ev_bl | exact ev_non | exact ev_str
  | exact ev_var rfl
  | ((with_reducible apply ev_add); (focus walk_at "ev"); walk_at "ev")
  | ((with_reducible apply ev_sub); (focus walk_at "ev"); walk_at "ev")
  | ((with_reducible apply ev_lt); (focus walk_at "ev"); walk_at "ev")
  | ((with_reducible apply ev_le); (focus walk_at "ev"); walk_at "ev")
  | ((with_reducible apply ev_gt); (focus walk_at "ev"); walk_at "ev")
  | ((with_reducible apply ev_ge); (focus walk_at "ev"); walk_at "ev")
  | ((with_reducible apply ev_eqI); (focus walk_at "ev"); (focus walk_at "ev"); done)
  | ((with_reducible apply ev_neI); (focus walk_at "ev"); (focus walk_at "ev"); done)
  | ((with_reducible apply ev_mulW); (focus walk_at "ev"); (focus walk_at "ev"); walk_at "sd")
  | ((with_reducible apply ev_fdiv); (focus walk_at "ev"); (focus walk_at "ev"); walk_at "sd")
  | ((with_reducible apply ev_mod); (focus walk_at "ev"); (focus walk_at "ev"); walk_at "sd")
  | ((with_reducible apply ev_neg); walk_at "ev")
  | ((with_reducible apply ev_ixT); (focus walk_at "ev"); (focus walk_at "ev"); walk_at "sd")
  | (with_reducible apply ev_ixA rfl ?_ ?_; (focus walk_at "ev"); walk_at "sd")
  | ((with_reducible apply ev_ixL); (focus walk_at "ev"); (focus walk_at "ev"); walk_at "sd")
  | (with_reducible apply ev_lenA rfl)
  | ((with_reducible apply ev_lenLM); walk_at "eh"; done)
  | ((with_reducible apply ev_lenTM); walk_at "eh"; done)
  | ((with_reducible apply ev_lenL); walk_at "eh")
  | ((with_reducible apply ev_lenT); walk_at "eh")
  | ((with_reducible apply ev_lenK); walk_at "eh")
  | ((with_reducible apply ev_isN); walk_at "eh")
  | ((with_reducible apply ev_notN); walk_at "eh")
  | ((with_reducible apply ev_inT); (focus walk_at "ev"); walk_at "ev")
  | ((with_reducible apply ev_inD); (focus walk_at "eh"); (focus walk_at "eh"); all_goals walk_at "sh")
  | ((with_reducible apply ev_notInD); (focus walk_at "eh"); (focus walk_at "eh"); all_goals walk_at "sh")
  | ((with_reducible apply ev_eqD); (focus walk_at "eh"); (focus walk_at "eh"); all_goals walk_at "sh")
  | ((with_reducible apply ev_neD); (focus walk_at "eh"); (focus walk_at "eh"); all_goals walk_at "sh")
  | ((with_reducible apply ev_all); walk_at "eh")
  | ((with_reducible apply ev_any); walk_at "eh")
  | ((with_reducible apply ev_sum); walk_at "eh")
  | ((with_reducible apply ev_lenSet); (focus walk_at "ev"); walk_at "sd")
  | ((with_reducible apply ev_isaI); (focus walk_at "eh"); walk_at "sd")
  | ((with_reducible apply ev_isaB); (focus walk_at "eh"); walk_at "sd")
  | ((with_reducible apply ev_isaL); (focus walk_at "eh"); walk_at "sd")
  | ((with_reducible apply ev_isaT); (focus walk_at "eh"); walk_at "sd")
  | ((with_reducible apply ev_tup); (focus walk_at "ea"); walk_at "sd")
  | ((with_reducible apply ev_catT); (focus walk_at "ev"); (focus walk_at "ev"); walk_at "sd")
  | ((with_reducible apply ev_slT); (focus walk_at "ev"); (focus walk_at "eo"); (focus walk_at "eo"))
  | ((with_reducible apply ev_max2); (focus walk_at "ev"); walk_at "ev")
  | ((with_reducible apply ev_min2); (focus walk_at "ev"); walk_at "ev")
  | ((with_reducible apply ev_abs); walk_at "ev")
  | ((with_reducible apply ev_chain); (focus walk_at "ev"); (focus walk_at "ev"); intro _; walk_at "ev")
  | ((with_reducible apply ev_and); (focus walk_at "ev"); intro _; walk_at "ev")
  | ((with_reducible apply ev_or); (focus walk_at "ev"); intro _; walk_at "ev")
  | ((with_reducible apply ev_not); walk_at "ev")
  | (apply EvL.fz; (focus walk_at "el"); walk_at "sd"))
local macro_rules | `(tactic| walk_at "et") => `(tactic| first
  | ((with_reducible apply et_test); walk_at "ev")
  | ((with_reducible apply et_B); walk_at "ev")
  | ((with_reducible apply et_and); (focus walk_at "et"); intro _; walk_at "et")
  | ((with_reducible apply et_or); (focus walk_at "et"); intro _; walk_at "et")
  | ((with_reducible apply et_not); walk_at "et"))
local macro_rules | `(tactic| walk_at "sh") => `(tactic| first
  | exact (sh_tup2 (sh_int _) (sh_int _)).shp (by decide) | exact (sh_pr _).shp (by decide) | exact (sh_prs _).shp (by decide) | exact (sh_st _).shp (by decide) | exact (sh_is _).shp (by decide) | exact (sh_ws _).shp (by decide) | exact (sh_rg _).shp (by decide) | exact (sh_rgs _).shp (by decide) | exact (sh_fm _).shp (by decide)
  | exact sh_nil.shp (by decide) | exact (sh_bls _).shp (by decide) | decide +kernel | skip)

section
variable {P : Program} {w : World} {K : PySem.W.Frag} {mg : Str → Option Value} {base : Heap}
def gSays : List D → D → Prop := fun ds r => ∃ a b : Bool, ds = [.bl a, .bl b] ∧ r = .bl (decide (a = b))
end
end Fg

set_option Elab.async false
set_option linter.all false
set_option maxRecDepth 100000
set_option maxHeartbeats 4000000
/-! Rules: walks over a dict's keys, list(dict), min, writes to one's own objects, promises for what is still to be changed. -/
namespace Fg
open PySem L2 RZ

theorem pl_lst {ds : List D} (p : (D.lst ds).pl = true) : D.pls ds = true := by unfold D.pl at p; exact p
theorem pl_tup {ds : List D} (p : (D.tup ds).pl = true) : D.pls ds = true := by unfold D.pl at p; exact p
mutual
/-- plain data stand while a dict is locked -/
theorem Rp.lock {f : Hp} {a0 : Addr} {kvs : List (List Key × V)} {z : HO} (e : f a0 = some (.dT kvs)) : ∀ {v : V} {d : D}, d.pl = true → Rp f v d → Rp (upd f a0 z) v d
  | _, _, _, .non => .non
  | _, _, _, .bl b => .bl b
  | _, _, _, .int i => .int i
  | _, _, _, .str s => .str s
  | _, _, p, .lst h q r => .lst (by rw [upd_ne (fun w => by rw [w, e] at h; cases h)]; exact h) q (RpL.lock e (pl_lst p) r)
  | _, _, p, .tup h q r => .tup (by rw [upd_ne (fun w => by rw [w, e] at h; cases h)]; exact h) q (RpL.lock e (pl_tup p) r)
  | _, _, p, .dct h _ r => by unfold D.pl at p; cases p
  | _, _, p, .obj h r => by unfold D.pl at p; cases p
  | _, _, p, .fl h q r => by unfold D.pl at p; cases p
theorem RpL.lock {f : Hp} {a0 : Addr} {kvs : List (List Key × V)} {z : HO} (e : f a0 = some (.dT kvs)) : ∀ {vs : List V} {ds : List D}, D.pls ds = true → RpL f vs ds → RpL (upd f a0 z) vs ds
  | _, _, _, .nil => .nil
  | _, _, p, .cons h r => by
    unfold D.pls at p
    rw [Bool.and_eq_true] at p
    exact .cons (Rp.lock e p.1 h) (RpL.lock e p.2 r)
end
theorem RpL.of_ints {f : Hp} : ∀ ns : List Int, RpL f (ns.map V.int) (ns.map D.int)
  | [] => .nil
  | n :: ns => .cons (.int n) (RpL.of_ints ns)
/-- the world with the dict at d as z -/
def Wd.lk (W : Wd) (d : Addr) (z : HO) (hz : ∀ xs, z ≠ .tup xs) : Wd where
  f := upd W.f d z
  h := upd W.h d z
  ex a u e := by
    by_cases q : a = d
    · subst q
      rw [upd_same] at e ⊢
      exact e
    · rw [upd_ne q] at e ⊢
      exact W.ex a u e
  tp a xs e := by
    by_cases q : a = d
    · subst q
      rw [upd_same] at e
      exact absurd (Option.some.inj e) (hz xs)
    · rw [upd_ne q] at e ⊢
      exact W.tp a xs e
/-- slots that may stand while a dict is locked -/
def Sl.lk : Sl → Bool
  | .no => true
  | .dat d => d.pl
  | _ => false
theorem En.lk {W0 W : Wd} {σ : L2.St} {Γ Γ1 : List Sl} {i : Nat} {d : Addr} {kvs : List (List Key × V)} {z : HO} (hz : ∀ xs, z ≠ .tup xs) (E : En W0 W σ Γ) (w : Wk Γ Γ1) (hl : ∀ s ∈ Γ1, s.lk = true) (hi : σ[i]? = some (some (.ref d))) (e : W.f d = some (.dT kvs)) :
    En (W.lk d z hz) (W.lk d z hz) σ (Γ1.set i (.val (.ref d))) := by
  have E1 := E.weak w
  refine ⟨Wd.rfl, by rw [List.length_set]; exact E1.len, fun j s ej => ?_, fun j k s t l ej ek sj tk => ?_⟩
  · rcases set_get ej with ⟨rfl, rfl, _⟩ | ⟨hj, ej⟩
    · exact ⟨_, hi, rfl⟩
    · obtain ⟨o, h1, h2⟩ := E1.ok j s ej
      refine ⟨o, h1, ?_⟩
      have hs := hl s (List.mem_of_getElem? ej)
      cases s with
      | no => exact True.intro
      | dat x =>
        obtain ⟨v, e1, r⟩ := h2
        exact ⟨v, e1, r.lock e hs⟩
      | acc a b => cases hs
      | dac a b => cases hs
      | val v => cases hs
  · have hn : ∀ s ∈ Γ1.set i (.val (.ref d)), s.adr = none := by
      intro s hs
      rcases List.mem_or_eq_of_mem_set hs with hs | rfl
      · have := hl s hs
        cases s with
        | acc a b => cases this
        | dac a b => cases this
        | no => rfl
        | dat x => rfl
        | val v => rfl
      · rfl
    rw [hn s (List.mem_of_getElem? ej)] at sj
    cases sj
theorem RpK.at {f : Hp} : ∀ {kvs : List (List Key × V)} {ks : List (List Int × D)} {i : Nat} {k : List Key} {v : V}, RpK f kvs ks → kvs[i]? = some (k, v) → ∃ q d, ks[i]? = some (q, d) ∧ k = q.map Sum.inl ∧ Rp f v d
  | _, _, 0, _, _, .cons h r, e => by
    cases e
    exact ⟨_, _, rfl, rfl, h⟩
  | _, _, i + 1, k, v, .cons h r, e => by
    obtain ⟨q, d, e1, e2, e3⟩ := RpK.at (i := i) r (by simpa using e)
    exact ⟨q, d, by simpa using e1, e2, e3⟩
theorem RpK.sc {f g : Hp} : ∀ {kvs : List (List Key × V)} {m : Met}, RpK f kvs (dMet m) → RpK g kvs (dMet m)
  | _, [], .nil => .nil
  | _, q :: m, .cons h r => .cons (h.sc rfl) (RpK.sc r)
section
variable {K : PySem.W.Frag} {W0 W W' : Wd} {Γ Γ' Γ1 : List Sl} {te ta tb : TE} {tt : TT} {d e : D} {ds es : List D}
theorem it_keysL {W0 : Wd} {i : Nat} {a : Addr} {od : Obj} {kvs : List (List Key × V)} {m : Met} (hi : Γ[i]? = some (.val (.ref a))) (hf : W.f a = some (.frz od (.dT kvs))) (r : ∀ f, RpK f kvs (dMet m)) (hc : ∀ q ∈ m, q.1.length ≤ cap) : ItD W0 (iKeys (tVar i)) Γ W (m.map fun q => dSt q.1) := fun W1 l1 σ E R q => by
  obtain ⟨o, h1, h2⟩ := E.ok i _ hi
  cases h2
  refine ⟨_, h1, a, od, rfl, .inr ⟨kvs, W1.ex _ _ (l1.fr _ _ hf), q _ W1 Wd.rfl ?_⟩⟩
  have hl : kvs.length = (m.map fun q => dSt q.1).length := by
    have := (r W1.f).length
    rw [this, dMet_len, List.length_map]
  refine ⟨_, _, by rw [← hl]; exact walk_keysT (d := a) (o := od) (kvs := kvs), fun W' l => W'.ex _ _ (l _ _ (l1.fr _ _ hf)), fun j W' x H' hj l y => ?_⟩
  obtain ⟨e, k, v, b, e1, rfl, e2⟩ := y
  obtain ⟨k', d', e3, rfl, _⟩ := (r W1.f).at e1
  rw [key_map] at e2
  refine ⟨W', Wd.rfl, e.symm, dSt k', ?_, .tup (W'.tp _ _ e2) ?_ ?_⟩
  · unfold dMet at e3
    rw [List.getElem?_map] at e3 ⊢
    obtain ⟨q', hq, e4⟩ := Option.map_eq_some_iff.mp e3
    rw [hq]
    cases e4
    rfl
  · rw [List.length_map]
    unfold dMet at e3
    rw [List.getElem?_map] at e3
    obtain ⟨q', hq, e4⟩ := Option.map_eq_some_iff.mp e3
    cases e4
    exact hc _ (List.mem_of_getElem? hq)
  · exact RpL.of_ints k'
/-- [d[k] for k in d if p], the dict of numbers -/
theorem el_keysI {i j : Nat} {m : Met} {p : List Int → Bool} (hi : Γ[i]? = some (.dat (.dct (dMet m)))) (w : Wk Γ Γ1) (hl : ∀ s ∈ Γ1, s.lk = true) (hij : i ≠ j) (hil : i < Γ1.length) (hjl : j < Γ1.length) (nd : (m.map (·.1)).Nodup) (hn : m.length ≤ cap) (hc : ∀ q ∈ m, q.1.length ≤ cap)
    (hs : ∀ (Wz : Wd) (a : Addr) (q : List Int × Int), q ∈ m → ∀ Wy, Wz ≤ Wy → EvT Wz tt ((wipeG (Γ1.set i (.val (.ref a))) [j]).set j (.dat (dSt q.1))) Wy (p q.1)) :
    EvL W0 (tLockE (tLc (iKeys (tVar i)) (gName j) tt (tDGet (tVar i) (tVar j)) [j])) Γ W ((m.filter fun q => p q.1).map fun q => .int q.2) := fun W1 l1 σ E Q q => by
  obtain ⟨o, h1, v, rfl, rv⟩ := E.ok i _ hi
  cases rv with
  | dct hd hz r =>
    rename_i a kvs
    refine ⟨a, .dT kvs, W1.ex _ _ hd, True.intro, fun od => ?_⟩
    have hzz : ∀ xs, HO.frz od (.dT kvs) ≠ .tup xs := fun xs z => by cases z
    have El := En.lk (i := i) (Γ1 := Γ1) hzz E w hl h1 hd
    have hmain : EvL (W1.lk a _ hzz) (tLc (iKeys (tVar i)) (gName j) tt (tDGet (tVar i) (tVar j)) [j]) (Γ1.set i (.val (.ref a))) (W1.lk a _ hzz) ((m.filter fun q => p q.1).map fun q => .int q.2) := by
      refine el_lc m (fun q => dSt q.1) (fun q => p q.1) (fun q => .int q.2) (it_keysL (by rw [List.getElem?_set_self hil]) upd_same (fun f => r.sc) hc) hn (fun q hq => ⟨[j], _, fun _ h => h, tg_name, fun Wy ly => ⟨hs _ a q hq Wy ly, fun _ => ?_⟩⟩)
      intro W2 l2 σ2 E2 Q2 q2
      have hgi : ((wipeG (Γ1.set i (.val (.ref a))) [j]).set j (.dat (dSt q.1)))[i]? = some (.val (.ref a)) := by
        show ((((Γ1.set i (.val (.ref a))).set j .no).set j (.dat (dSt q.1))))[i]? = _
        rw [List.getElem?_set_ne (Ne.symm hij), List.getElem?_set_ne (Ne.symm hij), List.getElem?_set_self hil]
      obtain ⟨o2, g1, g2⟩ := E2.ok i _ hgi
      cases g2
      have hgj : ((wipeG (Γ1.set i (.val (.ref a))) [j]).set j (.dat (dSt q.1)))[j]? = some (.dat (dSt q.1)) := by
        show ((((Γ1.set i (.val (.ref a))).set j .no).set j (.dat (dSt q.1))))[j]? = _
        rw [List.getElem?_set_self (by rw [List.length_set, List.length_set]; exact hjl)]
      obtain ⟨v3, g3, g4⟩ := E2.dat hgj
      refine ⟨_, g1, v3, g3, ?_⟩
      cases g4 with
      | tup hx hxc s =>
        rename_i b xs
        have hfa : W2.f a = some (.frz od (.dT kvs)) := (ly.tr l2).fr _ _ upd_same
        obtain ⟨ix, hix⟩ := List.mem_iff_getElem?.mp hq
        have hlk : lk (dMet m) q.1 = some (.int q.2) := by
          rw [lk_dMet, lk_get nd (show m[ix]? = some (q.1, q.2) from hix)]
          rfl
        obtain ⟨v4, e4, r4⟩ := (RpK.val q.1 r).1 _ hlk
        have e5 := s.ints
        subst e5
        refine ⟨a, v4, rfl, .inr ⟨kvs, q.1.map Sum.inl, b, .inr ⟨od, W2.ex _ _ hfa⟩, rfl, by rw [key_map]; exact W2.ex _ _ hx, e4.symm⟩, q2 v4 W2 Wd.rfl (r4.sc rfl)⟩
    refine hmain _ Wd.rfl σ El _ fun p2 xs W2 l2 n1 n2 hx rx => ?_
    have hd2 : W2.f a = some (.frz od (.dT kvs)) := l2.fr _ _ upd_same
    refine ⟨W2.ex _ _ hd2, ?_⟩
    have hzt : ∀ xs, HO.dT kvs ≠ .tup xs := fun xs z => by cases z
    have hpa : p2 ≠ a := fun z => by
      rw [z, hd2] at n2
      cases n2
    have hsc : ∀ {f g : Hp} {vs : List V} {ms : Met}, RpL f vs (ms.map fun q => .int q.2) → RpL g vs (ms.map fun q => .int q.2) := by
      intro f g vs ms
      induction ms generalizing vs with
      | nil =>
        intro r
        cases r
        exact .nil
      | cons q ms ih =>
        intro r
        cases r with
        | cons h r => exact .cons (h.sc rfl) (ih r)
    refine q p2 xs (W2.lk a (.dT kvs) hzt) ⟨fun b u eb => ?_, fun b u eb zb => ?_⟩ ?_ ?_ ?_ (hsc rx)
    · show upd W2.f a _ b = some u
      by_cases z : b = a
      · subst z
        rw [hd] at eb
        rw [upd_same]
        exact eb
      · rw [upd_ne z]
        refine l2.fr b u ?_
        show upd W1.f a _ b = some u
        rw [upd_ne z]
        exact eb
    · have z : b ≠ a := fun z => by
        rw [z, hd] at zb
        cases zb
      obtain ⟨m1, m2⟩ := l2.ow b u (by show upd W1.h a _ b = _; rw [upd_ne z]; exact eb) (by show upd W1.f a _ b = _; rw [upd_ne z]; exact zb)
      refine ⟨?_, ?_⟩
      · show upd W2.f a _ b = none
        rw [upd_ne z]
        exact m1
      · show upd W2.h a _ b = _
        rw [upd_ne z]
        exact m2
    · have n3 : upd W1.h a (HO.frz od (.dT kvs)) p2 = none := n1
      rw [upd_ne hpa] at n3
      exact n3
    · show upd W2.f a _ p2 = none
      rw [upd_ne hpa]
      exact n2
    · show upd W2.h a _ p2 = _
      rw [upd_ne hpa]
      exact hx
end
/-! ### a value that is there already; what a promise leaves open -/
def tK (v : V) : TE := fun _ H Q => Q v H
section
variable {K : PySem.W.Frag} {W0 W W' : Wd} {Γ Γ' Γ1 : List Sl} {te ta tb t1 t2 : TE} {tt : TT} {d e : D} {ds es : List D} {po : Wd → Wd → V → Prop} {N : List Sl → Wd → Prop} {R : Wd → V → Prop} {i j : Nat} {v : V}
theorem ev_k (h : Rp W.f v d) : EvD W0 (tK v) Γ W d := fun W1 l1 σ E Q q => q v W1 Wd.rfl (h.mono l1.fr)
theorem eh_k (h : Rp W.h v d) : EvH W0 (tK v) Γ W d := fun W1 l1 σ E Q q => q v W1 Wd.rfl (h.mono l1.hh)
def Lin (F : TE → TE) : Prop := ∀ te σ H Q, F te σ H Q = te σ H fun x H' => F (tK x) σ H' Q
/-- whatever the promise leaves open, e comes to d -/
theorem ev_bind {F : TE → TE} (hF : Lin F) (h : EvP W0 te Γ W po) (k : ∀ v W1 W2, W ≤ W2 → po W1 W2 v → EvD W0 (F (tK v)) Γ W2 d) : EvD W0 (F te) Γ W d := fun W1 l1 σ E Q q => by
  rw [hF]
  refine h W1 l1 σ E _ fun v W1' W2 l2 l3 p => ?_
  exact k v W1' W2 (l1.tr (l2.tr l3)) p W2 Wd.rfl σ (E.mono (l2.tr l3)) Q fun v W3 l4 r => q v W3 ((l2.tr l3).tr l4) r
theorem el_bind {F : TE → TE} (hF : Lin F) (h : EvP W0 te Γ W po) (k : ∀ v W1 W2, W ≤ W2 → po W1 W2 v → EvL W0 (F (tK v)) Γ W2 ds) : EvL W0 (F te) Γ W ds := fun W1 l1 σ E Q q => by
  rw [hF]
  refine h W1 l1 σ E _ fun v W1' W2 l2 l3 p => ?_
  exact k v W1' W2 (l1.tr (l2.tr l3)) p W2 Wd.rfl σ (E.mono (l2.tr l3)) Q fun p xs W3 l4 n1 n2 hx r => q p xs W3 ((l2.tr l3).tr l4) ((l2.tr l3).hh.free n1) n2 hx r
/-- (e, call) to two names -/
theorem st_tupE {α : Type} {P : α → Prop} {c : α → D} (h1 : EvD W0 t1 Γ W d) (h2 : ∀ W1, W ≤ W1 → EvP W0 t2 Γ W1 (fun _ W2 v => ∃ x, P x ∧ Rp W2.f v (c x))) (q : ∀ x, P x → ∀ W1, W ≤ W1 → N ((Γ.set i (.dat d)).set j (.dat (c x))) W1) :
    ST W0 (tAsg (tTup (tCons t1 (tCons t2 tNil))) (gTup K 2 (gCons (gName i) (gCons (gName j) gNil)))) Γ W N R := fun σ E D hn hr =>
  h1 W Wd.rfl σ E _ fun v W2 l2 r => h2 W2 l2 W2 Wd.rfl σ (E.mono l2) _ fun u W2' W3 l3 l3' ⟨x, px, s⟩ => by
    refine ⟨(by show 2 ≤ sizeLine; decide), fun T hT => ?_⟩
    have l4 : W3 ≤ W3.nw T (.tup [v, u]) := Wd.le_nw hT
    have l24 := (l3.tr l3').tr l4
    refine ⟨T, [v, u], rfl, SqT.of upd_same, rfl, ?_⟩
    have A4 := (E.mono (l2.tr l24)).putD (i := i) (r.mono l24.fr)
    exact ⟨v, _, rfl, u, _, rfl, rfl, hn _ _ _ (l2.tr l24).fr (q x px _ (l2.tr l24)) (A4.putD (s.mono l4.fr))⟩
/-- min of numbers -/
theorem ev_minE {ns : List Int} {a : Int} (h : EvD W0 te Γ W (.lst (ns.map .int))) (hm : a ∈ ns) (hl : ∀ y ∈ ns, a ≤ y) : EvD W0 (tCB (rMin K) (tCons te tNil)) Γ W (.int a) := fun W1 l1 σ E Q q => h W1 l1 σ E _ fun v W2 l2 r => by
  cases r with
  | lst hx _ r =>
    have e := r.ints
    subst e
    refine ⟨_, ns, rfl, SqL.of (W2.ex _ _ hx), List.length_pos_of_mem hm, fun b hb hbl => ?_⟩
    have : b = a := Int.le_antisymm (hbl a hm) (hl b hb)
    subst this
    exact q _ W2 l2 (.int b)
/-- a call, with what is still to be changed -/
theorem eh_callP {g : List D → (Wd → Wd → V → Prop) → Prop} {E : XK} {ta : TA} (h : EvAH W0 ta Γ W ds) (hg : g ds po) (hpo : ∀ W1 W2 v, W1 ≤ W2 → po W1 W2 v → Rp W2.h v d) : EvH W0 (tCall (Prm g) [] E ta) Γ W d := fun W1 l1 σ En Q q => h W1 l1 σ En _ fun vs W2 l2 r => by
  refine ⟨W2.all, ds, po, rfl, ?_, hg, fun v W' l' p => q v (W2.cut W' l') (l2.tr (Wd.le_cut l')) (show Rp W'.h v d from hpo _ W' _ l' p)⟩
  rw [List.append_nil]
  exact r
/-- what is handed back is told of the whole heap alone -/
theorem ep_callH {g : List D → (Wd → Wd → V → Prop) → Prop} {E : XK} {ta : TA} {α : Type} {P : α → Prop} {c : α → D} (h : EvAH W0 ta Γ W ds) (hg : g ds (fun _ W v => ∃ x, P x ∧ Rp W.f v (c x))) : EvP W0 (tCall (Prm g) [] E ta) Γ W (fun _ W v => ∃ x, P x ∧ Rp W.h v (c x)) := fun W1 l1 σ En Q q => h W1 l1 σ En _ fun vs W2 l2 r => by
  refine ⟨W2.all, ds, _, rfl, ?_, hg, fun v W' l' p => ?_⟩
  · rw [List.append_nil]
    exact r
  · obtain ⟨x, px, rx⟩ := p
    exact q v W2 (W2.cut W' l') l2 (Wd.le_cut l') ⟨x, px, rx.mono W'.ex⟩

/-! ### writes to one's own lists, by their places -/
def EvRef (W0 : Wd) (te : TE) (Γ : List Sl) (W : Wd) (p : Addr) : Prop := ∀ W1, W ≤ W1 → ∀ σ, En W0 W1 σ Γ → ∀ Q : VK, Q (.ref p) W1.h → te σ W1.h Q
theorem er_var {p : Addr} (h : Γ[i]? = some (.val (.ref p))) : EvRef W0 (tVar i) Γ W p := fun W1 l1 σ E Q q => by
  obtain ⟨o, h1, rfl⟩ := E.ok i _ h
  exact ⟨_, h1, q⟩
theorem er_fld {a p C dx : Addr} {gs : List (Str × V)} {f : Str} (h : Γ[i]? = some (.val (.ref a))) (ha : ∀ W1, W ≤ W1 → W1.h a = some (.ins C dx gs)) (hl : gs.lookup f = some (.ref p)) (hc : Cls K C) (hn : NoAttr K C f) : EvRef W0 (tFld K (tVar i) f) Γ W p := fun W1 l1 σ E Q q => by
  obtain ⟨o, h1, rfl⟩ := E.ok i _ h
  exact ⟨_, h1, _, C, _, _, _, rfl, ha W1 l1, hc, hn, hl, q⟩
theorem er_ix {T p : Addr} {xs : List V} {k : Int} (h : Γ[i]? = some (.val (.ref T))) (hT : W.f T = some (.tup xs)) (hk : atI xs k = some (.ref p)) : EvRef W0 (tOp (rIxT K) (tVar i) (tC (.int k))) Γ W p := fun W1 l1 σ E Q q => by
  obtain ⟨o, h1, rfl⟩ := E.ok i _ h
  exact ⟨_, h1, T, xs, k, _, rfl, rfl, SqT.of (W1.ex _ _ (l1.fr _ _ hT)), hk, q⟩
theorem En.upR {σ : L2.St} {p : Addr} {o : HO} (E : En W0 W σ Γ) (ha : ∀ s ∈ Γ, s.adr ≠ some p) (n : W.f p = none) (n0 : W0.h p = none) {ho : ∀ xs, o ≠ .tup xs} : En W0 (W.up p o n ho) σ Γ := by
  refine ⟨Wd.le_up0 E.le n0 n ho, E.len, fun k t ek => ?_, E.ap⟩
  obtain ⟨o2, h1, h2⟩ := E.ok k t ek
  refine ⟨o2, h1, ?_⟩
  have hne := ha t (List.mem_of_getElem? ek)
  cases t with
  | no => exact True.intro
  | val v => exact h2
  | dat d => exact h2
  | acc a es =>
    obtain ⟨e1, m0, m, ys, hy, r1⟩ := h2
    refine ⟨e1, m0, m, ys, ?_, r1⟩
    show upd W.h p _ a = some _
    rw [upd_ne (fun z => hne (by rw [← z]; rfl))]
    exact hy
  | dac a es =>
    obtain ⟨e1, m0, m, ys, hy, r1⟩ := h2
    refine ⟨e1, m0, m, ys, ?_, r1⟩
    show upd W.h p _ a = some _
    rw [upd_ne (fun z => hne (by rw [← z]; rfl))]
    exact hy
theorem st_appR {p : Addr} {xs : List V} (hr : EvRef W0 t1 Γ W p) (n : W.f p = none) (n0 : W0.h p = none) (hx : W.h p = some (.lst xs)) (ha : ∀ s ∈ Γ, s.adr ≠ some p) (hz : xs.length ≤ cap) (h : EvD W0 te Γ W d)
    (q : ∀ v W1 (n1 : W1.f p = none), W ≤ W1 → Rp W1.f v d → N Γ (W1.up p (.lst (xs ++ [v])) n1)) : ST W0 (tDrop (tBM K "list" rAppend t1 (tCons te tNil))) Γ W N R := fun σ E D hn hrr =>
  hr W Wd.rfl σ E _ ⟨.inl ⟨rfl, xs, SqL.of hx⟩, h W Wd.rfl σ E _ fun v W2 l2 rv => by
    obtain ⟨n2, hx2⟩ := l2.ow _ _ hx n
    exact ⟨p, xs, v, rfl, rfl, hx2, lt_cap hz, hn σ (W2.up p _ n2) Γ l2.fr (q v W2 n2 l2 rv) ((E.mono l2).upR ha n2 n0)⟩⟩
theorem st_clearR {p : Addr} {xs : List V} (hr : EvRef W0 t1 Γ W p) (n : W.f p = none) (n0 : W0.h p = none) (hx : W.h p = some (.lst xs)) (ha : ∀ s ∈ Γ, s.adr ≠ some p)
    (q : N Γ (W.up p (.lst []) n)) : ST W0 (tDrop (tBM0 K "list" rClear t1)) Γ W N R := fun σ E D hn hrr =>
  hr W Wd.rfl σ E _ ⟨.inl ⟨rfl, xs, SqL.of hx⟩, p, xs, rfl, rfl, hx, hn σ (W.up p _ n) Γ (Same.refl _) q (E.upR ha n n0)⟩
theorem st_popR {p : Addr} {xs : List V} (hr : EvRef W0 t1 Γ W p) (n : W.f p = none) (n0 : W0.h p = none) (hx : W.h p = some (.lst xs)) (hne : xs ≠ []) (ha : ∀ s ∈ Γ, s.adr ≠ some p)
    (q : N Γ (W.up p (.lst xs.dropLast) n)) : ST W0 (tDrop (tBM0 K "list" rPop t1)) Γ W N R := fun σ E D hn hrr => by
  have hl := List.length_pos_iff.mpr hne
  exact hr W Wd.rfl σ E _ ⟨.inl ⟨rfl, xs, SqL.of hx⟩, p, xs, xs[xs.length - 1], rfl, rfl, hx, List.getElem?_eq_getElem (by omega), hn σ (W.up p _ n) Γ (Same.refl _) q (E.upR ha n n0)⟩
theorem st_setR {p : Addr} {xs : List V} {m : Nat} (hr : EvRef W0 t1 Γ W p) (n : W.f p = none) (n0 : W0.h p = none) (hx : W.h p = some (.lst xs)) (ha : ∀ s ∈ Γ, s.adr ≠ some p) {c b : Int} (hm : ixN xs.length b = some m)
    (q : N Γ (W.up p (.lst (xs.set m (.int c))) n)) : ST W0 (tAsg (tC (.int c)) (gSub t1 (tC (.int b)) rSetL)) Γ W N R := fun σ E D hn hrr =>
  hr W Wd.rfl σ E _ ⟨p, xs, b, m, rfl, rfl, hx, hm, hn σ (W.up p _ n) Γ (Same.refl _) q (E.upR ha n n0)⟩
end
/-! ### list(dict) -/
def rListDT : List V → Hp → VK → Prop := fun xs H Q => ∃ d kvs, xs = [V.ref d] ∧ Rd H d (.dT kvs) ∧ ∀ p bs, H p = none → IsKeys H kvs bs → Q (.ref p) (upd H p (.lst (bs.map V.ref)))
theorem c_listD {X : Cx} (hc : X.calm = true) : CallR X (.type "list") rListDT := call_list_dT hc
theorem keys_rp {f H : Hp} (tp : ∀ a xs, H a = some (.tup xs) → f a = some (.tup xs)) : ∀ {kvs : List (List Key × V)} {ks : List (List Int × D)} {bs : List Addr}, RpK f kvs ks → IsKeys H kvs bs → (∀ q ∈ ks, q.1.length ≤ cap) → RpL f (bs.map V.ref) ((ks.map (·.1)).map dSt)
  | _, [], _, .nil, k, _ => by
    cases k
    exact .nil
  | _, q :: ks, _, .cons h r, k, hc => by
    cases k with
    | cons h1 k =>
      refine .cons ?_ (keys_rp tp r k fun z hz => hc z (List.mem_cons_of_mem _ hz))
      dsimp only at h1
      rw [key_map] at h1
      exact .tup (tp _ _ h1) (by rw [List.length_map]; exact hc _ (List.mem_cons_self ..)) (RpL.of_ints _)
theorem IsKeys.len {H : Hp} : ∀ {kvs : List (List Key × V)} {bs : List Addr}, IsKeys H kvs bs → kvs.length = bs.length
  | _, _, .nil => rfl
  | _, _, .cons _ r => congrArg Nat.succ (IsKeys.len r)
theorem el_listD {W0 W : Wd} {Γ : List Sl} {te : TE} {ks : List (List Int × D)} (h : EvD W0 te Γ W (.dct ks)) (hc : ∀ q ∈ ks, q.1.length ≤ cap) : EvL W0 (tCB rListDT (tCons te tNil)) Γ W ((ks.map (·.1)).map dSt) := fun W1 l1 σ E Q q => h W1 l1 σ E _ fun v W2 l2 r => by
  cases r with
  | dct hx hz r =>
    refine ⟨_, _, rfl, .inl (W2.ex _ _ hx), fun p bs hp hk => ?_⟩
    exact q p _ (W2.up p _ (none_of W2.ex hp)) (l2.tr (Wd.le_up hp)) (l2.hh.free hp) (none_of W2.ex hp) upd_same (keys_rp W2.tp r hk hc)
theorem noadr {Γ : List Sl} (h : Γ.all (fun s => s.adr.isNone) = true) : ∀ s ∈ Γ, s.adr = none := fun s hs => by
  have := List.all_eq_true.mp h s hs
  simpa using this
theorem noadr2 {Γ : List Sl} {p : Addr} (h : Γ.all (fun s => s.adr.isNone) = true) : ∀ s ∈ Γ, s.adr ≠ some p := fun s hs => by
  rw [noadr h s hs]
  exact fun z => by cases z
/-- the last of two lists of one's own object is longer by one -/
theorem OwO.grow {W0 W : Wd} {a C : Addr} {n1 n2 : Str} {p1 p2 : Addr} {d1 d2 : List D} {d : D} (h : OwO W0 W a C [(n1, p1, d1), (n2, p2, d2)]) {xs : List V} {v : V} (hx : W.h p2 = some (.lst xs)) (rv : Rp W.f v d) (hc : d2.length + 1 ≤ cap) (n : W.f p2 = none) :
    OwO W0 (W.up p2 (.lst (xs ++ [v])) n) a C [(n1, p1, d1), (n2, p2, d2 ++ [d])] := by
  obtain ⟨dx, e⟩ := h.ob
  have nd := h.nd
  have h12 : p1 ≠ p2 := by
    intro z
    simp [z] at nd
  have ha2 : a ≠ p2 := fun z => by
    rw [z, hx] at e
    cases e
  obtain ⟨f1, z1, ⟨xs1, x1, r1⟩, c1⟩ := h.ls (n1, p1, d1) (List.mem_cons_self ..)
  obtain ⟨f2, z2, ⟨xs2, x2, r2⟩, c2⟩ := h.ls (n2, p2, d2) (List.mem_cons_of_mem _ (List.mem_cons_self ..))
  dsimp only at f1 z1 x1 r1 c1 f2 z2 x2 r2 c2
  rw [hx] at x2
  cases x2
  refine ⟨⟨dx, ?_⟩, h.fa, h.na, fun q hq => ?_, h.nd⟩
  · show upd W.h p2 _ a = _
    rw [upd_ne ha2]
    exact e
  · rcases List.mem_cons.mp hq with rfl | hq
    · refine ⟨f1, z1, ⟨xs1, ?_, r1⟩, c1⟩
      show upd W.h p2 _ p1 = _
      rw [upd_ne h12]
      exact x1
    · rw [List.mem_singleton.mp hq]
      exact ⟨f2, z2, ⟨_, upd_same, r2.append (.cons rv .nil)⟩, by rw [List.length_append]; exact hc⟩
theorem OwO.clear {W0 W : Wd} {a C : Addr} {n1 : Str} {p1 : Addr} {d1 : List D} (h : OwO W0 W a C [(n1, p1, d1)]) (n : W.f p1 = none) : OwO W0 (W.up p1 (.lst []) n) a C [(n1, p1, [])] := by
  obtain ⟨dx, e⟩ := h.ob
  obtain ⟨f1, z1, ⟨xs1, x1, r1⟩, c1⟩ := h.ls (n1, p1, d1) (List.mem_cons_self ..)
  dsimp only at f1 z1 x1 r1 c1
  have ha : a ≠ p1 := fun z => by
    rw [z, x1] at e
    cases e
  refine ⟨⟨dx, ?_⟩, h.fa, h.na, fun q hq => ?_, h.nd⟩
  · show upd W.h p1 _ a = _
    rw [upd_ne ha]
    exact e
  · rw [List.mem_singleton.mp hq]
    exact ⟨f1, z1, ⟨_, upd_same, .nil⟩, Nat.zero_le _⟩
theorem OwO.obj {W0 W W' : Wd} {a C : Addr} {fs : OF} (h : OwO W0 W a C fs) : ∃ dx, ∀ W', W ≤ W' → W'.h a = some (.ins C dx (fs.map fun q => (q.1, .ref q.2.1))) := by
  obtain ⟨dx, e⟩ := h.ob
  exact ⟨dx, fun W' l => (l.ow _ _ e h.fa).2⟩
/-! ### lists of one's own, by their places -/
structure OL (W0 W : Wd) (p : Addr) (ds : List D) : Prop where
  f : W.f p = none
  n : W0.h p = none
  h : ∃ xs, W.h p = some (.lst xs) ∧ RpL W.f xs ds
  c : ds.length ≤ cap
theorem OL.mono {W0 W W' : Wd} {p : Addr} {ds : List D} (o : OL W0 W p ds) (l : W ≤ W') : OL W0 W' p ds := by
  obtain ⟨xs, hx, r⟩ := o.h
  obtain ⟨f2, h2⟩ := l.ow _ _ hx o.f
  exact ⟨f2, o.n, ⟨xs, h2, r.mono l.fr⟩, o.c⟩
theorem OL.rp {W0 W : Wd} {p : Addr} {ds : List D} (o : OL W0 W p ds) : Rp W.h (.ref p) (.lst ds) := by
  obtain ⟨xs, hx, r⟩ := o.h
  exact .lst hx o.c (r.mono W.ex)
theorem OL.other {W0 W : Wd} {p p' : Addr} {ds : List D} (o : OL W0 W p ds) {x : HO} (hne : p ≠ p') (n : W.f p' = none) {ho : ∀ xs, x ≠ .tup xs} : OL W0 (W.up p' x n ho) p ds := by
  obtain ⟨xs, hx, r⟩ := o.h
  refine ⟨o.f, o.n, ⟨xs, ?_, r⟩, o.c⟩
  show upd W.h p' _ p = _
  rw [upd_ne hne]
  exact hx
section
variable {K : PySem.W.Frag} {W0 W : Wd} {Γ : List Sl} {te t1 t2 : TE} {ds es : List D} {N : List Sl → Wd → Prop} {R : Wd → V → Prop} {i : Nat}
/-- a = (list, list), both one's own -/
theorem st_hand (h1 : EvL W0 t1 Γ W ds) (h2 : ∀ W1, W ≤ W1 → EvL W0 t2 Γ W1 es) (c1 : ds.length ≤ cap) (c2 : es.length ≤ cap) (q : ∀ T p p' W1, W ≤ W1 → W1.f T = some (.tup [.ref p, .ref p']) → OL W W1 p ds → OL W W1 p' es → p ≠ p' → N (Γ.set i (.val (.ref T))) W1) :
    ST W0 (tAsg (tTup (tCons t1 (tCons t2 tNil))) (gName i)) Γ W N R := fun σ E D hn hr => h1 W Wd.rfl σ E _ fun p xs W2 l2 n1 n2 hx r => h2 W2 l2 W2 Wd.rfl σ (E.mono l2) _ fun p' ys W3 l3 m1 m2 hy s => by
  refine ⟨(by show 2 ≤ sizeLine; decide), fun T hT => ?_⟩
  have l4 : W3 ≤ W3.nw T (.tup [.ref p, .ref p']) := Wd.le_nw hT
  obtain ⟨f3, h3⟩ := l3.ow _ _ hx n2
  obtain ⟨f4, h4⟩ := l4.ow _ _ h3 f3
  obtain ⟨f5, h5⟩ := l4.ow _ _ hy m2
  refine hn _ _ _ ((l2.tr l3).tr l4).fr (q T p p' _ ((l2.tr l3).tr l4) upd_same ⟨f4, n1, ⟨xs, h4, r.mono (l3.tr l4).fr⟩, c1⟩ ⟨f5, l2.hh.free m1, ⟨ys, h5, s.mono l4.fr⟩, c2⟩ (fun z => ?_)) ((E.mono ((l2.tr l3).tr l4)).put (s := .val (.ref T)) rfl (fun l e => by cases e))
  rw [z] at hx
  rw [m1] at hx
  cases hx
/-- a = list, told by its place -/
theorem st_asgR (h : EvL W0 te Γ W ds) (c : ds.length ≤ cap) (q : ∀ p W1, W ≤ W1 → OL W W1 p ds → N (Γ.set i (.val (.ref p))) W1) : ST W0 (tAsg te (gName i)) Γ W N R := fun σ E D hn hr => h W Wd.rfl σ E _ fun p xs W2 l2 n1 n2 hx r =>
  hn _ W2 _ l2.fr (q p W2 l2 ⟨n2, n1, ⟨xs, hx, r⟩, c⟩) ((E.mono l2).put (s := .val (.ref p)) rfl (fun l e => by cases e))
end
theorem OL.base {W0 W1 W : Wd} {p : Addr} {ds : List D} (o : OL W1 W p ds) (l : W0 ≤ W1) : OL W0 W p ds := ⟨o.f, l.hh.free o.n, o.h, o.c⟩
theorem OL.ne {W0 W W1 : Wd} {p s : Addr} {ds es : List D} (o : OL W0 W p ds) (o2 : OL W W1 s es) : p ≠ s := fun z => by
  obtain ⟨xs, hx, _⟩ := o.h
  have := o2.n
  rw [← z, hx] at this
  cases this
theorem eh_ixT {K : PySem.W.Frag} {W0 W : Wd} {Γ : List Sl} {ta : TE} {ds : List D} {d : D} {a : Int} (ha : EvH W0 ta Γ W (.tup ds)) (h : atI ds a = some d) : EvH W0 (tOp (rIxT K) ta (tC (.int a))) Γ W d := fun W1 l1 σ E Q q => ha W1 l1 σ E _ fun x W2 l2 rx => by
  cases rx with
  | tup hx hz r =>
    obtain ⟨v, h1, h2⟩ := atI_rp r h
    exact ⟨_, _, a, v, rfl, rfl, SqT.of hx, h1, q v W2 l2 h2⟩
/-- a list of one's own, written -/
theorem OL.wr {W0 W : Wd} {p : Addr} {ds es : List D} {ys : List V} (o : OL W0 W p ds) (r : RpL W.f ys es) (hc : es.length ≤ cap) (n : W.f p = none) : OL W0 (W.up p (.lst ys) n) p es := ⟨n, o.n, ⟨ys, upd_same, r⟩, hc⟩
end Fg

set_option Elab.async false
set_option linter.all false
set_option maxRecDepth 100000
set_option maxHeartbeats 4000000
/-! What is new, frozen at once; lists of lists of one's own; walks over one's own lists. -/
namespace Fg
open PySem L2 RZ

/-! ### all that is new is frozen -/
open Classical in
noncomputable def Wd.fzN (W W' : Wd) : Wd where
  f a := if W.h a = none then W'.h a else W'.f a
  h := W'.h
  ex a u e := by
    replace e : (if W.h a = none then W'.h a else W'.f a) = some u := e
    split at e
    · exact e
    · exact W'.ex a u e
  tp a xs e := by
    have h1 := W'.tp a xs e
    show (if W.h a = none then W'.h a else W'.f a) = some (.tup xs)
    split
    · exact e
    · exact h1
theorem Wd.fzN_fr {W W' : Wd} : Same W'.f (W.fzN W').f := fun a u e => by
  show (if W.h a = none then W'.h a else W'.f a) = some u
  split
  · exact W'.ex a u e
  · exact e
theorem Wd.le_fzN {W W' : Wd} (l : W ≤ W') : W ≤ W.fzN W' :=
  ⟨fun a u e => Wd.fzN_fr a u (l.fr a u e), fun a u e n => by
    obtain ⟨h1, h2⟩ := l.ow a u e n
    refine ⟨?_, h2⟩
    show (if W.h a = none then W'.h a else W'.f a) = none
    rw [if_neg (by rw [e]; exact fun z => by cases z)]
    exact h1⟩
theorem Wd.fzN_new {W W' : Wd} {a : Addr} (n : W.h a = none) : (W.fzN W').f a = W'.h a := by
  show (if W.h a = none then W'.h a else W'.f a) = _
  rw [if_pos n]
mutual
/-- tuples all the way -/
def D.tpy : D → Bool
  | .non | .bl _ | .int _ | .str _ => true
  | .tup ds => D.tpys ds
  | _ => false
def D.tpys : List D → Bool
  | [] => true
  | d :: ds => D.tpy d && D.tpys ds
end
mutual
theorem Rp.tpf {W : Wd} : ∀ {v : V} {d : D}, d.tpy = true → Rp W.h v d → Rp W.f v d
  | _, _, _, .non => .non
  | _, _, _, .bl b => .bl b
  | _, _, _, .int i => .int i
  | _, _, _, .str s => .str s
  | _, _, p, .lst h q r => by unfold D.tpy at p; cases p
  | _, _, p, .tup h q r => .tup (W.tp _ _ h) q (RpL.tpf (by unfold D.tpy at p; exact p) r)
  | _, _, p, .dct h _ r => by unfold D.tpy at p; cases p
  | _, _, p, .obj h r => by unfold D.tpy at p; cases p
  | _, _, p, .fl h q r => by unfold D.tpy at p; cases p
theorem RpL.tpf {W : Wd} : ∀ {vs : List V} {ds : List D}, D.tpys ds = true → RpL W.h vs ds → RpL W.f vs ds
  | _, _, _, .nil => .nil
  | _, _, p, .cons h r => by
    unfold D.tpys at p
    rw [Bool.and_eq_true] at p
    exact .cons (Rp.tpf p.1 h) (RpL.tpf p.2 r)
end
theorem tpys_map {α : Type} {f : α → D} (h : ∀ a, (f a).tpy = true) : ∀ as : List α, D.tpys (as.map f) = true
  | [] => by unfold List.map D.tpys; rfl
  | a :: as => by
    rw [List.map_cons]
    unfold D.tpys
    rw [h a, tpys_map h as]
    rfl
theorem tpy_int (i : Int) : (D.int i).tpy = true := by unfold D.tpy; rfl
theorem tpy_tupM {α : Type} {f : α → D} (h : ∀ a, (f a).tpy = true) (as : List α) : (D.tup (as.map f)).tpy = true := by
  unfold D.tpy
  exact tpys_map h as
theorem tpy_st (t : List Int) : (dSt t).tpy = true := tpy_tupM tpy_int t
theorem tpy_pr (p : Int × Int) : (dPr p).tpy = true := tpy_tupM tpy_int [p.1, p.2]
theorem OwO.rpN {W W' Wn : Wd} {a C : Addr} {fs : OF} (h : OwO W W' a C fs) (eh : Wn.h = W'.h) (en : ∀ a, W.h a = none → Wn.f a = W'.h a) (hr : ∀ q ∈ fs, ∀ xs, RpL W'.f xs q.2.2 → RpL Wn.f xs q.2.2) : Rp Wn.f (.ref a) (.obj C fs.d) := by
  obtain ⟨dx, e⟩ := h.ob
  refine .obj (dx := dx) (gs := fs.map fun q => (q.1, .ref q.2.1)) (by rw [en a h.na]; exact e) ?_
  have key : ∀ gs : OF, (∀ q ∈ gs, q ∈ fs) → RpF Wn.f (gs.map fun q => (q.1, .ref q.2.1)) (gs.map fun q => (q.1, .lst q.2.2)) := by
    intro gs
    induction gs with
    | nil => exact fun _ => .nil
    | cons q gs ih =>
      intro hq
      obtain ⟨_, n0, ⟨xs, hx, r⟩, hc⟩ := h.ls q (hq q (List.mem_cons_self ..))
      exact .cons (.lst (xs := xs) (by rw [en _ n0]; exact hx) hc (hr q (hq q (List.mem_cons_self ..)) xs r)) (ih fun z hz => hq z (List.mem_cons_of_mem _ hz))
  exact key fs fun _ h => h
theorem OwO.rpF {W W' : Wd} {a C : Addr} {fs : OF} (h : OwO W W' a C fs) : Rp (W.fzN W').f (.ref a) (.obj C fs.d) :=
  h.rpN rfl (fun a n => Wd.fzN_new n) fun q _ xs r => r.mono Wd.fzN_fr
section
variable {K : PySem.W.Frag} {W0 W W' : Wd} {Γ Γ' : List Sl} {te t1 t2 : TE} {ta : TA} {wi : TI} {g : TG} {vs : List Nat} {d : D} {ds es : List D} {po : Wd → Wd → V → Prop}
/-- what is handed back is new, and is frozen at once -/
theorem EvP.fz (h : EvP W0 te Γ W po) (hr : ∀ W1 W2 v, W1 ≤ W2 → po W1 W2 v → Rp (W1.fzN W2).f v d) : EvD W0 te Γ W d := fun W1 l1 σ E Q q => h W1 l1 σ E _ fun v W2 W3 l2 l3 p =>
  q v (W2.fzN W3) (l2.tr (Wd.le_fzN l3)) (hr W2 W3 v l3 p)
theorem EvP.fzE {α : Type} {P : α → Prop} {c : α → D} (h : EvP W0 te Γ W po) (hr : ∀ W1 W2 v, W1 ≤ W2 → po W1 W2 v → ∃ x, P x ∧ Rp (W1.fzN W2).f v (c x)) : EvP W0 te Γ W (fun _ W2 v => ∃ x, P x ∧ Rp W2.f v (c x)) := fun W1 l1 σ E Q q => h W1 l1 σ E _ fun v W2 W3 l2 l3 p =>
  q v W2 (W2.fzN W3) l2 (Wd.le_fzN l3) (hr W2 W3 v l3 p)
/-- an object made of what is still to be changed; it is new, and frozen at once -/
theorem ev_mkH {C : Addr} {g : List D → (Wd → Wd → Addr → Prop) → Prop} {E : XK} {po : Wd → Wd → Addr → Prop} (h : EvAH W0 ta Γ W ds) (hg : g ds po)
    (hr : ∀ (W1 W2 Wn : Wd) (x : Addr), W1.all ≤ W2 → po W1.all W2 x → Wn.h = W2.h → (∀ a, W1.h a = none → Wn.f a = W2.h a) → Rp Wn.f (.ref x) d) : EvD W0 (tMake C (Ini C g) [] E ta) Γ W d := fun W1 l1 σ En Q q => h W1 l1 σ En _ fun vs W2 l2 r => by
  intro x dx hx hdx hne
  have n1 : W2.all.f dx = none := hdx
  have n2 : W2.all.f x = none := hx
  have hx2 : (W2.all.up dx (.own x) n1).h x = none := by
    show upd W2.h dx _ x = none
    rw [upd_ne (fun z => hne z.symm)]
    exact hx
  have l3 : W2.all ≤ (W2.all.up dx (.own x) n1).up x (.ins C dx []) n2 := (Wd.le_up (W := W2.all) hdx).tr (Wd.le_up hx2)
  refine ⟨W2.all, (W2.all.up dx (.own x) n1).up x (.ins C dx []) n2, x, dx, vs, ds, po, rfl, l3, hx, n2, upd_same, ?_, r, hg, fun W' l' p => ⟨rfl, ?_⟩⟩
  · rw [List.append_nil]
  · refine q (.ref x) (W2.fzN (W2.cut W' l')) (l2.tr (Wd.le_fzN (Wd.le_cut l'))) ?_
    exact hr W2 W' _ x l' p rfl fun a n => Wd.fzN_new n
/-- an object frozen at once -/
theorem ev_mkF {C : Addr} {g : List D → (Wd → Wd → Addr → Prop) → Prop} {E : XK} {po : Wd → Wd → Addr → Prop} (h : EvA W0 ta Γ W ds) (hg : g ds po) (hr : ∀ W1 W2 x, W1 ≤ W2 → po W1 W2 x → Rp (W1.fzN W2).f (.ref x) d) : EvD W0 (tMake C (Ini C g) [] E ta) Γ W d :=
  (ep_make h hg).fz fun W1 W2 v l p => by
    obtain ⟨x, rfl, p⟩ := p
    exact hr W1 W2 x l p

/-! ### words of one's own for what an expression is worth -/
def EvJ (W0 : Wd) (te : TE) (Γ : List Sl) (W : Wd) (F : Wd → Wd → V → Prop) : Prop := ∀ W1, W ≤ W1 → ∀ σ, En W0 W1 σ Γ → ∀ Q : VK, (∀ v W2, W1 ≤ W2 → F W1 W2 v → Q v W2.h) → te σ W1.h Q
theorem EvL.j (h : EvL W0 te Γ W ds) (hc : ds.length ≤ cap) : EvJ W0 te Γ W (fun W1 W2 v => ∃ q, v = .ref q ∧ OL W1 W2 q ds) := fun W1 l1 σ E Q q => h W1 l1 σ E Q fun p xs W2 l2 n1 n2 hx r => q (.ref p) W2 l2 ⟨p, rfl, n2, n1, ⟨xs, hx, r⟩, hc⟩
/-- [e for a in as], each item told by a word that stands while the world grows -/
theorem el_lcJ {α : Type} (as : List α) (c : α → D) (J : Wd → Addr → Nat → Wd → List V → Prop) (F : α → Wd → Wd → V → Prop) (hi : ItD W0 wi Γ W (as.map c)) (hn : as.length ≤ cap)
    (hlen : ∀ B p i W xs, J B p i W xs → xs.length = i) (h0 : ∀ B p W, J B p 0 W []) (hm : ∀ B p i W W' xs, W ≤ W' → J B p i W xs → J B p i W' xs)
    (hstep : ∀ (B : Wd) (p : Addr) (i : Nat) (a : α) (W1 W2 : Wd) (xs : List V) (v : V) (n : W2.f p = none), as[i]? = some a → B ≤ W1 → W1 ≤ W2 → W2.h p = some (.lst xs) → W1.h p ≠ none → B.h p = none → J B p i W1 xs → F a W1 W2 v → J B p (i + 1) (W2.up p (.lst (xs ++ [v])) n) (xs ++ [v]))
    (hs : ∀ a ∈ as, ∃ sl Γ', (∀ i ∈ sl, i ∈ vs) ∧ TgD W0 g sl (c a) (wipeG Γ vs) Γ' ∧ ∀ W1, W ≤ W1 → EvJ W0 te Γ' W1 (F a)) :
    EvJ W0 (tLc wi g tYes te vs) Γ W (fun W1 W2 v => ∃ p xs, v = .ref p ∧ W1.h p = none ∧ W2.f p = none ∧ W2.h p = some (.lst xs) ∧ J W1 p as.length W2 xs) := fun W1 l1 σ E Q q => by
  refine hi W1 l1 σ E _ fun It W2 l2 ⟨G, Y, wk, hG, hY⟩ => ?_
  intro Dl hD
  have hfD : W2.f Dl = none := none_of W2.ex hD
  have hD1 : W1.h Dl = none := l2.hh.free hD
  refine lc_it wk (fun i H => ∃ W' : Wd, W'.h = H ∧ W2 ≤ W' ∧ W'.f Dl = none ∧ ∃ xs, H Dl = some (.lst xs) ∧ J W1 Dl i W' xs)
    ⟨W2.up Dl _ hfD, rfl, Wd.le_up hD, hfD, [], upd_same, h0 _ _ _⟩ (fun i H _ ⟨W', e1, l3, _⟩ => by rw [← e1]; exact hG W' l3.fr) ?_ ?_
  · rintro i x H H' hin ⟨W', rfl, l3, hf, xs, hx, hJ⟩ y
    obtain ⟨W4, l4, rfl, d, hd, rd⟩ := hY i W' x H' hin l3.fr y
    rw [List.length_map] at hin
    rw [List.getElem?_map] at hd
    obtain ⟨a, ha, rfl⟩ := Option.map_eq_some_iff.mp hd
    obtain ⟨sl, Γ', hsl, htg, hev⟩ := hs a (List.mem_of_getElem? ha)
    have l24 := l3.tr l4
    have E4 : En W0 W4 (wipe σ vs) (wipeG Γ vs) := ((E.mono (l2.tr l24)).wipe vs)
    obtain ⟨hfD4, hx4⟩ := l4.ow _ _ hx hf
    have hJ4 := hm _ _ _ _ _ _ l4 hJ
    have hacc : xs.length < sizeLine := by
      rw [hlen _ _ _ _ _ hJ]
      exact lt_cap (by omega)
    refine htg W4 _ x E4 rd _ fun σ' E' a1 b1 => ⟨?_, ?_⟩
    · have := wipe_of (σ := wipe σ vs) (σ' := σ') b1 a1 hsl
      rw [this]
      apply wipe_of (sl := vs) (wipe_length ..) _ (fun i h => h)
      intro j hj
      have : ∀ (τ : L2.St) (us : List Nat), j ∉ us → (wipe τ us)[j]? = τ[j]? := by
        intro τ us
        induction us with
        | nil => intro _; rfl
        | cons v us ih =>
          intro hu
          unfold wipe
          rw [List.getElem?_set_ne (fun z => hu (by rw [z]; exact List.mem_cons_self ..)), ih (fun z => hu (List.mem_cons_of_mem _ z))]
      exact this σ vs hj
    · refine et_yes W4 (l1.tr (l2.tr l24)) σ' E' _ fun W5 l5 => ?_
      rw [if_pos rfl]
      obtain ⟨hfD5, hx5⟩ := l5.ow _ _ hx4 hfD4
      refine hev W4 (l1.tr (l2.tr l24)) W5 l5 σ' (E'.mono l5) _ fun v W6 l6 rv => ?_
      obtain ⟨hfD6, hx6⟩ := l6.ow _ _ hx5 hfD5
      refine ⟨xs, hx6, hacc, W6.up Dl _ hfD6, rfl, ?_, hfD6, _, upd_same, ?_⟩
      · exact Wd.le_up0 (l24.tr (l5.tr l6)) hD hfD6
      · exact hstep W1 Dl i a W5 W6 xs v hfD6 ha (l2.tr (l24.tr l5)) l6 hx6 (by rw [hx5]; exact fun z => by cases z) hD1 (hm _ _ _ _ _ _ l5 hJ4) rv
  · rintro H ⟨W', rfl, l3, hf, xs, hx, hJ⟩
    rw [List.length_map] at hJ
    exact q (.ref Dl) W' (l2.tr l3) ⟨Dl, xs, rfl, hD1, hf, hx, hJ⟩
end
/-- lists of one's own, unlike ones -/
structure OLs (W0 W : Wd) (ps : List Addr) (dss : List (List D)) : Prop where
  len : ps.length = dss.length
  ol : ∀ (k : Nat) (q : Addr) (ds : List D), ps[k]? = some q → dss[k]? = some ds → OL W0 W q ds
  nd : ps.Nodup
theorem OLs.mono {W0 W W' : Wd} {ps : List Addr} {dss : List (List D)} (o : OLs W0 W ps dss) (l : W ≤ W') : OLs W0 W' ps dss := ⟨o.len, fun k q ds h1 h2 => (o.ol k q ds h1 h2).mono l, o.nd⟩
theorem OLs.nil {W0 W : Wd} : OLs W0 W [] [] := ⟨rfl, fun k q ds h => by simp at h, List.nodup_nil⟩
theorem OLs.mem {W0 W : Wd} {ps : List Addr} {dss : List (List D)} (o : OLs W0 W ps dss) {q : Addr} (h : q ∈ ps) : ∃ ds, ds ∈ dss ∧ OL W0 W q ds := by
  obtain ⟨k, hk⟩ := List.mem_iff_getElem?.mp h
  have hl : k < dss.length := by
    rw [← o.len]
    exact (List.getElem?_eq_some_iff.mp hk).1
  exact ⟨dss[k], List.getElem_mem _, o.ol k q _ hk (by simp [hl])⟩
theorem OLs.push {W0 W : Wd} {ps : List Addr} {dss : List (List D)} {q : Addr} {ds : List D} (o : OLs W0 W ps dss) (h : OL W0 W q ds) (n : q ∉ ps) : OLs W0 W (ps ++ [q]) (dss ++ [ds]) := by
  refine ⟨by rw [List.length_append, List.length_append, o.len]; rfl, fun k r es h1 h2 => ?_, ?_⟩
  · by_cases hk : k < ps.length
    · rw [List.getElem?_append_left hk] at h1
      rw [List.getElem?_append_left (by rw [← o.len]; exact hk)] at h2
      exact o.ol k r es h1 h2
    · rw [List.getElem?_append_right (by omega)] at h1
      rw [List.getElem?_append_right (by rw [← o.len]; omega), ← o.len] at h2
      cases hj : k - ps.length with
      | zero =>
        rw [hj] at h1 h2
        cases h1
        cases h2
        exact h
      | succ j =>
        rw [hj] at h1
        simp at h1
  · rw [List.nodup_append]
    exact ⟨o.nd, by simp, fun a ha b hb => by
      rw [List.mem_singleton.mp hb]
      exact fun z => n (z ▸ ha)⟩
theorem OLs.other {W0 W : Wd} {ps : List Addr} {p' : Addr} {dss : List (List D)} (o : OLs W0 W ps dss) {x : HO} (hne : p' ∉ ps) (n : W.f p' = none) {ho : ∀ xs, x ≠ .tup xs} : OLs W0 (W.up p' x n ho) ps dss :=
  ⟨o.len, fun k q ds h1 h2 => (o.ol k q ds h1 h2).other (fun z => hne (by rw [← z]; exact List.mem_of_getElem? h1)) n, o.nd⟩
theorem OLs.base {W0 W1 W : Wd} {ps : List Addr} {dss : List (List D)} (o : OLs W1 W ps dss) (l : W0 ≤ W1) : OLs W0 W ps dss := ⟨o.len, fun k q ds h1 h2 => (o.ol k q ds h1 h2).base l, o.nd⟩
theorem OLs.rp {W0 W : Wd} {ps : List Addr} {dss : List (List D)} (o : OLs W0 W ps dss) : RpL W.h (ps.map V.ref) (dss.map D.lst) := by
  obtain ⟨hl, ho, nd⟩ := o
  clear nd
  induction ps generalizing dss with
  | nil =>
    cases dss with
    | nil => exact .nil
    | cons d dss => simp at hl
  | cons p ps ih =>
    cases dss with
    | nil => simp at hl
    | cons d dss =>
      exact .cons (ho 0 p d rfl rfl).rp (ih (by simpa using hl) fun k q ds h1 h2 => ho (k + 1) q ds (by simpa using h1) (by simpa using h2))
/-- a new list of new lists -/
structure OLL (W0 W : Wd) (p : Addr) (ps : List Addr) (dss : List (List D)) : Prop where
  f : W.f p = none
  n : W0.h p = none
  h : W.h p = some (.lst (ps.map V.ref))
  c : dss.length ≤ cap
  ls : OLs W0 W ps dss
  np : p ∉ ps
theorem OLL.mono {W0 W W' : Wd} {p : Addr} {ps : List Addr} {dss : List (List D)} (o : OLL W0 W p ps dss) (l : W ≤ W') : OLL W0 W' p ps dss := by
  obtain ⟨f2, h2⟩ := l.ow _ _ o.h o.f
  exact ⟨f2, o.n, h2, o.c, o.ls.mono l, o.np⟩
theorem OLL.base {W0 W1 W : Wd} {p : Addr} {ps : List Addr} {dss : List (List D)} (o : OLL W1 W p ps dss) (l : W0 ≤ W1) : OLL W0 W p ps dss := ⟨o.f, l.hh.free o.n, o.h, o.c, o.ls.base l, o.np⟩
theorem OLL.other {W0 W : Wd} {p p' : Addr} {ps : List Addr} {dss : List (List D)} (o : OLL W0 W p ps dss) {x : HO} (h1 : p' ≠ p) (h2 : p' ∉ ps) (n : W.f p' = none) {ho : ∀ xs, x ≠ .tup xs} : OLL W0 (W.up p' x n ho) p ps dss :=
  ⟨o.f, o.n, by
    show upd W.h p' x p = _
    rw [upd_ne (Ne.symm h1)]
    exact o.h, o.c, o.ls.other h2 n, o.np⟩
theorem OLL.rp {W0 W : Wd} {p : Addr} {ps : List Addr} {dss : List (List D)} (o : OLL W0 W p ps dss) : Rp W.h (.ref p) (.lst (dss.map D.lst)) := .lst o.h (by rw [List.length_map]; exact o.c) o.ls.rp
section
variable {K : PySem.W.Frag} {W0 W W' : Wd} {Γ Γ' : List Sl} {te t1 t2 : TE} {wi : TI} {g : TG} {vs : List Nat} {N : List Sl → Wd → Prop} {R : Wd → V → Prop} {tb : TS} {i j n : Nat}
/-- [list(a) for a in as] -/
theorem el_lcs {α : Type} (as : List α) (c : α → D) (e : α → List D) (hi : ItD W0 wi Γ W (as.map c)) (hn : as.length ≤ cap) (hc : ∀ a ∈ as, (e a).length ≤ cap)
    (hs : ∀ a ∈ as, ∃ sl Γ', (∀ i ∈ sl, i ∈ vs) ∧ TgD W0 g sl (c a) (wipeG Γ vs) Γ' ∧ ∀ W1, W ≤ W1 → EvL W0 te Γ' W1 (e a)) :
    EvJ W0 (tLc wi g tYes te vs) Γ W (fun W1 W2 v => ∃ p ps, v = .ref p ∧ OLL W1 W2 p ps (as.map e)) := by
  have H := el_lcJ (te := te) (g := g) (vs := vs) as c (fun B p i W xs => ∃ ps, xs = ps.map V.ref ∧ OLs B W ps ((as.take i).map e) ∧ p ∉ ps ∧ i ≤ as.length) (fun a W1 W2 v => ∃ q, v = .ref q ∧ OL W1 W2 q (e a)) hi hn ?_ ?_ ?_ ?_ ?_
  · intro W1 l1 σ E Q q
    refine H W1 l1 σ E Q fun v W2 l2 ⟨p, xs, hv, n1, n2, hx, ps, hxs, hO, hp, _⟩ => q v W2 l2 ⟨p, ps, hv, ?_⟩
    rw [List.take_length] at hO
    exact ⟨n2, n1, hxs ▸ hx, by rw [List.length_map]; exact hn, hO, hp⟩
  · rintro B p i W xs ⟨ps, rfl, hO, _, hi⟩
    rw [List.length_map, hO.len, List.length_map, List.length_take]
    omega
  · exact fun B p W => ⟨[], rfl, OLs.nil, by simp, Nat.zero_le _⟩
  · rintro B p i W W' xs l ⟨ps, h1, h2, h3, h4⟩
    exact ⟨ps, h1, h2.mono l, h3, h4⟩
  · rintro B p i a W1 W2 xs v n2 ha lB l hx hp1 hB ⟨ps, rfl, hO, hp, hi⟩ ⟨q, rfl, hq⟩
    have hqp : p ≠ q := fun z => hp1 (z ▸ hq.n)
    have hqn : q ∉ ps := fun z => by
      obtain ⟨ds, _, o⟩ := hO.mem z
      obtain ⟨ys, hy, _⟩ := o.h
      have := hq.n
      rw [hy] at this
      cases this
    refine ⟨ps ++ [q], by rw [List.map_append]; rfl, ?_, ?_, ?_⟩
    · rw [List.take_add_one, ha, List.map_append]
      refine ((hO.mono l).push (hq.base lB) hqn).other (fun z => ?_) n2
      rcases List.mem_append.mp z with z | z
      · exact hp z
      · exact hqp (List.mem_singleton.mp z)
    · intro z
      rcases List.mem_append.mp z with z | z
      · exact hp z
      · exact hqp (List.mem_singleton.mp z)
    · exact (List.getElem?_eq_some_iff.mp ha).1
  · intro a ha
    obtain ⟨sl, Γ', h1, h2, h3⟩ := hs a ha
    exact ⟨sl, Γ', h1, h2, fun W1 l1 => (h3 W1 l1).j (hc a ha)⟩
theorem wk_set0 (Γ : List Sl) (n : Nat) : Wk Γ (Γ.set n .no) := by
  refine ⟨by rw [List.length_set], fun i s e => ?_⟩
  rcases set_get e with ⟨_, rfl, _⟩ | ⟨_, e⟩
  · exact .inl rfl
  · exact .inr e
/-- for x in a list of one's own that the turns leave as it is -/
theorem st_forO {p : Addr} {xs : List V} (hr : EvRef W0 te Γ W p) (hx : W.h p = some (.lst xs)) (I : Nat → List Sl → Wd → Prop) (h0 : I 0 Γ W) (hI : ∀ i Γi Wi, I i Γi Wi → Wi.h p = some (.lst xs))
    (hs : ∀ i v Γi Wi, xs[i]? = some v → I i Γi Wi → Same W.f Wi.f → ST W0 tb (Γi.set n (.val v)) Wi (I (i + 1)) R) (hd : ∀ Γn Wn, Same W.f Wn.f → I xs.length Γn Wn → ∃ Γ2, Wk Γn Γ2 ∧ N Γ2 Wn) :
    ST W0 (tFor (iList K te) (gName n) tb) Γ W N R := fun σ E D hn hrr => by
  refine hr W Wd.rfl σ E _ ?_
  refine ⟨p, rfl, ⟨xs, SqL.of hx⟩, ?_⟩
  have wk := walk_list (K := K) (a := p) (xs := xs)
  refine for_it wk (fun i σ' H => ∃ W' Γ', W'.h = H ∧ Same W.f W'.f ∧ I i Γ' W' ∧ En W0 W' σ' Γ') ⟨W, Γ, rfl, Same.refl _, h0, E⟩ (fun i σ' H _ ⟨W', Γ', e, _, hi, _⟩ => by rw [← e]; exact SqL.of (hI i Γ' W' hi)) ?_ ?_
  · rintro i x σ' H H' hin ⟨W', Γ', rfl, l3, hi, E'⟩ ⟨e, hxi⟩
    subst e
    have E2 := E'.put (i := n) (v := x) (s := .val x) rfl (fun l e => by cases e)
    exact hs i x Γ' W' hxi hi l3 _ E2 _ (fun σ3 W3 Γ3 l5 n3 E3 => ⟨W3, Γ3, rfl, l3.trans l5, n3, E3⟩) hrr
  · rintro σ' H ⟨W', Γ', rfl, l3, hi, E'⟩
    obtain ⟨Γ2, w, n2⟩ := hd Γ' W' l3 hi
    exact hn σ' W' Γ2 l3 n2 (E'.weak w)
/-- a = what a word tells of -/
theorem st_asgJ {F : Wd → Wd → V → Prop} (h : EvJ W0 te Γ W F) (q : ∀ v W1, W ≤ W1 → F W W1 v → N (Γ.set i (.val v)) W1) : ST W0 (tAsg te (gName i)) Γ W N R := fun σ E D hn hr => h W Wd.rfl σ E _ fun v W2 l2 p =>
  hn _ W2 _ l2.fr (q v W2 l2 p) ((E.mono l2).put (s := .val v) rfl (fun l e => by cases e))
/-- [a, b], both one's own -/
theorem ej_lst2 {F1 F2 : Wd → Wd → V → Prop} (h1 : EvJ W0 t1 Γ W F1) (h2 : EvJ W0 t2 Γ W F2) : EvJ W0 (tLst (tCons t1 (tCons t2 tNil))) Γ W (fun W1 W4 v => ∃ p a b W2 W3, v = .ref p ∧ W1 ≤ W2 ∧ W2 ≤ W3 ∧ W3 ≤ W4 ∧ F1 W1 W2 a ∧ F2 W2 W3 b ∧ W3.h p = none ∧ W4.f p = none ∧ W4.h p = some (.lst [a, b])) := fun W1 l1 σ E Q q =>
  h1 W1 l1 σ E _ fun a W2 l2 ra => h2 W2 (l1.tr l2) σ (E.mono l2) _ fun b W3 l3 rb => ⟨(by show 2 ≤ sizeLine; decide), fun p hp =>
    q (.ref p) (W3.up p (.lst [a, b]) (none_of W3.ex hp)) ((l2.tr l3).tr (Wd.le_up hp)) ⟨p, a, b, W2, W3, rfl, l2, l3, Wd.le_up hp, ra, rb, hp, none_of W3.ex hp, upd_same⟩⟩
/-- xs[k], xs one's own -/
theorem er_ixL {T p : Addr} {xs : List V} {k : Int} (h : Γ[i]? = some (.val (.ref T))) (hT : ∀ W1, W ≤ W1 → W1.h T = some (.lst xs)) (hk : atI xs k = some (.ref p)) : EvRef W0 (tOp (rIxL K) (tVar i) (tC (.int k))) Γ W p := fun W1 l1 σ E Q q => by
  obtain ⟨o, h1, rfl⟩ := E.ok i _ h
  exact ⟨_, h1, T, xs, k, _, rfl, rfl, SqL.of (hT W1 l1), hk, q⟩
theorem EvRef.h {p : Addr} {d : D} (h : EvRef W0 te Γ W p) (hr : ∀ W1, W ≤ W1 → Rp W1.h (.ref p) d) : EvH W0 te Γ W d := fun W1 l1 σ E Q q => h W1 l1 σ E Q (q _ W1 Wd.rfl (hr W1 l1))
/-- self.f = e, self one's own, e told by a word -/
theorem st_fldJ {F : Wd → Wd → V → Prop} {a C dx : Addr} {f : Str} {gs : List (Str × V)} (hi : Γ[i]? = some (.val (.ref a))) (ha : W.h a = some (.ins C dx gs)) (hf : W.f a = none) (h0 : W0.h a = none) (hc : Cls K C) (hn : NoAttr K C f) (hl : gs.length < 1000)
    (h : EvJ W0 te Γ W F) (q : ∀ v W1 (n : W1.f a = none), W ≤ W1 → F W W1 v → N Γ (W1.up a (.ins C dx (putF f v gs)) n)) : ST W0 (sFld K (tVar i) te f) Γ W N R := fun σ E D hn' hr => h W Wd.rfl σ E _ fun v W1 l1 r => by
  obtain ⟨n1, h1⟩ := l1.ow _ _ ha hf
  obtain ⟨o, e1, e2⟩ := E.ok i _ hi
  cases e2
  refine ⟨_, e1, a, C, dx, gs, rfl, h1, hc, hn, hl, ?_⟩
  have E1 := E.mono l1
  refine hn' σ (W1.up a (.ins C dx (putF f v gs)) n1) Γ l1.fr (q v W1 n1 l1 r) ⟨Wd.le_up0 E1.le h0 n1, E1.len, fun j t ej => ?_, E1.ap⟩
  obtain ⟨o2, h3, h4⟩ := E1.ok j t ej
  refine ⟨o2, h3, ?_⟩
  cases t with
  | no => exact True.intro
  | val v => exact h4
  | dat d => exact h4
  | acc b es =>
    obtain ⟨e5, m0, m, ys, hy, r5⟩ := h4
    have ne : b ≠ a := fun z => by
      rw [z, h1] at hy
      cases hy
    refine ⟨e5, m0, m, ys, ?_, r5⟩
    show upd W1.h a _ b = some _
    rw [upd_ne ne]
    exact hy
  | dac b es =>
    obtain ⟨e5, m0, m, ys, hy, r5⟩ := h4
    have ne : b ≠ a := fun z => by
      rw [z, h1] at hy
      cases hy
    refine ⟨e5, m0, m, ys, ?_, r5⟩
    show upd W1.h a _ b = some _
    rw [upd_ne ne]
    exact hy
end
/-- writes to some places alone -/
structure Ch (W W' : Wd) (ps : List Addr) : Prop where
  fr : Same W.f W'.f
  ow : ∀ a o, a ∉ ps → W.h a = some o → W.f a = none → W'.f a = none ∧ W'.h a = some o
theorem Ch.rfl {W : Wd} {ps : List Addr} : Ch W W ps := ⟨Same.refl _, fun _ _ _ h n => ⟨n, h⟩⟩
theorem Ch.le {W W1 W2 : Wd} {ps : List Addr} (c : Ch W W1 ps) (l : W1 ≤ W2) : Ch W W2 ps := ⟨c.fr.trans l.fr, fun a o na h n => let ⟨n1, h1⟩ := c.ow a o na h n; l.ow a o h1 n1⟩
theorem Ch.up {W W1 : Wd} {ps : List Addr} (c : Ch W W1 ps) {q : Addr} (hq : q ∈ ps) {o : HO} (n : W1.f q = none) {ho : ∀ xs, o ≠ .tup xs} : Ch W (W1.up q o n ho) ps := ⟨c.fr, fun a u na h n2 => by
  obtain ⟨n3, h3⟩ := c.ow a u na h n2
  refine ⟨n3, ?_⟩
  show upd W1.h q o a = _
  rw [upd_ne (fun z => na (by rw [z]; exact hq))]
  exact h3⟩
theorem OL.ch {W0 W W' : Wd} {p : Addr} {ds : List D} {ps : List Addr} (o : OL W0 W p ds) (c : Ch W W' ps) (hp : p ∉ ps) : OL W0 W' p ds := by
  obtain ⟨xs, hx, r⟩ := o.h
  obtain ⟨f2, h2⟩ := c.ow _ _ hp hx o.f
  exact ⟨f2, o.n, ⟨xs, h2, r.mono c.fr⟩, o.c⟩
section
variable {K : PySem.W.Frag} {W0 W W' : Wd} {Γ Γ' : List Sl} {te t1 t2 : TE} {N : List Sl → Wd → Prop} {R : Wd → V → Prop} {n : Nat} {d : D}
/-- for x in lists of one's own: x.append(e) -/
theorem st_appAll {p : Addr} {ps : List Addr} {B : Nat} (hr : EvRef W0 te Γ W p) (hx : W.h p = some (.lst (ps.map V.ref))) (hp : p ∉ ps) (hf : W.f p = none) (hn : n < Γ.length) (ha : ∀ s ∈ Γ, s.adr = none)
    (hb : ∀ q ∈ ps, W.f q = none ∧ W0.h q = none ∧ ∃ xs, W.h q = some (.lst xs) ∧ xs.length ≤ B) (hB : B + ps.length ≤ cap) (he : ∀ Γ' W', EvD W0 t1 Γ' W' d) (k : ∀ W', Ch W W' ps → N (Γ.set n .no) W') :
    ST W0 (tFor (iList K te) (gName n) (tDrop (tBM K "list" rAppend (tVar n) (tCons t1 tNil)))) Γ W N R := by
  refine st_forO hr hx (fun i Γ' W' => (Γ' = Γ ∨ ∃ v, Γ' = Γ.set n (.val v)) ∧ Ch W W' ps ∧ i ≤ ps.length ∧ ∀ q ∈ ps, W'.f q = none ∧ W0.h q = none ∧ ∃ xs, W'.h q = some (.lst xs) ∧ xs.length ≤ B + i) ⟨.inl rfl, Ch.rfl, Nat.zero_le _, fun q hq => ?_⟩ ?_ ?_ ?_
  · obtain ⟨h1, h2, xs, h3, h4⟩ := hb q hq
    exact ⟨h1, h2, xs, h3, by omega⟩
  · rintro i Γi Wi ⟨_, c, _⟩
    exact (c.ow p _ hp hx hf).2
  · rintro i v Γi Wi hv ⟨hΓ, c, hi, hq⟩ _
    rw [List.getElem?_map] at hv
    obtain ⟨q, hqi, rfl⟩ := Option.map_eq_some_iff.mp hv
    have hil := (List.getElem?_eq_some_iff.mp hqi).1
    have hqm := List.mem_of_getElem? hqi
    obtain ⟨f1, n1, xs, h1, hl⟩ := hq q hqm
    have hΓ2 : Γi.set n (.val (.ref q)) = Γ.set n (.val (.ref q)) := by
      rcases hΓ with rfl | ⟨v, rfl⟩
      · rfl
      · rw [List.set_set]
    rw [hΓ2]
    refine st_appR (p := q) (er_var (by rw [List.getElem?_set_self hn])) f1 n1 h1 (fun s hs => ?_) (by omega) (he _ _) (fun v' W1 n2 l1 rv => ?_)
    · rcases List.mem_or_eq_of_mem_set hs with hs | rfl
      · rw [ha s hs]
        exact fun z => by cases z
      · exact fun z => by cases z
    · refine ⟨.inr ⟨_, rfl⟩, (c.le l1).up hqm n2, by omega, fun q' hq' => ?_⟩
      obtain ⟨f3, n3, ys, h3, hl3⟩ := hq q' hq'
      obtain ⟨f4, h4⟩ := l1.ow _ _ h3 f3
      by_cases z : q' = q
      · subst z
        refine ⟨f4, n3, xs ++ [v'], upd_same, by rw [List.length_append]; show xs.length + 1 ≤ _; omega⟩
      · refine ⟨f4, n3, ys, ?_, by omega⟩
        show upd W1.h q _ q' = _
        rw [upd_ne z]
        exact h4
  · rintro Γn Wn _ ⟨hΓ, c, _⟩
    refine ⟨Γ.set n .no, ?_, k Wn c⟩
    rcases hΓ with rfl | ⟨v, rfl⟩
    · exact wk_set0 _ _
    · have := wk_set0 (Γ.set n (.val v)) n
      rwa [List.set_set] at this
/-! ### lists told by typed items -/
variable {α : Type} {c : α → D} {as bs : List α} {ta tb : TE} {tl th : TO} {lo hi : Option Int}
theorem em_sl (h : EvD W0 te Γ W (.lst (as.map c))) (h1 : EvO W0 tl Γ W lo) (h2 : EvO W0 th Γ W hi) (hc : as.length ≤ cap) : EvD W0 (tSl (rSlL K) te tl th) Γ W (.lst ((cutL as lo hi).map c)) := EvD.to (ev_sl h h1 h2 (by rw [List.length_map]; exact hc)) (by rw [cutL_map])
theorem em_cat (ha : EvD W0 ta Γ W (.lst (as.map c))) (hb : EvD W0 tb Γ W (.lst (bs.map c))) (hz : as.length + bs.length ≤ cap) : EvD W0 (tOp rCat ta tb) Γ W (.lst ((as ++ bs).map c)) := EvD.to (ev_cat ha hb (by rw [List.length_map, List.length_map]; exact hz)) (by rw [List.map_append])
theorem em_rev (h : EvD W0 te Γ W (.lst (as.map c))) (hc : as.length ≤ cap) : EvD W0 (tRevL K te) Γ W (.lst (as.reverse.map c)) := EvD.to (EvL.fz (el_rev h) (by rw [List.length_reverse, List.length_map]; exact hc)) (by rw [List.map_reverse])
theorem em_nil : EvD W0 (tLst tNil) Γ W (.lst (([] : List α).map c)) := ev_lst ea_nil (Nat.zero_le _)
theorem em_1 {x : α} (h : EvD W0 te Γ W (c x)) : EvD W0 (tLst (tCons te tNil)) Γ W (.lst ([x].map c)) := ev_lst (ea_cons h ea_nil) (by show 1 ≤ 100000; omega)
theorem em_2 {x y : α} (h : EvD W0 ta Γ W (c x)) (h2 : EvD W0 tb Γ W (c y)) : EvD W0 (tLst (tCons ta (tCons tb tNil))) Γ W (.lst ([x, y].map c)) := ev_lst (ea_cons h (ea_cons h2 ea_nil)) (by show 2 ≤ 100000; omega)
theorem em_rep {k : Int} (ha : EvD W0 ta Γ W (.lst (as.map c))) (hb : EvD W0 tb Γ W (.int k)) (h0 : 0 ≤ k) (hz : as.length * k.toNat ≤ cap) (h1 : k < 2 ^ 62) : EvD W0 (tOp rRep ta tb) Γ W (.lst ((List.replicate k.toNat as).flatten.map c)) := EvD.to (EvL.fz (el_rep ha hb h0 (by rw [List.length_map]; exact hz) h1) (by rw [List.length_flatten, List.map_replicate, List.sum_replicate_nat, List.length_map]; rw [Nat.mul_comm]; exact hz)) (by rw [List.map_flatten, List.map_replicate])
theorem cutL_len (as : List α) (lo hi : Option Int) : (cutL as lo hi).length ≤ as.length := cutL_le as lo hi
theorem cutL_sub {x : α} (h : x ∈ cutL as lo hi) : x ∈ as := List.mem_of_mem_drop (List.mem_of_mem_take h)
end
end Fg

set_option Elab.async false
set_option linter.all false
set_option maxRecDepth 100000
set_option maxHeartbeats 4000000
/-! An object of a class without an __init__ of its own. -/
namespace Fg
open PySem L2 RZ PyProof.Rows PySem.W
structure MkB (K : PySem.W.Frag) (C : Addr) : Prop where
  makes : PySem.W.makesIn K C = true
  init : PySem.W.findIn K (.ref C) "__init__" = some (some (.builtin "object.__init__"))
  kp : PySem.W.keepIn K (.ref C) = true
def tMakeB (C : Addr) : TE := fun _ H Q => ∀ x dx, H x = none → H dx = none → dx ≠ x → Q (.ref x) (upd (upd H dx (.own x)) x (.ins C dx []))
theorem pe_makeB {X : Cx} {C : Addr} {x : Str} {p pos : Pos} (M : MkB X.K C) (hg : Gl X x) (hm : X.mg x = some (.ref C)) (hdb : (x == ("__debug__" : Str)) = false := by decide) : PE X (.Call (.Name x p) [] [] pos) (tMakeB C) := by
  refine ⟨fun pins s σ H Q I h => ?_⟩
  refine wpAny_Call_Name_kw (ld_glob I hg hm ?_ hdb)
  have hq := h (s.heap.objs.size + 1) s.heap.objs.size (I.hok.fresh (Nat.le_succ _)) (I.hok.fresh (Nat.le_refl _)) (Nat.ne_of_lt (Nat.lt_succ_self _))
  have I2 := Inv.made (C := C) I
  refine PySem.W.callWith_K0 I.kIn M.kp (wpAny_call (make_map0 I.kIn M.makes M.init (fun self => Looks.of_pure (oi_bind self)) ?_))
  have Y := makes_of (M := model X.prog X.w) I.kIn M.makes
  have hx : ((s.heap.push emptyDict).push (instObj C s.heap.objs.size)).get? (s.heap.objs.size + 1) = some (instObj C s.heap.objs.size) := by heap_get
  have t1 : Looks (model X.prog X.w) ((s.heap.push emptyDict).push (instObj C s.heap.objs.size)) (typeOf (.ref (s.heap.objs.size + 1))) (.ref C) := (Looks.ld hx).andThen .now
  have t2 : Looks (model X.prog X.w) ((s.heap.push emptyDict).push (instObj C s.heap.objs.size)) (isInstance (.ref (s.heap.objs.size + 1)) (.type "object")) true := t1.andThen (Y.top.keeps fun b o e => Heap.get?_push_of_some _ (Heap.get?_push_of_some _ e))
  refine codeAny_call_builtin oi_plain entry_oi (@check_slot (model X.prog X.w) _ _ _ "object.__init__" "object" "__init__" (.ref (s.heap.objs.size + 1)) [] [] _ oi_kind oi_split t2 (oi_args (.ref (s.heap.objs.size + 1))) ?_)
  rw [oi_run]
  exact wpAny_pure (And.intro rfl ⟨V.ref (s.heap.objs.size + 1), _, I2, rfl, hq⟩)
theorem ev_mkB {W0 W : Wd} {Γ : List Sl} {C : Addr} : EvD W0 (tMakeB C) Γ W (.obj C []) := fun W1 l1 σ En Q q => by
  intro x dx hx hdx hne
  have n1 : W1.f dx = none := none_of W1.ex hdx
  have n2 : W1.f x = none := none_of W1.ex hx
  have hx2 : (W1.up dx (.own x) n1).h x = none := by
    show upd W1.h dx _ x = none
    rw [upd_ne (fun z => hne z.symm)]
    exact hx
  have l3 : W1 ≤ (W1.up dx (.own x) n1).up x (.ins C dx []) n2 := (Wd.le_up hdx).tr (Wd.le_up hx2)
  exact q (.ref x) (W1.fzN ((W1.up dx (.own x) n1).up x (.ins C dx []) n2)) (Wd.le_fzN l3) (.obj (dx := dx) (gs := []) (by rw [Wd.fzN_new hx]; exact upd_same) .nil)
/-- an object of one's own with fields of plain, frozen data -/
structure OwF (W0 W : Wd) (a C : Addr) (fs : List (Str × D)) : Prop where
  ob : ∃ dx gs, W.h a = some (.ins C dx gs) ∧ RpF W.f gs fs
  fa : W.f a = none
  na : W0.h a = none
theorem OwF.rpF {W W' : Wd} {a C : Addr} {fs : List (Str × D)} (h : OwF W W' a C fs) : Rp (W.fzN W').f (.ref a) (.obj C fs) := by
  obtain ⟨dx, gs, e, r⟩ := h.ob
  exact .obj (dx := dx) (gs := gs) (by rw [Wd.fzN_new h.na]; exact e) (r.mono Wd.fzN_fr)
end Fg

set_option Elab.async false
set_option linter.all false
set_option maxRecDepth 100000
set_option maxHeartbeats 4000000
/-! enumerate of a tuple. -/
namespace Fg
open PySem PySem.Spec PyProof.Rows L2
theorem en_new {v : Value} {ob : Obj} {Hh : Heap → Prop} (B : Begins v ob Hh) :
    Meets (Builtin.«enumerate.__new__» ⟨[.type "enumerate", v], []⟩) (fun _ R s => Hh s.heap ∧
      R (.ok (.ret (.ref (s.heap.push ob).objs.size))) { s with heap := (s.heap.push ob).push { cls := .type "enumerate", data := .fields #[.none, .bool false, .ref s.heap.objs.size, rawInt 0, .none, .none] } }) :=
  .of_wp fun prog w A R s z => by
    obtain ⟨hp, gn, dr, tk, os⟩ := s
    obtain ⟨z1, z⟩ := z
    have hsub := sub_enumerate
    have qi : ∀ {A' : Around} {E : Value → Shared → Prop} {Q : Value → Shared → Prop}, Q (.ref hp.objs.size) ⟨hp.push ob, gn, dr, tk, os⟩ → wpAny (model prog w) A' (pyIter v) Q E ⟨hp, gn, dr, tk, os⟩ :=
      fun q => B.iter prog w _ _ ⟨hp, gn, dr, tk, os⟩ _ z1 q
    wp_walk using qi
    refine wpAny_stack_any fun stk => wpAny_pure ?_
    split
    · rename_i c _ _ _ _ _
      cases (c == Value.type "enumerate") <;> (wp_walk using qi; exact ⟨_, rfl, z⟩)
    · wp_walk using qi
      exact ⟨_, rfl, z⟩
theorem en_begins {prog : Program} {w : World} {A : Around} {E : Value → Shared → Prop} {s : Shared} {v : Value} {ob : Obj} {Hh : Heap → Prop} {Q : Value → Shared → Prop} (B : Begins v ob Hh) (h1 : Hh s.heap)
    (h : ∀ h', IsEnum h' (s.heap.objs.size + 1) s.heap.objs.size 0 .none → h'.get? s.heap.objs.size = some ob → (∀ b o, s.heap.get? b = some o → h'.get? b = some o) → Q (.ref (s.heap.objs.size + 1)) { s with heap := h' }) :
    wpAny (model prog w) A (call (.type "enumerate") [v]) Q E s := by
  refine callType_new F.called_enumerate (by decide) (F.typeCall_enumerate_1 _) (F.newCall_enumerate_1 _) (fun obj => F.args_object_init_2 obj _) F.entry_enumerate_new (en_new B) ⟨h1, ?_⟩
  have hz : (s.heap.push ob).objs.size = s.heap.objs.size + 1 := Heap.size_push ..
  have he := Heap.get?_push_size (s.heap.push ob) (o := { cls := .type "enumerate", data := .fields #[.none, .bool false, .ref s.heap.objs.size, rawInt 0, .none, .none] }) rfl
  show _ ∧ _
  rw [hz] at he ⊢
  exact ⟨⟨_, he, rfl⟩, h _ he (Heap.get?_push_of_some _ (Heap.get?_push_size _ B.free)) fun b o x => Heap.get?_push_of_some _ (Heap.get?_push_of_some _ x)⟩
/-- the tuple at a: its items in new pairs with their places -/
def ItN (K : PySem.W.Frag) (a : Addr) : It where
  go i H := ∃ (xs : List V), SqT K H a xs ∧ i < xs.length
  yld i H v H' := ∃ T x, v = .ref T ∧ H T = none ∧ H' = upd H T (.tup [.int (i : Nat), x]) ∧ ∀ xs, SqT K H a xs → xs[i]? = some x
  stop i H := ∃ xs : List V, SqT K H a xs ∧ i = xs.length
def TnN (a e it : Addr) (i : Nat) (h : Heap) : Prop := (∃ old, IsEnum h e it ((i : Nat) : Int) old) ∧ ItK false h it a i
theorem mem2 {c e it : Addr} (h : c ∈ [e, it]) : c = e ∨ c = it := by simpa using h
theorem turnN {P : Program} {w : World} {K : PySem.W.Frag} {elts : List Expr} {kk : Nat} {tpos : Pos} {a e it : Addr} (ne : e ≠ it) (na : a ≠ it) (nea : e ≠ a) : Turn P w K (.Tuple elts kk tpos) (ItN K a) [e, it] e (TnN a e it) := by
  refine ⟨by simp, fun i h st c hc => ?_, fun i h h' st k => ?_, ?_, ?_, fun A i s Q E st h => ?_⟩
  · obtain ⟨⟨old, he⟩, h1⟩ := st
    rcases mem2 hc with rfl | rfl
    · exact ⟨_, he, fun v q => nomatch q⟩
    · exact itk_obj h1
  · obtain ⟨⟨old, he⟩, h1⟩ := st
    exact ⟨⟨old, k e (by simp) _ he⟩, itk_at h1 fun o q => k it (by simp) o q⟩
  · intro X hP hw hK hc i pins s σ H E I hf st hg
    subst hP hw hK
    obtain ⟨⟨old, he⟩, h1⟩ := st
    obtain ⟨xs, hqx, hx⟩ := hg
    obtain ⟨its, rv, p⟩ := sqk_at (k := false) I hqx
    have hh : X.A.in1.handled = none := I.ok.hd hc
    have l1 := rv.length
    have hef : e ∉ [it, a] := by
      intro z
      rcases List.mem_cons.mp z with z | z
      · exact ne z
      · exact nea (List.mem_singleton.mp z)
    refine wpAny_pyNext_enum_itemD (drawsK false hh it a na its.toArray) he ⟨h1, p⟩ (by simpa [← l1] using hx) ne hef fun u h' tk hu e' s1' hT hsz hk => ?_
    have hel : e < s.heap.objs.size := Heap.lt_size he
    refine ⟨_, rfl, wpAny_letOwnedTupleGo_enum (s := { s with heap := h', toks := tk + 1 }) e' fun h'' e'' sb => ?_⟩
    have ex : xs[i]? = some xs[i] := by simp [hx]
    obtain ⟨v, hv, ru⟩ := rv.get ex
    have e1 : its[i]? = some u := by simpa using hu
    rw [hv] at e1
    have e1 := Option.some.inj e1
    subst e1
    have hT2 : h''.get? s.heap.objs.size = some { cls := .type "tuple", data := .seq #[.int i tk, v] } := Eq.trans (sb.2 _ (Nat.ne_of_gt hel)) hT
    have kept : ∀ c o, c ∉ [e, it] → s.heap.get? c = some o → h''.get? c = some o := fun c o hm q =>
      Eq.trans (sb.2 c fun z => hm (by simp [z])) (hk c o (fun z => hm (by simp [z])) (fun z => hm (by simp [z])) q)
    have new : ObjOk X.prog X.w (upd H s.heap.objs.size (.tup [.int (i : Nat), xs[i]])) h'' s.heap.objs.size (.tup [.int (i : Nat), xs[i]]) :=
      ⟨Nat.le_of_ble_eq_true rfl, [.int i tk, v], .cons ⟨_, rfl⟩ (.cons ru .nil), ⟨_, hT2, rfl, _, rfl⟩⟩
    have I1 : Inv X pins σ (upd H s.heap.objs.size (.tup [.int (i : Nat), xs[i]])) { s with heap := h'', toks := tk + 1 } := I.turnedNew (ch := [e, it]) kept hf (Nat.le_refl _) new
    refine ⟨.ref s.heap.objs.size, _, I1, rfl, ⟨_, xs[i], rfl, I.hok.fresh (Nat.le_refl _), rfl, fun l hl => by rw [sqk_inj (k := false) I hl hqx]; exact ex⟩, ⟨⟨v, ?_⟩, ?_⟩, fun c hcm => ?_⟩
    · have e2 : ((i + 1 : Nat) : Int) = (i : Int) + 1 := by omega
      rw [e2]
      exact e''
    · exact itk_at s1'.1 fun o q => Eq.trans (sb.2 _ (Ne.symm ne)) q
    · have hlt : c < s.heap.objs.size := by
        rcases mem2 hcm with rfl | rfl
        · exact hel
        · obtain ⟨o, eo, _⟩ := itk_obj h1
          exact Heap.lt_size eo
      rw [upd_ne (Nat.ne_of_lt hlt)]
      exact (hf c hcm).1
  · intro X hP hw hK hc i pins s σ H E I hf st hg
    subst hP hw hK
    obtain ⟨⟨old, he⟩, h1⟩ := st
    obtain ⟨xs, hqx, hend⟩ := hg
    obtain ⟨its, rv, p⟩ := sqk_at (k := false) I hqx
    have hh : X.A.in1.handled = none := I.ok.hd hc
    have l1 := rv.length
    have hi : i = its.toArray.size := by simp; omega
    subst hi
    refine wpAny_pyNext_enum_endD (drawsK false hh it a na its.toArray) he ⟨h1, p⟩ fun h' hk => ⟨rfl, ?_⟩
    exact I.turnedL (t' := s.toks) (ch := [e, it]) (fun c o hm q => hk c o (fun z => hm (by simp [z])) q) hf
  · obtain ⟨⟨old, he⟩, _⟩ := st
    exact wpAny_pyIter_enum he h
def iEnumT (K : PySem.W.Frag) (ta : TA) : TI := fun σ H R => ta σ H fun vs H1 => ∃ a xs, vs = [.ref a] ∧ SqT K H1 a xs ∧ R (ItN K a) H1
theorem pi_enumT {X : Cx} {e : Expr} {ta : TA} {p pos tpos : Pos} {elts : List Expr} {kk : Nat} (hg : Gl X "enumerate") (hm : X.mg "enumerate" = none) (ha : PA X [e] ta) (hs : starEach [e] X.env = [(false, eval e X.env)] := by rfl) :
    PI X (.Tuple elts kk tpos) (.Call (.Name "enumerate" p) [e] [] pos) (iEnumT X.K ta) := by
  refine ⟨fun pins s σ H R I h => ?_⟩
  refine Call_ (ld_blt I hg hm boot_enumerate (callWith_type1 (thn (ha.run pos pins s σ H _ I h) fun us s1 ⟨vs, H1, I1, r1, q1⟩ => ?_) hs rfl))
  obtain ⟨a, xs, ex, hqx, q⟩ := q1
  subst ex
  cases r1 with
  | cons r rr =>
    cases rr
    cases r
    obtain ⟨its, rv, p1⟩ := sqk_at (k := false) I1 hqx
    have la := atk_lt p1
    refine en_begins (beginsK false a its.toArray) p1 fun h' he h1 hk => wpAny_pyIter_enum he ?_
    have I2 : Inv X pins σ H1 { s1 with heap := h' } := I1.kept (t' := s1.toks) hk
    refine ⟨s1.heap.objs.size + 1, [s1.heap.objs.size + 1, s1.heap.objs.size], _, _, H1, rfl, I2, turnN (a := a) (Nat.succ_ne_self _) (Nat.ne_of_lt la) (Nat.ne_of_gt (Nat.lt_succ_of_lt la)), ⟨⟨_, he⟩, itk_new h1⟩, fun c hcm => ?_, q⟩
    have hle : s1.heap.objs.size ≤ c := by
      rcases mem2 hcm with rfl | rfl
      · exact Nat.le_add_right _ _
      · exact Nat.le_refl _
    exact I1.fpOk hle (I1.hok.fresh hle)
theorem walkN {K : PySem.W.Frag} {a : Addr} {xs : List V} : Walk (ItN K a) xs.length (fun H => SqT K H a xs) (fun i H v H' => ∃ T x, v = .ref T ∧ H T = none ∧ H' = upd H T (.tup [.int (i : Nat), x]) ∧ xs[i]? = some x) := by
  refine ⟨fun i H hi g => ⟨xs, g, hi⟩, fun H g => ⟨xs, g, rfl⟩, fun i H v H' hi g y => ?_⟩
  obtain ⟨T, x, e1, e2, e3, e4⟩ := y
  exact ⟨T, x, e1, e2, e3, e4 xs g⟩
theorem it_enumT {K : PySem.W.Frag} {W0 W : Wd} {Γ : List Sl} {ta : TA} {ds : List D} (h : EvA W0 ta Γ W [.tup ds]) : ItD W0 (iEnumT K ta) Γ W (enm 0 ds) := fun W1 l1 σ E R q => h W1 l1 σ E _ fun vs W2 l2 r => by
  cases r with
  | cons h1 r =>
    cases r
    cases h1 with
    | tup hx hz r =>
      rename_i p xs
      refine ⟨_, _, rfl, SqT.of (W2.ex _ _ hx), q _ W2 l2 ?_⟩
      refine ⟨_, _, by rw [enm_length, ← r.length]; exact walkN (K := K) (a := p) (xs := xs), fun W' l => SqT.of (W'.ex _ _ (l _ _ hx)), fun i W' x H' hi l y => ?_⟩
      obtain ⟨T, u, rfl, hT, rfl, hu⟩ := y
      obtain ⟨d, h1, h2⟩ := r.getV hu
      obtain ⟨W3, l3, e3, r3⟩ := pair_new hT (.int (i : Int)) (h2.mono l)
      refine ⟨W3, l3, e3, _, ?_, r3⟩
      rw [enm_get, h1]
      simp
end Fg

set_option Elab.async false
set_option linter.all false
set_option maxRecDepth 100000
set_option maxHeartbeats 4000000
/-! What is judged. -/
namespace Fg
open PySem L2
def offOne (last : List Int) (q : Option Int × Nat) : Bool := match q.1 with
  | none => false
  | some i => !decide (i = nth last (q.2 : Int))
def offs (last : List Int) (w : List (Option Int)) : List Int := ((w.zipIdx 0).filter (offOne last)).map fun q => (q.2 : Int)
inductive Jd where
  | fine | halt (p : Int) | off (f : Int)
  deriving DecidableEq
def judgeOf (fm : Farm) (fl st : List Int) (w : List (Option Int)) (de : List (Int × Int)) : Jd := match (firstBad fm fl 0 st de).1 with
  | some i => .halt (i : Int)
  | none => match offs (firstBad fm fl 0 st de).2 w with
    | [] => .fine
    | f :: _ => .off f
def fbNone (fm : Farm) (fl st : List Int) (de : List (Int × Int)) : Bool := !(firstBad fm fl 0 st de).1.isSome
def jShows (fm : Farm) (fl st : List Int) (w : List (Option Int)) (de : List (Int × Int)) : Jd → Bool
  | .fine => fbNone fm fl st de && asWished (firstBad fm fl 0 st de).2 w
  | .halt p => match (firstBad fm fl 0 st de).1 with
    | none => false
    | some i => decide ((i : Int) = p)
  | .off f => fbNone fm fl st de && decide ((offs (firstBad fm fl 0 st de).2 w).take 1 = [f])
theorem fb_len {fm : Farm} {fl : List Int} : ∀ (k : Nat) (st : List Int) (de : List (Int × Int)), (firstBad fm fl k st de).2.length = st.length
  | _, st, [] => by unfold firstBad; rfl
  | k, st, d :: de => by
    unfold firstBad
    split
    · rw [fb_len (k + 1) _ de, bhd_len]
    · rfl
theorem offs_wish (last : List Int) (w : List (Option Int)) (h : w.length = last.length) : asWished last w = decide (offs last w = []) := by
  have key : ∀ (w : List (Option Int)) (k : Nat), w.length + k = last.length → (((last.drop k).zip w).all wOk) = decide ((((w.zipIdx k).filter (offOne last)).map fun q => (q.2 : Int)) = []) := by
    intro w
    induction w with
    | nil =>
      intro k _
      simp
    | cons o w ih =>
      intro k hk
      rw [List.length_cons] at hk
      have hlt : k < last.length := by omega
      rw [List.drop_eq_getElem_cons hlt, List.zip_cons_cons, List.all_cons, List.zipIdx_cons, List.filter_cons, ih (k + 1) (by omega)]
      have hn : nth last (k : Int) = last[k] := by
        unfold nth
        rw [atI_of (x := last[k]) (by omega) (by simp [hlt])]
        rfl
      have e : wOk (last[k], o) = !offOne last (o, k) := by
        unfold wOk offOne
        cases o with
        | none => rfl
        | some i =>
          dsimp only
          rw [hn, Bool.not_not]
      rw [e]
      cases offOne last (o, k) with
      | true => simp
      | false => simp
  have := key w 0 (by omega)
  rw [List.drop_zero] at this
  exact this
theorem judge_shows {fm : Farm} {fl st : List Int} {w : List (Option Int)} {de : List (Int × Int)} (h : w.length = st.length) (j : Jd) : jShows fm fl st w de j = decide (judgeOf fm fl st w de = j) := by
  have hl : w.length = (firstBad fm fl 0 st de).2.length := by rw [fb_len]; exact h
  unfold judgeOf jShows fbNone
  rw [offs_wish _ _ hl]
  cases (firstBad fm fl 0 st de).1 with
  | some i => cases j <;> simp
  | none =>
    dsimp only
    cases offs (firstBad fm fl 0 st de).2 w with
    | nil => cases j <;> simp
    | cons f fs => cases j <;> simp
end Fg

set_option Elab.async false
set_option linter.all false
set_option maxRecDepth 100000
set_option maxHeartbeats 4000000
namespace Fg
open PySem L2 RZ
local macro_rules | `(tactic| walk_at "bo") => `(tactic| simp only [Bool.or_eq_false_iff, Bool.or_eq_true, Bool.and_eq_true, Bool.not_eq_true', Bool.not_eq_false', Bool.not_eq_true, Bool.not_eq_false, decide_eq_true_eq, decide_eq_false_iff_not, Bool.true_eq_false, Bool.false_eq_true, Bool.and_eq_false_imp] at *)
local macro_rules | `(tactic| walk_at "sd") => `(tactic| first
  | assumption
  | exact rfl
  | omega
  | (refine at_ints ?_; first | omega | (walk_at "bo"; omega) | skip)
  | exact Nat.le_of_ble_eq_true rfl
  | (show _ ≤ cap; first | decide | omega | (simp only [List.length_map, List.length_append]; omega))
  | (walk_at "bo"; omega)
  | skip)
local macro_rules | `(tactic| walk_at "ea") => `(tactic| first
  | exact ea_nil
  | (apply ea_cons; (focus walk_at "ev"); walk_at "ea"))
local macro_rules | `(tactic| walk_at "eh") => `(tactic| first
  | exact ev_varA rfl (by first | assumption | omega | decide)
  | exact ev_varK rfl (by first | assumption | omega | decide)
  | (apply EvD.h; walk_at "ev"))
local macro_rules | `(tactic| walk_at "el") => `(tactic| first
  | ((with_reducible apply el_lst); (focus walk_at "ea"); walk_at "sd")
  | ((with_reducible apply el_cat); (focus walk_at "ev"); (focus walk_at "ev"); walk_at "sd")
  | ((with_reducible apply el_sl); (focus walk_at "ev"); (focus walk_at "eo"); (focus walk_at "eo"))
  | ((with_reducible apply el_list); walk_at "ev")
  | ((with_reducible apply el_listT); walk_at "ev")
  | ((with_reducible apply el_rev); walk_at "ev"))
local macro_rules | `(tactic| walk_at "eo") => `(tactic| first
  | exact eo_none
  | (apply eo_some; walk_at "ev"))
local macro_rules | `(tactic| walk_at "ev") => `(tactic| first
  | exact ev_int | exact ev_bl | exact ev_non | exact ev_str
  | exact ev_var rfl
  | ((with_reducible apply ev_add); (focus walk_at "ev"); walk_at "ev")
  | ((with_reducible apply ev_sub); (focus walk_at "ev"); walk_at "ev")
  | ((with_reducible apply ev_lt); (focus walk_at "ev"); walk_at "ev")
  | ((with_reducible apply ev_le); (focus walk_at "ev"); walk_at "ev")
  | ((with_reducible apply ev_gt); (focus walk_at "ev"); walk_at "ev")
  | ((with_reducible apply ev_ge); (focus walk_at "ev"); walk_at "ev")
  | ((with_reducible apply ev_eqI); (focus walk_at "ev"); (focus walk_at "ev"); done)
  | ((with_reducible apply ev_neI); (focus walk_at "ev"); (focus walk_at "ev"); done)
  | ((with_reducible apply ev_mulW); (focus walk_at "ev"); (focus walk_at "ev"); walk_at "sd")
  | ((with_reducible apply ev_fdiv); (focus walk_at "ev"); (focus walk_at "ev"); walk_at "sd")
  | ((with_reducible apply ev_mod); (focus walk_at "ev"); (focus walk_at "ev"); walk_at "sd")
  | ((with_reducible apply ev_neg); walk_at "ev")
  | ((with_reducible apply ev_ixT); (focus walk_at "ev"); (focus walk_at "ev"); walk_at "sd")
  | (with_reducible apply ev_ixA rfl ?_ ?_; (focus walk_at "ev"); walk_at "sd")
  | ((with_reducible apply ev_ixL); (focus walk_at "ev"); (focus walk_at "ev"); walk_at "sd")
  | (with_reducible apply ev_lenA rfl)
  | ((with_reducible apply ev_lenLM); walk_at "eh"; done)
  | ((with_reducible apply ev_lenTM); walk_at "eh"; done)
  | ((with_reducible apply ev_lenL); walk_at "eh")
  | ((with_reducible apply ev_lenT); walk_at "eh")
  | ((with_reducible apply ev_lenK); walk_at "eh")
  | ((with_reducible apply ev_isN); walk_at "eh")
  | ((with_reducible apply ev_notN); walk_at "eh")
  | ((with_reducible apply ev_inT); (focus walk_at "ev"); walk_at "ev")
  | ((with_reducible apply ev_inD); (focus walk_at "eh"); (focus walk_at "eh"); all_goals walk_at "sh")
  | ((with_reducible apply ev_notInD); (focus walk_at "eh"); (focus walk_at "eh"); all_goals walk_at "sh")
  | ((with_reducible apply ev_eqD); (focus walk_at "eh"); (focus walk_at "eh"); all_goals walk_at "sh")
  | ((with_reducible apply ev_neD); (focus walk_at "eh"); (focus walk_at "eh"); all_goals walk_at "sh")
  | ((with_reducible apply ev_all); walk_at "eh")
  | ((with_reducible apply ev_any); walk_at "eh")
  | ((with_reducible apply ev_sum); walk_at "eh")
  | ((with_reducible apply ev_lenSet); (focus walk_at "ev"); walk_at "sd")
  | ((with_reducible apply ev_isaI); (focus walk_at "eh"); walk_at "sd")
  | ((with_reducible apply ev_isaB); (focus walk_at "eh"); walk_at "sd")
  | ((with_reducible apply ev_isaL); (focus walk_at "eh"); walk_at "sd")
  | ((with_reducible apply ev_isaT); (focus walk_at "eh"); walk_at "sd")
  | ((with_reducible apply ev_tup); (focus walk_at "ea"); walk_at "sd")
  | ((with_reducible apply ev_catT); (focus walk_at "ev"); (focus walk_at "ev"); walk_at "sd")
  | ((with_reducible apply ev_slT); (focus walk_at "ev"); (focus walk_at "eo"); (focus walk_at "eo"))
  | ((with_reducible apply ev_max2); (focus walk_at "ev"); walk_at "ev")
  | ((with_reducible apply ev_min2); (focus walk_at "ev"); walk_at "ev")
  | ((with_reducible apply ev_abs); walk_at "ev")
  | ((with_reducible apply ev_chain); (focus walk_at "ev"); (focus walk_at "ev"); intro _; walk_at "ev")
  | ((with_reducible apply ev_and); (focus walk_at "ev"); intro _; walk_at "ev")
  | ((with_reducible apply ev_or); (focus walk_at "ev"); intro _; walk_at "ev")
  | ((with_reducible apply ev_not); walk_at "ev")
  | (apply EvL.fz; (focus walk_at "el"); walk_at "sd"))
local macro_rules | `(tactic| walk_at "et") => `(tactic| first
  | ((with_reducible apply et_test); walk_at "ev")
  | ((with_reducible apply et_B); walk_at "ev")
  | ((with_reducible apply et_and); (focus walk_at "et"); intro _; walk_at "et")
  | ((with_reducible apply et_or); (focus walk_at "et"); intro _; walk_at "et")
  | ((with_reducible apply et_not); walk_at "et"))
local macro_rules | `(tactic| walk_at "sh") => `(tactic| first
  | exact (sh_tup2 (sh_int _) (sh_int _)).shp (by decide) | exact (sh_pr _).shp (by decide) | exact (sh_prs _).shp (by decide) | exact (sh_st _).shp (by decide) | exact (sh_is _).shp (by decide) | exact (sh_ws _).shp (by decide) | exact (sh_rg _).shp (by decide) | exact (sh_rgs _).shp (by decide) | exact (sh_fm _).shp (by decide)
  | exact sh_nil.shp (by decide) | exact (sh_bls _).shp (by decide) | decide +kernel | skip)

/-- facts of the classes that judge -/
structure Tj (K : PySem.W.Frag) (mg : Str → Option Value) (A : Adr) : Prop where
  fk : OkC K A.c_Fine
  fB : MkB K A.c_Fine
  hk : OkC K A.c_Halt
  h1 : NoAttr K A.c_Halt "place"
  ok : OkC K A.c_Off
  o1 : NoAttr K A.c_Off "flock"
  c_Fine : mg "Fine" = some (.ref A.c_Fine)
  lg : ∃ t, mg "LONGEST" = some (.int 100 t)
abbrev dFine (A : Adr) : D := .obj A.c_Fine []
abbrev dHalt (A : Adr) (p : Int) : D := .obj A.c_Halt [("place", .int p)]
abbrev dOff (A : Adr) (p : Int) : D := .obj A.c_Off [("flock", .int p)]
def dJd (A : Adr) : Jd → D
  | .fine => dFine A
  | .halt p => dHalt A p
  | .off f => dOff A f
section
variable {P : Program} {w : World} {K : PySem.W.Frag} {mg : Str → Option Value} {base : Heap} {A : Adr}
abbrev s_is_deed : Stmt := top 44
theorem sc_is_deed : FnScope ["thing", "one"] ["thing"] (defScope s_is_deed) := ⟨rfl, rfl, rfl, by decide +kernel, rfl, by decide +kernel, by decide +kernel⟩
abbrev s_judged : Stmt := top 45
theorem sc_judged : FnScope ["farm", "flocks", "stand", "wish", "deeds", "one", "place", "last", "at", "off"] ["farm", "flocks", "stand", "wish", "deeds"] (defScope s_judged) := ⟨rfl, rfl, rfl, by decide +kernel, rfl, by decide +kernel, by decide +kernel⟩
abbrev s_Fine_shows : Stmt := inClass (top 35) 0
theorem sc_Fine_shows : FnScope ["self", "farm", "flocks", "stand", "wish", "deeds", "place", "last"] ["self", "farm", "flocks", "stand", "wish", "deeds"] (defScope s_Fine_shows) := ⟨rfl, rfl, rfl, by decide +kernel, rfl, by decide +kernel, by decide +kernel⟩
abbrev s_Halt___init__ : Stmt := inClass (top 36) 0
theorem sc_Halt___init__ : FnScope ["self", "place"] ["self", "place"] (defScope s_Halt___init__) := ⟨rfl, rfl, rfl, by decide +kernel, rfl, by decide +kernel, by decide +kernel⟩
abbrev s_Halt_shows : Stmt := inClass (top 36) 1
theorem sc_Halt_shows : FnScope ["self", "farm", "flocks", "stand", "wish", "deeds", "place"] ["self", "farm", "flocks", "stand", "wish", "deeds"] (defScope s_Halt_shows) := ⟨rfl, rfl, rfl, by decide +kernel, rfl, by decide +kernel, by decide +kernel⟩
abbrev s_Off___init__ : Stmt := inClass (top 37) 0
theorem sc_Off___init__ : FnScope ["self", "flock"] ["self", "flock"] (defScope s_Off___init__) := ⟨rfl, rfl, rfl, by decide +kernel, rfl, by decide +kernel, by decide +kernel⟩
abbrev s_Off_shows : Stmt := inClass (top 37) 1
theorem sc_Off_shows : FnScope ["self", "farm", "flocks", "stand", "wish", "deeds", "place", "last", "at", "one", "off"] ["self", "farm", "flocks", "stand", "wish", "deeds"] (defScope s_Off_shows) := ⟨rfl, rfl, rfl, by decide +kernel, rfl, by decide +kernel, by decide +kernel⟩
def gIsDeed : List D → D → Prop := fun ds r => ∃ p : Int × Int, ds = [dPr p] ∧ r = .bl true
theorem ok_is_deed {f : Addr} {fd : FuncData} (F : Fun K "is_deed" "is_deed" s_is_deed f fd) (T : Tp mg) : FnOk P w K mg base CX0 1 f fd ["thing"] (Pure gIsDeed) := by
  refine fn_pure F sc_is_deed (fun ds r h => by obtain ⟨_, rfl, _⟩ := h; rfl) (fun cdv A2 outer s H E hr ds r hg => ?_)
  obtain ⟨p, rfl, rfl⟩ := hg
  refine ⟨_, (pss_cons (ps_if (PW.pt (pw_or (pt_not (pt_val (pe_callB (kx_call_isi K) (by rfl) T.n_isinstance b_isinstance (pa_cons (pv 0) (pa_cons (pe_bltn (v := .ty "tuple") (by rfl) T.n_tuple b_tuple rfl) pa_nil))))) (pw_or1 (pt_cmpR op_ne (pe_callB (kx_c_len K) (by rfl) T.n_len b_len (pa_cons (pv 0) pa_nil)) pe_int (nomark _))))) (pss_one (ps_ret pe_bl)) pss_nil)
  (pss_one (ps_ret (pe_callB (kx_cr_all K rfl) (by rfl) T.n_all b_all (pa_cons (pe_lc (own := [("one", 1)]) rfl sc_is_deed.nd (pi_tup (pv 0)) (blkOk_by (own := [("one", 1)]) (N := ["thing", "one"]) (sc := defScope s_is_deed) (by decide +kernel)) (fun _ _ _ _ _ => (pg_n 1 sc_is_deed.nd)) (fun _ _ _ _ _ => pts_nil) (fun _ _ _ _ _ => (pe_and (pe_callB (kx_call_isi K) (by rfl) T.n_isinstance b_isinstance (pa_cons (pv 1) (pa_cons (pe_bltn (v := .ty "int") (by rfl) T.n_int b_int rfl) pa_nil))) (pe_one (pe_not (pe_callB (kx_call_isi K) (by rfl) T.n_isinstance b_isinstance (pa_cons (pv 1) (pa_cons (pe_bltn (v := .ty "bool") (by rfl) T.n_bool b_bool rfl) pa_nil)))))))) pa_nil))))), fun W0 => ?_⟩
  refine st_seq (st_pass (EvT.to (et_or (et_not (et_test (ev_isaT (EvD.h (ev_var rfl)) rfl))) (fun _ => et_test (ev_neI (ev_lenT (EvD.h (ev_var rfl))) ev_int))) rfl) (fun W1 l1 => ?_))
  refine st_ret (EvD.to (ev_allA [p.1, p.2] D.int (fun _ => true) (it_tup (ev_var rfl)) (by show 2 ≤ 100000; omega) (fun a ha => ⟨_, _, fun _ h => h, tg_name, fun W2 l2 => EvD.to (ev_and (ev_isaI (EvD.h (ev_var rfl)) rfl) (fun _ => ev_not (ev_isaB (EvD.h (ev_var rfl)) rfl))) rfl⟩)) rfl) rfl
/-- [at for at, one in enumerate(wish) if one is not None and one != last[at]] -/
theorem el_offs {W0 W : Wd} {Γ : List Sl} {a b c d : Nat} {last : List Int} {wi : List (Option Int)} (hab : a ≠ b) (hac : a ≠ c) (hbc : b ≠ c) (ha : a < Γ.length) (hb : b < Γ.length) (hw : Γ[d]? = some (.dat (dWs wi))) (hl : Γ[c]? = some (.dat (dSt last))) (hlen : wi.length ≤ last.length) (hc : wi.length ≤ 1000) :
    EvL W0 (tLc (iEnumT K (tCons (tVar d) tNil)) (gTup K 2 (gCons (gName a) (gCons (gName b) gNil))) (tAnd (tTest (tOp rNotN (tVar b) (tC .non))) (tTest (tOp rNe (tVar b) (tOp (rIxT K) (tVar c) (tVar a))))) (tVar a) [a, b]) Γ W ((offs last wi).map .int) := by
  have hΓ : ∀ x y : D, (((wipeG Γ [a, b]).set a (.dat x)).set b (.dat y))[c]? = some (.dat (dSt last)) := fun x y => by
    show ((((Γ.set b .no).set a .no).set a (.dat x)).set b (.dat y))[c]? = _
    rw [List.getElem?_set_ne hbc, List.getElem?_set_ne hac, List.getElem?_set_ne hac, List.getElem?_set_ne hbc]
    exact hl
  have hΓa : ∀ x y : D, (((wipeG Γ [a, b]).set a (.dat x)).set b (.dat y))[a]? = some (.dat x) := fun x y => by
    show ((((Γ.set b .no).set a .no).set a (.dat x)).set b (.dat y))[a]? = _
    rw [List.getElem?_set_ne (Ne.symm hab), List.getElem?_set_self (by simpa using ha)]
  have hΓb : ∀ x y : D, (((wipeG Γ [a, b]).set a (.dat x)).set b (.dat y))[b]? = some (.dat y) := fun x y => by
    show ((((Γ.set b .no).set a .no).set a (.dat x)).set b (.dat y))[b]? = _
    rw [List.getElem?_set_self (by simpa using hb)]
  refine EvL.to (el_lc (wi.zipIdx 0) (fun q => .tup [.int (q.2 : Int), dOi q.1]) (offOne last) (fun q => .int (q.2 : Int)) (ItD.to (it_enumT (ea_cons (ev_var hw) ea_nil)) (enm_map dOi 0 wi)) (by rw [List.length_zipIdx]; show _ ≤ 100000; omega) (fun q hq => ⟨_, _, fun _ h => h, tg_pair, fun W3 l3 => ⟨?_, fun _ => ev_var (hΓa _ _)⟩⟩)) (by unfold offs; rw [List.map_map]; rfl)
  obtain ⟨ix, hix⟩ := List.mem_iff_getElem?.mp hq
  obtain ⟨h1, h2⟩ := zipIdx_get hix
  have hlt : q.2 < last.length := by
    have := (List.getElem?_eq_some_iff.mp h2).1
    omega
  obtain ⟨o, j⟩ := q
  cases o with
  | none => exact EvT.to (et_and (b := false) (et_test (ev_notN (EvD.h (ev_var (hΓb _ _))))) (fun z => by cases z)) rfl
  | some i => exact EvT.to (et_and (et_test (ev_notN (EvD.h (ev_var (hΓb _ _))))) (fun _ => et_test (ev_neI (ev_var (hΓb _ _)) (ev_ixT (ev_var (hΓ _ _)) (ev_var (hΓa _ _)) (at_ints ⟨by dsimp only; omega, by dsimp only at hlt ⊢; omega⟩))))) rfl
def jOk (fm : Farm) (fl st : List Int) (wi : List (Option Int)) : Prop := st.length = fl.length ∧ st.length ≤ 4 ∧ wi.length = st.length
theorem call_fb {W0 W : Wd} {Γ : List Sl} {E : XK} {a b c d : Nat} {fm : Farm} {fl st : List Int} {de : List (Int × Int)} (h1 : Γ[a]? = some (.dat (dFm fm))) (h2 : Γ[b]? = some (.dat (dIs fl))) (h3 : Γ[c]? = some (.dat (dSt st))) (h4 : Γ[d]? = some (.dat (dPrs de))) (h5 : st.length = fl.length) (h6 : st.length ≤ 4) :
    EvD W0 (tCall (Pure gFirstBad) [] E (tCons (tVar a) (tCons (tVar b) (tCons (tVar c) (tCons (tVar d) tNil))))) Γ W (.tup [dOn (firstBad fm fl 0 st de).1, dSt (firstBad fm fl 0 st de).2]) :=
  ev_call (ea_cons (ev_var h1) (ea_cons (ev_var h2) (ea_cons (ev_var h3) (ea_cons (ev_var h4) ea_nil)))) ⟨fm, fl, st, de, rfl, h5, h6, rfl⟩
def gFineShows (A : Adr) : List D → D → Prop := fun ds r => ∃ (fm : Farm) (fl st : List Int) (wi : List (Option Int)) (de : List (Int × Int)), ds = [dFine A, dFm fm, dIs fl, dSt st, dWs wi, dPrs de] ∧ jOk fm fl st wi ∧ r = .bl (jShows fm fl st wi de .fine)
theorem ok_Fine_shows {f : Addr} {fd : FuncData} (F : Fun K "shows" "Fine.shows" s_Fine_shows f fd) (T : Tp mg) (D_first_bad : Df P w K mg base 2 "first_bad" ["farm", "flocks", "stand", "deeds"] (Pure gFirstBad)) (D_as_wished : Df P w K mg base 1 "as_wished" ["stand", "wish"] (Pure gAsWished)) :
    FnOk P w K mg base CX0 3 f fd ["self", "farm", "flocks", "stand", "wish", "deeds"] (Pure (gFineShows A)) := by
  refine fn_pure F sc_Fine_shows (fun ds r h => by obtain ⟨_, _, _, _, _, rfl, _⟩ := h; rfl) (fun cdv A2 outer s H E hr ds r hg => ?_)
  obtain ⟨fm, fl, st, wi, de, rfl, ⟨h1, h2, h3⟩, rfl⟩ := hg
  refine ⟨_, (pss_cons (ps_asg (pe_df D_first_bad (hr.mono (by decide)) (by rfl) (pa_cons (pv 1) (pa_cons (pv 2) (pa_cons (pv 3) (pa_cons (pv 5) pa_nil))))) (pg_tupK (K0 := K) (n := 2) rfl rfl (pgs_cons (pg_n 6 sc_Fine_shows.nd) (pgs_cons (pg_n 7 sc_Fine_shows.nd) pgs_nil))))
  (pss_one (ps_ret (pe_and (pe_cmpR o_isN (pv 6) pe_non (nomark _)) (pe_one (pe_df D_as_wished (hr.mono (by decide)) (by rfl) (pa_cons (pv 7) (pa_cons (pv 4) pa_nil)))))))), fun W0 => ?_⟩
  refine st_seq (st_asgT (call_fb rfl rfl rfl rfl h1 h2) tg_pair (fun W1 l1 => ?_))
  refine st_ret (EvD.to (ev_and (ev_isN (EvD.h (ev_var rfl))) (fun _ => ev_call (ea_cons (ev_var rfl) (ea_cons (ev_var rfl) ea_nil)) ⟨_, wi, rfl, by rw [fb_len]; exact h2, rfl⟩)) ?_) rfl
  rw [dOn_isN]
  rfl
def gHaltIni (A : Adr) : List D → (Wd → Wd → Addr → Prop) → Prop := fun ds po => ∃ p : Int, ds = [.int p] ∧ po = fun W1 W2 x => OwF W1 W2 x A.c_Halt [("place", .int p)]
theorem ok_Halt_init {f : Addr} {fd : FuncData} (F : Fun K "__init__" "Halt.__init__" s_Halt___init__ f fd) (T : Tp mg) (J : Tj K mg A) : FnOk P w K mg base CX0 1 f fd ["self", "place"] (Ini A.c_Halt (gHaltIni A)) := by
  refine fn_ini F sc_Halt___init__ (fun ds r h => by obtain ⟨_, rfl, _⟩ := h; rfl) (fun cdv A2 outer s H E hr ds po hg => ?_)
  obtain ⟨p, rfl, rfl⟩ := hg
  refine ⟨_, (pss_one (ps_fld (pv 0) (pv 1) rfl)), fun W1 W2 a dx l12 h1 h2 h3 => ?_⟩
  refine st_fld (i := 0) (k := .dt (.int p)) rfl h3 h2 h1 J.hk.cl J.h1 (by decide) (ev_var rfl).g (fun v q W3 n3 l3 r3 => ?_)
  exact ⟨⟨dx, [("place", v)], upd_same, .cons r3 .nil⟩, n3, h1⟩
def gOffIni (A : Adr) : List D → (Wd → Wd → Addr → Prop) → Prop := fun ds po => ∃ p : Int, ds = [.int p] ∧ po = fun W1 W2 x => OwF W1 W2 x A.c_Off [("flock", .int p)]
theorem ok_Off_init {f : Addr} {fd : FuncData} (F : Fun K "__init__" "Off.__init__" s_Off___init__ f fd) (T : Tp mg) (J : Tj K mg A) : FnOk P w K mg base CX0 1 f fd ["self", "flock"] (Ini A.c_Off (gOffIni A)) := by
  refine fn_ini F sc_Off___init__ (fun ds r h => by obtain ⟨_, rfl, _⟩ := h; rfl) (fun cdv A2 outer s H E hr ds po hg => ?_)
  obtain ⟨p, rfl, rfl⟩ := hg
  refine ⟨_, (pss_one (ps_fld (pv 0) (pv 1) rfl)), fun W1 W2 a dx l12 h1 h2 h3 => ?_⟩
  refine st_fld (i := 0) (k := .dt (.int p)) rfl h3 h2 h1 J.ok.cl J.o1 (by decide) (ev_var rfl).g (fun v q W3 n3 l3 r3 => ?_)
  exact ⟨⟨dx, [("flock", v)], upd_same, .cons r3 .nil⟩, n3, h1⟩
def gHaltShows (A : Adr) : List D → D → Prop := fun ds r => ∃ (p : Int) (fm : Farm) (fl st : List Int) (wi : List (Option Int)) (de : List (Int × Int)), ds = [dHalt A p, dFm fm, dIs fl, dSt st, dWs wi, dPrs de] ∧ jOk fm fl st wi ∧ r = .bl (jShows fm fl st wi de (.halt p))
theorem ok_Halt_shows {f : Addr} {fd : FuncData} (F : Fun K "shows" "Halt.shows" s_Halt_shows f fd) (T : Tp mg) (J : Tj K mg A) (D_first_bad : Df P w K mg base 2 "first_bad" ["farm", "flocks", "stand", "deeds"] (Pure gFirstBad)) :
    FnOk P w K mg base CX0 3 f fd ["self", "farm", "flocks", "stand", "wish", "deeds"] (Pure (gHaltShows A)) := by
  refine fn_pure F sc_Halt_shows (fun ds r h => by obtain ⟨_, _, _, _, _, _, rfl, _⟩ := h; rfl) (fun cdv A2 outer s H E hr ds r hg => ?_)
  obtain ⟨p, fm, fl, st, wi, de, rfl, ⟨h1, h2, h3⟩, rfl⟩ := hg
  refine ⟨_, (pss_cons (ps_sv 6 sc_Halt_shows.nd (pe_ix (kx_ix_tup K) (pe_df D_first_bad (hr.mono (by decide)) (by rfl) (pa_cons (pv 1) (pa_cons (pv 2) (pa_cons (pv 3) (pa_cons (pv 5) pa_nil))))) pe_int (fun _ _ => rfl)))
  (pss_one (ps_ret (pe_and (pe_cmpR o_notN (pv 6) pe_non (nomark _)) (pe_one (pe_cmpR op_eq (pv 6) (kx_fld K (pv 0) rfl) (nomark _))))))), fun W0 => ?_⟩
  refine st_seq (st_asgD (ev_ixT (call_fb rfl rfl rfl rfl h1 h2) ev_int at0) (fun W1 l1 => ?_))
  unfold jShows
  cases (firstBad fm fl 0 st de).1 with
  | none => exact st_ret (EvD.to (ev_and (b := false) (ev_notN (EvD.h (ev_var rfl))) (fun z => by cases z)) rfl) rfl
  | some i => exact st_ret (EvD.to (ev_and (ev_notN (EvD.h (ev_var rfl))) (fun _ => ev_eqI (ev_var rfl) (ev_fld (ev_var rfl) rfl J.hk.cl J.h1))) rfl) rfl
def gOffShows (A : Adr) : List D → D → Prop := fun ds r => ∃ (p : Int) (fm : Farm) (fl st : List Int) (wi : List (Option Int)) (de : List (Int × Int)), ds = [dOff A p, dFm fm, dIs fl, dSt st, dWs wi, dPrs de] ∧ jOk fm fl st wi ∧ r = .bl (jShows fm fl st wi de (.off p))
theorem ok_Off_shows {f : Addr} {fd : FuncData} (F : Fun K "shows" "Off.shows" s_Off_shows f fd) (T : Tp mg) (J : Tj K mg A) (D_first_bad : Df P w K mg base 2 "first_bad" ["farm", "flocks", "stand", "deeds"] (Pure gFirstBad)) :
    FnOk P w K mg base CX0 3 f fd ["self", "farm", "flocks", "stand", "wish", "deeds"] (Pure (gOffShows A)) := by
  refine fn_pure F sc_Off_shows (fun ds r h => by obtain ⟨_, _, _, _, _, _, rfl, _⟩ := h; rfl) (fun cdv A2 outer s H E hr ds r hg => ?_)
  obtain ⟨p, fm, fl, st, wi, de, rfl, ⟨h1, h2, h3⟩, rfl⟩ := hg
  refine ⟨_, (pss_cons (ps_asg (pe_df D_first_bad (hr.mono (by decide)) (by rfl) (pa_cons (pv 1) (pa_cons (pv 2) (pa_cons (pv 3) (pa_cons (pv 5) pa_nil))))) (pg_tupK (K0 := K) (n := 2) rfl rfl (pgs_cons (pg_n 6 sc_Off_shows.nd) (pgs_cons (pg_n 7 sc_Off_shows.nd) pgs_nil))))
  (pss_cons (ps_setLc (i := 10) (own := [("at", 8), ("one", 9)]) rfl sc_Off_shows.nd rfl rfl (sw_true rfl rfl rfl (by decide +kernel)) (pi_enumT (by rfl) T.n_enumerate (pa_cons (pv 4) pa_nil)) (blkOk_by (own := [("at", 8), ("one", 9)]) (N := ["self", "farm", "flocks", "stand", "wish", "deeds", "place", "last", "at", "one", "off"]) (sc := defScope s_Off_shows) (by decide +kernel)) (fun _ _ _ _ _ => (pg_tupK (K0 := K) (n := 2) rfl rfl (pgs_cons (pg_n 8 sc_Off_shows.nd) (pgs_cons (pg_n 9 sc_Off_shows.nd) pgs_nil)))) (fun _ _ _ _ _ => (pts_one (PW.pt (pw_and (pt_cmpR o_notN (pv 9) pe_non (nomark _)) (pw_and1 (pt_cmpR op_ne (pv 9) (pe_ix (kx_ix_tup K) (pv 7) (pv 8) (fun _ _ => rfl)) (nomark _))))))) (fun _ _ _ _ _ => (pv 8)))
  (pss_one (ps_ret (pe_and (pe_cmpR o_isN (pv 6) pe_non (nomark _)) (pe_one (pe_cmpR (kx_op_eqD K hr.units) (pe_slice (kx_sl_list K) (pv 10) po_none (po_some pe_int)) (pe_lst (pa_cons (kx_fld K (pv 0) rfl) pa_nil)) (nomark _)))))))), fun W0 => ?_⟩
  have hlen := fb_len (fm := fm) (fl := fl) 0 st de
  have ho : (offs (firstBad fm fl 0 st de).2 wi).length ≤ 4 := by
    unfold offs
    rw [List.length_map]
    refine Nat.le_trans (List.length_filter_le ..) ?_
    rw [List.length_zipIdx]
    omega
  refine st_seq (st_asgT (call_fb rfl rfl rfl rfl h1 h2) tg_pair (fun W1 l1 => ?_))
  refine st_seq (st_asgD (EvL.fz (el_offs (a := 8) (b := 9) (c := 7) (d := 4) (by decide) (by decide) (by decide) (by show 8 < 11; omega) (by show 9 < 11; omega) rfl rfl (by omega) (by omega)) (by rw [List.length_map]; show _ ≤ 100000; omega)) (fun W2 l2 => ?_))
  refine st_ret (EvD.to (ev_and (ev_isN (EvD.h (ev_var rfl))) (fun _ => ev_eqD (d := dIs (cutL (offs (firstBad fm fl 0 st de).2 wi) none (some 1))) (e := dIs [p]) (EvD.h (em_sl (ev_var rfl) eo_none (eo_some ev_int) (by show _ ≤ 100000; omega))) (EvD.h (ev_lst (ea_cons (ev_fld (ev_var rfl) rfl J.ok.cl J.o1) ea_nil) (by show 1 ≤ 100000; omega))) ((sh_is _).shp (by decide)) ((sh_is _).shp (by decide)))) ?_) rfl
  rw [dOn_isN, eqb_dec eqb_is, cutL_to _ (by omega)]
  rfl
def gJudged (A : Adr) : List D → D → Prop := fun ds r => ∃ (fm : Farm) (fl st : List Int) (wi : List (Option Int)) (de : List (Int × Int)), ds = [dFm fm, dIs fl, dSt st, dWs wi, dPrs de] ∧ Fok fm ∧ Lok fl ∧ Std fm fl st ∧ Wok fm fl wi ∧ de.length ≤ 100 ∧ r = dJd A (judgeOf fm fl st wi de)
theorem ev_halt {W0 W : Wd} {Γ : List Sl} {te : TE} {p : Int} {E : XK} (h : EvD W0 te Γ W (.int p)) : EvD W0 (tMake A.c_Halt (Ini A.c_Halt (gHaltIni A)) [] E (tCons te tNil)) Γ W (dHalt A p) :=
  ev_mkF (ea_cons h ea_nil) ⟨p, rfl, rfl⟩ fun W1 W2 x l o => o.rpF
theorem ev_off {W0 W : Wd} {Γ : List Sl} {te : TE} {p : Int} {E : XK} (h : EvD W0 te Γ W (.int p)) : EvD W0 (tMake A.c_Off (Ini A.c_Off (gOffIni A)) [] E (tCons te tNil)) Γ W (dOff A p) :=
  ev_mkF (ea_cons h ea_nil) ⟨p, rfl, rfl⟩ fun W1 W2 x l o => o.rpF
theorem ok_judged {f : Addr} {fd : FuncData} (F : Fun K "judged" "judged" s_judged f fd) (T : Tp mg) (TC : Tj K mg A) (D_asked_stand : Df P w K mg base 4 "asked_stand" ["farm", "flocks", "stand"] (Pure gAskedStand)) (D_asked_wish : Df P w K mg base 2 "asked_wish" ["farm", "flocks", "wish"] (Pure gAskedWish))
    (D_is_deed : Df P w K mg base 1 "is_deed" ["thing"] (Pure gIsDeed)) (D_first_bad : Df P w K mg base 2 "first_bad" ["farm", "flocks", "stand", "deeds"] (Pure gFirstBad))
    (M_Halt : Dm P w K mg base 1 "Halt" A.c_Halt ["self", "place"] (Ini A.c_Halt (gHaltIni A))) (M_Off : Dm P w K mg base 1 "Off" A.c_Off ["self", "flock"] (Ini A.c_Off (gOffIni A))) :
    FnOk P w K mg base CX0 5 f fd ["farm", "flocks", "stand", "wish", "deeds"] (Pure (gJudged A)) := by
  refine fn_pure F sc_judged (fun ds r h => by obtain ⟨_, _, _, _, _, rfl, _⟩ := h; rfl) (fun cdv A2 outer s H E hr ds r hg => ?_)
  obtain ⟨fm, fl, st, wi, de, rfl, hf, hl, hs, hw, hd, rfl⟩ := hg
  obtain ⟨_, gv_LONGEST⟩ := TC.lg
  have B_Fine := TC.fB
  refine ⟨_, (pss_cons (ps_expr (pe_df D_asked_stand (hr.mono (by decide)) (by rfl) (pa_cons (pv 0) (pa_cons (pv 1) (pa_cons (pv 2) pa_nil)))))
  (pss_cons (ps_expr (pe_df D_asked_wish (hr.mono (by decide)) (by rfl) (pa_cons (pv 0) (pa_cons (pv 1) (pa_cons (pv 3) pa_nil)))))
  (pss_cons (ps_if (PW.pt (pw_or (pt_not (pt_val (pe_callB (kx_call_isi K) (by rfl) T.n_isinstance b_isinstance (pa_cons (pv 4) (pa_cons (pe_bltn (v := .ty "list") (by rfl) T.n_list b_list rfl) pa_nil))))) (pw_or (pt_cmpR op_gt (pe_callB (kx_c_len K) (by rfl) T.n_len b_len (pa_cons (pv 4) pa_nil)) (pe_glob (v := .int _) (by rfl) gv_LONGEST ⟨_, rfl⟩) (nomark _)) (pw_or1 (pt_not (pt_val (pe_callB (kx_cr_all K rfl) (by rfl) T.n_all b_all (pa_cons (pe_lc (own := [("one", 5)]) rfl sc_judged.nd (pi_list (pv 4)) (blkOk_by (own := [("one", 5)]) (N := ["farm", "flocks", "stand", "wish", "deeds", "one", "place", "last", "at", "off"]) (sc := defScope s_judged) (by decide +kernel)) (fun _ _ _ _ _ => (pg_n 5 sc_judged.nd)) (fun _ _ _ _ _ => pts_nil) (fun _ _ _ _ _ => (pe_df D_is_deed (hr.mono (by decide)) (by rfl) (pa_cons (pv 5) pa_nil)))) pa_nil)))))))) (pss_one ps_never) pss_nil)
  (pss_cons (ps_asg (pe_df D_first_bad (hr.mono (by decide)) (by rfl) (pa_cons (pv 0) (pa_cons (pv 1) (pa_cons (pv 2) (pa_cons (pv 4) pa_nil))))) (pg_tupK (K0 := K) (n := 2) rfl rfl (pgs_cons (pg_n 6 sc_judged.nd) (pgs_cons (pg_n 7 sc_judged.nd) pgs_nil))))
  (pss_cons (ps_if (pt_cmpR o_notN (pv 6) pe_non (nomark _)) (pss_one (ps_ret (pe_mk M_Halt (hr.mono (by decide)) (by rfl) (pa_cons (pv 6) pa_nil)))) pss_nil)
  (pss_cons (ps_setLc (i := 9) (own := [("at", 8), ("one", 5)]) rfl sc_judged.nd rfl rfl (sw_true rfl rfl rfl (by decide +kernel)) (pi_enumT (by rfl) T.n_enumerate (pa_cons (pv 3) pa_nil)) (blkOk_by (own := [("at", 8), ("one", 5)]) (N := ["farm", "flocks", "stand", "wish", "deeds", "one", "place", "last", "at", "off"]) (sc := defScope s_judged) (by decide +kernel)) (fun _ _ _ _ _ => (pg_tupK (K0 := K) (n := 2) rfl rfl (pgs_cons (pg_n 8 sc_judged.nd) (pgs_cons (pg_n 5 sc_judged.nd) pgs_nil)))) (fun _ _ _ _ _ => (pts_one (PW.pt (pw_and (pt_cmpR o_notN (pv 5) pe_non (nomark _)) (pw_and1 (pt_cmpR op_ne (pv 5) (pe_ix (kx_ix_tup K) (pv 7) (pv 8) (fun _ _ => rfl)) (nomark _))))))) (fun _ _ _ _ _ => (pv 8)))
  (pss_one (ps_ret (pe_ifExp (pt_cmpR (kx_op_neD K hr.units) (pv 9) (pe_lst pa_nil) (nomark _)) (pe_mk M_Off (hr.mono (by decide)) (by rfl) (pa_cons (pe_ix (kx_ix_list K) (pv 9) pe_int (fun _ _ => rfl)) pa_nil)) (pe_makeB B_Fine (by rfl) TC.c_Fine)))))))))), fun W0 => ?_⟩
  have h4 : st.length ≤ 4 := by
    have h1 := hs.len
    have h2 := hl.1.2
    omega
  have hwl : wi.length = fl.length := hw.1
  have hsl := hs.len
  have hlen := fb_len (fm := fm) (fl := fl) 0 st de
  have hdc : de.length ≤ cap := by show _ ≤ 100000; omega
  refine st_seq (st_drop (ev_call (ea_cons (ev_var rfl) (ea_cons (ev_var rfl) (ea_cons (ev_var rfl) ea_nil))) ⟨fm, fl, st, rfl, hf, hl, hs, rfl⟩) (fun W1 l1 => ?_))
  refine st_seq (st_drop (ev_call (ea_cons (ev_var rfl) (ea_cons (ev_var rfl) (ea_cons (ev_var rfl) ea_nil))) ⟨fm, fl, wi, rfl, hf, hl, hw, rfl⟩) (fun W1 l1 => ?_))
  refine st_seq (st_pass (EvT.to (et_or (et_not (et_test (ev_isaL (EvD.h (ev_var rfl)) rfl))) (fun _ => et_or (et_test (ev_gt (ev_lenLM (EvD.h (ev_var rfl))) ev_int)) (fun _ => et_not (et_test (ev_allA de dPr (fun _ => true) (it_list (ev_var rfl)) hdc (fun a ha => ⟨_, _, fun _ h => h, tg_name, fun W2 l2 => ev_call (ea_cons (ev_var rfl) ea_nil) ⟨a, rfl, rfl⟩⟩)))))) ?_) (fun W2 l2 => ?_))
  · have : ¬(100 : Int) < de.length := by omega
    simp [this, D.isaL]
  refine st_seq (st_asgT (call_fb rfl rfl rfl rfl hsl h4) tg_pair (fun W3 l3 => ?_))
  unfold judgeOf
  have ho : (offs (firstBad fm fl 0 st de).2 wi).length ≤ 4 := by
    unfold offs
    rw [List.length_map]
    refine Nat.le_trans (List.length_filter_le ..) ?_
    rw [List.length_zipIdx]
    omega
  have hlw : wi.length ≤ (firstBad fm fl 0 st de).2.length := by omega
  generalize (firstBad fm fl 0 st de).2 = last at *
  cases (firstBad fm fl 0 st de).1 with
  | some i => exact st_seq (st_if (b := true) (EvT.to (et_test (ev_notN (EvD.h (ev_var rfl)))) rfl) (fun _ W4 l4 => st_ret (ev_halt (ev_var rfl)) rfl) (fun z => by cases z))
  | none =>
    refine st_seq (st_pass (EvT.to (et_test (ev_notN (EvD.h (ev_var rfl)))) rfl) (fun W4 l4 => ?_))
    refine st_seq (st_asgD (EvL.fz (el_offs (a := 8) (b := 5) (c := 7) (d := 3) (by decide) (by decide) (by decide) (by show 8 < 10; omega) (by show 5 < 10; omega) rfl rfl hlw (by omega)) (by rw [List.length_map]; show _ ≤ 100000; omega)) (fun W5 l5 => ?_))
    have hne : ∀ {Γ : List Sl} {W : Wd}, Γ[9]? = some (.dat (dIs (offs last wi))) → EvT W0 (tTest (tOp (rNeD K) (tVar 9) (tLst tNil))) Γ W (!decide (offs last wi = [])) := fun h => EvT.to (et_test (ev_neD (e := dIs []) (EvD.h (ev_var h)) (EvD.h (ev_lst ea_nil (by decide))) ((sh_is _).shp (by decide)) ((sh_is _).shp (by decide)))) (by rw [eqb_dec eqb_is])
    cases hof : offs last wi with
    | nil =>
      rw [hof] at hne
      exact st_ret (EvD.to (ev_if (d := dFine A) (hne rfl) (fun z => by cases z) (fun _ => ev_mkB)) rfl) rfl
    | cons f fs =>
      rw [hof] at hne
      exact st_ret (EvD.to (ev_if (e := dOff A f) (hne rfl) (fun _ => ev_off (ev_ixL (ev_var rfl) ev_int at0)) (fun z => by cases z)) rfl) rfl
end
end Fg

set_option Elab.async false
set_option linter.all false
set_option maxRecDepth 100000
set_option maxHeartbeats 4000000
/-! Farms changed; walks by the cells; what is judged, by name. -/
namespace Fg
open PySem L2 RZ
section
variable {fm : Farm} {fl st : List Int} {w : List (Option Int)}
def GatesOk (n : Nat) (gs : List (Int × Int)) : Prop := (∀ g ∈ gs, 0 ≤ g.1 ∧ g.1 < g.2 ∧ g.2 < n) ∧ (∀ i, i + 1 < gs.length → ltP (gs.getD i (0, 0)) (gs.getD (i + 1) (0, 0)) = true) ∧ gs.length ≤ 100
theorem gates_ok (h : Fok fm) : GatesOk fm.rooms.length fm.gates := h.2.2
/-- a room made greater, a flock smaller, other gates -/
theorem chgG_ok (h : FarmOk fm fl st w) (k : Nat) {gs : List (Int × Int)} (hg : GatesOk fm.rooms.length gs) : FarmOk ⟨fm.rooms.set k 9, gs⟩ (fl.set 0 1) st w := by
  obtain ⟨⟨⟨a1, a2⟩, a3, _⟩, ⟨b1, b2⟩, ⟨c1, c2, c3, c4⟩, d1, d2⟩ := h
  obtain ⟨a4, a5, a6⟩ := hg
  refine ⟨⟨⟨by show 2 ≤ (fm.rooms.set k 9).length; rw [List.length_set]; exact a1, by show (fm.rooms.set k 9).length ≤ 6; rw [List.length_set]; exact a2⟩, fun r hr => ?_, fun g hg => ?_, a5, a6⟩, ⟨by rw [List.length_set]; exact b1, fun r hr => ?_⟩, ⟨by rw [List.length_set]; exact c1, fun x hx => ?_, c3, fun q hq => ?_⟩, ⟨by rw [List.length_set]; exact d1, fun o ho i e => ?_⟩⟩
  · rcases List.mem_or_eq_of_mem_set hr with hr | rfl
    · exact a3 r hr
    · omega
  · have := a4 g hg
    show 0 ≤ g.1 ∧ g.1 < g.2 ∧ g.2 < ((fm.rooms.set k 9).length : Int)
    rw [List.length_set]
    exact this
  · rcases List.mem_or_eq_of_mem_set hr with hr | rfl
    · exact b2 r hr
    · omega
  · have := c2 x hx
    show 0 ≤ x ∧ x < ((fm.rooms.set k 9).length : Int)
    rw [List.length_set]
    exact this
  · obtain ⟨i, hi, rfl⟩ := List.mem_iff_getElem.mp hq
    rw [List.length_zip, List.length_set] at hi
    rw [List.getElem_zip]
    dsimp only
    have hx := c2 st[i] (List.getElem_mem _)
    have h5 := c4 (st[i], fl[i]) (List.mem_iff_getElem.mpr ⟨i, by rw [List.length_zip]; omega, by rw [List.getElem_zip]⟩)
    dsimp only at h5
    have h6 := a3 (nth fm.rooms st[i]) (nth_mem hx.1 hx.2)
    have hn : nth fm.rooms st[i] ≤ nth (fm.rooms.set k 9) st[i] := by
      by_cases hk : k < fm.rooms.length
      · have h7 := nth_set (ns := fm.rooms) (i := (k : Int)) (x := 9) (by omega) (by omega) hx.1 hx.2
        rw [Int.toNat_natCast] at h7
        rw [h7]
        split <;> omega
      · rw [List.set_eq_of_length_le (by omega)]
        exact Int.le_refl _
    rw [List.getElem_set]
    have h8 := (a3 _ (nth_mem (ns := fm.rooms) hx.1 hx.2)).1
    split <;> omega
  · have := d2 o ho i e
    show 0 ≤ i ∧ i < ((fm.rooms.set k 9).length : Int)
    rw [List.length_set]
    exact this
/-- the wish changed alone -/
theorem wish_ok (h : FarmOk fm fl st w) {w2 : List (Option Int)} (h2 : Wok fm fl w2) : FarmOk fm fl st w2 := ⟨h.1, h.2, h.3, h2⟩
theorem wok_st {t : List Int} (h : Std fm fl t) : Wok fm fl (t.map some) := ⟨by rw [List.length_map]; exact h.len, fun o ho i e => by
  obtain ⟨x, hx, rfl⟩ := List.mem_map.mp ho
  cases e
  exact h.rng _ hx⟩
theorem deeds_std {t : List Int} (h : Std fm fl t) {d : Int × Int} (hd : d ∈ deedsOf fm fl t) : Std fm fl (bhd t d.1 d.2) := h.bhd (mem_deedsOf hd)
end
theorem dSt_dWs (t : List Int) : dSt t = dWs (t.map some) := by
  show D.tup _ = D.tup _
  rw [List.map_map]
  rfl
def jKind : Jd → Str × Int
  | .fine => ("fine", 0)
  | .halt p => ("halt", p)
  | .off f => ("off", f)
end Fg

set_option Elab.async false
set_option linter.all false
set_option maxRecDepth 100000
set_option maxHeartbeats 4000000
namespace Fg
open PySem L2 RZ
local macro_rules | `(tactic| walk_at "bo") => `(tactic| simp only [Bool.or_eq_false_iff, Bool.or_eq_true, Bool.and_eq_true, Bool.not_eq_true', Bool.not_eq_false', Bool.not_eq_true, Bool.not_eq_false, decide_eq_true_eq, decide_eq_false_iff_not, Bool.true_eq_false, Bool.false_eq_true, Bool.and_eq_false_imp] at *)
local macro_rules | `(tactic| walk_at "sd") => `(tactic| first
  | assumption
  | exact rfl
  | omega
  | (refine at_ints ?_; first | omega | (walk_at "bo"; omega) | skip)
  | exact Nat.le_of_ble_eq_true rfl
  | (show _ ≤ cap; first | decide | omega | (simp only [List.length_map, List.length_append]; omega))
  | (walk_at "bo"; omega)
  | skip)
local macro_rules | `(tactic| walk_at "ea") => `(tactic| first
  | exact ea_nil
  | (apply ea_cons; (focus walk_at "ev"); walk_at "ea"))
local macro_rules | `(tactic| walk_at "eh") => `(tactic| first
  | exact ev_varA rfl (by first | assumption | omega | decide)
  | exact ev_varK rfl (by first | assumption | omega | decide)
  | (apply EvD.h; walk_at "ev"))
local macro_rules | `(tactic| walk_at "el") => `(tactic| first
  | ((with_reducible apply el_lst); (focus walk_at "ea"); walk_at "sd")
  | ((with_reducible apply el_cat); (focus walk_at "ev"); (focus walk_at "ev"); walk_at "sd")
  | ((with_reducible apply el_sl); (focus walk_at "ev"); (focus walk_at "eo"); (focus walk_at "eo"))
  | ((with_reducible apply el_list); walk_at "ev")
  | ((with_reducible apply el_listT); walk_at "ev")
  | ((with_reducible apply el_rev); walk_at "ev"))
local macro_rules | `(tactic| walk_at "eo") => `(tactic| first
  | exact eo_none
  | (apply eo_some; walk_at "ev"))
local macro_rules | `(tactic| walk_at "ev") => `(tactic| first
  | exact ev_int | exact ev_bl | exact ev_non | exact ev_str
  | exact ev_var rfl
  | ((with_reducible apply ev_add); (focus walk_at "ev"); walk_at "ev")
  | ((with_reducible apply ev_sub); (focus walk_at "ev"); walk_at "ev")
  | ((with_reducible apply ev_lt); (focus walk_at "ev"); walk_at "ev")
  | ((with_reducible apply ev_le); (focus walk_at "ev"); walk_at "ev")
  | ((with_reducible apply ev_gt); (focus walk_at "ev"); walk_at "ev")
  | ((with_reducible apply ev_ge); (focus walk_at "ev"); walk_at "ev")
  | ((with_reducible apply ev_eqI); (focus walk_at "ev"); (focus walk_at "ev"); done)
  | ((with_reducible apply ev_neI); (focus walk_at "ev"); (focus walk_at "ev"); done)
  | ((with_reducible apply ev_mulW); (focus walk_at "ev"); (focus walk_at "ev"); walk_at "sd")
  | ((with_reducible apply ev_fdiv); (focus walk_at "ev"); (focus walk_at "ev"); walk_at "sd")
  | ((with_reducible apply ev_mod); (focus walk_at "ev"); (focus walk_at "ev"); walk_at "sd")
  | ((with_reducible apply ev_neg); walk_at "ev")
  | ((with_reducible apply ev_ixT); (focus walk_at "ev"); (focus walk_at "ev"); walk_at "sd")
  | (with_reducible apply ev_ixA rfl ?_ ?_; (focus walk_at "ev"); walk_at "sd")
  | ((with_reducible apply ev_ixL); (focus walk_at "ev"); (focus walk_at "ev"); walk_at "sd")
  | (with_reducible apply ev_lenA rfl)
  | ((with_reducible apply ev_lenLM); walk_at "eh"; done)
  | ((with_reducible apply ev_lenTM); walk_at "eh"; done)
  | ((with_reducible apply ev_lenL); walk_at "eh")
  | ((with_reducible apply ev_lenT); walk_at "eh")
  | ((with_reducible apply ev_lenK); walk_at "eh")
  | ((with_reducible apply ev_isN); walk_at "eh")
  | ((with_reducible apply ev_notN); walk_at "eh")
  | ((with_reducible apply ev_inT); (focus walk_at "ev"); walk_at "ev")
  | ((with_reducible apply ev_inD); (focus walk_at "eh"); (focus walk_at "eh"); all_goals walk_at "sh")
  | ((with_reducible apply ev_notInD); (focus walk_at "eh"); (focus walk_at "eh"); all_goals walk_at "sh")
  | ((with_reducible apply ev_eqD); (focus walk_at "eh"); (focus walk_at "eh"); all_goals walk_at "sh")
  | ((with_reducible apply ev_neD); (focus walk_at "eh"); (focus walk_at "eh"); all_goals walk_at "sh")
  | ((with_reducible apply ev_all); walk_at "eh")
  | ((with_reducible apply ev_any); walk_at "eh")
  | ((with_reducible apply ev_sum); walk_at "eh")
  | ((with_reducible apply ev_lenSet); (focus walk_at "ev"); walk_at "sd")
  | ((with_reducible apply ev_isaI); (focus walk_at "eh"); walk_at "sd")
  | ((with_reducible apply ev_isaB); (focus walk_at "eh"); walk_at "sd")
  | ((with_reducible apply ev_isaL); (focus walk_at "eh"); walk_at "sd")
  | ((with_reducible apply ev_isaT); (focus walk_at "eh"); walk_at "sd")
  | ((with_reducible apply ev_tup); (focus walk_at "ea"); walk_at "sd")
  | ((with_reducible apply ev_catT); (focus walk_at "ev"); (focus walk_at "ev"); walk_at "sd")
  | ((with_reducible apply ev_slT); (focus walk_at "ev"); (focus walk_at "eo"); (focus walk_at "eo"))
  | ((with_reducible apply ev_max2); (focus walk_at "ev"); walk_at "ev")
  | ((with_reducible apply ev_min2); (focus walk_at "ev"); walk_at "ev")
  | ((with_reducible apply ev_abs); walk_at "ev")
  | ((with_reducible apply ev_chain); (focus walk_at "ev"); (focus walk_at "ev"); intro _; walk_at "ev")
  | ((with_reducible apply ev_and); (focus walk_at "ev"); intro _; walk_at "ev")
  | ((with_reducible apply ev_or); (focus walk_at "ev"); intro _; walk_at "ev")
  | ((with_reducible apply ev_not); walk_at "ev")
  | (apply EvL.fz; (focus walk_at "el"); walk_at "sd"))
local macro_rules | `(tactic| walk_at "et") => `(tactic| first
  | ((with_reducible apply et_test); walk_at "ev")
  | ((with_reducible apply et_B); walk_at "ev")
  | ((with_reducible apply et_and); (focus walk_at "et"); intro _; walk_at "et")
  | ((with_reducible apply et_or); (focus walk_at "et"); intro _; walk_at "et")
  | ((with_reducible apply et_not); walk_at "et"))
local macro_rules | `(tactic| walk_at "sh") => `(tactic| first
  | exact (sh_tup2 (sh_int _) (sh_int _)).shp (by decide) | exact (sh_pr _).shp (by decide) | exact (sh_prs _).shp (by decide) | exact (sh_st _).shp (by decide) | exact (sh_is _).shp (by decide) | exact (sh_ws _).shp (by decide) | exact (sh_rg _).shp (by decide) | exact (sh_rgs _).shp (by decide) | exact (sh_fm _).shp (by decide)
  | exact sh_nil.shp (by decide) | exact (sh_bls _).shp (by decide) | decide +kernel | skip)

/-- the classes, and whose instance a judged answer is -/
structure Tq (K : PySem.W.Frag) (mg : Str → Option Value) (A : Adr) : Prop where
  c_Answer : mg "Answer" = some (.ref A.c_Answer)
  c_Led : mg "Led" = some (.ref A.c_Led)
  c_Never : mg "Never" = some (.ref A.c_Never)
  c_Fine : mg "Fine" = some (.ref A.c_Fine)
  c_Halt : mg "Halt" = some (.ref A.c_Halt)
  c_Off : mg "Off" = some (.ref A.c_Off)
  fA : PySem.W.kitOne K (.ref A.c_Fine) (.ref A.c_Answer) = some true
  fL : PySem.W.kitOne K (.ref A.c_Fine) (.ref A.c_Led) = some false
  fN : PySem.W.kitOne K (.ref A.c_Fine) (.ref A.c_Never) = some false
  fF : PySem.W.kitOne K (.ref A.c_Fine) (.ref A.c_Fine) = some true
  fH : PySem.W.kitOne K (.ref A.c_Fine) (.ref A.c_Halt) = some false
  fO : PySem.W.kitOne K (.ref A.c_Fine) (.ref A.c_Off) = some false
  hA : PySem.W.kitOne K (.ref A.c_Halt) (.ref A.c_Answer) = some true
  hL : PySem.W.kitOne K (.ref A.c_Halt) (.ref A.c_Led) = some false
  hN : PySem.W.kitOne K (.ref A.c_Halt) (.ref A.c_Never) = some false
  hF : PySem.W.kitOne K (.ref A.c_Halt) (.ref A.c_Fine) = some false
  hH : PySem.W.kitOne K (.ref A.c_Halt) (.ref A.c_Halt) = some true
  hO : PySem.W.kitOne K (.ref A.c_Halt) (.ref A.c_Off) = some false
  oA : PySem.W.kitOne K (.ref A.c_Off) (.ref A.c_Answer) = some true
  oL : PySem.W.kitOne K (.ref A.c_Off) (.ref A.c_Led) = some false
  oN : PySem.W.kitOne K (.ref A.c_Off) (.ref A.c_Never) = some false
  oF : PySem.W.kitOne K (.ref A.c_Off) (.ref A.c_Fine) = some false
  oH : PySem.W.kitOne K (.ref A.c_Off) (.ref A.c_Halt) = some false
  oO : PySem.W.kitOne K (.ref A.c_Off) (.ref A.c_Off) = some true
def Jd.isF : Jd → Bool
  | .fine => true
  | _ => false
def Jd.isH : Jd → Bool
  | .halt _ => true
  | _ => false
def Jd.isO : Jd → Bool
  | .off _ => true
  | _ => false
section
variable {P : Program} {w : World} {K : PySem.W.Frag} {mg : Str → Option Value} {base : Heap} {A : Adr}
theorem jd_ok (J : Tj K mg A) (j : Jd) : (dJd A j).okC K := by
  cases j with
  | fine => exact J.fk
  | halt p => exact J.hk
  | off f => exact J.ok
theorem jd_A (TC : Tq K mg A) (j : Jd) : PySem.W.kitOne K (dJd A j).ty (.ref A.c_Answer) = some true := by
  cases j with
  | fine => exact TC.fA
  | halt p => exact TC.hA
  | off f => exact TC.oA
theorem jd_L (TC : Tq K mg A) (j : Jd) : PySem.W.kitOne K (dJd A j).ty (.ref A.c_Led) = some false := by
  cases j with
  | fine => exact TC.fL
  | halt p => exact TC.hL
  | off f => exact TC.oL
theorem jd_N (TC : Tq K mg A) (j : Jd) : PySem.W.kitOne K (dJd A j).ty (.ref A.c_Never) = some false := by
  cases j with
  | fine => exact TC.fN
  | halt p => exact TC.hN
  | off f => exact TC.oN
theorem jd_F (TC : Tq K mg A) (j : Jd) : PySem.W.kitOne K (dJd A j).ty (.ref A.c_Fine) = some j.isF := by
  cases j with
  | fine => exact TC.fF
  | halt p => exact TC.hF
  | off f => exact TC.oF
theorem jd_H (TC : Tq K mg A) (j : Jd) : PySem.W.kitOne K (dJd A j).ty (.ref A.c_Halt) = some j.isH := by
  cases j with
  | fine => exact TC.fH
  | halt p => exact TC.hH
  | off f => exact TC.oH
theorem jd_O (TC : Tq K mg A) (j : Jd) : PySem.W.kitOne K (dJd A j).ty (.ref A.c_Off) = some j.isO := by
  cases j with
  | fine => exact TC.fO
  | halt p => exact TC.hO
  | off f => exact TC.oO
/-- an answer's own word -/
theorem ev_jshows {W0 W : Wd} {Γ : List Sl} {te : TE} {ta : TA} {j : Jd} {fm : Farm} {fl st : List Int} {wi : List (Option Int)} {de : List (Int × Int)} {E : XK} (h : EvH W0 te Γ W (dJd A j)) (ha : EvAH W0 ta Γ W [dFm fm, dIs fl, dSt st, dWs wi, dPrs de]) (hk : jOk fm fl st wi) :
    EvD W0 (tEi (tMeth A.c_Fine "shows" (Pure (gFineShows A)) [] E te ta) (tEi (tMeth A.c_Halt "shows" (Pure (gHaltShows A)) [] E te ta) (tMeth A.c_Off "shows" (Pure (gOffShows A)) [] E te ta))) Γ W (.bl (decide (judgeOf fm fl st wi de = j))) := by
  rw [← judge_shows hk.2.2]
  cases j with
  | fine => exact ev_eiL (ev_methH (g := gFineShows A) h rfl ha ⟨fm, fl, st, wi, de, rfl, hk, rfl⟩ rfl)
  | halt p => exact ev_eiR (ev_eiL (ev_methH (g := gHaltShows A) h rfl ha ⟨p, fm, fl, st, wi, de, rfl, hk, rfl⟩ rfl))
  | off f => exact ev_eiR (ev_eiR (ev_methH (g := gOffShows A) h rfl ha ⟨f, fm, fl, st, wi, de, rfl, hk, rfl⟩ rfl))
abbrev s_law : Stmt := top 55
theorem sc_law : FnScope ["_law_script", "_law_by", "_law_farm_here", "_law_flocks", "_law_stand", "_law_wish"] ["_law_script"] (defScope s_law) := ⟨rfl, rfl, rfl, by decide +kernel, rfl, by decide +kernel, by decide +kernel⟩
/-! ### _law_walk -/
def wkNum (cells : List Int) (wh : Int) (i : Nat) : Int := iabs (lawNum (nth cells ((i : Int) % (cells.length : Int)) + (i : Int) / (cells.length : Int)) ((i : Int) + 9) wh) / 3
def wkStep (fm : Farm) (fl : List Int) (cells : List Int) (wh : Int) (s : List (Int × Int) × List Int) (i : Nat) : List (Int × Int) × List Int :=
  if deedsOf fm fl s.2 = [] then s else
    let d := (deedsOf fm fl s.2).getD (wkNum cells wh i % ((deedsOf fm fl s.2).length : Int)).toNat (0, 0)
    (s.1 ++ [d], bhd s.2 d.1 d.2)
theorem wkStep_std {fm : Farm} {fl cells : List Int} {wh : Int} {s : List (Int × Int) × List Int} {i : Nat} (h : Std fm fl s.2) : Std fm fl (wkStep fm fl cells wh s i).2 := by
  unfold wkStep
  split
  · exact h
  · rename_i hne
    dsimp only
    have hl : 0 < (deedsOf fm fl s.2).length := List.length_pos_iff.mpr hne
    have hm : 0 ≤ wkNum cells wh i % ((deedsOf fm fl s.2).length : Int) ∧ wkNum cells wh i % ((deedsOf fm fl s.2).length : Int) < (deedsOf fm fl s.2).length := ⟨Int.emod_nonneg _ (by omega), Int.emod_lt_of_pos _ (by omega)⟩
    refine deeds_std h ?_
    rw [List.getD_eq_getElem?_getD, List.getElem?_eq_getElem (by omega)]
    exact List.getElem_mem _
theorem wk_fold {fm : Farm} {fl cells : List Int} {wh : Int} : ∀ (is : List Nat) (s : List (Int × Int) × List Int), Std fm fl s.2 → Std fm fl (is.foldl (wkStep fm fl cells wh) s).2 ∧ (is.foldl (wkStep fm fl cells wh) s).1.length ≤ s.1.length + is.length
  | [], s, h => ⟨h, Nat.le_refl _⟩
  | i :: is, s, h => by
    obtain ⟨h1, h2⟩ := wk_fold is (wkStep fm fl cells wh s i) (wkStep_std h)
    refine ⟨h1, ?_⟩
    rw [List.foldl_cons, List.length_cons]
    have : (wkStep fm fl cells wh s i).1.length ≤ s.1.length + 1 := by
      unfold wkStep
      split
      · omega
      · simp
    omega
def gLawWalk : List D → (Wd → Wd → V → Prop) → Prop := fun ds po => ∃ (fm : Farm) (fl st cells : List Int) (wh : Int), ds = [dFm fm, dIs fl, dSt st, dIs cells, .int wh] ∧ Gok fm ∧ fm.rooms.length ≤ 6 ∧ fl.length ≤ 4 ∧ Std fm fl st ∧ 0 < cells.length ∧ cells.length ≤ 1000 ∧
  po = fun _ W v => ∃ q : List (Int × Int) × List Int, (q.1.length ≤ 61 ∧ Std fm fl q.2) ∧ Rp W.f v (.tup [dPrs q.1, dSt q.2])
def dKind (j : Jd) : D := .tup [.str (jKind j).1, .int (jKind j).2]
def gLawKind : List D → D → Prop := fun ds r => ∃ (fm : Farm) (fl st : List Int) (wi : List (Option Int)) (de : List (Int × Int)), ds = [dFm fm, dIs fl, dSt st, dWs wi, dPrs de] ∧ Gok fm ∧ jOk fm fl st wi ∧ r = dKind (judgeOf fm fl st wi de)
end
end Fg

set_option Elab.async false
set_option linter.all false
set_option maxRecDepth 100000
set_option maxHeartbeats 4000000
namespace Fg
open PySem L2 RZ
section
variable {P : Program} {w : World} {K : PySem.W.Frag} {mg : Str → Option Value} {base : Heap} {A : Adr}
def isL : Ans → Bool
  | .inl _ => true
  | .inr _ => false
theorem an_ok (Q : Tk K A) (an : Ans) : (dAns A an).okC K := by
  cases an with
  | inl q => exact Q.lk
  | inr s => exact Q.nk
theorem an_A (TC : Tc K mg A) (an : Ans) : PySem.W.kitOne K (dAns A an).ty (.ref A.c_Answer) = some true := by
  cases an with
  | inl q => exact TC.lA
  | inr s => exact TC.nA
theorem an_L (TC : Tc K mg A) (an : Ans) : PySem.W.kitOne K (dAns A an).ty (.ref A.c_Led) = some (isL an) := by
  cases an with
  | inl q => exact TC.lL
  | inr s => exact TC.nL
theorem an_N (TC : Tc K mg A) (an : Ans) : PySem.W.kitOne K (dAns A an).ty (.ref A.c_Never) = some (!isL an) := by
  cases an with
  | inl q => exact TC.lN
  | inr s => exact TC.nN
theorem an_F (TC : Tc K mg A) (an : Ans) : PySem.W.kitOne K (dAns A an).ty (.ref A.c_Fine) = some false := by
  cases an with
  | inl q => exact TC.lF
  | inr s => exact TC.nF
theorem an_H (TC : Tc K mg A) (an : Ans) : PySem.W.kitOne K (dAns A an).ty (.ref A.c_Halt) = some false := by
  cases an with
  | inl q => exact TC.lH
  | inr s => exact TC.nH
theorem an_O (TC : Tc K mg A) (an : Ans) : PySem.W.kitOne K (dAns A an).ty (.ref A.c_Off) = some false := by
  cases an with
  | inl q => exact TC.lO
  | inr s => exact TC.nO
theorem post_rp {an : Ans} {W0 W W' : Wd} {v : V} (h : postLed A an W0 W v) (l : W ≤ W') : Rp W'.h v (dAns A an) := by
  cases an with
  | inl q =>
    obtain ⟨a, pd, pr, rfl, hO⟩ := h
    exact (hO.mono l).rp
  | inr ss =>
    obtain ⟨a, p, rfl, hO⟩ := h
    exact (hO.mono l).rp
theorem ev_shows {W0 W : Wd} {Γ : List Sl} {te : TE} {ta : TA} {an : Ans} {f : Farm} {l s : List Int} {wi : List (Option Int)} {E : XK} (h : EvH W0 te Γ W (dAns A an)) (ha : EvAH W0 ta Γ W [dFm f, dIs l, dSt s, dWs wi]) (h1 : f.rooms.length ≤ 6) (h2 : l.length ≤ 4) (h3 : s.length = l.length) (h4 : AnsOk an) :
    EvD W0 (tEi (tMeth A.c_Led "shows" (Pure (gLedShows A.c_Led)) [] E te ta) (tMeth A.c_Never "shows" (Pure (gNeverShows A.c_Never)) [] E te ta)) Γ W (.bl (ansShows f l s wi an)) := by
  cases an with
  | inl q => exact ev_eiL (ev_methH (g := gLedShows A.c_Led) h rfl ha ⟨q.1, q.2, f, l, s, wi, rfl, h1, h2, h3, h4.1, fun r hr => (h4.2 r hr).2, rfl⟩ rfl)
  | inr ss => exact ev_eiR (ev_methH (g := gNeverShows A.c_Never) h rfl ha ⟨ss, f, l, s, wi, rfl, h1, h2, h4.1, h4.2, rfl⟩ rfl)
theorem eah4 {W0 W : Wd} {Γ : List Sl} {a b c d : Nat} {x y z u : D} (h1 : Γ[a]? = some (.dat x)) (h2 : Γ[b]? = some (.dat y)) (h3 : Γ[c]? = some (.dat z)) (h4 : Γ[d]? = some (.dat u)) : EvAH W0 (tCons (tVar a) (tCons (tVar b) (tCons (tVar c) (tCons (tVar d) tNil)))) Γ W [x, y, z, u] :=
  eah_cons (EvD.h (ev_var h1)) (eah_cons (EvD.h (ev_var h2)) (eah_cons (EvD.h (ev_var h3)) (eah_cons (EvD.h (ev_var h4)) eah_nil)))
theorem eah5 {W0 W : Wd} {Γ : List Sl} {te : TE} {a b c d : Nat} {x y z u e : D} (h1 : Γ[a]? = some (.dat x)) (h2 : Γ[b]? = some (.dat y)) (h3 : Γ[c]? = some (.dat z)) (h4 : Γ[d]? = some (.dat u)) (h5 : EvH W0 te Γ W e) : EvAH W0 (tCons (tVar a) (tCons (tVar b) (tCons (tVar c) (tCons (tVar d) (tCons te tNil))))) Γ W [x, y, z, u, e] :=
  eah_cons (EvD.h (ev_var h1)) (eah_cons (EvD.h (ev_var h2)) (eah_cons (EvD.h (ev_var h3)) (eah_cons (EvD.h (ev_var h4)) (eah_cons h5 eah_nil))))
theorem eah5' {W0 W : Wd} {Γ : List Sl} {t1 t2 te : TE} {c d : Nat} {x y z u e : D} (h1 : EvH W0 t1 Γ W x) (h2 : EvH W0 t2 Γ W y) (h3 : Γ[c]? = some (.dat z)) (h4 : Γ[d]? = some (.dat u)) (h5 : EvH W0 te Γ W e) : EvAH W0 (tCons t1 (tCons t2 (tCons (tVar c) (tCons (tVar d) (tCons te tNil))))) Γ W [x, y, z, u, e] :=
  eah_cons h1 (eah_cons h2 (eah_cons (EvD.h (ev_var h3)) (eah_cons (EvD.h (ev_var h4)) (eah_cons h5 eah_nil))))
end
end Fg

set_option Elab.async false
set_option linter.all false
set_option maxRecDepth 100000
set_option maxHeartbeats 4000000
/-! What is told is right. -/
namespace Fg
open PySem L2

section
variable {fm : Farm} {fl st : List Int} {w : List (Option Int)}
theorem back_first {c : Came} {rs : List (List (List Int))} (hF : RFac fm fl st c rs) : ∀ (n k : Nat) (h : List Int) (r : List (List Int)) (ds : List (Int × Int)), rs[n]? = some r → h ∈ r → firstBad fm fl k st (backFrom c n h ds) = firstBad fm fl (k + n) h ds ∧ (backFrom c n h ds).length = n + ds.length
  | 0, k, h, r, ds, e, hh => by
    rw [hF.r0] at e
    cases e
    rw [List.mem_singleton.mp hh]
    exact ⟨rfl, by show ds.length = 0 + ds.length; omega⟩
  | n + 1, k, h, r, ds, e, hh => by
    obtain ⟨b, f, p, e1, ⟨r2, e2, e3⟩, e4, e5⟩ := hF.pr n r h e hh
    have e6 : backFrom c (n + 1) h ds = backFrom c n b ((f, p) :: ds) := by
      conv => lhs; unfold backFrom
      rw [e1]
    obtain ⟨i1, i2⟩ := back_first hF n k b r2 ((f, p) :: ds) e2 e3
    rw [e6]
    refine ⟨?_, by rw [i2, List.length_cons]; omega⟩
    rw [i1]
    conv => lhs; unfold firstBad
    dsimp only
    rw [if_pos e4, e5]
    rfl
theorem firstBad_nil (k : Nat) (h : List Int) : firstBad fm fl k h [] = (none, h) := by
  unfold firstBad
  rfl
structure LedI (fm : Farm) (fl st : List Int) (w : List (Option Int)) (i : Nat) (h : List Int) (de : List (Int × Int)) (rs : List (List (List Int))) : Prop where
  rs : rs = (ringsOf fm fl st).1.take i
  il : i < (ringsOf fm fl st).1.length
  hm : ∃ r, (ringsOf fm fl st).1[i]? = some r ∧ h ∈ r
  hw : asWished h w = true
  fb : firstBad fm fl 0 st de = (none, h)
  dl : de.length = i
  no : ∀ (j : Nat) (r : List (List Int)), j < i → (ringsOf fm fl st).1[j]? = some r → ∀ t ∈ r, asWished t w = false
theorem led_inl (hr : fm.rooms.length ≤ 6) (hf : fl.length ≤ 4) (hs : Std fm fl st) {de : List (Int × Int)} {rs : List (List (List Int))} (e : ledOf fm fl st w = .inl (de, rs)) : ∃ i h, LedI fm fl st w i h de rs := by
  obtain ⟨hF, hC⟩ := rings_fac hr hf hs
  unfold ledOf at e
  cases e2 : (ringsOf fm fl st).1.findIdx? fun r => r.any (asWished · w) with
  | none =>
    rw [e2] at e
    cases e
  | some i =>
    rw [e2] at e
    rw [List.findIdx?_eq_some_iff_getElem] at e2
    obtain ⟨hi, h1, h2⟩ := e2
    have e : Sum.inl (backFrom (ringsOf fm fl st).2 i ((((ringsOf fm fl st).1.getD i []).filter (asWished · w)).headD []) [], (ringsOf fm fl st).1.take i) = (.inl (de, rs) : (List (Int × Int) × List (List (List Int))) ⊕ List (List Int)) := e
    have e := Sum.inl.inj e
    have ede := congrArg Prod.fst e
    have ers := congrArg Prod.snd e
    dsimp only at ede ers
    have hg : (ringsOf fm fl st).1.getD i [] = (ringsOf fm fl st).1[i] := by
      rw [List.getD_eq_getElem?_getD, List.getElem?_eq_getElem hi]
      rfl
    rw [hg] at ede
    obtain ⟨t, ht, hw⟩ := List.any_eq_true.mp h1
    have hne : (ringsOf fm fl st).1[i].filter (asWished · w) ≠ [] := fun z => by
      have : t ∈ (ringsOf fm fl st).1[i].filter (asWished · w) := List.mem_filter.mpr ⟨ht, hw⟩
      rw [z] at this
      cases this
    obtain ⟨g0, gs, hgs⟩ := List.exists_cons_of_ne_nil hne
    have hg0 := List.mem_filter.mp (hgs ▸ List.mem_cons_self .. : g0 ∈ (ringsOf fm fl st).1[i].filter (asWished · w))
    rw [hgs] at ede
    obtain ⟨b1, b2⟩ := back_first hF i 0 g0 _ [] (List.getElem?_eq_getElem hi) hg0.1
    refine ⟨i, g0, ers.symm, hi, ⟨_, List.getElem?_eq_getElem hi, hg0.1⟩, hg0.2, ?_, ?_, fun j r hj hjr t ht => ?_⟩
    · rw [← ede]
      show firstBad fm fl 0 st (backFrom _ i g0 []) = _
      rw [b1, firstBad_nil]
    · rw [← ede]
      show (backFrom _ i g0 []).length = i
      rw [b2]
      simp
    · have h3 := h2 j hj
      rw [List.getElem?_eq_getElem (by omega)] at hjr
      cases hjr
      rw [Bool.not_eq_true, List.any_eq_false] at h3
      simpa using h3 t ht
theorem led_inr (hr : fm.rooms.length ≤ 6) (hf : fl.length ≤ 4) (hs : Std fm fl st) {ss : List (List Int)} (e : ledOf fm fl st w = .inr ss) : ss = (ringsOf fm fl st).1.flatten ∧ ∀ t ∈ ss, asWished t w = false := by
  unfold ledOf at e
  cases e2 : (ringsOf fm fl st).1.findIdx? fun r => r.any (asWished · w) with
  | some i =>
    rw [e2] at e
    cases e
  | none =>
    rw [e2] at e
    have e := Sum.inr.inj e
    refine ⟨e.symm, fun t ht => ?_⟩
    rw [← e] at ht
    obtain ⟨r, hr', htr⟩ := List.mem_flatten.mp ht
    rw [List.findIdx?_eq_none_iff] at e2
    have := e2 r hr'
    rw [List.any_eq_false] at this
    simpa using this t htr
theorem led_shows (hr : fm.rooms.length ≤ 6) (hf : fl.length ≤ 4) (hs : Std fm fl st) : ansShows fm fl st w (ledOf fm fl st w) = true := by
  obtain ⟨hF, hC⟩ := rings_fac hr hf hs
  cases e : ledOf fm fl st w with
  | inl q =>
    obtain ⟨de, rs⟩ := q
    obtain ⟨i, h, L⟩ := led_inl hr hf hs e
    show ledShows fm fl st w de rs = true
    have hrl : rs.length = i := by
      rw [L.rs, List.length_take]
      have := L.il
      omega
    rw [← lawLed_eq]
    unfold lawLed
    rw [L.fb, if_neg, if_neg, if_neg]
    · rw [List.all_eq_true]
      intro j hj
      have hj2 := List.mem_range.mp hj
      have hil := L.il
      have hjl : j < (ringsOf fm fl st).1.length := by omega
      have hji : j < i := by omega
      have hg : rs.getD j [] = (ringsOf fm fl st).1[j] := by
        rw [List.getD_eq_getElem?_getD, L.rs, List.getElem?_take_of_lt hji, List.getElem?_eq_getElem hjl]
        rfl
      rw [hg, List.all_eq_true]
      intro t ht
      rw [List.all_eq_true]
      intro o ho
      obtain ⟨d, hd, rfl⟩ := List.mem_map.mp ho
      have h1 := hF.cl j _ t (List.getElem?_eq_getElem (by omega)) (by omega) ht d hd
      rw [L.rs, List.take_take, Nat.min_eq_left (by omega)]
      exact decide_eq_true h1
    · cases i with
      | zero =>
        have : rs = [] := List.length_eq_zero_iff.mp hrl
        rw [this]
        simp
      | succ i =>
        have e0 : rs[0]? = some [st] := by
          rw [L.rs, List.getElem?_take_of_lt (by omega)]
          exact hF.r0
        have e1 : rs.headD [] = [st] := by
          cases rs with
          | nil => cases e0
          | cons a b =>
            have : a = [st] := by simpa using e0
            rw [this]
            rfl
        rw [e1]
        simp
    · rw [Bool.not_eq_true, List.any_eq_false]
      intro r hrm
      rw [Bool.not_eq_true, List.any_eq_false]
      intro t ht
      rw [L.rs] at hrm
      obtain ⟨j, hj, e1⟩ := List.mem_iff_getElem.mp hrm
      rw [List.length_take] at hj
      rw [List.getElem_take] at e1
      have h1 := L.no j r (by omega) (by rw [← e1]; exact List.getElem?_eq_getElem (by omega)) t ht
      have h2 : Std fm fl t := hF.inv.st t (by rw [hF.inv.ks]; exact List.mem_flatten.mpr ⟨r, List.mem_of_mem_take hrm, ht⟩)
      unfold badOne
      rw [h2.is, h1]
      decide
    · rw [L.hw, L.dl, hrl]
      simp
  | inr ss =>
    obtain ⟨e1, e2⟩ := led_inr hr hf hs e
    show neverShows fm fl st w ss = true
    have hstd : ∀ t ∈ ss, Std fm fl t := fun t ht => hF.inv.st t (by rw [hF.inv.ks, ← e1]; exact ht)
    unfold neverShows
    rw [if_neg]
    · rw [List.all_eq_true]
      intro t ht
      rw [e2 t ht, Bool.false_or, Bool.not_not, List.all_eq_true]
      intro o ho
      obtain ⟨d, hd, rfl⟩ := List.mem_map.mp ho
      rw [e1] at ht ⊢
      exact decide_eq_true (hC t ht d hd)
    · have h1 : st ∈ ss := by
        rw [e1]
        exact List.mem_flatten.mpr ⟨[st], List.mem_of_getElem? hF.r0, List.mem_singleton.mpr rfl⟩
      have h2 : ss.all (isStand fm fl) = true := by
        rw [List.all_eq_true]
        exact fun t ht => (hstd t ht).is
      rw [h2, decide_eq_true h1]
      decide
theorem led_ansOk (hr : fm.rooms.length ≤ 6) (hf : fl.length ≤ 4) (hs : Std fm fl st) : AnsOk (ledOf fm fl st w) := by
  obtain ⟨hF, hC⟩ := rings_fac hr hf hs
  have hlen := hF.inv.len hr hf
  have hfl : (ringsOf fm fl st).1.flatten.length ≤ 1296 := by
    rw [← hF.inv.ks, List.length_map]
    omega
  have hstd : ∀ r ∈ (ringsOf fm fl st).1, ∀ t ∈ r, t.length ≤ 4000 := fun r hr' t ht => by
    have := (hF.inv.st t (by rw [hF.inv.ks]; exact List.mem_flatten.mpr ⟨r, hr', ht⟩)).len
    omega
  cases e : ledOf fm fl st w with
  | inl q =>
    obtain ⟨de, rs⟩ := q
    obtain ⟨i, h, L⟩ := led_inl hr hf hs e
    refine ⟨?_, fun r hrm => ?_⟩
    · show rs.length ≤ 100000
      rw [L.rs, List.length_take]
      omega
    · have hrm2 : r ∈ (ringsOf fm fl st).1 := by
        have : r ∈ (ringsOf fm fl st).1.take i := L.rs ▸ hrm
        exact List.mem_of_mem_take this
      refine ⟨?_, hstd r hrm2⟩
      have := flatten_mem_le hrm2
      show r.length ≤ 100000
      omega
  | inr ss =>
    obtain ⟨e1, e2⟩ := led_inr hr hf hs e
    refine ⟨?_, fun t ht => ?_⟩
    · show ss.length ≤ 100000
      rw [e1]
      omega
    · rw [e1] at ht
      obtain ⟨r, hr', htr⟩ := List.mem_flatten.mp ht
      exact hstd r hr' t htr
/-- the numbers of deeds to all stands as wished -/
def goods (m : Met) (w : List (Option Int)) : List Int := (m.filter fun q => asWished q.1 w).map (·.2)
theorem goods_mem {m : Met} (h : FarSpec fm fl st m) (y : Int) : y ∈ goods m w ↔ ∃ t, lk m t = some y ∧ asWished t w = true := by
  unfold goods
  rw [List.mem_map]
  constructor
  · rintro ⟨q, hq, rfl⟩
    obtain ⟨h1, h2⟩ := List.mem_filter.mp hq
    obtain ⟨i, hi⟩ := List.mem_iff_getElem?.mp h1
    exact ⟨q.1, lk_get h.inv.nd hi, h2⟩
  · rintro ⟨t, e, hw⟩
    obtain ⟨a, ha⟩ := get_lk e
    exact ⟨(t, y), List.mem_filter.mpr ⟨List.mem_of_getElem? ha, hw⟩, rfl⟩
theorem led_far (hr : fm.rooms.length ≤ 6) (hf : fl.length ≤ 4) (hs : Std fm fl st) {m : Met} (hm : FarSpec fm fl st m) : match ledOf fm fl st w with
    | .inl q => (q.1.length : Int) ∈ goods m w ∧ (∀ y ∈ goods m w, (q.1.length : Int) ≤ y) ∧ q.2.length = q.1.length
    | .inr _ => goods m w = [] := by
  obtain ⟨hF, hC⟩ := rings_fac hr hf hs
  cases e : ledOf fm fl st w with
  | inl q =>
    obtain ⟨de, rs⟩ := q
    obtain ⟨i, h, L⟩ := led_inl hr hf hs e
    dsimp only
    have hlow : ∀ y ∈ goods m w, (i : Int) ≤ y := by
      intro y hy
      obtain ⟨t, e1, hw⟩ := (goods_mem hm y).mp hy
      obtain ⟨n, rfl, hp⟩ := hm.pa t y e1
      have h1 := rings_near hr hf hs hp
      obtain ⟨r, hr', htr⟩ := List.mem_flatten.mp h1
      obtain ⟨j, hj, e2⟩ := List.mem_iff_getElem.mp hr'
      rw [List.length_take] at hj
      rw [List.getElem_take] at e2
      by_cases q : j < i
      · have h3 := L.no j r q (by rw [← e2]; exact List.getElem?_eq_getElem (by omega)) t htr
        rw [hw] at h3
        cases h3
      · omega
    refine ⟨?_, ?_, ?_⟩
    · rw [L.dl]
      obtain ⟨r, hr', hhr⟩ := L.hm
      have hp := hF.pth i r h hr' hhr
      obtain ⟨j, hj, hji⟩ := hm.reach hp
      have hjg : j ∈ goods m w := (goods_mem hm j).mpr ⟨h, hj, L.hw⟩
      have := hlow j hjg
      rw [show (i : Int) = j by omega]
      exact hjg
    · rw [L.dl]
      exact hlow
    · rw [L.dl, L.rs, List.length_take]
      have := L.il
      omega
  | inr ss =>
    obtain ⟨e1, e2⟩ := led_inr hr hf hs e
    dsimp only
    rw [List.eq_nil_iff_forall_not_mem]
    intro y hy
    obtain ⟨t, e3, hw⟩ := (goods_mem hm y).mp hy
    obtain ⟨n, _, hp⟩ := hm.pa t y e3
    have h1 := (rings_mem hr hf hs t).mpr ⟨n, hp⟩
    have h2 := e2 t (e1 ▸ h1)
    rw [hw] at h2
    cases h2
theorem shows_more {de : List (Int × Int)} {rs : List (List (List Int))} (h : rs.length = de.length) : ledShows fm fl st w de (rs ++ [[]]) = false := by
  unfold ledShows
  rw [if_pos]
  have : ¬(rs ++ [[]]).length = de.length := by
    rw [List.length_append]
    show ¬rs.length + 1 = _
    omega
  rw [decide_eq_false this]
  simp
theorem never_none : neverShows fm fl st w [] = false := rfl
theorem led_small (hr : fm.rooms.length ≤ 6) (hf : fl.length ≤ 4) (hs : Std fm fl st) {de : List (Int × Int)} {rs : List (List (List Int))} (e : ledOf fm fl st w = .inl (de, rs)) : rs.length ≤ 1296 := by
  obtain ⟨hF, hC⟩ := rings_fac hr hf hs
  obtain ⟨i, h, L⟩ := led_inl hr hf hs e
  have hlen := hF.inv.len hr hf
  rw [L.rs, List.length_take]
  omega
theorem getD_take' {α : Type} {xs : List α} {d : α} {i n : Nat} (h : i < n) : (xs.take n).getD i d = xs.getD i d := by
  rw [List.getD_eq_getElem?_getD, List.getD_eq_getElem?_getD, List.getElem?_take_of_lt h]
theorem chg_ok (h : FarmOk fm fl st w) : FarmOk ⟨fm.rooms.set 0 9, fm.gates.dropLast⟩ (fl.set 0 1) st w := by
  obtain ⟨⟨⟨a1, a2⟩, a3, a4, a5, a6⟩, ⟨b1, b2⟩, ⟨c1, c2, c3, c4⟩, d1, d2⟩ := h
  refine ⟨⟨⟨by show 2 ≤ (fm.rooms.set 0 9).length; rw [List.length_set]; exact a1, by show (fm.rooms.set 0 9).length ≤ 6; rw [List.length_set]; exact a2⟩, fun r hr => ?_, fun g hg => ?_, fun i hi => ?_, ?_⟩, ⟨by rw [List.length_set]; exact b1, fun r hr => ?_⟩, ⟨by rw [List.length_set]; exact c1, fun x hx => ?_, c3, fun q hq => ?_⟩, ⟨by rw [List.length_set]; exact d1, fun o ho i e => ?_⟩⟩
  · rcases List.mem_or_eq_of_mem_set hr with hr | rfl
    · exact a3 r hr
    · omega
  · have := a4 g ((List.dropLast_sublist _).mem hg)
    show 0 ≤ g.1 ∧ g.1 < g.2 ∧ g.2 < ((fm.rooms.set 0 9).length : Int)
    rw [List.length_set]
    exact this
  · have hi : i + 1 < fm.gates.dropLast.length := hi
    rw [List.length_dropLast] at hi
    show ltP (fm.gates.dropLast.getD i (0, 0)) (fm.gates.dropLast.getD (i + 1) (0, 0)) = true
    rw [List.dropLast_eq_take, getD_take' (by omega), getD_take' (by omega)]
    exact a5 i (by omega)
  · show fm.gates.dropLast.length ≤ 100
    rw [List.length_dropLast]
    omega
  · rcases List.mem_or_eq_of_mem_set hr with hr | rfl
    · exact b2 r hr
    · omega
  · have := c2 x hx
    show 0 ≤ x ∧ x < ((fm.rooms.set 0 9).length : Int)
    rw [List.length_set]
    exact this
  · obtain ⟨i, hi, rfl⟩ := List.mem_iff_getElem.mp hq
    rw [List.length_zip, List.length_set] at hi
    rw [List.getElem_zip]
    dsimp only
    have hx := c2 st[i] (List.getElem_mem _)
    have h5 := c4 (st[i], fl[i]) (List.mem_iff_getElem.mpr ⟨i, by rw [List.length_zip]; omega, by rw [List.getElem_zip]⟩)
    dsimp only at h5
    have h6 := a3 (nth fm.rooms st[i]) (nth_mem hx.1 hx.2)
    have h7 := nth_set (ns := fm.rooms) (i := 0) (x := 9) (by omega) (by omega) hx.1 hx.2
    rw [show ((0 : Int).toNat) = 0 from rfl] at h7
    rw [h7, List.getElem_set]
    split <;> split <;> omega
  · have := d2 o ho i e
    show 0 ≤ i ∧ i < ((fm.rooms.set 0 9).length : Int)
    rw [List.length_set]
    exact this
end
end Fg

set_option Elab.async false
set_option linter.all false
set_option maxRecDepth 100000
set_option maxHeartbeats 4000000
/-! Rows of deeds and rings bent by hand (laws k02, k07). -/
namespace Fg
open PySem L2
abbrev Dd := Int × Int
abbrev Sd := List Int
def dMk (de : List Dd) (k : Int) (xs : List Dd) : List Dd := cutL de none (some k) ++ xs ++ cutL de (some (k + 1)) none
abbrev p20 : Int := 10 ^ (20 : Int).toNat
def rows0 (de : List Dd) : List (List Dd) := [de, cutL de (some 1) none, cutL de none (some (-1)), de.reverse, de ++ [(0, 0)], [(-1, 0)] ++ de, de ++ [(p20, 1)]]
def bent (a : Dd) : List Dd := [(a.1, a.2 + 1), (a.1 + 1, a.2), (a.1, -1), (0, p20)]
def rowsA (de : List Dd) (k : Int) (a : Dd) : List (List Dd) := (bent a).map (fun x => dMk de k [x]) ++ [cutL de none (some k) ++ cutL de (some (k + 1)) none] ++ [dMk de k [a, a]]
def deedRows (de : List Dd) (k : Int) : List (List Dd) := (cutL de (some k) (some (k + 1))).foldl (fun s a => s ++ rowsA de k a) (rows0 de)
theorem dMk_len (de : List Dd) (k : Int) (xs : List Dd) : (dMk de k xs).length ≤ 2 * de.length + xs.length := by
  unfold dMk
  rw [List.length_append, List.length_append]
  have := cutL_le de none (some k)
  have := cutL_le de (some (k + 1)) none
  omega
theorem mem_foldl_app {α β : Type} {f : α → List β} {x : β} : ∀ {as : List α} {s : List β}, x ∈ as.foldl (fun s a => s ++ f a) s → x ∈ s ∨ ∃ a ∈ as, x ∈ f a
  | [], s, h => .inl h
  | a :: as, s, h => by
    rcases mem_foldl_app (as := as) (s := s ++ f a) h with h | ⟨b, hb, hx⟩
    · rcases List.mem_append.mp h with h | h
      · exact .inl h
      · exact .inr ⟨a, List.mem_cons_self .., h⟩
    · exact .inr ⟨b, List.mem_cons_of_mem _ hb, hx⟩
theorem deedRows_len {de : List Dd} {k : Int} : ∀ r ∈ deedRows de k, r.length ≤ 2 * de.length + 2 := by
  intro r hr
  rcases mem_foldl_app hr with hr | ⟨a, _, hr⟩
  · have h1 := cutL_le de (some 1) none
    have h2 := cutL_le de none (some (-1))
    simp only [rows0, List.mem_cons, List.not_mem_nil, or_false] at hr
    rcases hr with rfl | rfl | rfl | rfl | rfl | rfl | rfl
    all_goals first | omega | (simp only [List.length_append, List.length_reverse, List.length_cons, List.length_nil]; omega)
  · rcases List.mem_append.mp hr with hr | hr
    · rcases List.mem_append.mp hr with hr | hr
      · obtain ⟨x, _, rfl⟩ := List.mem_map.mp hr
        have := dMk_len de k [x]
        simp only [List.length_cons, List.length_nil] at this
        omega
      · rw [List.mem_singleton.mp hr, List.length_append]
        have h1 := cutL_le de none (some k)
        have h2 := cutL_le de (some (k + 1)) none
        omega
    · rw [List.mem_singleton.mp hr]
      exact dMk_len de k [a, a]
theorem foldl_app_len {α β : Type} {f : α → List β} {n : Nat} (h : ∀ a, (f a).length = n) : ∀ (as : List α) (s : List β), (as.foldl (fun s a => s ++ f a) s).length = s.length + as.length * n
  | [], s => by simp
  | a :: as, s => by
    rw [List.foldl_cons, foldl_app_len h as, List.length_append, h, List.length_cons, Nat.succ_mul]
    omega
theorem rowsA_len (de : List Dd) (k : Int) (a : Dd) : (rowsA de k a).length = 6 := rfl
/-! rings -/
def Pr (r : List Sd) : Prop := r.length ≤ 3000 ∧ ∀ t ∈ r, t.length ≤ 5
def rMk (rs : List (List Sd)) (k : Int) (xs : List (List Sd)) : List (List Sd) := cutL rs none (some k) ++ xs ++ cutL rs (some (k + 1)) none
def rrow0 (rs : List (List Sd)) : List (List (List Sd)) := [rs, cutL rs (some 1) none, rs ++ [[]], rs.reverse, rs.map (fun _ => []), (List.replicate rs.length (cutL rs none (some 1))).flatten]
def rmore (r so : List Sd) (g : Sd) : List (List Sd) := [cutL r (some 1) none, cutL r none (some (-1)), r ++ r, r.reverse, r ++ so] ++ [r ++ [[]], r ++ [g ++ [0]]]
def rmoved (rs : List (List Sd)) (k : Int) (r : List Sd) : List (List Sd) := (cutL rs (some (k + 1)) (some (k + 2))).map fun m => m ++ cutL r none (some 1)
def rrowA (rs : List (List Sd)) (so : List Sd) (g : Sd) (k : Int) (r : List Sd) : List (List (List Sd)) :=
  (rmore r so g).map (fun x => rMk rs k [x]) ++ [cutL rs none (some k) ++ [cutL r (some 1) none] ++ rmoved rs k r ++ cutL rs (some (k + 2)) none] ++ [[r] ++ cutL rs (some 1) none]
def ringRows (rs : List (List Sd)) (so : List Sd) (g : Sd) (k : Int) : List (List (List Sd)) := (cutL rs (some k) (some (k + 1))).foldl (fun s r => s ++ rrowA rs so g k r) (rrow0 rs)
/-- all rings short, of short stands -/
def Rw (row : List (List Sd)) : Prop := row.length ≤ 6000 ∧ ∀ r ∈ row, Pr r
theorem ringRows_ok {rs : List (List Sd)} {so : List Sd} {g : Sd} {k : Int} (h1 : rs.length ≤ 1300) (h2 : ∀ r ∈ rs, r.length ≤ 1300 ∧ ∀ t ∈ r, t.length ≤ 4) (h3 : so.length ≤ 10) (h4 : ∀ t ∈ so, t.length ≤ 4) (h5 : g.length ≤ 4) : ∀ row ∈ ringRows rs so g k, Rw row := by
  have hP : ∀ r ∈ rs, Pr r := fun r hr => ⟨by have := (h2 r hr).1; omega, fun t ht => by have := (h2 r hr).2 t ht; omega⟩
  have hn : Pr [] := ⟨Nat.zero_le _, fun t ht => by cases ht⟩
  have hc : ∀ {lo hi}, ∀ r ∈ cutL rs lo hi, Pr r := fun r hr => hP r (cutL_sub hr)
  have hcl : ∀ lo hi, (cutL rs lo hi).length ≤ 1300 := fun lo hi => Nat.le_trans (cutL_le ..) h1
  intro row hrow
  rcases mem_foldl_app hrow with hrow | ⟨r, hr, hrow⟩
  · simp only [rrow0, List.mem_cons, List.not_mem_nil, or_false] at hrow
    rcases hrow with rfl | rfl | rfl | rfl | rfl | rfl
    · exact ⟨by omega, hP⟩
    · exact ⟨by have := hcl (some 1) none; omega, hc⟩
    · refine ⟨by rw [List.length_append]; show _ + 1 ≤ _; omega, fun r hr => ?_⟩
      rcases List.mem_append.mp hr with hr | hr
      · exact hP r hr
      · rw [List.mem_singleton.mp hr]
        exact hn
    · exact ⟨by rw [List.length_reverse]; omega, fun r hr => hP r (List.mem_reverse.mp hr)⟩
    · refine ⟨by rw [List.length_map]; omega, fun r hr => ?_⟩
      obtain ⟨_, _, rfl⟩ := List.mem_map.mp hr
      exact hn
    · have h01 : (cutL rs none (some 1)).length ≤ 1 := by
        rw [cutL_to _ (by omega), List.length_take]
        exact Nat.min_le_left ..
      refine ⟨?_, fun r hr => ?_⟩
      · rw [List.length_flatten, List.map_replicate, List.sum_replicate_nat]
        have : rs.length * (cutL rs none (some 1)).length ≤ rs.length * 1 := Nat.mul_le_mul (Nat.le_refl _) h01
        omega
      · obtain ⟨l, hl, hr⟩ := List.mem_flatten.mp hr
        rw [(List.mem_replicate.mp hl).2] at hr
        exact hc r hr
  · have hrm : r ∈ rs := cutL_sub hr
    obtain ⟨r1, r2⟩ := h2 r hrm
    have hrc : ∀ lo hi, Pr (cutL r lo hi) := fun lo hi => ⟨by have := cutL_le r lo hi; omega, fun t ht => by have := r2 t (cutL_sub ht); omega⟩
    have hmk : ∀ x, Pr x → Rw (rMk rs k [x]) := fun x hx => by
      refine ⟨?_, fun z hz => ?_⟩
      · unfold rMk
        rw [List.length_append, List.length_append]
        have := hcl none (some k)
        have := hcl (some (k + 1)) none
        show _ + 1 + _ ≤ _
        omega
      · rcases List.mem_append.mp hz with hz | hz
        · rcases List.mem_append.mp hz with hz | hz
          · exact hc z hz
          · rw [List.mem_singleton.mp hz]
            exact hx
        · exact hc z hz
    rcases List.mem_append.mp hrow with hrow | hrow
    · rcases List.mem_append.mp hrow with hrow | hrow
      · obtain ⟨x, hx, rfl⟩ := List.mem_map.mp hrow
        refine hmk x ?_
        have happ : ∀ ts : List Sd, ts.length ≤ 1300 → (∀ t ∈ ts, t.length ≤ 5) → Pr (r ++ ts) := fun ts hl ht => by
          refine ⟨by rw [List.length_append]; omega, fun t htm => ?_⟩
          rcases List.mem_append.mp htm with h | h
          · have := r2 t h
            omega
          · exact ht t h
        simp only [rmore, List.mem_append, List.mem_cons, List.not_mem_nil, or_false] at hx
        rcases hx with (rfl | rfl | rfl | rfl | rfl) | rfl | rfl
        · exact hrc _ _
        · exact hrc _ _
        · exact happ r r1 fun t ht => by have := r2 t ht; omega
        · exact ⟨by rw [List.length_reverse]; omega, fun t ht => by have := r2 t (List.mem_reverse.mp ht); omega⟩
        · exact happ so (by omega) fun t ht => by have := h4 t ht; omega
        · exact happ [[]] (by decide) fun t ht => by rw [List.mem_singleton.mp ht]; exact Nat.zero_le _
        · exact happ [g ++ [0]] (by show 1 ≤ _; omega) fun t ht => by
            rw [List.mem_singleton.mp ht, List.length_append]
            show _ + 1 ≤ _
            omega
      · rw [List.mem_singleton.mp hrow]
        have hml : (rmoved rs k r).length ≤ 1300 := by
          unfold rmoved
          rw [List.length_map]
          exact hcl _ _
        refine ⟨?_, fun z hz => ?_⟩
        · rw [List.length_append, List.length_append, List.length_append]
          have := hcl none (some k)
          have := hcl (some (k + 2)) none
          show _ + 1 + _ + _ ≤ _
          omega
        · rcases List.mem_append.mp hz with hz | hz
          · rcases List.mem_append.mp hz with hz | hz
            · rcases List.mem_append.mp hz with hz | hz
              · exact hc z hz
              · rw [List.mem_singleton.mp hz]
                exact hrc _ _
            · obtain ⟨m, hm, rfl⟩ := List.mem_map.mp hz
              obtain ⟨m1, m2⟩ := h2 m (cutL_sub hm)
              have h01 := cutL_le r none (some 1)
              refine ⟨by rw [List.length_append]; omega, fun t ht => ?_⟩
              rcases List.mem_append.mp ht with ht | ht
              · have := m2 t ht
                omega
              · have := r2 t (cutL_sub ht)
                omega
          · exact hc z hz
    · rw [List.mem_singleton.mp hrow]
      refine ⟨?_, fun z hz => ?_⟩
      · rw [List.length_append]
        have := hcl (some 1) none
        show 1 + _ ≤ _
        omega
      · rcases List.mem_append.mp hz with hz | hz
        · rw [List.mem_singleton.mp hz]
          exact hP r hrm
        · exact hc z hz
theorem rrowA_len (rs : List (List Sd)) (so : List Sd) (g : Sd) (k : Int) (r : List Sd) : (rrowA rs so g k r).length = 9 := rfl
theorem zip_self_mem {p : Int × Int} : ∀ {t : List Int}, p ∈ t.zip t → p.1 = p.2
  | [], h => by simp at h
  | x :: t, h => by
    rw [List.zip_cons_cons] at h
    rcases List.mem_cons.mp h with rfl | h
    · rfl
    · exact zip_self_mem h
theorem asWished_self (t : List Int) : asWished t (t.map some) = true := by
  unfold asWished
  rw [List.all_eq_true]
  intro q hq
  rw [List.zip_map_right] at hq
  obtain ⟨p, hp, rfl⟩ := List.mem_map.mp hq
  have : p.1 = p.2 := by
    exact zip_self_mem hp
  simp [wOk, this]
/-- what is told of a wish that can come -/
theorem led_can {fm : Farm} {fl st : List Int} {w : List (Option Int)} (hr : fm.rooms.length ≤ 6) (hf : fl.length ≤ 4) (hs : Std fm fl st) {t : List Int} (ht : t ∈ (ringsOf fm fl st).1.flatten) (hw : asWished t w = true) :
    ∃ de rs, ledOf fm fl st w = .inl (de, rs) ∧ de.length = rs.length ∧ rs.length ≤ 1296 ∧ ∀ r ∈ rs, r.length ≤ 1296 ∧ ∀ t ∈ r, t.length ≤ 4 := by
  cases e : ledOf fm fl st w with
  | inr ss =>
    obtain ⟨rfl, h⟩ := led_inr hr hf hs e
    rw [h t ht] at hw
    cases hw
  | inl q =>
    obtain ⟨de, rs⟩ := q
    obtain ⟨i, h, L⟩ := led_inl hr hf hs e
    obtain ⟨hF, _⟩ := rings_fac hr hf hs
    refine ⟨de, rs, rfl, ?_, led_small hr hf hs e, fun r hr' => ?_⟩
    · rw [L.dl, L.rs, List.length_take]
      have := L.il
      omega
    · rw [L.rs] at hr'
      have hrm := List.mem_of_mem_take hr'
      have hl := flatten_mem_le hrm
      have hlen := hF.inv.len hr hf
      rw [← hF.inv.ks, List.length_map] at hl
      refine ⟨by omega, fun t ht => ?_⟩
      have := (hF.inv.st t (by rw [hF.inv.ks]; exact List.mem_flatten.mpr ⟨r, hrm, ht⟩)).len
      omega
theorem nodup_perm {α : Type} [DecidableEq α] : ∀ {xs ys : List α}, xs.Nodup → ys.Nodup → (∀ x, x ∈ xs ↔ x ∈ ys) → xs.Perm ys
  | [], ys, _, _, h => by
    cases ys with
    | nil => exact .nil
    | cons y ys => exact absurd ((h y).mpr (List.mem_cons_self ..)) (by simp)
  | x :: xs, ys, h1, h2, h => by
    obtain ⟨a1, a2⟩ := List.nodup_cons.mp h1
    have hx : x ∈ ys := (h x).mp (List.mem_cons_self ..)
    refine .trans (.cons x (nodup_perm a2 (h2.erase x) fun z => ?_)) (List.perm_cons_erase hx).symm
    rw [h2.mem_erase_iff]
    constructor
    · intro hz
      exact ⟨fun e => a1 (e ▸ hz), (h z).mp (List.mem_cons_of_mem _ hz)⟩
    · rintro ⟨b1, b2⟩
      rcases List.mem_cons.mp ((h z).mpr b2) with e | e
      · exact absurd e b1
      · exact e
theorem srt_far {fm : Farm} {fl st : List Int} {m : Met} (h : FarSpec fm fl st m) (hr : fm.rooms.length ≤ 6) (hf : fl.length ≤ 4) (hs : Std fm fl st) : srt (m.map (·.1)) = srt (ringsOf fm fl st).1.flatten := by
  obtain ⟨hF, _⟩ := rings_fac hr hf hs
  refine srt_uniq (srt_rise _) ((srt_perm _).trans (nodup_perm h.inv.nd (hF.inv.ks ▸ hF.inv.nd) fun t => ?_))
  rw [h.mem, rings_mem hr hf hs]
end Fg

set_option Elab.async false
set_option linter.all false
set_option maxRecDepth 100000
set_option maxHeartbeats 4000000
/-! [e for k in a dict that a call gives]. -/
namespace Fg
open PySem L2 RZ
/-- what comes is a dict, and is locked from then on -/
def tFrz (H0 : Hp) (t : TE) : TE := fun σ H Q => t σ H fun x H1 => ∃ d u, x = .ref d ∧ H1 d = some u ∧ Mut (some u) ∧ ∀ od, (∀ o' u', H0 d ≠ some (.frz o' u')) → Q x (upd H1 d (.frz od u))
/-- it is unlocked behind e -/
def tUn (H0 : Hp) (t : TE) : TE := fun σ H Q => t σ H fun v H' => ∃ d od u, H' d = some (.frz od u) ∧ (∀ o' u', H0 d ≠ some (.frz o' u')) ∧ Q v (upd H' d u)
section
variable {X : Cx} {e : Expr} {t : TE}
theorem pe_frz (h : PE X e t) : PE X e (tFrz X.H_0 t) := by
  refine ⟨fun pins s σ H Q I hw => thn (h.run pins s σ H _ I hw) fun v s1 ⟨x, H1, I1, r, d, u, ex, hd, mu, q⟩ => ?_⟩
  obtain ⟨od, I2⟩ := I1.lock hd mu
  exact ⟨x, _, I2, r, q od (I1.nofrz hd mu)⟩
theorem pe_un (h : PE X e t) : PE X e (tUn X.H_0 t) := by
  refine ⟨fun pins s σ H Q I hw => thn (h.run pins s σ H _ I hw) fun v s1 ⟨x, H1, I1, r, d, od, u, e2, nf, q⟩ => ?_⟩
  exact ⟨x, _, I1.unlock e2 nf, r, q⟩
end
def iJ (J : It) : TI := fun _ H R => R J H
theorem En.lk0 {W0 W : Wd} {σ : L2.St} {Γ Γ1 : List Sl} {d : Addr} {kvs : List (List Key × V)} {z : HO} (hz : ∀ xs, z ≠ .tup xs) (E : En W0 W σ Γ) (w : Wk Γ Γ1) (hl : ∀ s ∈ Γ1, s.lk = true) (e : W.f d = some (.dT kvs)) :
    En (W.lk d z hz) (W.lk d z hz) σ Γ1 := by
  have E1 := E.weak w
  refine ⟨Wd.rfl, E1.len, fun j s ej => ?_, fun j k s t l ej ek sj tk => ?_⟩
  · obtain ⟨o, h1, h2⟩ := E1.ok j s ej
    refine ⟨o, h1, ?_⟩
    have hs := hl s (List.mem_of_getElem? ej)
    cases s with
    | no => exact True.intro
    | dat x =>
      obtain ⟨v, e1, r⟩ := h2
      exact ⟨v, e1, r.lock e hs⟩
    | acc a b => cases hs
    | dac a b => cases hs
    | val v => cases hs
  · have hs := hl s (List.mem_of_getElem? ej)
    cases s with
    | acc a b => cases hs
    | dac a b => cases hs
    | no => cases sj
    | dat x => cases sj
    | val v => cases sj
/-- [e for k in d if p], d what a call gives; e a number, a truth -/
theorem el_keysQ {W0 W : Wd} {Γ Γ1 : List Sl} {te el : TE} {tt : TT} {H0 : Hp} {j : Nat} {ks : List (List Int × D)} {p : List Int → Bool} {e : List Int → D} (h : EvD W0 te Γ W (.dct ks)) (w : Wk Γ Γ1) (hl : ∀ s ∈ Γ1, s.lk = true) (hn : ks.length ≤ cap) (hc : ∀ q ∈ ks, q.1.length ≤ cap) (hsc : ∀ k, (e k).sc = true)
    (hs : ∀ (Wz : Wd) (q : List Int × D), q ∈ ks → ∀ Wy, Wz ≤ Wy → EvT Wz tt ((wipeG Γ1 [j]).set j (.dat (dSt q.1))) Wy (p q.1) ∧ (p q.1 = true → EvD Wz el ((wipeG Γ1 [j]).set j (.dat (dSt q.1))) Wy (e q.1))) :
    EvL W0 (tUn H0 (tLc (iKeys (tFrz H0 te)) (gName j) tt el [j])) Γ W ((ks.filter fun q => p q.1).map fun q => e q.1) := fun W1 l1 σ E Q q => by
  show te σ W1.h _
  refine h W1 l1 σ E _ fun v W2 l2 rv => ?_
  cases rv with
  | dct hd hz r =>
    rename_i a kvs
    refine ⟨a, .dT kvs, rfl, W2.ex _ _ hd, True.intro, fun od nf => ⟨a, od, rfl, .inr ⟨kvs, upd_same, ?_⟩⟩⟩
    have hzz : ∀ xs, HO.frz od (.dT kvs) ≠ .tup xs := fun xs z => by cases z
    have El := En.lk0 hzz (E.mono l2) w hl hd
    have hit : ItD (W2.lk a _ hzz) (iJ (Itkt a od kvs)) Γ1 (W2.lk a _ hzz) (ks.map fun q => dSt q.1) := fun W3 l3 σ3 E3 R3 q3 => by
      refine q3 _ W3 Wd.rfl ?_
      have hl2 : kvs.length = (ks.map fun q => dSt q.1).length := by rw [r.length, List.length_map]
      have hfz : W3.f a = some (.frz od (.dT kvs)) := l3.fr _ _ upd_same
      refine ⟨_, _, by rw [← hl2]; exact walk_keysT (d := a) (o := od) (kvs := kvs), fun W' l => W'.ex _ _ (l _ _ hfz), fun i W' x H' hj l y => ?_⟩
      obtain ⟨e0, k, v, b, e1, rfl, e2⟩ := y
      obtain ⟨k', d', e3, rfl, _⟩ := r.at e1
      rw [key_map] at e2
      refine ⟨W', Wd.rfl, e0.symm, dSt k', ?_, .tup (W'.tp _ _ e2) ?_ ?_⟩
      · rw [List.getElem?_map, e3]
        rfl
      · rw [List.length_map]
        exact hc _ (List.mem_of_getElem? e3)
      · exact RpL.of_ints k'
    have hmain : EvL (W2.lk a _ hzz) (tLc (iJ (Itkt a od kvs)) (gName j) tt el [j]) Γ1 (W2.lk a _ hzz) ((ks.filter fun q => p q.1).map fun q => e q.1) :=
      el_lc ks (fun q => dSt q.1) (fun q => p q.1) (fun q => e q.1) hit hn (fun q hq => ⟨[j], _, fun _ h => h, tg_name, fun Wy ly => hs _ q hq Wy ly⟩)
    show tLc (iJ (Itkt a od kvs)) (gName j) tt el [j] σ (W2.lk a (HO.frz od (HO.dT kvs)) hzz).h (fun v H' => ∃ d od u, H' d = some (.frz od u) ∧ (∀ o' u', H0 d ≠ some (.frz o' u')) ∧ Q v (upd H' d u))
    refine hmain _ Wd.rfl σ El _ fun p2 xs W3 l3 n1 n2 hx rx => ?_
    have hd2 : W3.f a = some (.frz od (.dT kvs)) := l3.fr _ _ upd_same
    refine ⟨a, od, .dT kvs, W3.ex _ _ hd2, nf, ?_⟩
    have hzt : ∀ xs, HO.dT kvs ≠ .tup xs := fun xs z => by cases z
    have hpa : p2 ≠ a := fun z => by
      rw [z, hd2] at n2
      cases n2
    have hscL : ∀ {f g : Hp} {vs : List V} {ms : List (List Int × D)}, RpL f vs (ms.map fun q => e q.1) → RpL g vs (ms.map fun q => e q.1) := by
      intro f g vs ms
      induction ms generalizing vs with
      | nil =>
        intro r
        cases r
        exact .nil
      | cons q ms ih =>
        intro r
        cases r with
        | cons h r => exact .cons (h.sc (hsc _)) (ih r)
    refine q p2 xs (W3.lk a (.dT kvs) hzt) ⟨fun b u eb => ?_, fun b u eb zb => ?_⟩ ?_ ?_ ?_ (hscL rx)
    · show upd W3.f a _ b = some u
      by_cases z : b = a
      · subst z
        have := l2.fr _ _ eb
        rw [hd] at this
        rw [upd_same]
        exact this
      · rw [upd_ne z]
        refine l3.fr b u ?_
        show upd W2.f a _ b = some u
        rw [upd_ne z]
        exact l2.fr b u eb
    · obtain ⟨zb2, eb2⟩ := l2.ow b u eb zb
      have z : b ≠ a := fun z => by
        rw [z, hd] at zb2
        cases zb2
      obtain ⟨m1, m2⟩ := l3.ow b u (by show upd W2.h a _ b = _; rw [upd_ne z]; exact eb2) (by show upd W2.f a _ b = _; rw [upd_ne z]; exact zb2)
      refine ⟨?_, ?_⟩
      · show upd W3.f a _ b = none
        rw [upd_ne z]
        exact m1
      · show upd W3.h a _ b = _
        rw [upd_ne z]
        exact m2
    · have n3 : upd W2.h a (HO.frz od (.dT kvs)) p2 = none := n1
      rw [upd_ne hpa] at n3
      exact l2.hh.free n3
    · show upd W3.f a _ p2 = none
      rw [upd_ne hpa]
      exact n2
    · show upd W3.h a _ p2 = _
      rw [upd_ne hpa]
      exact hx
end Fg

set_option Elab.async false
set_option linter.all false
set_option maxRecDepth 100000
set_option maxHeartbeats 4000000
/-! More rules for what is one's own: tuples of one's own lists, stores into them. -/
namespace Fg
open PySem L2 RZ
section
variable {K : PySem.W.Frag} {W0 W W' : Wd} {Γ Γ' : List Sl} {te t1 t2 ti : TE} {ta : TA} {d x y : D} {ds es : List D} {N : List Sl → Wd → Prop} {R : Wd → V → Prop} {i j k n : Nat} {F1 F2 : Wd → Wd → V → Prop}
theorem EvH.sc (h : EvH W0 te Γ W d) (hd : d.sc = true) : EvD W0 te Γ W d := fun W1 l1 σ E Q q => h W1 l1 σ E Q fun v W2 l2 r => q v W2 l2 (r.sc hd)
theorem EvH.tp (h : EvH W0 te Γ W d) (hd : d.tpy = true) : EvD W0 te Γ W d := fun W1 l1 σ E Q q => h W1 l1 σ E Q fun v W2 l2 r => q v W2 l2 (r.tpf hd)
theorem EvD.jt (h : EvD W0 te Γ W d) : EvJ W0 te Γ W (fun _ W2 v => Rp W2.f v d) := fun W1 l1 σ E Q q => h W1 l1 σ E Q fun v W2 l2 r => q v W2 l2 r
theorem EvJ.imp {F F' : Wd → Wd → V → Prop} (h : EvJ W0 te Γ W F) (q : ∀ W1 W2 v, W1 ≤ W2 → F W1 W2 v → F' W1 W2 v) : EvJ W0 te Γ W F' := fun W1 l1 σ E Q k => h W1 l1 σ E Q fun v W2 l2 r => k v W2 l2 (q W1 W2 v l2 r)
theorem ej_callH {g : List D → D → Prop} {E : XK} (h : EvAH W0 ta Γ W ds) (hg : g ds d) : EvJ W0 (tCall (Pure g) [] E ta) Γ W (fun _ W2 v => Rp W2.h v d) := fun W1 l1 σ En Q q => eh_callH h hg W1 l1 σ En Q fun v W2 l2 r => q v W2 l2 r
/-- (list, list), both one's own -/
theorem ej_tup2 (h1 : EvL W0 t1 Γ W ds) (h2 : EvL W0 t2 Γ W es) (c1 : ds.length ≤ cap) (c2 : es.length ≤ cap) :
    EvJ W0 (tTup (tCons t1 (tCons t2 tNil))) Γ W (fun W1 W4 v => ∃ T p p', v = .ref T ∧ W4.f T = some (.tup [.ref p, .ref p']) ∧ OL W1 W4 p ds ∧ OL W1 W4 p' es ∧ p ≠ p') := fun W1 l1 σ E Q q =>
  h1 W1 l1 σ E _ fun p xs W2 l2 n1 n2 hx r => h2 W2 (l1.tr l2) σ (E.mono l2) _ fun p' ys W3 l3 m1 m2 hy s => by
  refine ⟨(by show 2 ≤ sizeLine; decide), fun T hT => ?_⟩
  have l4 : W3 ≤ W3.nw T (.tup [.ref p, .ref p']) := Wd.le_nw hT
  obtain ⟨f3, h3⟩ := l3.ow _ _ hx n2
  obtain ⟨f4, h4⟩ := l4.ow _ _ h3 f3
  obtain ⟨f5, h5⟩ := l4.ow _ _ hy m2
  refine q (.ref T) (W3.nw T (.tup [.ref p, .ref p'])) ((l2.tr l3).tr l4) ⟨T, p, p', rfl, upd_same, ⟨f4, n1, ⟨xs, h4, r.mono (l3.tr l4).fr⟩, c1⟩, ⟨f5, l2.hh.free m1, ⟨ys, h5, s.mono l4.fr⟩, c2⟩, fun z => ?_⟩
  rw [z] at hx
  rw [m1] at hx
  cases hx
theorem st_parJ (h1 : EvJ W0 t1 Γ W F1) (h2 : EvJ W0 t2 Γ W F2) (q : ∀ v1 v2 W1 W2, W ≤ W1 → W1 ≤ W2 → F1 W W1 v1 → F2 W1 W2 v2 → N ((Γ.set i (.val v1)).set j (.val v2)) W2) : ST W0 (tPar i j (tCons t1 (tCons t2 tNil))) Γ W N R := fun σ E D hn hr =>
  h1 W Wd.rfl σ E _ fun v1 W1 l1 r1 => h2 W1 l1 σ (E.mono l1) _ fun v2 W2 l2 r2 => by
    have E2 := (E.mono (l1.tr l2)).put (i := i) (v := v1) (s := .val v1) rfl (fun l e => by cases e)
    exact ⟨v1, v2, rfl, hn _ W2 _ (l1.tr l2).fr (q v1 v2 W1 W2 l1 l2 r1 r2) (E2.put (i := j) (v := v2) (s := .val v2) rfl (fun l e => by cases e))⟩
/-- a, (b, c) = one's own, a pair of data -/
theorem st_tupJ (h1 : EvJ W0 t1 Γ W F1) (h2 : EvD W0 t2 Γ W (.tup [x, y])) (q : ∀ v W1 W2, W ≤ W1 → W1 ≤ W2 → F1 W W1 v → N (((Γ.set i (.val v)).set j (.dat x)).set k (.dat y)) W2) :
    ST W0 (tAsg (tTup (tCons t1 (tCons t2 tNil))) (gTup K 2 (gCons (gName i) (gCons (gTup K 2 (gCons (gName j) (gCons (gName k) gNil))) gNil)))) Γ W N R := fun σ E D hn hr =>
  h1 W Wd.rfl σ E _ fun v W1 l1 r1 => h2 W1 l1 σ (E.mono l1) _ fun u W2 l2 r2 => by
    refine ⟨(by show 2 ≤ sizeLine; decide), fun T hT => ?_⟩
    have l3 : W2 ≤ W2.nw T (.tup [v, u]) := Wd.le_nw hT
    have l123 := (l1.tr l2).tr l3
    refine ⟨T, [v, u], rfl, SqT.of upd_same, rfl, ?_⟩
    have E2 := (E.mono l123).put (i := i) (v := v) (s := .val v) rfl (fun l e => by cases e)
    refine ⟨v, _, rfl, u, _, rfl, ?_⟩
    exact tg_pair _ _ u E2 (r2.mono l3.fr) _ fun σ' E' _ _ => ⟨rfl, hn σ' _ _ l123.fr (q v W1 _ l1 (l2.tr l3) r1) E'⟩
/-- names for the items of a tuple -/
def TgsV (W0 : Wd) (gs : TGs) (vs : List V) (Γ Γ' : List Sl) : Prop := ∀ W σ, En W0 W σ Γ → ∀ Q : L2.St → Hp → Prop, (∀ σ', En W0 W σ' Γ' → Q σ' W.h) → gs vs σ W.h Q
theorem tgv_nil : TgsV W0 gNil [] Γ Γ := fun W σ E Q q => ⟨rfl, q σ E⟩
theorem tgv_cons {gs : TGs} {v : V} {vs : List V} (h : TgsV W0 gs vs (Γ.set i (.val v)) Γ') : TgsV W0 (gCons (gName i) gs) (v :: vs) Γ Γ' := fun W σ E Q q =>
  ⟨v, vs, rfl, h W _ (E.put (s := .val v) rfl (fun l e => by cases e)) Q q⟩
theorem st_unT {gs : TGs} {T : Addr} {vs : List V} (h : Γ[i]? = some (.val (.ref T))) (hT : W.f T = some (.tup vs)) (hn : vs.length = n) (hg : TgsV W0 gs vs Γ Γ') (q : N Γ' W) : ST W0 (tAsg (tVar i) (gTup K n gs)) Γ W N R := fun σ E D hn' hr => by
  obtain ⟨o, h1, rfl⟩ := E.ok i _ h
  exact ⟨_, h1, T, vs, rfl, SqT.of (W.ex _ _ hT), hn, hg W σ E _ fun σ' E' => hn' σ' W Γ' (Same.refl _) q E'⟩
/-- xs[e], ys[c] = a, b: two lists of one's own -/
theorem st_set2 {p p2 : Addr} {xs ys : List V} {m m2 : Nat} {ei c ia ib : Int} (hne : p2 ≠ p) (hr1 : EvRef W0 t1 Γ W p) (hi : EvD W0 ti Γ W (.int ei)) (n1 : W.f p = none) (m1 : W0.h p = none) (hx : W.h p = some (.lst xs)) (e1 : ixN xs.length ei = some m)
    (hr2 : ∀ Wz, EvRef W0 t2 Γ Wz p2) (n2 : W.f p2 = none) (m20 : W0.h p2 = none) (hy : W.h p2 = some (.lst ys)) (e2 : ixN ys.length c = some m2) (ha : ∀ s ∈ Γ, s.adr = none)
    (q : ∀ W1 (f1 : W1.f p = none) (f2 : (W1.up p (.lst (xs.set m (.int ia))) f1).f p2 = none), W ≤ W1 → N Γ ((W1.up p (.lst (xs.set m (.int ia))) f1).up p2 (.lst (ys.set m2 (.int ib))) f2)) :
    ST W0 (tAsg (tTup (tCons (tC (.int ia)) (tCons (tC (.int ib)) tNil))) (gTup K 2 (gCons (gSub t1 ti rSetL) (gCons (gSub t2 (tC (.int c)) rSetL) gNil)))) Γ W N R := fun σ E D hn hr => by
  refine ⟨(by show 2 ≤ sizeLine; decide), fun T hT => ?_⟩
  have l1 : W ≤ W.nw T (.tup [.int ia, .int ib]) := Wd.le_nw hT
  refine ⟨T, _, rfl, SqT.of upd_same, rfl, .int ia, _, rfl, ?_⟩
  refine hr1 _ l1 σ (E.mono l1) _ (hi _ l1 σ (E.mono l1) _ fun y W2 l2 r => ?_)
  cases r
  have l12 := l1.tr l2
  obtain ⟨f2, hx2⟩ := l12.ow _ _ hx n1
  obtain ⟨g2, hy2⟩ := l12.ow _ _ hy n2
  have ha2 : ∀ q : Addr, ∀ s ∈ Γ, s.adr ≠ some q := fun q s hs => by
    rw [ha s hs]
    exact fun z => by cases z
  refine ⟨p, xs, ei, m, rfl, rfl, hx2, e1, .int ib, _, rfl, ?_⟩
  have E3 := (E.mono l12).upR (o := .lst (xs.set m (.int ia))) (ha2 p) f2 m1 (ho := by intro _ h; cases h)
  refine hr2 _ _ Wd.rfl σ E3 _ ?_
  have hy3 : (W2.up p (.lst (xs.set m (.int ia))) f2).h p2 = some (.lst ys) := by
    show upd W2.h p _ p2 = _
    rw [upd_ne hne]
    exact hy2
  exact ⟨p2, ys, c, m2, rfl, rfl, hy3, e2, rfl, hn σ ((W2.up p (.lst (xs.set m (.int ia))) f2).up p2 (.lst (ys.set m2 (.int ib))) g2) Γ l12.fr (q W2 f2 g2 l12) (E3.upR (o := .lst (ys.set m2 (.int ib))) (ha2 p2) g2 m20 (ho := by intro _ h; cases h))⟩
/-- a slice of a list still to be changed, of tuples -/
theorem em_slH {α : Type} {c : α → D} {as : List α} {lo hi : Option Int} {tl th : TO} (tp : ∀ a, (c a).tpy = true) (h : EvH W0 te Γ W (.lst (as.map c))) (h1 : EvO W0 tl Γ W lo) (h2 : EvO W0 th Γ W hi) (hc : as.length ≤ cap) : EvD W0 (tSl (rSlL K) te tl th) Γ W (.lst ((cutL as lo hi).map c)) := by
  refine EvL.fz (fun W1 l1 σ E Q q => h W1 l1 σ E _ fun x W2 l2 r => ?_) (by rw [List.length_map]; exact Nat.le_trans (cutL_le ..) hc)
  cases r with
  | lst hx z r =>
    refine h1 W2 (l1.tr l2) σ (E.mono l2) _ fun W3 l3 => h2 W3 ((l1.tr l2).tr l3) σ (E.mono (l2.tr l3)) _ fun W4 l4 => ?_
    have l34 := l3.tr l4
    refine ⟨_, _, rfl, SqL.of (l34.hh _ _ hx), fun p hp => ?_⟩
    have n := none_of W4.ex hp
    refine q p _ (W4.up p _ n) ((l2.tr l34).tr (Wd.le_up hp)) ((l2.tr l34).hh.free hp) n upd_same ?_
    have rr := (RpL.tpf (W := W4) (tpys_map tp as) (r.mono l34.hh)).cut lo hi
    rw [cutL_map] at rr
    exact rr
/-- arguments, the last one told by a word -/
def EvAJ (W0 : Wd) (ta : TA) (Γ : List Sl) (W : Wd) (ds : List D) (F : Wd → V → Prop) : Prop := ∀ W1, W ≤ W1 → ∀ σ, En W0 W1 σ Γ → ∀ Q : List V → Hp → Prop, (∀ vs v W2, W1 ≤ W2 → RpL W2.f vs ds → F W2 v → Q (vs ++ [v]) W2.h) → ta σ W1.h Q
theorem eaj_last {F : Wd → V → Prop} (h : EvJ W0 te Γ W (fun _ W2 v => F W2 v)) : EvAJ W0 (tCons te tNil) Γ W [] F := fun W1 l1 σ E Q q => h W1 l1 σ E _ fun v W2 l2 r => q [] v W2 l2 .nil r
theorem eaj_cons {tr : TA} {F : Wd → V → Prop} (h : EvD W0 te Γ W d) (hr : EvAJ W0 tr Γ W ds F) : EvAJ W0 (tCons te tr) Γ W (d :: ds) F := fun W1 l1 σ E Q q =>
  h W1 l1 σ E _ fun v W2 l2 r => hr W2 (l1.tr l2) σ (E.mono l2) _ fun vs u W3 l3 rs f => q (v :: vs) u W3 (l2.tr l3) (.cons (r.mono l3.fr) rs) f
def EvVs (W0 : Wd) (ta : TA) (Γ : List Sl) (W : Wd) (vs : List V) : Prop := ∀ W1, W ≤ W1 → ∀ σ, En W0 W1 σ Γ → ∀ Q : List V → Hp → Prop, Q vs W1.h → ta σ W1.h Q
theorem evv_nil : EvVs W0 tNil Γ W [] := fun W1 l1 σ E Q q => q
theorem evv_cons {tr : TA} {v : V} {vs : List V} (h : Γ[i]? = some (.val v)) (hr : EvVs W0 tr Γ W vs) : EvVs W0 (tCons (tVar i) tr) Γ W (v :: vs) := fun W1 l1 σ E Q q => by
  obtain ⟨o, h1, rfl⟩ := E.ok i _ h
  exact ⟨v, h1, hr W1 l1 σ E _ q⟩
theorem ej_tupV {vs : List V} (h : EvVs W0 ta Γ W vs) (hc : vs.length ≤ cap) : EvJ W0 (tTup ta) Γ W (fun _ W2 v => ∃ T, v = .ref T ∧ W2.f T = some (.tup vs)) := fun W1 l1 σ E Q q => h W1 l1 σ E _ ⟨le_cap hc, fun T hT => q (.ref T) (W1.nw T _) (Wd.le_nw hT) ⟨T, rfl, upd_same⟩⟩
end
end Fg

set_option Elab.async false
set_option linter.all false
set_option maxRecDepth 100000
set_option maxHeartbeats 4000000
/-! What is refused. -/
namespace Fg
open PySem L2 RZ
/-- a promise: data are handed in; what is handed back is told by the word, or an error of the class at C comes -/
def PrmX (g : List D → (Wd → Wd → V → Prop) ⊕ Addr → Prop) : Sp := fun vs H Q E => ∃ (W : Wd) (ds : List D) (o : (Wd → Wd → V → Prop) ⊕ Addr), W.h = H ∧ RpL W.f vs ds ∧ g ds o ∧
  (∀ po, o = .inl po → ∀ v W', W ≤ W' → po W W' v → Q v W'.h) ∧ (∀ C, o = .inr C → ∀ W', W ≤ W' → E (.ref C) none W'.h)
theorem fn_prmX {P : Program} {w : World} {K : PySem.W.Frag} {mg : Str → Option Value} {base : Heap} {x qual : Str} {st : Stmt} {f : Addr} {fd : FuncData} {Nm ps : List Str} {k : Nat} {g : List D → (Wd → Wd → V → Prop) ⊕ Addr → Prop} (F : Fun K x qual st f fd) (sc : FnScope Nm ps (defScope st))
    (hl : ∀ ds o, g ds o → ds.length = ps.length)
    (hb : ∀ (cdv : Value) (A : Around) (outer : List Env) (s : Shared) (H : Hp) (E : XK), Room k (A.deeper (PyProof.Rows.envOfC qual (defScope st) s.heap.objs.size f cdv)) → ∀ ds o, g ds o →
      ∃ t, PSs (cxOf (L2.CX P w) P w K mg base Nm qual (defScope st) f cdv A outer s H E) (defBody st) t ∧ ∀ W0, (∀ C, o = .inr C → ∀ W', W0 ≤ W' → E (.ref C) none W'.h) →
        ST W0 t (ds.map .dat ++ List.replicate (Nm.length - ps.length) .no) W0 (fun _ W' => ∃ po, o = .inl po ∧ po W0 W' .non) (fun W' v => ∃ po, o = .inl po ∧ po W0 W' v)) :
    FnOk P w K mg base (L2.CX P w) (k + 1) f fd ps (PrmX g) := by
  refine F.okX sc (fun vs H Q E h => ?_) (fun cdv A outer s H vs Q E hr h => ?_)
  · obtain ⟨W, ds, o, rfl, rl, hg, _⟩ := h
    rw [rl.length]
    exact hl ds o hg
  · obtain ⟨W, ds, o, rfl, rl, hg, q, qx⟩ := h
    obtain ⟨t, ht, hs⟩ := hb cdv A outer s W.h E hr ds o hg
    refine ⟨t, ht, ?_⟩
    have e : L2.start Nm vs = vs.map some ++ List.replicate (Nm.length - ps.length) none := by
      unfold L2.start
      rw [rl.length, hl ds o hg]
    rw [e]
    exact hs W qx _ (en_start rl _) _ (fun σ' W' Γ' l ⟨po, e1, h1⟩ E' => q po e1 .non W' E'.le h1) (fun v W' l ⟨po, e1, h1⟩ => q po e1 v W' l h1)
/-- a def that may raise, by its name -/
structure DfX (P : Program) (w : World) (K : PySem.W.Frag) (mg : Str → Option Value) (base : Heap) (k : Nat) (x : Str) (ps : List Str) (sp : Sp) : Prop where
  ex : ∃ f fd, mg x = some (.ref f) ∧ PySem.W.keepIn K (.ref f) = true ∧ Binds K fd ps [] ∧ FnOk P w K mg base (L2.CX P w) k f fd ps sp
section
variable {X : Cx} {k : Nat} {x : Str} {ps : List Str} {sp : Sp} {e : Expr} {es : List Expr} {t : TA} {p pos : Pos}
/-- where no error may leave -/
theorem pe_dfL (G : DfX X.prog X.w X.K X.mg X.base k x ps sp) (hr : Room k X.A) (hg : Gl X x) (ha : PA X (e :: es) t)
    (hdb : (x == ("__debug__" : Str)) = false := by decide) (he : starEach (e :: es) X.env = (false, eval e X.env) :: starEach es X.env := by rfl) (hpl : (backTo pos (starEach es X.env)).any (·.1) = false := by rfl) :
    PE X (.Call (.Name x p) (e :: es) [] pos) (tCall sp [] E0 t) := by
  obtain ⟨f, fd, hm, hk, hb, F⟩ := G.ex
  exact pe_call F hr hg hm hk hb .nil passL ha hdb he hpl
/-- where errors leave the def -/
theorem pe_dfT {E : XK} (G : DfX X.prog X.w X.K X.mg X.base k x ps sp) (tk : Takes X (fun cls d _ H => E cls d H)) (hr : Room k X.A) (hg : Gl X x) (ha : PA X (e :: es) t)
    (hdb : (x == ("__debug__" : Str)) = false := by decide) (he : starEach (e :: es) X.env = (false, eval e X.env) :: starEach es X.env := by rfl) (hpl : (backTo pos (starEach es X.env)).any (·.1) = false := by rfl) :
    PE X (.Call (.Name x p) (e :: es) [] pos) (tCall sp [] E t) := by
  obtain ⟨f, fd, hm, hk, hb, F⟩ := G.ex
  exact pe_call F hr hg hm hk hb .nil (passes_call tk (fun _ _ _ _ h => h)) ha hdb he hpl
/-- in a try -/
theorem pe_dfS {W : WX} (G : DfX X.prog X.w X.K X.mg X.base k x ps sp) (tk : Takes X W) (hr : Room k X.A) (hg : Gl X x) (ha : PA X (e :: es) t)
    (hdb : (x == ("__debug__" : Str)) = false := by decide) (he : starEach (e :: es) X.env = (false, eval e X.env) :: starEach es X.env := by rfl) (hpl : (backTo pos (starEach es X.env)).any (·.1) = false := by rfl) :
    PE X (.Call (.Name x p) (e :: es) [] pos) (tCallS sp (WE W) t) := by
  obtain ⟨f, fd, hm, hk, hb, F⟩ := G.ex
  exact pe_callS F hr hg hm hk hb (fun σ => passAt tk σ) ha hdb he hpl
/-- the suite of a clause: the error's class is one of the program's -/
theorem pss_exc {K : PySem.W.Frag} {st : List Stmt} {cls : Value} {d : Option Addr} {ts : Addr → TS} (h : ∀ D, cls = .ref D → d = none → ExcC K D → PSs X st (ts D)) : PSs X st (fun En σ H => ∃ D, cls = .ref D ∧ d = none ∧ ExcC K D ∧ ts D En σ H) :=
  ⟨fun pins s σ H En I ⟨D, h1, h2, h3, h4⟩ => (h D h1 h2 h3).run pins s σ H En I h4⟩
theorem kx_isE {K0 : PySem.W.Frag} {a D : Addr} {oe : Obj} {cls : Value} {d : Option Addr} {pn : List (Addr × Obj)} (C : ExcC K0 D) (hz : Zc cls d oe) (hf : ∃ vs, oe.data = .fields vs) (e1 : cls = .ref D) (e2 : d = none) (hK : X.K = K0 := by rfl) : CallR (X.suite a ((a, oe) :: pn)) (.builtin "isinstance") (rIsE K0 D a) := by
  subst hK e1 e2
  exact call_isE C hz hf
end
section
variable {K : PySem.W.Frag} {W0 W W' : Wd} {Γ Γ' : List Sl} {te t1 t2 : TE} {ta : TA} {d : D} {ds es : List D} {N : List Sl → Wd → Prop} {R : Wd → V → Prop} {i j n : Nat} {g : List D → (Wd → Wd → V → Prop) ⊕ Addr → Prop} {po : Wd → Wd → V → Prop} {o : (Wd → Wd → V → Prop) ⊕ Addr} {E : XK}
theorem st_raise {C : Addr} (h : ∀ W', W0 ≤ W' → E (.ref C) none W'.h) : ST W0 (fun _ σ H => (fun (_ : L2.St) (H : Hp) (Q : XK) => Q (.ref C) none H) σ H fun cls d H' => (fun cls d (_ : L2.St) H => E cls d H) cls d σ H') Γ W N R := fun σ En D hn hr => h W En.le
/-- a call that comes to something -/
theorem ep_callX (h : EvA W0 ta Γ W ds) (hg : g ds (.inl po)) : EvP W0 (tCall (PrmX g) [] E ta) Γ W po := fun W1 l1 σ En Q q => h W1 l1 σ En _ fun vs W2 l2 r => by
  refine ⟨W2, ds, _, rfl, ?_, hg, fun po' e v W' l' r' => ?_, fun C e => by cases e⟩
  · rw [List.append_nil]
    exact r
  · cases e
    exact q v W2 W' l2 l' r'
/-- the same, with what is still to be changed; what is handed back is told of the whole heap -/
theorem ej_callXH (h : EvAH W0 ta Γ W ds) (hg : g ds (.inl po)) (hp : ∀ (W1 W2 : Wd) (v : V), W1.all ≤ W2 → po W1.all W2 v → Rp W2.h v d) : EvJ W0 (tCall (PrmX g) [] E ta) Γ W (fun _ W2 v => Rp W2.h v d) := fun W1 l1 σ En Q q => h W1 l1 σ En _ fun vs W2 l2 r => by
  refine ⟨W2.all, ds, _, rfl, ?_, hg, fun po' e v W' l' r' => ?_, fun C e => by cases e⟩
  · rw [List.append_nil]
    exact r
  · cases e
    exact q v (W2.cut W' l') (l2.tr (Wd.le_cut l')) (hp W2 W' v l' r')
/-- a call that stands alone and may let an error out -/
theorem st_dropX (h : EvA W0 ta Γ W ds) (hg : g ds o) (hin : ∀ po, o = .inl po → ∀ W2, W ≤ W2 → N Γ W2) (hex : ∀ C, o = .inr C → ∀ W', W0 ≤ W' → E (.ref C) none W'.h) : ST W0 (tDrop (tCall (PrmX g) [] E ta)) Γ W N R := fun σ En D hn hr => h W Wd.rfl σ En _ fun vs W2 l2 r => by
  refine ⟨W2, ds, o, rfl, ?_, hg, fun po e v W' l' r' => ?_, fun C e W' l' => hex C e W' (En.le.tr (l2.tr l'))⟩
  · rw [List.append_nil]
    exact r
  · exact hn σ W' Γ (l2.tr l').fr (hin po e W' (l2.tr l')) (En.mono (l2.tr l'))
/-- try: f(..) except c as n: suite (that hands something back), f called with what is still to be changed -/
theorem st_tryAs {c : Value} {ts : Addr → Value → Option Addr → TS} {Wout : WX} (h : EvAH W0 ta Γ W ds) (hg : g ds o) (hin : ∀ po, o = .inl po → ∀ W2, W ≤ W2 → N Γ W2)
    (hex : ∀ C, o = .inr C → PySem.W.exmOne K (.ref C) c = some true ∧ ∀ a W2, W ≤ W2 → ST W0 (ts a (.ref C) none) (Γ.set i (.val (.ref a))) W2 (fun _ _ => False) R) :
    ST W0 (fun D σ H => tDrop (tCallS (PrmX g) (WE (wAs K c i ts Wout D)) ta) D σ H) Γ W N R := fun σ En D hn hr => h W Wd.rfl σ En _ fun vs W2 l2 r => by
  refine ⟨W2.all, ds, o, rfl, r, hg, fun po e v W' l' r' => ?_, fun C e W' l' => ?_⟩
  · have l3 := l2.tr (Wd.le_cut l')
    exact hn σ (W2.cut W' l') Γ l3.fr (hin po e _ l3) (En.mono l3)
  · obtain ⟨h1, h2⟩ := hex C e
    refine ⟨true, h1, fun _ a ha => ?_, fun z => by cases z⟩
    have l3 := l2.tr (Wd.le_cut l')
    refine h2 a (W2.cut W' l') l3 _ ((En.mono l3).put (s := .val (.ref a)) rfl (fun l e => by cases e)) _ (fun _ _ _ _ z => z.elim) (fun v W3 l4 hR => hr v W3 l4 hR)
/-- isinstance of the error -/
theorem ev_isE {a C : Addr} {b : Bool} {cv : Addr} (hi : Γ[i]? = some (.val (.ref a))) (hk : PySem.W.kitOne K (.ref C) (.ref cv) = some b) : EvD W0 (tCB (rIsE K C a) (tCons (tVar i) (tCons (tC (.ref cv)) tNil))) Γ W (.bl b) := fun W1 l1 σ En Q q => by
  obtain ⟨o, h1, rfl⟩ := En.ok i _ hi
  exact ⟨_, h1, .ref cv, .ref cv, b, rfl, fun u hu => hu, hk, q _ W1 Wd.rfl (.bl b)⟩
end
/-- a class of errors of one's own: what the terms ask -/
structure Ec (K : PySem.W.Frag) (mg : Str → Option Value) (nm : Str) (C : Addr) : Prop where
  x : PySem.W.excIn K C [.type "ValueError", .type "Exception", .type "BaseException", .type "object"] "ValueError.__new__" = true
  g : mg nm = some (.ref C)
  k : PySem.W.keepIn K (.ref C) = true
  b : PySem.W.subIn K (.ref C) (.type "BaseException") = some true
  t : PySem.W.typeIn K (.ref C) = some (.type "type")
  e : ExcC K C
end Fg

set_option Elab.async false
set_option linter.all false
set_option maxRecDepth 100000
set_option maxHeartbeats 4000000
namespace Fg
open PySem L2 RZ
local macro_rules | `(tactic| walk_at "bo") => `(tactic| simp only [Bool.or_eq_false_iff, Bool.or_eq_true, Bool.and_eq_true, Bool.not_eq_true', Bool.not_eq_false', Bool.not_eq_true, Bool.not_eq_false, decide_eq_true_eq, decide_eq_false_iff_not, Bool.true_eq_false, Bool.false_eq_true, Bool.and_eq_false_imp] at *)
local macro_rules | `(tactic| walk_at "sd") => `(tactic| first
  | assumption
  | exact rfl
  | omega
  | (refine at_ints ?_; first | omega | (walk_at "bo"; omega) | skip)
  | exact Nat.le_of_ble_eq_true rfl
  | (show _ ≤ cap; first | decide | omega | (simp only [List.length_map, List.length_append]; omega))
  | (walk_at "bo"; omega)
  | skip)
local macro_rules | `(tactic| walk_at "ea") => `(tactic| first
  | exact ea_nil
  | (apply ea_cons; (focus walk_at "ev"); walk_at "ea"))
local macro_rules | `(tactic| walk_at "eh") => `(tactic| first
  | exact ev_varA rfl (by first | assumption | omega | decide)
  | exact ev_varK rfl (by first | assumption | omega | decide)
  | (apply EvD.h; walk_at "ev"))
local macro_rules | `(tactic| walk_at "el") => `(tactic| first
  | ((with_reducible apply el_lst); (focus walk_at "ea"); walk_at "sd")
  | ((with_reducible apply el_cat); (focus walk_at "ev"); (focus walk_at "ev"); walk_at "sd")
  | ((with_reducible apply el_sl); (focus walk_at "ev"); (focus walk_at "eo"); (focus walk_at "eo"))
  | ((with_reducible apply el_list); walk_at "ev")
  | ((with_reducible apply el_listT); walk_at "ev")
  | ((with_reducible apply el_rev); walk_at "ev"))
local macro_rules | `(tactic| walk_at "eo") => `(tactic| first
  | exact eo_none
  | (apply eo_some; walk_at "ev"))
local macro_rules | `(tactic| walk_at "ev") => `(tactic| first
  | exact ev_int | exact ev_bl | exact ev_non | exact ev_str
  | exact ev_var rfl
  | ((with_reducible apply ev_add); (focus walk_at "ev"); walk_at "ev")
  | ((with_reducible apply ev_sub); (focus walk_at "ev"); walk_at "ev")
  | ((with_reducible apply ev_lt); (focus walk_at "ev"); walk_at "ev")
  | ((with_reducible apply ev_le); (focus walk_at "ev"); walk_at "ev")
  | ((with_reducible apply ev_gt); (focus walk_at "ev"); walk_at "ev")
  | ((with_reducible apply ev_ge); (focus walk_at "ev"); walk_at "ev")
  | ((with_reducible apply ev_eqI); (focus walk_at "ev"); (focus walk_at "ev"); done)
  | ((with_reducible apply ev_neI); (focus walk_at "ev"); (focus walk_at "ev"); done)
  | ((with_reducible apply ev_mulW); (focus walk_at "ev"); (focus walk_at "ev"); walk_at "sd")
  | ((with_reducible apply ev_fdiv); (focus walk_at "ev"); (focus walk_at "ev"); walk_at "sd")
  | ((with_reducible apply ev_mod); (focus walk_at "ev"); (focus walk_at "ev"); walk_at "sd")
  | ((with_reducible apply ev_neg); walk_at "ev")
  | ((with_reducible apply ev_ixT); (focus walk_at "ev"); (focus walk_at "ev"); walk_at "sd")
  | (with_reducible apply ev_ixA rfl ?_ ?_; (focus walk_at "ev"); walk_at "sd")
  | ((with_reducible apply ev_ixL); (focus walk_at "ev"); (focus walk_at "ev"); walk_at "sd")
  | (with_reducible apply ev_lenA rfl)
  | ((with_reducible apply ev_lenLM); walk_at "eh"; done)
  | ((with_reducible apply ev_lenTM); walk_at "eh"; done)
  | ((with_reducible apply ev_lenL); walk_at "eh")
  | ((with_reducible apply ev_lenT); walk_at "eh")
  | ((with_reducible apply ev_lenK); walk_at "eh")
  | ((with_reducible apply ev_isN); walk_at "eh")
  | ((with_reducible apply ev_notN); walk_at "eh")
  | ((with_reducible apply ev_inT); (focus walk_at "ev"); walk_at "ev")
  | ((with_reducible apply ev_inD); (focus walk_at "eh"); (focus walk_at "eh"); all_goals walk_at "sh")
  | ((with_reducible apply ev_notInD); (focus walk_at "eh"); (focus walk_at "eh"); all_goals walk_at "sh")
  | ((with_reducible apply ev_eqD); (focus walk_at "eh"); (focus walk_at "eh"); all_goals walk_at "sh")
  | ((with_reducible apply ev_neD); (focus walk_at "eh"); (focus walk_at "eh"); all_goals walk_at "sh")
  | ((with_reducible apply ev_all); walk_at "eh")
  | ((with_reducible apply ev_any); walk_at "eh")
  | ((with_reducible apply ev_sum); walk_at "eh")
  | ((with_reducible apply ev_lenSet); (focus walk_at "ev"); walk_at "sd")
  | ((with_reducible apply ev_isaI); (focus walk_at "eh"); walk_at "sd")
  | ((with_reducible apply ev_isaB); (focus walk_at "eh"); walk_at "sd")
  | ((with_reducible apply ev_isaL); (focus walk_at "eh"); walk_at "sd")
  | ((with_reducible apply ev_isaT); (focus walk_at "eh"); walk_at "sd")
  | ((with_reducible apply ev_tup); (focus walk_at "ea"); walk_at "sd")
  | ((with_reducible apply ev_catT); (focus walk_at "ev"); (focus walk_at "ev"); walk_at "sd")
  | ((with_reducible apply ev_slT); (focus walk_at "ev"); (focus walk_at "eo"); (focus walk_at "eo"))
  | ((with_reducible apply ev_max2); (focus walk_at "ev"); walk_at "ev")
  | ((with_reducible apply ev_min2); (focus walk_at "ev"); walk_at "ev")
  | ((with_reducible apply ev_abs); walk_at "ev")
  | ((with_reducible apply ev_chain); (focus walk_at "ev"); (focus walk_at "ev"); intro _; walk_at "ev")
  | ((with_reducible apply ev_and); (focus walk_at "ev"); intro _; walk_at "ev")
  | ((with_reducible apply ev_or); (focus walk_at "ev"); intro _; walk_at "ev")
  | ((with_reducible apply ev_not); walk_at "ev")
  | (apply EvL.fz; (focus walk_at "el"); walk_at "sd"))
local macro_rules | `(tactic| walk_at "et") => `(tactic| first
  | ((with_reducible apply et_test); walk_at "ev")
  | ((with_reducible apply et_B); walk_at "ev")
  | ((with_reducible apply et_and); (focus walk_at "et"); intro _; walk_at "et")
  | ((with_reducible apply et_or); (focus walk_at "et"); intro _; walk_at "et")
  | ((with_reducible apply et_not); walk_at "et"))
local macro_rules | `(tactic| walk_at "sh") => `(tactic| first
  | exact (sh_tup2 (sh_int _) (sh_int _)).shp (by decide) | exact (sh_pr _).shp (by decide) | exact (sh_prs _).shp (by decide) | exact (sh_st _).shp (by decide) | exact (sh_is _).shp (by decide) | exact (sh_ws _).shp (by decide) | exact (sh_rg _).shp (by decide) | exact (sh_rgs _).shp (by decide) | exact (sh_fm _).shp (by decide)
  | exact sh_nil.shp (by decide) | exact (sh_bls _).shp (by decide) | decide +kernel | skip)

/-- where the classes of errors stand -/
structure EAdr where
  FlockError : Addr
  BadFarm : Addr
  BadFlocks : Addr
  BadStand : Addr
  BadWish : Addr
  BadDeeds : Addr
  BadFlock : Addr
  BadPen : Addr
  BadGate : Addr
  CantGo : Addr
  NotSo : Addr
  NeverSo : Addr
/-- their facts -/
structure Ex (K : PySem.W.Frag) (mg : Str → Option Value) (B : EAdr) : Prop where
  FlockError : Ec K mg "FlockError" B.FlockError
  BadFarm : Ec K mg "BadFarm" B.BadFarm
  BadFlocks : Ec K mg "BadFlocks" B.BadFlocks
  BadStand : Ec K mg "BadStand" B.BadStand
  BadWish : Ec K mg "BadWish" B.BadWish
  BadDeeds : Ec K mg "BadDeeds" B.BadDeeds
  BadFlock : Ec K mg "BadFlock" B.BadFlock
  BadPen : Ec K mg "BadPen" B.BadPen
  BadGate : Ec K mg "BadGate" B.BadGate
  CantGo : Ec K mg "CantGo" B.CantGo
  NotSo : Ec K mg "NotSo" B.NotSo
  NeverSo : Ec K mg "NeverSo" B.NeverSo
  sNeverSo : PySem.W.subIn K (.ref B.NeverSo) (.ref B.FlockError) = some true
theorem Ec.exm {K : PySem.W.Frag} {mg : Str → Option Value} {x : Str} {C D : Addr} (F : Ec K mg x C) (h : PySem.W.subIn K (.ref D) (.ref C) = some true) : PySem.W.exmOne K (.ref D) (.ref C) = some true := PySem.W.exm_ref F.b F.e.hd F.t h
/-- a list of one's own is handed back -/
def postL (ds : List D) : Wd → Wd → V → Prop := fun W0 W v => ∃ p, v = .ref p ∧ OL W0 W p ds
theorem st_retA {W0 W : Wd} {Γ : List Sl} {N : List Sl → Wd → Prop} {R : Wd → V → Prop} {i : Nat} {l : Addr} {ds : List D} (hi : Γ[i]? = some (.acc l ds)) (hc : ds.length ≤ cap) (hR : OL W0 W l ds → R W (.ref l)) : ST W0 (tRet (tVar i)) Γ W N R := fun σ E D hn hr => by
  obtain ⟨o, h1, rfl, n0, n, xs, hx, r⟩ := E.ok i _ hi
  exact ⟨_, h1, hr _ W E.le (hR ⟨n, n0, ⟨xs, hx, r⟩, hc⟩)⟩
theorem ev_neP {K : PySem.W.Frag} {W0 W : Wd} {Γ : List Sl} {ta tb : TE} {a b : Int × Int} (ha : EvD W0 ta Γ W (dPr a)) (hb : EvD W0 tb Γ W (dPr b)) : EvD W0 (tOp (rNeD K) ta tb) Γ W (.bl (!decide (a = b))) := EvD.to (ev_neD (EvD.h ha) (EvD.h hb) ((sh_pr _).shp (by decide)) ((sh_pr _).shp (by decide))) (by rw [eqb_dec eqb_pr])
/-- whether the wish can come -/
def canBe (fm : Farm) (fl st : List Int) (w : List (Option Int)) : Bool := (ringsOf fm fl st).1.flatten.any (asWished · w)
def lessOf (fm : Farm) (g : Int × Int) : Farm := ⟨fm.rooms, fm.gates.filter fun h => !decide (h = g)⟩
def hangOf (fm : Farm) (fl st : List Int) (w : List (Option Int)) : List (Int × Int) := fm.gates.filter fun g => !canBe (lessOf fm g) fl st w
theorem std_less {fm : Farm} {fl t : List Int} {gs : List (Int × Int)} (h : Std fm fl t) : Std ⟨fm.rooms, gs⟩ fl t := ⟨h.len, h.rng, h.nd, h.rm⟩
section
variable {P : Program} {w : World} {K : PySem.W.Frag} {mg : Str → Option Value} {base : Heap} {B : EAdr}
abbrev s_can_be : Stmt := top 42
theorem sc_can_be : FnScope ["farm", "flocks", "stand", "wish", "one"] ["farm", "flocks", "stand", "wish"] (defScope s_can_be) := ⟨rfl, rfl, rfl, by decide +kernel, rfl, by decide +kernel, by decide +kernel⟩
abbrev s_hang_on : Stmt := top 43
theorem sc_hang_on : FnScope ["farm", "flocks", "stand", "wish", "found", "gate", "one", "less"] ["farm", "flocks", "stand", "wish"] (defScope s_hang_on) := ⟨rfl, rfl, rfl, by decide +kernel, rfl, by decide +kernel, by decide +kernel⟩
def gCanBe : List D → D → Prop := fun ds r => ∃ (fm : Farm) (fl st : List Int) (wi : List (Option Int)), ds = [dFm fm, dIs fl, dSt st, dWs wi] ∧ fm.rooms.length ≤ 6 ∧ fl.length ≤ 4 ∧ Std fm fl st ∧ r = .bl (canBe fm fl st wi)
theorem pl_ws (wi : List (Option Int)) : (dWs wi).pl = true := by
  unfold D.pl
  exact pls_map (fun o => by cases o <;> (unfold D.pl; rfl)) wi
theorem ok_can_be {f : Addr} {fd : FuncData} (F : Fun K "can_be" "can_be" s_can_be f fd) (T : Tp mg) (D_rings_of : Df P w K mg base 3 "rings_of" ["farm", "flocks", "stand"] (Pure gRingsOf)) (D_as_wished : Df P w K mg base 1 "as_wished" ["stand", "wish"] (Pure gAsWished)) : FnOk P w K mg base CX0 4 f fd ["farm", "flocks", "stand", "wish"] (Pure gCanBe) := by
  refine fn_pure F sc_can_be (fun ds r h => by obtain ⟨_, _, _, _, rfl, _⟩ := h; rfl) (fun cdv A2 outer s H E hr ds r hg => ?_)
  obtain ⟨fm, fl, st, wi, rfl, hr6, hf4, hs, rfl⟩ := hg
  refine ⟨_, (pss_one (ps_ret (pe_callB (kx_cr_any K rfl) (by rfl) T.n_any b_any (pa_cons (pe_un (pe_lc (own := [("one", 4)]) rfl sc_can_be.nd (pi_keys (pe_frz (pe_ix (kx_ix_tup K) (pe_df D_rings_of (hr.mono (by decide)) (by rfl) (pa_cons (pv 0) (pa_cons (pv 1) (pa_cons (pv 2) pa_nil)))) pe_int (fun _ _ => rfl)))) (blkOk_by (own := [("one", 4)]) (N := ["farm", "flocks", "stand", "wish", "one"]) (sc := defScope s_can_be) (by decide +kernel)) (fun _ _ _ _ _ => (pg_n 4 sc_can_be.nd)) (fun _ _ _ _ _ => pts_nil) (fun _ _ _ _ _ => (pe_df D_as_wished (hr.mono (by decide)) (by rfl) (pa_cons (pv 4) (pa_cons (pv 3) pa_nil)))))) pa_nil)))), fun W0 => ?_⟩
  obtain ⟨hF, _⟩ := rings_fac hr6 hf4 hs
  have hlen := hF.inv.len hr6 hf4
  have hcl : (dCame (ringsOf fm fl st).2).length ≤ 1296 := by
    unfold dCame
    rw [List.length_map]
    exact hlen.1
  have hq : ∀ q ∈ dCame (ringsOf fm fl st).2, q.1.length = fl.length := fun q hq => by
    unfold dCame at hq
    obtain ⟨q', hq', rfl⟩ := List.mem_map.mp hq
    exact (hF.inv.st q'.1 (List.mem_map.mpr ⟨q', hq', rfl⟩)).len
  refine st_ret (EvD.to (ev_anyM (as := (ringsOf fm fl st).1.flatten) (p := fun t => asWished t wi) (EvD.h (EvL.fz (EvL.to (el_keysQ (j := 4) (ks := dCame (ringsOf fm fl st).2) (p := fun _ => true) (e := fun t => .bl (asWished t wi)) (Γ1 := [.no, .no, .no, .dat (dWs wi), .no]) (ev_ixT (ev_call (ea_cons (ev_var rfl) (ea_cons (ev_var rfl) (ea_cons (ev_var rfl) ea_nil))) ⟨fm, fl, st, rfl, ⟨hr6, hf4, hs.len⟩, hs, rfl⟩) ev_int at1) (wk_drop (wk_drop (wk_drop (wk_cons (wk_drop wk_nil))))) ?_ (by show _ ≤ 100000; omega) (fun q hq' => by have := hq q hq'; show _ ≤ 100000; omega) (fun _ => rfl) (fun Wz q hq' Wy ly => ⟨et_yes, fun _ => ev_call (ea_cons (ev_var rfl) (ea_cons (ev_var rfl) ea_nil)) ⟨q.1, wi, rfl, by have := hq q hq'; omega, rfl⟩⟩)) ?_) ?_))) rfl) rfl
  · intro s hs
    simp only [List.mem_cons, List.not_mem_nil, or_false] at hs
    rcases hs with rfl | rfl | rfl | rfl | rfl
    all_goals first | rfl | exact pl_ws wi
  · have e1 : (dCame (ringsOf fm fl st).2).filter (fun _ => true) = dCame (ringsOf fm fl st).2 := by simp
    rw [e1, ← hF.inv.ks]
    unfold dCame
    rw [List.map_map, List.map_map]
    rfl
  · rw [List.length_map, ← hF.inv.ks, List.length_map]
    show _ ≤ 100000
    omega
def gHangOn (B : EAdr) : List D → (Wd → Wd → V → Prop) ⊕ Addr → Prop := fun ds o => ∃ (fm : Farm) (fl st : List Int) (wi : List (Option Int)), ds = [dFm fm, dIs fl, dSt st, dWs wi] ∧ Fok fm ∧ Lok fl ∧ Std fm fl st ∧ Wok fm fl wi ∧ o = if canBe fm fl st wi then .inl (postL ((hangOf fm fl st wi).map dPr)) else .inr B.NeverSo
theorem ok_hang_on {f : Addr} {fd : FuncData} (F : Fun K "hang_on" "hang_on" s_hang_on f fd) (T : Tp mg) (XC : Ex K mg B) (D_asked_stand : Df P w K mg base 4 "asked_stand" ["farm", "flocks", "stand"] (Pure gAskedStand)) (D_asked_wish : Df P w K mg base 2 "asked_wish" ["farm", "flocks", "wish"] (Pure gAskedWish))
    (D_can_be : Df P w K mg base 4 "can_be" ["farm", "flocks", "stand", "wish"] (Pure gCanBe)) : FnOk P w K mg base (L2.CX P w) 5 f fd ["farm", "flocks", "stand", "wish"] (PrmX (gHangOn B)) := by
  refine fn_prmX F sc_hang_on (fun ds r h => by obtain ⟨_, _, _, _, rfl, _⟩ := h; rfl) (fun cdv A2 outer s H E hr ds o hg => ?_)
  obtain ⟨fm, fl, st, wi, rfl, hf, hl, hs, hw, rfl⟩ := hg
  refine ⟨_, (pss_cons (ps_expr (pe_df D_asked_stand (hr.mono (by decide)) (by rfl) (pa_cons (pv 0) (pa_cons (pv 1) (pa_cons (pv 2) pa_nil)))))
  (pss_cons (ps_expr (pe_df D_asked_wish (hr.mono (by decide)) (by rfl) (pa_cons (pv 0) (pa_cons (pv 1) (pa_cons (pv 3) pa_nil)))))
  (pss_cons (ps_if (pt_not (pt_val (pe_df D_can_be (hr.mono (by decide)) (by rfl) (pa_cons (pv 0) (pa_cons (pv 1) (pa_cons (pv 2) (pa_cons (pv 3) pa_nil))))))) (pss_one (ps_raise rfl (takes_of rfl rfl rfl rfl) (pmk_own PySem.F.excBase_ValueError XC.NeverSo.x XC.NeverSo.g XC.NeverSo.k (raises_own XC.NeverSo.b XC.NeverSo.t) rfl))) pss_nil)
  (pss_cons (ps_sv 4 sc_hang_on.nd (pe_lst pa_nil))
  (pss_cons (ps_for (passes_of rfl) rfl (pi_list (pe_ix (kx_ix_tup K) (pv 0) pe_int (fun _ _ => rfl))) (pg_n 5 sc_hang_on.nd) (pss_cons (ps_sv 7 sc_hang_on.nd (pe_tup (pa_cons (pe_ix (kx_ix_tup K) (pv 0) pe_int (fun _ _ => rfl)) (pa_cons (pe_lc (own := [("one", 6)]) rfl sc_hang_on.nd (pi_list (pe_ix (kx_ix_tup K) (pv 0) pe_int (fun _ _ => rfl))) (blkOk_by (own := [("one", 6)]) (N := ["farm", "flocks", "stand", "wish", "found", "gate", "one", "less"]) (sc := defScope s_hang_on) (by decide +kernel)) (fun _ _ _ _ _ => (pg_n 6 sc_hang_on.nd)) (fun _ _ _ _ _ => (pts_one (pt_cmpR (kx_op_neD K hr.units) (pv 6) (pv 5) (nomark _)))) (fun _ _ _ _ _ => (pv 6))) pa_nil))))
  (pss_one (ps_if (pt_not (pt_val (pe_df D_can_be (hr.mono (by decide)) (by rfl) (pa_cons (pv 7) (pa_cons (pv 1) (pa_cons (pv 2) (pa_cons (pv 3) pa_nil))))))) (pss_one (ps_expr (pe_bm PySem.F.plainAttrs_list PySem.F.slot_list_append PySem.F.type_list_append mt_append (pv 4) (pa_cons (pv 5) pa_nil)))) pss_nil))))
  (pss_one (ps_ret (pv 4)))))))), fun W0 hE => ?_⟩
  have hr6 := hf.1.2
  have hf4 := hl.1.2
  have hgl : fm.gates.length ≤ 100 := hf.2.2.2.2
  refine st_seq (st_drop (ev_call (ea_cons (ev_var rfl) (ea_cons (ev_var rfl) (ea_cons (ev_var rfl) ea_nil))) ⟨fm, fl, st, rfl, hf, hl, hs, rfl⟩) (fun W1 l1 => ?_))
  refine st_seq (st_drop (ev_call (ea_cons (ev_var rfl) (ea_cons (ev_var rfl) (ea_cons (ev_var rfl) ea_nil))) ⟨fm, fl, wi, rfl, hf, hl, hw, rfl⟩) (fun W1 l1 => ?_))
  refine st_seq (st_when (et_not (et_test (ev_call (ea_cons (ev_var rfl) (ea_cons (ev_var rfl) (ea_cons (ev_var rfl) (ea_cons (ev_var rfl) ea_nil)))) ⟨fm, fl, st, wi, rfl, hr6, hf4, hs, rfl⟩))) (fun hb W2 l2 => st_raise (hE B.NeverSo (by rw [if_neg]; simpa using hb))) (fun hb W2 l2 => ?_))
  have hc : canBe fm fl st wi = true := by simpa using hb
  rw [hc, if_pos rfl]
  refine st_seq (st_asgL (el_lst ea_nil (by decide)) (fun l W3 l3 => ?_))
  refine st_seq (st_fold fm.gates dPr (fun s => [.dat (dFm fm), .dat (dIs fl), .dat (dSt st), .dat (dWs wi), .acc l (s.map dPr), .no, .no, .no]) (fun s g => if canBe (lessOf fm g) fl st wi then s else s ++ [g]) [] (it_list (ev_ixT (ev_var rfl) ev_int at1)) (wk_refl _) ?_ ?_)
  · intro i s g W4 hi hsf l4
    have hsl : s.length ≤ 100 := by
      have key : ∀ (gs s0 : List (Int × Int)), (gs.foldl (fun s g => if canBe (lessOf fm g) fl st wi then s else s ++ [g]) s0).length ≤ s0.length + gs.length := by
        intro gs
        induction gs with
        | nil => intro s0; simp
        | cons g gs ih =>
          intro s0
          have := ih (if canBe (lessOf fm g) fl st wi then s0 else s0 ++ [g])
          rw [List.foldl_cons, List.length_cons]
          split at this
          · rename_i z
            rw [if_pos z]
            omega
          · rename_i z
            rw [if_neg z]
            rw [List.length_append] at this
            simp only [List.length_cons, List.length_nil] at this
            omega
      have := key (fm.gates.take i) []
      rw [← hsf, List.length_take] at this
      simp only [List.length_nil] at this
      omega
    refine ⟨_, _, tg_name, fun W5 l5 => ?_⟩
    have hfl : (fm.gates.filter fun h => !decide (h = g)).length ≤ 100 := Nat.le_trans (List.length_filter_le ..) hgl
    refine st_seq (st_asgD (d := dFm (lessOf fm g)) (ev_tup (ea_cons (ev_ixT (ev_var rfl) ev_int at0) (ea_cons (EvL.fz (el_lc fm.gates dPr (fun h => !decide (h = g)) dPr (it_list (ev_ixT (ev_var rfl) ev_int at1)) (by show _ ≤ 100000; omega) (fun h _ => ⟨_, _, fun _ h => h, tg_name, fun W6 l6 => ⟨et_test (ev_neP (ev_var rfl) (ev_var rfl)), fun _ => ev_var rfl⟩⟩)) (by rw [List.length_map]; exact Nat.le_trans hfl (by decide))) ea_nil)) (by show 2 ≤ 100000; omega)) (fun W6 l6 => ?_))
    refine st_when (et_not (et_test (ev_call (ea_cons (ev_var rfl) (ea_cons (ev_var rfl) (ea_cons (ev_var rfl) (ea_cons (ev_var rfl) ea_nil)))) ⟨lessOf fm g, fl, st, wi, rfl, hr6, hf4, std_less hs, rfl⟩))) (fun hb2 W7 l7 => ?_) (fun hb2 W7 l7 => ?_)
    · have h2 : canBe (lessOf fm g) fl st wi = false := by simpa using hb2
      rw [h2, if_neg Bool.false_ne_true]
      refine st_app (i := 4) rfl (ev_var rfl) (by rw [List.length_map]; show _ ≤ 100000; omega) (fun W8 l8 => ?_)
      show Wk _ [_, _, _, _, Sl.acc l (List.map dPr (s ++ [g])), _, _, _]
      rw [List.map_append]
      exact wk_cons (wk_cons (wk_cons (wk_cons (wk_cons (wk_drop (wk_cons (wk_drop wk_nil)))))))
    · have h2 : canBe (lessOf fm g) fl st wi = true := by simpa using hb2
      rw [h2, if_pos rfl]
      exact wk_cons (wk_cons (wk_cons (wk_cons (wk_cons (wk_drop (wk_cons (wk_drop wk_nil)))))))
  · intro Wn ln
    have key : ∀ (gs s0 : List (Int × Int)), gs.foldl (fun s g => if canBe (lessOf fm g) fl st wi then s else s ++ [g]) s0 = s0 ++ gs.filter fun g => !canBe (lessOf fm g) fl st wi := by
      intro gs
      induction gs with
      | nil => intro s0; simp
      | cons g gs ih =>
        intro s0
        rw [List.foldl_cons, ih, List.filter_cons]
        cases canBe (lessOf fm g) fl st wi <;> simp
    rw [key, List.nil_append]
    have hhl : (hangOf fm fl st wi).length ≤ 100 := Nat.le_trans (List.length_filter_le ..) hgl
    exact st_retA (i := 4) (ds := (hangOf fm fl st wi).map dPr) rfl (by rw [List.length_map]; show _ ≤ 100000; omega) (fun o => ⟨_, rfl, l, rfl, o⟩)
end
end Fg

set_option Elab.async false
set_option linter.all false
set_option maxRecDepth 100000
set_option maxHeartbeats 4000000
/-! More gates, greater rooms: no fewer stands. Rising gates. -/
namespace Fg
open PySem L2 RZ
/-- whatever can be done there can be done here -/
structure More (fm fm' : Farm) (fl fl' : List Int) : Prop where
  g : ∀ g ∈ fm.gates, g ∈ fm'.gates
  r : fm'.rooms.length = fm.rooms.length
  rm : ∀ p : Int, 0 ≤ p → p < fm.rooms.length → nth fm.rooms p ≤ nth fm'.rooms p
  f : fl'.length = fl.length
  fm : ∀ i : Int, 0 ≤ i → i < fl.length → nth fl' i ≤ nth fl i
theorem More.go {fm fm' : Farm} {fl fl' st : List Int} (h : More fm fm' fl fl') {f p : Int} (hc : canGo fm fl st f p = true) : canGo fm' fl' st f p = true := by
  obtain ⟨⟨h0, h1, h2, h3⟩, h4, h5, h6⟩ := canGo_all hc
  unfold canGo
  rw [if_neg]
  · exact decide_eq_true (h.g _ h6)
  · have e1 := h.r
    have e2 := h.f
    have e3 := h.rm p h2 h3
    have e4 := h.fm f h0 h1
    rw [decide_eq_true h0, decide_eq_true (by omega : f < (fl'.length : Int)), decide_eq_true h2, decide_eq_true (by omega : p < (fm'.rooms.length : Int)), decide_eq_false h4, decide_eq_false (by omega : ¬nth fm'.rooms p < nth fl' f)]
    exact Bool.false_ne_true
theorem deeds_mem {fm : Farm} {fl st : List Int} {d : Int × Int} : d ∈ deedsOf fm fl st ↔ canGo fm fl st d.1 d.2 = true := by
  refine ⟨mem_deedsOf, fun h => ?_⟩
  obtain ⟨h0, h1, h2, h3⟩ := canGo_rng h
  unfold deedsOf
  rw [List.mem_flatMap]
  refine ⟨d.1.toNat, List.mem_range.mpr (by omega), ?_⟩
  unfold deedsAt
  rw [List.mem_map]
  have e1 : ((d.1.toNat : Nat) : Int) = d.1 := by omega
  have e2 : ((d.2.toNat : Nat) : Int) = d.2 := by omega
  refine ⟨d.2.toNat, List.mem_filter.mpr ⟨List.mem_range.mpr (by omega), by rw [e1, e2]; exact h⟩, ?_⟩
  rw [e1, e2]
theorem More.pth {fm fm' : Farm} {fl fl' st : List Int} (h : More fm fm' fl fl') {n : Nat} {t : List Int} (p : Pth fm fl st n t) : Pth fm' fl' st n t := by
  induction p with
  | zero => exact .zero
  | succ p hd ih => exact .succ ih (deeds_mem.mpr (h.go (deeds_mem.mp hd)))
theorem can_mem {fm : Farm} {fl st : List Int} {w : List (Option Int)} (hr : fm.rooms.length ≤ 6) (hf : fl.length ≤ 4) (hs : Std fm fl st) : canBe fm fl st w = true ↔ ∃ n t, Pth fm fl st n t ∧ asWished t w = true := by
  unfold canBe
  rw [List.any_eq_true]
  constructor
  · rintro ⟨t, ht, hw⟩
    obtain ⟨n, p⟩ := (rings_mem hr hf hs t).mp ht
    exact ⟨n, t, p, hw⟩
  · rintro ⟨n, t, p, hw⟩
    exact ⟨t, (rings_mem hr hf hs t).mpr ⟨n, p⟩, hw⟩
theorem More.can {fm fm' : Farm} {fl fl' st : List Int} {w : List (Option Int)} (h : More fm fm' fl fl') (hr : fm.rooms.length ≤ 6) (hf : fl.length ≤ 4) (hs : Std fm fl st) (hs' : Std fm' fl' st) (hc : canBe fm fl st w = true) : canBe fm' fl' st w = true := by
  obtain ⟨n, t, p, hw⟩ := (can_mem hr hf hs).mp hc
  exact (can_mem (by rw [h.r]; exact hr) (by rw [h.f]; exact hf) hs').mpr ⟨n, t, h.pth p, hw⟩
theorem More.count {fm fm' : Farm} {fl fl' st : List Int} (h : More fm fm' fl fl') (hr : fm.rooms.length ≤ 6) (hf : fl.length ≤ 4) (hs : Std fm fl st) (hs' : Std fm' fl' st) : (ringsOf fm fl st).2.length ≤ (ringsOf fm' fl' st).2.length := by
  have hr' : fm'.rooms.length ≤ 6 := by rw [h.r]; exact hr
  have hf' : fl'.length ≤ 4 := by rw [h.f]; exact hf
  obtain ⟨hF, _⟩ := rings_fac hr hf hs
  obtain ⟨hF', _⟩ := rings_fac hr' hf' hs'
  have := nodup_le (xs := (ringsOf fm fl st).2.map (·.1)) (ys := (ringsOf fm' fl' st).2.map (·.1)) hF.inv.nd (fun t ht => by
    rw [hF.inv.ks] at ht
    rw [hF'.inv.ks]
    obtain ⟨n, p⟩ := (rings_mem hr hf hs t).mp ht
    exact (rings_mem hr' hf' hs' t).mpr ⟨n, h.pth p⟩)
  rwa [List.length_map, List.length_map] at this
/-- by the walk of the law -/
theorem far_can {fm : Farm} {fl st : List Int} {w : List (Option Int)} {m : Met} (hm : FarSpec fm fl st m) (hr : fm.rooms.length ≤ 6) (hf : fl.length ≤ 4) (hs : Std fm fl st) : m.any (fun q => asWished q.1 w) = canBe fm fl st w := by
  rw [Bool.eq_iff_iff, can_mem hr hf hs, List.any_eq_true]
  constructor
  · rintro ⟨q, hq, hw⟩
    obtain ⟨n, p⟩ := (hm.mem q.1).mp (List.mem_map.mpr ⟨q, hq, rfl⟩)
    exact ⟨n, q.1, p, hw⟩
  · rintro ⟨n, t, p, hw⟩
    obtain ⟨q, hq, rfl⟩ := List.mem_map.mp ((hm.mem t).mpr ⟨n, p⟩)
    exact ⟨q, hq, hw⟩
/-! rising gates -/
theorem lt_tr {a b c : Int × Int} (h1 : ltP a b = true) (h2 : ltP b c = true) : ltP a c = true := by
  unfold ltP at *
  cases e : HT.lexLt [a.1, a.2] [c.1, c.2] with
  | true => rfl
  | false =>
    have h3 := lex_asym _ _ h1
    have h4 := lex_asym _ _ h2
    have h5 := lex_le_tr _ _ _ h3 h4
    have h6 := lex_anti _ _ e h5
    simp only [List.cons.injEq, and_true] at h6
    rw [h6.1, h6.2] at h1
    rw [h4] at h1
    exact h1
theorem lt_ne {a : Int × Int} : ltP a a = false := by
  unfold ltP
  cases e : HT.lexLt [a.1, a.2] [a.1, a.2] with
  | false => rfl
  | true =>
    have := lex_asym _ _ e
    rw [e] at this
    exact this
theorem rise_pair {gs : List (Int × Int)} (h : ∀ i, i + 1 < gs.length → ltP (gs.getD i (0, 0)) (gs.getD (i + 1) (0, 0)) = true) : gs.Pairwise fun a b => ltP a b = true := by
  induction gs with
  | nil => exact .nil
  | cons g gs ih =>
    have hih := ih fun i hi => by
      have := h (i + 1) (by rw [List.length_cons]; omega)
      simpa using this
    refine .cons (fun b hb => ?_) hih
    cases gs with
    | nil => cases hb
    | cons g2 gs =>
      have h0 := h 0 (by simp)
      have h0 : ltP g g2 = true := by simpa using h0
      rcases List.mem_cons.mp hb with rfl | hb
      · exact h0
      · cases hih with
        | cons h1 _ => exact lt_tr h0 (h1 b hb)
theorem pair_rise {gs : List (Int × Int)} (h : gs.Pairwise fun a b => ltP a b = true) : ∀ i, i + 1 < gs.length → ltP (gs.getD i (0, 0)) (gs.getD (i + 1) (0, 0)) = true := by
  intro i hi
  rw [List.getD_eq_getElem?_getD, List.getD_eq_getElem?_getD, List.getElem?_eq_getElem (by omega), List.getElem?_eq_getElem hi]
  exact List.pairwise_iff_getElem.mp h i (i + 1) (by omega) hi (by omega)
theorem rise_nodup {gs : List (Int × Int)} (h : gs.Pairwise fun a b => ltP a b = true) : gs.Nodup := by
  rw [List.nodup_iff_pairwise_ne]
  exact h.imp fun {a b} hab e => by
    rw [e, lt_ne] at hab
    cases hab
theorem GatesOk.pw {n : Nat} {gs : List (Int × Int)} (h : GatesOk n gs) : gs.Pairwise fun a b => ltP a b = true := rise_pair h.2.1
theorem GatesOk.nd {n : Nat} {gs : List (Int × Int)} (h : GatesOk n gs) : gs.Nodup := rise_nodup h.pw
theorem GatesOk.sub {n : Nat} {gs hs : List (Int × Int)} (h : GatesOk n gs) (s : hs.Sublist gs) : GatesOk n hs := ⟨fun g hg => h.1 g (s.mem hg), pair_rise (h.pw.sublist s), Nat.le_trans s.length_le h.2.2⟩
theorem GatesOk.gi {n : Nat} {gs : List (Int × Int)} (h : GatesOk n gs) : GI n gs := ⟨h.nd, h.1⟩
theorem GI.sorted {n : Nat} {gs : List (Int × Int)} (h : GI n gs) (hn : n ≤ 6) : GatesOk n (srtP gs) := by
  refine ⟨fun g hg => h.ok g ((srtP_perm gs).mem_iff.mp hg), rise_lt (h.up hn), ?_⟩
  rw [(srtP_perm gs).length_eq]
  have := h.len hn
  omega
theorem fok_of {fm : Farm} {gs : List (Int × Int)} (h : Fok fm) (hg : GatesOk fm.rooms.length gs) : Fok ⟨fm.rooms, gs⟩ := ⟨h.1, h.2.1, hg⟩
end Fg

set_option Elab.async false
set_option linter.all false
set_option maxRecDepth 100000
set_option maxHeartbeats 4000000
/-! What is one's own, frozen by its place; lists turned about; what a call hands back, one's own. -/
namespace Fg
open PySem L2 RZ
theorem RpL.reverse' {f : Hp} {vs : List V} {ds : List D} (r : RpL f vs ds) : RpL f vs.reverse ds.reverse := r.reverse
/-- a list of one's own, by its place, frozen there -/
noncomputable def Wd.fz1 (W : Wd) (p : Addr) (o : HO) (h : W.h p = some o) : Wd := W.fz p o h
theorem OL.oth {W0 W : Wd} {p p' : Addr} {ds : List D} (o : OL W0 W p ds) {x : HO} (hne : p' ≠ p) (n : W.f p' = none) {ho : ∀ xs, x ≠ .tup xs} : OL W0 (W.up p' x n ho) p ds := o.other (Ne.symm hne) n
theorem OL.cut {W W' : Wd} {p : Addr} {ds : List D} (l : W.all ≤ W') (o : OL W.all W' p ds) (ht : D.tpys ds = true) : OL W (W.cut W' l) p ds := by
  obtain ⟨xs, hx, r⟩ := o.h
  have n : W.h p = none := o.n
  refine ⟨?_, n, ⟨xs, hx, RpL.tpf (W := W.cut W' l) ht (show RpL W'.h xs ds from r.mono W'.ex)⟩, o.c⟩
  show (if W.h p = none then W'.f p else W.f p) = none
  rw [if_pos n]
  exact o.f
section
variable {K : PySem.W.Frag} {W0 W W' : Wd} {Γ Γ' : List Sl} {te t1 t2 : TE} {ta : TA} {d : D} {ds es : List D} {N : List Sl → Wd → Prop} {R : Wd → V → Prop} {ts : TS} {i j n : Nat} {g : List D → (Wd → Wd → V → Prop) ⊕ Addr → Prop} {F F1 F2 : Wd → Wd → V → Prop} {E : XK}
/-- all that is new since the def began is frozen: a name of one's own holds data -/
theorem st_fz1 {v : V} (hi : Γ[i]? = some (.val v)) (ha : ∀ s ∈ Γ, s.adr = none) (hr : ∀ W' : Wd, W'.h = W.h → Same W.f W'.f → (∀ a, W0.h a = none → W'.f a = W.h a) → Rp W'.f v d)
    (k : ∀ W' : Wd, W'.h = W.h → Same W.f W'.f → (∀ a, W0.h a = none → W'.f a = W.h a) → ST W0 ts (Γ.set i (.dat d)) W' N R) : ST W0 ts Γ W N R := fun σ E D hn hrr => by
  have fr := Wd.fzN_fr (W := W0) (W' := W)
  have en : ∀ a, W0.h a = none → (W0.fzN W).f a = W.h a := fun a n => Wd.fzN_new n
  have E2 : En W0 (W0.fzN W) σ Γ := ⟨Wd.le_fzN E.le, E.len, (fun j s ej => by
    obtain ⟨o, h1, h2⟩ := E.ok j s ej
    refine ⟨o, h1, ?_⟩
    have hs := ha s (List.mem_of_getElem? ej)
    cases s with
    | no => exact True.intro
    | val v => exact h2
    | dat d =>
      obtain ⟨v, e1, r1⟩ := h2
      exact ⟨v, e1, r1.mono fr⟩
    | acc a b => cases hs
    | dac a b => cases hs), E.ap⟩
  obtain ⟨o, h1, h2⟩ := E2.ok i _ hi
  have h2 : o = some v := h2
  subst h2
  have hσ : σ.set i (some v) = σ := by
    apply List.ext_getElem?
    intro m
    by_cases hm : i = m
    · subst hm
      rw [List.getElem?_set_self (List.getElem?_eq_some_iff.mp h1).1, h1]
    · rw [List.getElem?_set_ne hm]
  have E3 := E2.putD (i := i) (hr _ rfl fr en)
  rw [hσ] at E3
  exact k (W0.fzN W) rfl fr en σ E3 D (fun σ' W' Γ' l n E' => hn σ' W' Γ' (fr.trans l) n E') hrr
/-- one list of one's own frozen, by its place; the others stay one's own -/
theorem st_fzV {p : Addr} (hi : Γ[i]? = some (.val (.ref p))) (o : OL W0 W p ds) (ha : ∀ s ∈ Γ, s.adr = none) (k : ∀ W' : Wd, W'.h = W.h → Same W.f W'.f → (∀ q, q ≠ p → W'.f q = W.f q) → ST W0 ts (Γ.set i (.dat (.lst ds))) W' N R) : ST W0 ts Γ W N R := fun σ E D hn hrr => by
  obtain ⟨xs, hx, r⟩ := o.h
  have fr := Wd.fz_fr hx
  have E2 : En W0 (W.fz p _ hx) σ Γ := ⟨Wd.le_fz0 E.le o.n hx, E.len, (fun j s ej => by
    obtain ⟨o, h1, h2⟩ := E.ok j s ej
    refine ⟨o, h1, ?_⟩
    have hs := ha s (List.mem_of_getElem? ej)
    cases s with
    | no => exact True.intro
    | val v => exact h2
    | dat d =>
      obtain ⟨v, e1, r1⟩ := h2
      exact ⟨v, e1, r1.mono fr⟩
    | acc a b => cases hs
    | dac a b => cases hs), E.ap⟩
  obtain ⟨u, h1, h2⟩ := E2.ok i _ hi
  have h2 : u = some (.ref p) := h2
  subst h2
  have hσ : σ.set i (some (.ref p)) = σ := by
    apply List.ext_getElem?
    intro m
    by_cases hm : i = m
    · subst hm
      rw [List.getElem?_set_self (List.getElem?_eq_some_iff.mp h1).1, h1]
    · rw [List.getElem?_set_ne hm]
  have E3 := E2.putD (i := i) (v := .ref p) (d := .lst ds) (.lst upd_same o.c (r.mono fr))
  rw [hσ] at E3
  refine k (W.fz p _ hx) rfl fr (fun q hq => ?_) σ E3 D (fun σ' W' Γ' l n E' => hn σ' W' Γ' (fr.trans l) n E') hrr
  show upd W.f p _ q = _
  rw [upd_ne hq]
theorem OL.fzo {p : Addr} (o : OL W0 W p ds) (eh : W'.h = W.h) (fr : Same W.f W'.f) (hf : W'.f p = W.f p) : OL W0 W' p ds := by
  obtain ⟨xs, hx, r⟩ := o.h
  exact ⟨hf.trans o.f, o.n, ⟨xs, by rw [eh]; exact hx, r.mono fr⟩, o.c⟩
theorem OL.rpf {p : Addr} (o : OL W0 W p ds) (fr : Same W.f W'.f) (en : ∀ a, W0.h a = none → W'.f a = W.h a) : Rp W'.f (.ref p) (.lst ds) := by
  obtain ⟨xs, hx, r⟩ := o.h
  exact .lst (xs := xs) (by rw [en _ o.n]; exact hx) o.c (r.mono fr)
theorem st_revR {p : Addr} {xs : List V} (hr : EvRef W0 t1 Γ W p) (n : W.f p = none) (n0 : W0.h p = none) (hx : W.h p = some (.lst xs)) (ha : ∀ s ∈ Γ, s.adr ≠ some p)
    (q : N Γ (W.up p (.lst xs.reverse) n)) : ST W0 (tDrop (tBM0 K "list" rReverse t1)) Γ W N R := fun σ E D hn hrr =>
  hr W Wd.rfl σ E _ ⟨.inl ⟨rfl, xs, SqL.of hx⟩, p, xs, rfl, rfl, hx, hn σ (W.up p _ n) Γ (Same.refl _) q (E.upR ha n n0)⟩
/-- x = xs.pop() -/
theorem st_popV {p : Addr} {xs : List V} {v : V} (hr : EvRef W0 t1 Γ W p) (n : W.f p = none) (n0 : W0.h p = none) (hx : W.h p = some (.lst xs)) (hv : xs[xs.length - 1]? = some v) (rv : Rp W.f v d) (ha : ∀ s ∈ Γ, s.adr ≠ some p)
    (q : N (Γ.set i (.dat d)) (W.up p (.lst xs.dropLast) n)) : ST W0 (tAsg (tBM0 K "list" rPop t1) (gName i)) Γ W N R := fun σ E D hn hrr => by
  exact hr W Wd.rfl σ E _ ⟨.inl ⟨rfl, xs, SqL.of hx⟩, p, xs, v, rfl, rfl, hx, hv, hn _ (W.up p _ n) _ (Same.refl _) q ((E.upR ha n n0).putD rv)⟩
/-- a, b = e, f, both told by words -/
theorem st_tup2J (h1 : EvJ W0 t1 Γ W F1) (h2 : EvJ W0 t2 Γ W F2) (q : ∀ v u W1 W2 W3, W ≤ W1 → W1 ≤ W2 → W2 ≤ W3 → F1 W W1 v → F2 W1 W2 u → N ((Γ.set i (.val v)).set j (.val u)) W3) :
    ST W0 (tAsg (tTup (tCons t1 (tCons t2 tNil))) (gTup K 2 (gCons (gName i) (gCons (gName j) gNil)))) Γ W N R := fun σ E D hn hr =>
  h1 W Wd.rfl σ E _ fun v W1 l1 r1 => h2 W1 l1 σ (E.mono l1) _ fun u W2 l2 r2 => by
    refine ⟨(by show 2 ≤ sizeLine; decide), fun T hT => ?_⟩
    have l3 : W2 ≤ W2.nw T (.tup [v, u]) := Wd.le_nw hT
    have l123 := (l1.tr l2).tr l3
    refine ⟨T, [v, u], rfl, SqT.of upd_same, rfl, v, _, rfl, u, _, rfl, rfl, ?_⟩
    have E2 := (E.mono l123).put (i := i) (v := v) (s := .val v) rfl (fun l e => by cases e)
    exact hn _ _ _ l123.fr (q v u W1 W2 _ l1 l2 l3 r1 r2) (E2.put (i := j) (v := u) (s := .val u) rfl (fun l e => by cases e))
theorem st_dropJ (h : EvJ W0 te Γ W F) (k : ∀ v W1, W ≤ W1 → F W W1 v → N Γ W1) : ST W0 (tDrop te) Γ W N R := fun σ E D hn hr => h W Wd.rfl σ E _ fun v W2 l2 r => hn σ W2 Γ l2.fr (k v W2 l2 r) (E.mono l2)
/-- what is handed back is a list of one's own, of tuples -/
theorem ej_callXL (h : EvAH W0 ta Γ W ds) (hg : g ds (.inl (fun W1 W2 v => ∃ p, v = .ref p ∧ OL W1 W2 p es))) (ht : D.tpys es = true) : EvJ W0 (tCall (PrmX g) [] E ta) Γ W (fun W1 W2 v => ∃ p, v = .ref p ∧ OL W1 W2 p es) := fun W1 l1 σ En Q q => h W1 l1 σ En _ fun vs W2 l2 r => by
  refine ⟨W2.all, ds, _, rfl, ?_, hg, fun po' e v W' l' r' => ?_, fun C e => by cases e⟩
  · rw [List.append_nil]
    exact r
  · cases e
    obtain ⟨p, rfl, o⟩ := r'
    exact q (.ref p) (W2.cut W' l') (l2.tr (Wd.le_cut l')) ⟨p, rfl, (OL.cut l' o ht).base l2⟩
/-- the same, frozen at once -/
theorem ev_callXF (h : EvA W0 ta Γ W ds) (hg : g ds (.inl (fun W1 W2 v => ∃ p, v = .ref p ∧ OL W1 W2 p es))) : EvD W0 (tCall (PrmX g) [] E ta) Γ W (.lst es) :=
  (ep_callX h hg).fz fun W1 W2 v l p => by
    obtain ⟨q, rfl, o⟩ := p
    exact o.rpf Wd.fzN_fr fun a n => Wd.fzN_new n
/-- the suite of a clause, read -/
theorem st_exc {C : Addr} {ts' : Addr → TS} (hC : ExcC K C) (h : ST W0 (ts' C) Γ W N R) : ST W0 (fun En σ H => ∃ D, (Value.ref C) = .ref D ∧ (none : Option Addr) = none ∧ ExcC K D ∧ ts' D En σ H) Γ W N R := fun σ E En hn hr => ⟨C, rfl, rfl, hC, h σ E En hn hr⟩
end
end Fg

set_option Elab.async false
set_option linter.all false
set_option maxRecDepth 100000
set_option maxHeartbeats 4000000
namespace Fg
open PySem L2 RZ
local macro_rules | `(tactic| walk_at "bo") => `(tactic| simp only [Bool.or_eq_false_iff, Bool.or_eq_true, Bool.and_eq_true, Bool.not_eq_true', Bool.not_eq_false', Bool.not_eq_true, Bool.not_eq_false, decide_eq_true_eq, decide_eq_false_iff_not, Bool.true_eq_false, Bool.false_eq_true, Bool.and_eq_false_imp] at *)
local macro_rules | `(tactic| walk_at "sd") => `(tactic| first
  | assumption
  | exact rfl
  | omega
  | (refine at_ints ?_; first | omega | (walk_at "bo"; omega) | skip)
  | exact Nat.le_of_ble_eq_true rfl
  | (show _ ≤ cap; first | decide | omega | (simp only [List.length_map, List.length_append]; omega))
  | (walk_at "bo"; omega)
  | skip)
local macro_rules | `(tactic| walk_at "ea") => `(tactic| first
  | exact ea_nil
  | (apply ea_cons; (focus walk_at "ev"); walk_at "ea"))
local macro_rules | `(tactic| walk_at "eh") => `(tactic| first
  | exact ev_varA rfl (by first | assumption | omega | decide)
  | exact ev_varK rfl (by first | assumption | omega | decide)
  | (apply EvD.h; walk_at "ev"))
local macro_rules | `(tactic| walk_at "el") => `(tactic| first
  | ((with_reducible apply el_lst); (focus walk_at "ea"); walk_at "sd")
  | ((with_reducible apply el_cat); (focus walk_at "ev"); (focus walk_at "ev"); walk_at "sd")
  | ((with_reducible apply el_sl); (focus walk_at "ev"); (focus walk_at "eo"); (focus walk_at "eo"))
  | ((with_reducible apply el_list); walk_at "ev")
  | ((with_reducible apply el_listT); walk_at "ev")
  | ((with_reducible apply el_rev); walk_at "ev"))
local macro_rules | `(tactic| walk_at "eo") => `(tactic| first
  | exact eo_none
  | (apply eo_some; walk_at "ev"))
local macro_rules | `(tactic| walk_at "ev") => `(tactic| first
  | exact ev_int | exact ev_bl | exact ev_non | exact ev_str
  | exact ev_var rfl
  | ((with_reducible apply ev_add); (focus walk_at "ev"); walk_at "ev")
  | ((with_reducible apply ev_sub); (focus walk_at "ev"); walk_at "ev")
  | ((with_reducible apply ev_lt); (focus walk_at "ev"); walk_at "ev")
  | ((with_reducible apply ev_le); (focus walk_at "ev"); walk_at "ev")
  | ((with_reducible apply ev_gt); (focus walk_at "ev"); walk_at "ev")
  | ((with_reducible apply ev_ge); (focus walk_at "ev"); walk_at "ev")
  | ((with_reducible apply ev_eqI); (focus walk_at "ev"); (focus walk_at "ev"); done)
  | ((with_reducible apply ev_neI); (focus walk_at "ev"); (focus walk_at "ev"); done)
  | ((with_reducible apply ev_mulW); (focus walk_at "ev"); (focus walk_at "ev"); walk_at "sd")
  | ((with_reducible apply ev_fdiv); (focus walk_at "ev"); (focus walk_at "ev"); walk_at "sd")
  | ((with_reducible apply ev_mod); (focus walk_at "ev"); (focus walk_at "ev"); walk_at "sd")
  | ((with_reducible apply ev_neg); walk_at "ev")
  | ((with_reducible apply ev_ixT); (focus walk_at "ev"); (focus walk_at "ev"); walk_at "sd")
  | (with_reducible apply ev_ixA rfl ?_ ?_; (focus walk_at "ev"); walk_at "sd")
  | ((with_reducible apply ev_ixL); (focus walk_at "ev"); (focus walk_at "ev"); walk_at "sd")
  | (with_reducible apply ev_lenA rfl)
  | ((with_reducible apply ev_lenLM); walk_at "eh"; done)
  | ((with_reducible apply ev_lenTM); walk_at "eh"; done)
  | ((with_reducible apply ev_lenL); walk_at "eh")
  | ((with_reducible apply ev_lenT); walk_at "eh")
  | ((with_reducible apply ev_lenK); walk_at "eh")
  | ((with_reducible apply ev_isN); walk_at "eh")
  | ((with_reducible apply ev_notN); walk_at "eh")
  | ((with_reducible apply ev_inT); (focus walk_at "ev"); walk_at "ev")
  | ((with_reducible apply ev_inD); (focus walk_at "eh"); (focus walk_at "eh"); all_goals walk_at "sh")
  | ((with_reducible apply ev_notInD); (focus walk_at "eh"); (focus walk_at "eh"); all_goals walk_at "sh")
  | ((with_reducible apply ev_eqD); (focus walk_at "eh"); (focus walk_at "eh"); all_goals walk_at "sh")
  | ((with_reducible apply ev_neD); (focus walk_at "eh"); (focus walk_at "eh"); all_goals walk_at "sh")
  | ((with_reducible apply ev_all); walk_at "eh")
  | ((with_reducible apply ev_any); walk_at "eh")
  | ((with_reducible apply ev_sum); walk_at "eh")
  | ((with_reducible apply ev_lenSet); (focus walk_at "ev"); walk_at "sd")
  | ((with_reducible apply ev_isaI); (focus walk_at "eh"); walk_at "sd")
  | ((with_reducible apply ev_isaB); (focus walk_at "eh"); walk_at "sd")
  | ((with_reducible apply ev_isaL); (focus walk_at "eh"); walk_at "sd")
  | ((with_reducible apply ev_isaT); (focus walk_at "eh"); walk_at "sd")
  | ((with_reducible apply ev_tup); (focus walk_at "ea"); walk_at "sd")
  | ((with_reducible apply ev_catT); (focus walk_at "ev"); (focus walk_at "ev"); walk_at "sd")
  | ((with_reducible apply ev_slT); (focus walk_at "ev"); (focus walk_at "eo"); (focus walk_at "eo"))
  | ((with_reducible apply ev_max2); (focus walk_at "ev"); walk_at "ev")
  | ((with_reducible apply ev_min2); (focus walk_at "ev"); walk_at "ev")
  | ((with_reducible apply ev_abs); walk_at "ev")
  | ((with_reducible apply ev_chain); (focus walk_at "ev"); (focus walk_at "ev"); intro _; walk_at "ev")
  | ((with_reducible apply ev_and); (focus walk_at "ev"); intro _; walk_at "ev")
  | ((with_reducible apply ev_or); (focus walk_at "ev"); intro _; walk_at "ev")
  | ((with_reducible apply ev_not); walk_at "ev")
  | (apply EvL.fz; (focus walk_at "el"); walk_at "sd"))
local macro_rules | `(tactic| walk_at "et") => `(tactic| first
  | ((with_reducible apply et_test); walk_at "ev")
  | ((with_reducible apply et_B); walk_at "ev")
  | ((with_reducible apply et_and); (focus walk_at "et"); intro _; walk_at "et")
  | ((with_reducible apply et_or); (focus walk_at "et"); intro _; walk_at "et")
  | ((with_reducible apply et_not); walk_at "et"))
local macro_rules | `(tactic| walk_at "sh") => `(tactic| first
  | exact (sh_tup2 (sh_int _) (sh_int _)).shp (by decide) | exact (sh_pr _).shp (by decide) | exact (sh_prs _).shp (by decide) | exact (sh_st _).shp (by decide) | exact (sh_is _).shp (by decide) | exact (sh_ws _).shp (by decide) | exact (sh_rg _).shp (by decide) | exact (sh_rgs _).shp (by decide) | exact (sh_fm _).shp (by decide)
  | exact sh_nil.shp (by decide) | exact (sh_bls _).shp (by decide) | decide +kernel | skip)

theorem st_mid {W0 W : Wd} {Γ : List Sl} {ts tu : TS} {N : List Sl → Wd → Prop} {R : Wd → V → Prop} (M : List Sl → Wd → Prop) (h : ST W0 ts Γ W M R) (h2 : ∀ Γ' W', M Γ' W' → ST W0 tu Γ' W' N R) : ST W0 (tSeq ts tu) Γ W N R := st_seq (fun σ E D hn hr => h σ E D (fun σ' W' Γ' l n E' => hn σ' W' Γ' l (h2 Γ' W' n) E') hr)
/-! ### few stands in four pens -/
theorem allL_nd : ∀ n : Fin 5, ∀ f : Fin 5, ((allL n f).filter fun t => decide t.Nodup).length ≤ 24 := by decide +kernel
theorem flat24 {fm : Farm} {fl st : List Int} (hr : fm.rooms.length ≤ 4) (hf : fl.length ≤ 4) (hs : Std fm fl st) : (ringsOf fm fl st).1.flatten.length ≤ 24 := by
  obtain ⟨hF, _⟩ := rings_fac (by omega) hf hs
  have h1 := hF.inv.nd
  rw [hF.inv.ks] at h1
  have := nodup_le (ys := (allL fm.rooms.length fl.length).filter fun t => decide t.Nodup) h1 (fun t ht => by
    have h2 := hF.inv.st t (by rw [hF.inv.ks]; exact ht)
    exact List.mem_filter.mpr ⟨mem_allL _ _ t h2.len h2.rng, decide_eq_true h2.nd⟩)
  exact Nat.le_trans this (allL_nd ⟨_, by omega⟩ ⟨_, by omega⟩)
theorem ring_count {fm : Farm} {fl st : List Int} {c : Came} {rs : List (List (List Int))} (h : RFac fm fl st c rs) : ∀ (i : Nat) (r : List (List Int)) (k : List Int), rs[i]? = some r → k ∈ r → i + 1 ≤ (rs.take (i + 1)).flatten.length
  | 0, r, k, e, hk => by
    have : 0 < (rs.take 1).flatten.length := List.length_pos_of_mem (List.mem_flatten.mpr ⟨r, List.mem_of_getElem? (l := rs.take 1) (i := 0) (by rw [List.getElem?_take]; simpa using e), hk⟩)
    exact this
  | i + 1, r, k, e, hk => by
    obtain ⟨b, f, p, _, ⟨r', e', hb⟩, _⟩ := h.pr i r k e hk
    have ih := ring_count h i r' b e' hb
    rw [List.take_add_one, e, List.flatten_append, List.length_append]
    have := List.length_pos_of_mem hk
    show _ ≤ _ + (r ++ []).length
    rw [List.append_nil]
    omega
theorem flat_take (rs : List (List (List Int))) (n : Nat) : (rs.take n).flatten.length ≤ rs.flatten.length := by
  conv => rhs; rw [← List.take_append_drop n rs]
  rw [List.flatten_append, List.length_append]
  omega
theorem led24 {fm : Farm} {fl st : List Int} {w : List (Option Int)} (hr : fm.rooms.length ≤ 4) (hf : fl.length ≤ 4) (hs : Std fm fl st) {de : List (Int × Int)} {rs : List (List (List Int))} (e : ledOf fm fl st w = .inl (de, rs)) : de.length ≤ 24 := by
  obtain ⟨i, h, L⟩ := led_inl (by omega) hf hs e
  obtain ⟨hF, _⟩ := rings_fac (by omega) hf hs
  obtain ⟨r, h1, h2⟩ := L.hm
  have := ring_count hF i r h h1 h2
  have := flat_take (ringsOf fm fl st).1 (i + 1)
  have := flat24 hr hf hs
  rw [L.dl]
  omega
theorem led_canBe {fm : Farm} {fl st : List Int} {w : List (Option Int)} (hr : fm.rooms.length ≤ 6) (hf : fl.length ≤ 4) (hs : Std fm fl st) {de : List (Int × Int)} {rs : List (List (List Int))} (e : ledOf fm fl st w = .inl (de, rs)) : canBe fm fl st w = true := by
  obtain ⟨i, h, L⟩ := led_inl hr hf hs e
  obtain ⟨r, h1, h2⟩ := L.hm
  exact List.any_eq_true.mpr ⟨h, List.mem_flatten.mpr ⟨r, List.mem_of_getElem? h1, h2⟩, L.hw⟩
/-! ### plain things -/
mutual
/-- whole numbers, texts, None, lists and tuples of such, so deep at most -/
def plD : Nat → D → Bool
  | _, .int _ => true
  | n + 1, .lst ds => plDs n ds && decide (ds.length ≤ 100000)
  | n + 1, .tup ds => plDs n ds && decide (ds.length ≤ 100000)
  | _, _ => false
def plDs : Nat → List D → Bool
  | _, [] => true
  | n, d :: ds => plD n d && plDs n ds
end
theorem plDs_iff {n : Nat} : ∀ {ds : List D}, plDs n ds = true ↔ ∀ d ∈ ds, plD n d = true
  | [] => by simp [plDs]
  | d :: ds => by
    unfold plDs
    rw [Bool.and_eq_true, plDs_iff (ds := ds)]
    simp
theorem plq_up : ∀ (n : Nat) (d : D), plD n d = true → plD (n + 1) d = true
  | n, .int _, _ => by unfold plD; rfl
  | n, .non, h => by unfold plD at h; cases h
  | n, .str _, h => by unfold plD at h; cases h
  | 0, .lst ds, h => by unfold plD at h; cases h
  | 0, .tup ds, h => by unfold plD at h; cases h
  | n + 1, .lst ds, h => by
    unfold plD at h ⊢
    rw [Bool.and_eq_true] at h ⊢
    exact ⟨plDs_iff.mpr fun d hd => plq_up n d (plDs_iff.mp h.1 d hd), h.2⟩
  | n + 1, .tup ds, h => by
    unfold plD at h ⊢
    rw [Bool.and_eq_true] at h ⊢
    exact ⟨plDs_iff.mpr fun d hd => plq_up n d (plDs_iff.mp h.1 d hd), h.2⟩
  | n, .bl _, h => by unfold plD at h; cases h
  | n, .dct _, h => by unfold plD at h; cases h
  | n, .obj _ _, h => by unfold plD at h; cases h
  | n, .fl _ _, h => by unfold plD at h; cases h
theorem plq_int (n : Nat) (i : Int) : plD n (.int i) = true := by unfold plD; rfl
theorem plq_lst {n : Nat} {ds : List D} (h : ∀ d ∈ ds, plD n d = true) (hl : ds.length ≤ 100000) : plD (n + 1) (.lst ds) = true := by
  unfold plD
  rw [Bool.and_eq_true]
  exact ⟨plDs_iff.mpr h, decide_eq_true hl⟩
theorem plq_tup {n : Nat} {ds : List D} (h : ∀ d ∈ ds, plD n d = true) (hl : ds.length ≤ 100000) : plD (n + 1) (.tup ds) = true := by
  unfold plD
  rw [Bool.and_eq_true]
  exact ⟨plDs_iff.mpr h, decide_eq_true hl⟩
theorem plq_pr (p : Int × Int) : plD 1 (dPr p) = true := plq_tup (fun d hd => by
  simp only [List.mem_cons, List.not_mem_nil, or_false] at hd
  rcases hd with rfl | rfl <;> exact plq_int _ _) (by show 2 ≤ 100000; omega)
theorem plq_st {t : List Int} (h : t.length ≤ 1000) : plD 1 (dSt t) = true := plq_tup (fun d hd => by
  obtain ⟨x, _, rfl⟩ := List.mem_map.mp hd
  exact plq_int _ _) (by rw [List.length_map]; omega)
theorem plq_prs {gs : List (Int × Int)} (h : gs.length ≤ 1000) : plD 2 (dPrs gs) = true := plq_lst (fun d hd => by
  obtain ⟨x, _, rfl⟩ := List.mem_map.mp hd
  exact plq_pr x) (by rw [List.length_map]; omega)
theorem plq_rg {ss : List (List Int)} (h : ss.length ≤ 4000) (h2 : ∀ t ∈ ss, t.length ≤ 1000) : plD 2 (dRg ss) = true := plq_lst (fun d hd => by
  obtain ⟨x, hx, rfl⟩ := List.mem_map.mp hd
  exact plq_st (h2 x hx)) (by rw [List.length_map]; omega)
theorem plq_rgs {rs : List (List (List Int))} (h : rs.length ≤ 4000) (h2 : ∀ r ∈ rs, r.length ≤ 4000 ∧ ∀ t ∈ r, t.length ≤ 1000) : plD 3 (dRgs rs) = true := plq_lst (fun d hd => by
  obtain ⟨x, hx, rfl⟩ := List.mem_map.mp hd
  exact plq_rg (h2 x hx).1 (h2 x hx).2) (by rw [List.length_map]; omega)
section
variable {P : Program} {w : World} {K : PySem.W.Frag} {mg : Str → Option Value} {base : Heap} {A : Adr} {B : EAdr}
abbrev s__law_plain : Stmt := top 51
theorem sc__law_plain : FnScope ["_law_thing", "_law_one"] ["_law_thing"] (defScope s__law_plain) := ⟨rfl, rfl, rfl, by decide +kernel, rfl, by decide +kernel, by decide +kernel⟩
abbrev s__law_truths : Stmt := top 52
theorem sc__law_truths : FnScope ["_law_things", "_law_one"] ["_law_things"] (defScope s__law_truths) := ⟨rfl, rfl, rfl, by decide +kernel, rfl, by decide +kernel, by decide +kernel⟩
abbrev s__law_told_right : Stmt := top 53
theorem sc__law_told_right : FnScope ["_law_farm_here", "_law_flocks", "_law_stand", "_law_wish", "_law_answer", "_law_found", "_law_deeds", "_law_row", "_law_shown", "_law_one"] ["_law_farm_here", "_law_flocks", "_law_stand", "_law_wish"] (defScope s__law_told_right) := ⟨rfl, rfl, rfl, by decide +kernel, rfl, by decide +kernel, by decide +kernel⟩
theorem ev_isaS {W0 W : Wd} {Γ : List Sl} {te : TE} {i : Int} (ha : EvD W0 te Γ W (.int i)) : EvD W0 (tCB (rIsi K) (tCons te (tCons (tC (.ty "str")) tNil))) Γ W (.bl false) := ev_isi (EvD.h ha) (.ty _) True.intro (kit_ty (by decide +kernel : kitB "int" "str" = some false))
def gPlain (n : Nat) : List D → D → Prop := fun ds r => ∃ d, ds = [d] ∧ plD n d = true ∧ r = .bl true
theorem ok_law_plain {f : Addr} {fd : FuncData} (F : Fun K "_law_plain" "_law_plain" s__law_plain f fd) (T : Tp mg) (hm : mg "_law_plain" = some (.ref f)) (hk : PySem.W.keepIn K (.ref f) = true) (hb : Binds K fd ["_law_thing"] []) : ∀ n : Nat, FnOk P w K mg base CX0 (n + 1) f fd ["_law_thing"] (Pure (gPlain n))
  | 0 => by
    refine fn_pure F sc__law_plain (fun ds r h => by obtain ⟨_, rfl, _⟩ := h; rfl) (fun cdv A2 outer s H E hr ds r hg => ?_)
    obtain ⟨d, rfl, hp, rfl⟩ := hg
    cases d with
    | int i =>
      refine ⟨_, (pss_cons (ps_if (PW.pt (pw_or (pt_val (pe_callB (kx_call_isi K) (by rfl) T.n_isinstance b_isinstance (pa_cons (pv 0) (pa_cons (pe_bltn (v := .ty "list") (by rfl) T.n_list b_list rfl) pa_nil)))) (pw_or1 (pt_val (pe_callB (kx_call_isi K) (by rfl) T.n_isinstance b_isinstance (pa_cons (pv 0) (pa_cons (pe_bltn (v := .ty "tuple") (by rfl) T.n_tuple b_tuple rfl) pa_nil))))))) (pss_one ps_never) pss_nil)
  (pss_one (ps_ret (pe_or (pe_cmpR o_isN (pv 0) pe_non (nomark _)) (pe_or (pe_callB (kx_call_isi K) (by rfl) T.n_isinstance b_isinstance (pa_cons (pv 0) (pa_cons (pe_bltn (v := .ty "str") (by rfl) T.n_str b_str rfl) pa_nil))) (pe_one (pe_and (pe_callB (kx_call_isi K) (by rfl) T.n_isinstance b_isinstance (pa_cons (pv 0) (pa_cons (pe_bltn (v := .ty "int") (by rfl) T.n_int b_int rfl) pa_nil))) (pe_one (pe_not (pe_callB (kx_call_isi K) (by rfl) T.n_isinstance b_isinstance (pa_cons (pv 0) (pa_cons (pe_bltn (v := .ty "bool") (by rfl) T.n_bool b_bool rfl) pa_nil)))))))))))), fun W0 => ?_⟩
      refine st_seq (st_pass (EvT.to (et_or (et_test (ev_isaL (EvD.h (ev_var rfl)) rfl)) (fun _ => et_test (ev_isaT (EvD.h (ev_var rfl)) rfl))) rfl) (fun W1 l1 => ?_))
      exact st_ret (EvD.to (ev_or (ev_isN (EvD.h (ev_var (d := .int i) rfl))) (fun _ => ev_or (ev_isaS (ev_var (d := .int i) rfl)) (fun _ => ev_and (ev_isaI (EvD.h (ev_var (d := .int i) rfl)) rfl) (fun _ => ev_not (ev_isaB (EvD.h (ev_var (d := .int i) rfl)) rfl))))) rfl) rfl
    | _ => unfold plD at hp; cases hp
  | n + 1 => by
    have D__law_plain : Df P w K mg base (n + 1) "_law_plain" ["_law_thing"] (Pure (gPlain n)) := ⟨f, fd, hm, hk, hb, ok_law_plain F T hm hk hb n⟩
    refine fn_pure F sc__law_plain (fun ds r h => by obtain ⟨_, rfl, _⟩ := h; rfl) (fun cdv A2 outer s H E hr ds r hg => ?_)
    obtain ⟨d, rfl, hp, rfl⟩ := hg
    cases d with
    | lst es =>
      unfold plD at hp
      obtain ⟨h1, h2⟩ := Bool.and_eq_true_iff.mp hp
      have h2 := of_decide_eq_true h2
      refine ⟨_, (pss_cons (ps_if (PW.pt (pw_or (pt_val (pe_callB (kx_call_isi K) (by rfl) T.n_isinstance b_isinstance (pa_cons (pv 0) (pa_cons (pe_bltn (v := .ty "list") (by rfl) T.n_list b_list rfl) pa_nil)))) (pw_or1 (pt_val (pe_callB (kx_call_isi K) (by rfl) T.n_isinstance b_isinstance (pa_cons (pv 0) (pa_cons (pe_bltn (v := .ty "tuple") (by rfl) T.n_tuple b_tuple rfl) pa_nil))))))) (pss_one (ps_ret (pe_callB (kx_cr_all K rfl) (by rfl) T.n_all b_all (pa_cons (pe_lc (own := [("_law_one", 1)]) rfl sc__law_plain.nd (pi_list (pv 0)) (blkOk_by (own := [("_law_one", 1)]) (N := ["_law_thing", "_law_one"]) (sc := defScope s__law_plain) (by decide +kernel)) (fun _ _ _ _ _ => (pg_n 1 sc__law_plain.nd)) (fun _ _ _ _ _ => pts_nil) (fun _ _ _ _ _ => (pe_df D__law_plain (hr.mono (Nat.le_refl _)) (by rfl) (pa_cons (pv 1) pa_nil)))) pa_nil)))) pss_nil)
  (pss_one (ps_ret (pe_or (pe_cmpR o_isN (pv 0) pe_non (nomark _)) (pe_or (pe_callB (kx_call_isi K) (by rfl) T.n_isinstance b_isinstance (pa_cons (pv 0) (pa_cons (pe_bltn (v := .ty "str") (by rfl) T.n_str b_str rfl) pa_nil))) (pe_one (pe_and (pe_callB (kx_call_isi K) (by rfl) T.n_isinstance b_isinstance (pa_cons (pv 0) (pa_cons (pe_bltn (v := .ty "int") (by rfl) T.n_int b_int rfl) pa_nil))) (pe_one (pe_not (pe_callB (kx_call_isi K) (by rfl) T.n_isinstance b_isinstance (pa_cons (pv 0) (pa_cons (pe_bltn (v := .ty "bool") (by rfl) T.n_bool b_bool rfl) pa_nil)))))))))))), fun W0 => ?_⟩
      refine st_seq (st_when (b := true) (EvT.to (et_or (b := true) (et_test (ev_isaL (EvD.h (ev_var rfl)) rfl)) (fun z => by cases z)) rfl) (fun _ W1 l1 => ?_) (fun z => by cases z))
      refine st_ret (EvD.to (ev_allA es id (fun _ => true) (ItD.to (it_list (ev_var rfl)) (by rw [List.map_id])) h2 (fun e he => ⟨_, _, fun _ h => h, tg_name, fun W2 l2 => ev_call (ea_cons (ev_var rfl) ea_nil) ⟨e, rfl, plDs_iff.mp h1 e he, rfl⟩⟩)) ?_) rfl
      simp
    | tup es =>
      unfold plD at hp
      obtain ⟨h1, h2⟩ := Bool.and_eq_true_iff.mp hp
      have h2 := of_decide_eq_true h2
      refine ⟨_, (pss_cons (ps_if (PW.pt (pw_or (pt_val (pe_callB (kx_call_isi K) (by rfl) T.n_isinstance b_isinstance (pa_cons (pv 0) (pa_cons (pe_bltn (v := .ty "list") (by rfl) T.n_list b_list rfl) pa_nil)))) (pw_or1 (pt_val (pe_callB (kx_call_isi K) (by rfl) T.n_isinstance b_isinstance (pa_cons (pv 0) (pa_cons (pe_bltn (v := .ty "tuple") (by rfl) T.n_tuple b_tuple rfl) pa_nil))))))) (pss_one (ps_ret (pe_callB (kx_cr_all K rfl) (by rfl) T.n_all b_all (pa_cons (pe_lc (own := [("_law_one", 1)]) rfl sc__law_plain.nd (pi_tup (pv 0)) (blkOk_by (own := [("_law_one", 1)]) (N := ["_law_thing", "_law_one"]) (sc := defScope s__law_plain) (by decide +kernel)) (fun _ _ _ _ _ => (pg_n 1 sc__law_plain.nd)) (fun _ _ _ _ _ => pts_nil) (fun _ _ _ _ _ => (pe_df D__law_plain (hr.mono (Nat.le_refl _)) (by rfl) (pa_cons (pv 1) pa_nil)))) pa_nil)))) pss_nil)
  (pss_one (ps_ret (pe_or (pe_cmpR o_isN (pv 0) pe_non (nomark _)) (pe_or (pe_callB (kx_call_isi K) (by rfl) T.n_isinstance b_isinstance (pa_cons (pv 0) (pa_cons (pe_bltn (v := .ty "str") (by rfl) T.n_str b_str rfl) pa_nil))) (pe_one (pe_and (pe_callB (kx_call_isi K) (by rfl) T.n_isinstance b_isinstance (pa_cons (pv 0) (pa_cons (pe_bltn (v := .ty "int") (by rfl) T.n_int b_int rfl) pa_nil))) (pe_one (pe_not (pe_callB (kx_call_isi K) (by rfl) T.n_isinstance b_isinstance (pa_cons (pv 0) (pa_cons (pe_bltn (v := .ty "bool") (by rfl) T.n_bool b_bool rfl) pa_nil)))))))))))), fun W0 => ?_⟩
      refine st_seq (st_when (b := true) (EvT.to (et_or (et_test (ev_isaL (EvD.h (ev_var rfl)) rfl)) (fun _ => et_test (ev_isaT (EvD.h (ev_var rfl)) rfl))) rfl) (fun _ W1 l1 => ?_) (fun z => by cases z))
      refine st_ret (EvD.to (ev_allA es id (fun _ => true) (ItD.to (it_tup (ev_var rfl)) (by rw [List.map_id])) h2 (fun e he => ⟨_, _, fun _ h => h, tg_name, fun W2 l2 => ev_call (ea_cons (ev_var rfl) ea_nil) ⟨e, rfl, plDs_iff.mp h1 e he, rfl⟩⟩)) ?_) rfl
      simp
    | int i =>
      refine ⟨_, (pss_cons (ps_if (PW.pt (pw_or (pt_val (pe_callB (kx_call_isi K) (by rfl) T.n_isinstance b_isinstance (pa_cons (pv 0) (pa_cons (pe_bltn (v := .ty "list") (by rfl) T.n_list b_list rfl) pa_nil)))) (pw_or1 (pt_val (pe_callB (kx_call_isi K) (by rfl) T.n_isinstance b_isinstance (pa_cons (pv 0) (pa_cons (pe_bltn (v := .ty "tuple") (by rfl) T.n_tuple b_tuple rfl) pa_nil))))))) (pss_one (ps_ret (pe_callB (kx_cr_all K rfl) (by rfl) T.n_all b_all (pa_cons (pe_lc (own := [("_law_one", 1)]) rfl sc__law_plain.nd (pi_list (pv 0)) (blkOk_by (own := [("_law_one", 1)]) (N := ["_law_thing", "_law_one"]) (sc := defScope s__law_plain) (by decide +kernel)) (fun _ _ _ _ _ => (pg_n 1 sc__law_plain.nd)) (fun _ _ _ _ _ => pts_nil) (fun _ _ _ _ _ => (pe_df D__law_plain (hr.mono (Nat.le_refl _)) (by rfl) (pa_cons (pv 1) pa_nil)))) pa_nil)))) pss_nil)
  (pss_one (ps_ret (pe_or (pe_cmpR o_isN (pv 0) pe_non (nomark _)) (pe_or (pe_callB (kx_call_isi K) (by rfl) T.n_isinstance b_isinstance (pa_cons (pv 0) (pa_cons (pe_bltn (v := .ty "str") (by rfl) T.n_str b_str rfl) pa_nil))) (pe_one (pe_and (pe_callB (kx_call_isi K) (by rfl) T.n_isinstance b_isinstance (pa_cons (pv 0) (pa_cons (pe_bltn (v := .ty "int") (by rfl) T.n_int b_int rfl) pa_nil))) (pe_one (pe_not (pe_callB (kx_call_isi K) (by rfl) T.n_isinstance b_isinstance (pa_cons (pv 0) (pa_cons (pe_bltn (v := .ty "bool") (by rfl) T.n_bool b_bool rfl) pa_nil)))))))))))), fun W0 => ?_⟩
      refine st_seq (st_pass (EvT.to (et_or (et_test (ev_isaL (EvD.h (ev_var rfl)) rfl)) (fun _ => et_test (ev_isaT (EvD.h (ev_var rfl)) rfl))) rfl) (fun W1 l1 => ?_))
      exact st_ret (EvD.to (ev_or (ev_isN (EvD.h (ev_var (d := .int i) rfl))) (fun _ => ev_or (ev_isaS (ev_var (d := .int i) rfl)) (fun _ => ev_and (ev_isaI (EvD.h (ev_var (d := .int i) rfl)) rfl) (fun _ => ev_not (ev_isaB (EvD.h (ev_var (d := .int i) rfl)) rfl))))) rfl) rfl
    | _ => unfold plD at hp; cases hp
def gTruths : List D → D → Prop := fun ds r => ∃ bs : List Bool, ds = [.lst (bs.map .bl)] ∧ bs.length ≤ 1000 ∧ r = .bl true
theorem ok_law_truths {f : Addr} {fd : FuncData} (F : Fun K "_law_truths" "_law_truths" s__law_truths f fd) (T : Tp mg) : FnOk P w K mg base CX0 1 f fd ["_law_things"] (Pure gTruths) := by
  refine fn_pure F sc__law_truths (fun ds r h => by obtain ⟨_, rfl, _⟩ := h; rfl) (fun cdv A2 outer s H E hr ds r hg => ?_)
  obtain ⟨bs, rfl, hl, rfl⟩ := hg
  refine ⟨_, (pss_one (ps_ret (pe_callB (kx_cr_all K rfl) (by rfl) T.n_all b_all (pa_cons (pe_lc (own := [("_law_one", 1)]) rfl sc__law_truths.nd (pi_list (pv 0)) (blkOk_by (own := [("_law_one", 1)]) (N := ["_law_things", "_law_one"]) (sc := defScope s__law_truths) (by decide +kernel)) (fun _ _ _ _ _ => (pg_n 1 sc__law_truths.nd)) (fun _ _ _ _ _ => pts_nil) (fun _ _ _ _ _ => (pe_callB (kx_call_isi K) (by rfl) T.n_isinstance b_isinstance (pa_cons (pv 1) (pa_cons (pe_bltn (v := .ty "bool") (by rfl) T.n_bool b_bool rfl) pa_nil))))) pa_nil)))), fun W0 => ?_⟩
  refine st_ret (EvD.to (ev_allA bs .bl (fun _ => true) (it_list (ev_var rfl)) (by show _ ≤ 100000; omega) (fun b _ => ⟨_, _, fun _ h => h, tg_name, fun W2 l2 => EvD.to (ev_isaB (d := .bl b) (EvD.h (ev_var rfl)) rfl) rfl⟩)) ?_) rfl
  simp
theorem post_rpF {an : Ans} {W1 W2 : Wd} {v : V} (h : postLed A an W1 W2 v) : Rp (W1.fzN W2).f v (dAns A an) := by
  cases an with
  | inl q =>
    obtain ⟨a, pd, pr, rfl, hO⟩ := h
    exact OwO.rpF (fs := [("deeds", pd, q.1.map dPr), ("rings", pr, q.2.map dRg)]) hO
  | inr ss =>
    obtain ⟨a, p, rfl, hO⟩ := h
    exact OwO.rpF (fs := [("stands", p, ss.map dSt)]) hO
def gTold : List D → D → Prop := fun ds r => ∃ (fm : Farm) (fl st : List Int) (wi : List (Option Int)), ds = [dFm fm, dIs fl, dSt st, dWs wi] ∧ FarmOk fm fl st wi ∧ fm.rooms.length ≤ 4 ∧ r = .bl true
theorem ok_law_told_right {f : Addr} {fd : FuncData} (F : Fun K "_law_told_right" "_law_told_right" s__law_told_right f fd) (T : Tp mg) (Q : Tk K A) (J : Tj K mg A) (TC : Tq K mg A) (TL : Tc K mg A) (D_led : Df P w K mg base 5 "led" ["farm", "flocks", "stand", "wish"] (Prm (gLed A))) (D_come_to : Df P w K mg base 5 "come_to" ["farm", "flocks", "stand"] (Pure gComeTo)) (D_hang_on : DfX P w K mg base 5 "hang_on" ["farm", "flocks", "stand", "wish"] (PrmX (gHangOn B))) (D_judged : Df P w K mg base 5 "judged" ["farm", "flocks", "stand", "wish", "deeds"] (Pure (gJudged A)))
    (D__law_truths : Df P w K mg base 1 "_law_truths" ["_law_things"] (Pure gTruths)) (D__law_plain : Df P w K mg base 5 "_law_plain" ["_law_thing"] (Pure (gPlain 4))) (M_Never : Dm P w K mg base 1 "Never" A.c_Never ["self", "stands"] (Ini A.c_Never (gNeverIni A.c_Never)))
    (S_Led_shows : Dk P w K mg base 4 A.c_Led "shows" ["self", "farm", "flocks", "stand", "wish"] (Pure (gLedShows A.c_Led))) (S_Never_shows : Dk P w K mg base 4 A.c_Never "shows" ["self", "farm", "flocks", "stand", "wish"] (Pure (gNeverShows A.c_Never)))
    (S_Fine_shows : Dk P w K mg base 3 A.c_Fine "shows" ["self", "farm", "flocks", "stand", "wish", "deeds"] (Pure (gFineShows A))) (S_Halt_shows : Dk P w K mg base 3 A.c_Halt "shows" ["self", "farm", "flocks", "stand", "wish", "deeds"] (Pure (gHaltShows A))) (S_Off_shows : Dk P w K mg base 3 A.c_Off "shows" ["self", "farm", "flocks", "stand", "wish", "deeds"] (Pure (gOffShows A))) :
    FnOk P w K mg base CX0 6 f fd ["_law_farm_here", "_law_flocks", "_law_stand", "_law_wish"] (Pure gTold) := by
  refine fn_pure F sc__law_told_right (fun ds r h => by obtain ⟨_, _, _, _, rfl, _⟩ := h; rfl) (fun cdv A2 outer s H E hr ds r hg => ?_)
  obtain ⟨fm, fl, st, wi, rfl, hok, hr4, rfl⟩ := hg
  have B_Fine := J.fB
  refine ⟨_, (pss_cons (ps_sv 4 sc__law_told_right.nd (pe_df D_led (hr.mono (by decide)) (by rfl) (pa_cons (pv 0) (pa_cons (pv 1) (pa_cons (pv 2) (pa_cons (pv 3) pa_nil))))))
  (pss_cons (ps_par (i := 5) (j := 6) (by rfl) sc__law_told_right.nd rfl rfl (by decide) rfl rfl (pa_cons (pe_lst (pa_cons (pe_df D_come_to (hr.mono (by decide)) (by rfl) (pa_cons (pv 0) (pa_cons (pv 1) (pa_cons (pv 2) pa_nil)))) pa_nil)) (pa_cons (pe_lst pa_nil) pa_nil)) (by rfl))
  (pss_cons (ps_if (pt_val (pe_callB (kx_call_isi K) (by rfl) T.n_isinstance b_isinstance (pa_cons (pv 4) (pa_cons (pe_glob (v := .ref A.c_Led) (by rfl) TC.c_Led rfl) pa_nil)))) (pss_cons (ps_sv 6 sc__law_told_right.nd (kx_fld K (pv 4) rfl))
  (pss_one (ps_sv 5 sc__law_told_right.nd (pe_op op_cat (pv 5) (pe_lst (pa_cons (kx_fld K (pv 4) rfl) (pa_cons (kx_fld K (pv 4) rfl) (pa_cons (pe_dfL D_hang_on (hr.mono (by decide)) (by rfl) (pa_cons (pv 0) (pa_cons (pv 1) (pa_cons (pv 2) (pa_cons (pv 3) pa_nil))))) pa_nil)))))))) (pss_one (ps_expr (pe_bm PySem.F.plainAttrs_list PySem.F.slot_list_append PySem.F.type_list_append mt_append (pv 5) (pa_cons (kx_fld K (pv 4) rfl) pa_nil)))))
  (pss_cons (ps_for PassesOwn.never rfl (pi_list (pe_lst (pa_cons (pv 6) (pa_cons (pe_op op_cat (pv 6) (pe_lst (pa_cons (pe_tup (pa_cons pe_int (pa_cons (pe_ix (kx_ix_tup K) (pv 2) pe_int (fun _ _ => rfl)) pa_nil))) pa_nil))) (pa_cons (pe_slice (kx_sl_list K) (pv 6) (po_some pe_int) po_none) (pa_cons (pe_lst pa_nil) pa_nil)))))) (pg_n 7 sc__law_told_right.nd) (pss_cons (ps_sv 8 sc__law_told_right.nd (pe_df D_judged (hr.mono (by decide)) (by rfl) (pa_cons (pv 0) (pa_cons (pv 1) (pa_cons (pv 2) (pa_cons (pv 3) (pa_cons (pv 7) pa_nil)))))))
  (pss_cons (ps_if (pt_val (pe_callB (kx_call_isi K) (by rfl) T.n_isinstance b_isinstance (pa_cons (pv 8) (pa_cons (pe_glob (v := .ref A.c_Halt) (by rfl) TC.c_Halt rfl) pa_nil)))) (pss_one (ps_expr (pe_bm PySem.F.plainAttrs_list PySem.F.slot_list_append PySem.F.type_list_append mt_append (pv 5) (pa_cons (kx_fld K (pv 8) rfl) pa_nil)))) pss_nil)
  (pss_cons (ps_if (pt_val (pe_callB (kx_call_isi K) (by rfl) T.n_isinstance b_isinstance (pa_cons (pv 8) (pa_cons (pe_glob (v := .ref A.c_Off) (by rfl) TC.c_Off rfl) pa_nil)))) (pss_one (ps_expr (pe_bm PySem.F.plainAttrs_list PySem.F.slot_list_append PySem.F.type_list_append mt_append (pv 5) (pa_cons (kx_fld K (pv 8) rfl) pa_nil)))) pss_nil)
  (pss_one (ps_if (pt_not (pt_val (pe_df D__law_truths (hr.mono (by decide)) (by rfl) (pa_cons (pe_lc (own := [("_law_one", 9)]) rfl sc__law_told_right.nd (pi_list (pe_lst (pa_cons (pv 8) (pa_cons (pe_makeB B_Fine (by rfl) TC.c_Fine) pa_nil)))) (blkOk_by (own := [("_law_one", 9)]) (N := ["_law_farm_here", "_law_flocks", "_law_stand", "_law_wish", "_law_answer", "_law_found", "_law_deeds", "_law_row", "_law_shown", "_law_one"]) (sc := defScope s__law_told_right) (by decide +kernel)) (fun _ _ _ _ _ => (pg_n 9 sc__law_told_right.nd)) (fun _ _ _ _ _ => pts_nil) (fun _ _ _ _ _ => (pe_ei (pe_mt S_Fine_shows (hr.mono (by decide)) (pv 9) (pa_cons (pv 0) (pa_cons (pv 1) (pa_cons (pv 2) (pa_cons (pv 3) (pa_cons (pv 7) pa_nil)))))) (pe_ei (pe_mt S_Halt_shows (hr.mono (by decide)) (pv 9) (pa_cons (pv 0) (pa_cons (pv 1) (pa_cons (pv 2) (pa_cons (pv 3) (pa_cons (pv 7) pa_nil)))))) (pe_mt S_Off_shows (hr.mono (by decide)) (pv 9) (pa_cons (pv 0) (pa_cons (pv 1) (pa_cons (pv 2) (pa_cons (pv 3) (pa_cons (pv 7) pa_nil)))))))))) pa_nil)))) (pss_one (ps_ret pe_bl)) pss_nil))))))
  (pss_cons (ps_if (pt_not (pt_val (pe_df D__law_plain (hr.mono (by decide)) (by rfl) (pa_cons (pv 5) pa_nil)))) (pss_one (ps_ret pe_bl)) pss_nil)
  (pss_one (ps_ret (pe_df D__law_truths (hr.mono (by decide)) (by rfl) (pa_cons (pe_lc (own := [("_law_one", 9)]) rfl sc__law_told_right.nd (pi_list (pe_lst (pa_cons (pv 4) (pa_cons (pe_mk M_Never (hr.mono (by decide)) (by rfl) (pa_cons (pe_lst pa_nil) pa_nil)) pa_nil)))) (blkOk_by (own := [("_law_one", 9)]) (N := ["_law_farm_here", "_law_flocks", "_law_stand", "_law_wish", "_law_answer", "_law_found", "_law_deeds", "_law_row", "_law_shown", "_law_one"]) (sc := defScope s__law_told_right) (by decide +kernel)) (fun _ _ _ _ _ => (pg_n 9 sc__law_told_right.nd)) (fun _ _ _ _ _ => pts_nil) (fun _ _ _ _ _ => (pe_ei (pe_mt S_Led_shows (hr.mono (by decide)) (pv 9) (pa_cons (pv 0) (pa_cons (pv 1) (pa_cons (pv 2) (pa_cons (pv 3) pa_nil))))) (pe_mt S_Never_shows (hr.mono (by decide)) (pv 9) (pa_cons (pv 0) (pa_cons (pv 1) (pa_cons (pv 2) (pa_cons (pv 3) pa_nil)))))))) pa_nil))))))))), fun W0 => ?_⟩
  obtain ⟨hf, hl, hs, hw⟩ := id hok
  have hr6 := hf.1.2
  have hf4 := hl.1.2
  have hf1 := hl.1.1
  have hsl := hs.len
  have hjk : jOk fm fl st wi := ⟨hsl, by omega, by have := hw.1; omega⟩
  have c3 : ∀ {x y z : D}, [x, y, z].length ≤ cap := fun {x y z} => by show 3 ≤ 100000; omega
  have ea4 : ∀ {Γ : List Sl} {W : Wd}, Γ[0]? = some (.dat (dFm fm)) → Γ[1]? = some (.dat (dIs fl)) → Γ[2]? = some (.dat (dSt st)) → Γ[3]? = some (.dat (dWs wi)) → EvA W0 (tCons (tVar 0) (tCons (tVar 1) (tCons (tVar 2) (tCons (tVar 3) tNil)))) Γ W [dFm fm, dIs fl, dSt st, dWs wi] := fun h0 h1 h2 h3 =>
    ea_cons (ev_var h0) (ea_cons (ev_var h1) (ea_cons (ev_var h2) (ea_cons (ev_var h3) ea_nil)))
  refine st_seq (st_asgD (d := dAns A (ledOf fm fl st wi)) (EvP.fz (ep_call (ea4 rfl rfl rfl rfl) ⟨fm, fl, st, wi, rfl, hf, hl, hs, hw, rfl⟩) (fun W1 W2 v l hpo => post_rpF hpo)) (fun W1 l1 => ?_))
  refine st_seq (st_par (k1 := .ls [.int ((ringsOf fm fl st).2.length : Nat)]) (k2 := .ls []) (EvL.g (el_lst (ea_cons (ev_call (ea_cons (ev_var rfl) (ea_cons (ev_var rfl) (ea_cons (ev_var rfl) ea_nil))) ⟨fm, fl, st, rfl, hf, hl, hs, rfl⟩) ea_nil) (by show 1 ≤ 100000; omega))) (EvL.g (el_lst ea_nil (by decide))) (fun p1 p2 W2 l2 => ?_))
  refine st_freeze (i := 6) rfl (by decide) (fun W3 l3 => ?_)
  refine st_mid (fun Γ' W' => ∃ (l : Addr) (fnd : List D) (de : List (Int × Int)), Γ' = [.dat (dFm fm), .dat (dIs fl), .dat (dSt st), .dat (dWs wi), .dat (dAns A (ledOf fm fl st wi)), .acc l fnd, .dat (dPrs de), .no, .no, .no] ∧ (∀ d ∈ fnd, plD 3 d = true) ∧ fnd.length ≤ 4 ∧ de.length ≤ 24) ?_ ?_
  · cases hc : canBe fm fl st wi with
    | true =>
      obtain ⟨t, ht, hwt⟩ := List.any_eq_true.mp hc
      obtain ⟨de, rs, hled, hdl, hrsl, hrr⟩ := led_can hr6 hf4 hs ht hwt
      have hde := led24 hr4 hf4 hs hled
      rw [hled]
      have hhl : (hangOf fm fl st wi).length ≤ 100 := Nat.le_trans (List.length_filter_le ..) hf.2.2.2.2
      refine st_if (b := true) (et_test (ev_isi (d := dLed A.c_Led de rs) (EvD.h (ev_var rfl)) (.own _) Q.lk TL.lL)) (fun _ W4 l4 => ?_) (fun z => by cases z)
      refine st_seq (st_asgD (d := dPrs de) (ev_fld (ev_var (d := dLed A.c_Led de rs) rfl) rfl Q.lk.cl Q.l1) (fun W5 l5 => ?_))
      refine st_freeze (i := 5) rfl (by show 1 ≤ 100000; omega) (fun W6 l6 => ?_)
      refine st_asgL (el_cat (ev_var rfl) (ev_lst (ds := [dPrs de, dRgs rs, dPrs (hangOf fm fl st wi)]) (ea_cons (ev_fld (ev_var (d := dLed A.c_Led de rs) rfl) rfl Q.lk.cl Q.l1) (ea_cons (ev_fld (ev_var (d := dLed A.c_Led de rs) rfl) rfl Q.lk.cl Q.l2) (ea_cons (ev_callXF (ea4 rfl rfl rfl rfl) ⟨fm, fl, st, wi, rfl, hf, hl, hs, hw, by rw [hc, if_pos rfl]; rfl⟩) ea_nil))) c3) (by show 1 + 3 ≤ 100000; omega)) (fun l W7 l7 => ⟨l, _, de, rfl, fun d hd => ?_, by show 4 ≤ 4; omega, hde⟩)
      have hd : d = .int ((ringsOf fm fl st).2.length : Nat) ∨ d = dPrs de ∨ d = dRgs rs ∨ d = dPrs (hangOf fm fl st wi) := by simpa using hd
      rcases hd with rfl | rfl | rfl | rfl
      · exact plq_int _ _
      · exact plq_up _ _ (plq_prs (by omega))
      · exact plq_rgs (by omega) (fun r hr => ⟨by have := (hrr r hr).1; omega, fun t ht => by have := (hrr r hr).2 t ht; omega⟩)
      · exact plq_up _ _ (plq_prs (by omega))
    | false =>
      cases hled : ledOf fm fl st wi with
      | inl q =>
        obtain ⟨de, rs⟩ := q
        rw [led_canBe hr6 hf4 hs hled] at hc
        cases hc
      | inr ss =>
        obtain ⟨rfl, _⟩ := led_inr hr6 hf4 hs hled
        obtain ⟨hF, _⟩ := rings_fac hr6 hf4 hs
        have h24 := flat24 hr4 hf4 hs
        have hst : ∀ t ∈ (ringsOf fm fl st).1.flatten, t.length ≤ 1000 := fun t ht => by
          have := (hF.inv.st t (by rw [hF.inv.ks]; exact ht)).len
          omega
        refine st_if (b := false) (et_test (ev_isi (d := dNev A.c_Never (ringsOf fm fl st).1.flatten) (EvD.h (ev_var rfl)) (.own _) Q.nk TL.nL)) (fun z => by cases z) (fun _ W4 l4 => ?_)
        refine st_app (i := 5) (d := dRg (ringsOf fm fl st).1.flatten) rfl (ev_fld (ev_var (d := dNev A.c_Never (ringsOf fm fl st).1.flatten) rfl) rfl Q.nk.cl Q.n1) (by show 1 ≤ 100000; omega) (fun W5 l5 => ⟨p1, _, [], rfl, fun d hd => ?_, by show 2 ≤ 4; omega, by show 0 ≤ 24; omega⟩)
        have hd : d = .int ((ringsOf fm fl st).2.length : Nat) ∨ d = dRg (ringsOf fm fl st).1.flatten := by simpa using hd
        rcases hd with rfl | rfl
        · exact plq_int _ _
        · exact plq_up _ _ (plq_rg (by omega) hst)
  rintro Γa Wa ⟨l, fnd, de, rfl, hpl, hfn, hde⟩
  have hdc : de.length ≤ cap := by show _ ≤ 100000; omega
  have c2 : ∀ {x y : D}, [x, y].length ≤ cap := fun {x y} => by show 2 ≤ 100000; omega
  have d6 : ∀ {Γ : List Sl} {W : Wd}, Γ[6]? = some (.dat (dPrs de)) → EvD W0 (tVar 6) Γ W (.lst (de.map dPr)) := fun h => ev_var h
  obtain ⟨rows, hrows⟩ : ∃ rows : List (List (Int × Int)), rows = [de, de ++ [(0, nth st 0)], cutL de (some 1) none, []] := ⟨_, rfl⟩
  have hrl : ∀ r ∈ rows, r.length ≤ 100 := fun r hr => by
    rw [hrows] at hr
    simp only [List.mem_cons, List.not_mem_nil, or_false] at hr
    have := cutL_le de (some 1) none
    rcases hr with rfl | rfl | rfl | rfl
    · omega
    · rw [List.length_append]
      show _ + 1 ≤ 100
      omega
    · omega
    · exact Nat.zero_le _
  refine st_seq (st_forI (ds := rows.map dPrs) (ItD.to (it_list (ev_lst (ds := [dPrs de, dPrs (de ++ [(0, nth st 0)]), dPrs (cutL de (some 1) none), dPrs []]) (ea_cons (d6 rfl) (ea_cons (em_cat (d6 rfl) (em_1 (x := ((0 : Int), nth st 0)) (ev_tup (ea_cons ev_int (ea_cons (ev_ixT (ev_var rfl) ev_int (at_ints ⟨by omega, by omega⟩)) ea_nil)) c2)) (by show _ + 1 ≤ 100000; omega)) (ea_cons (em_sl (d6 rfl) (eo_some ev_int) eo_none hdc) (ea_cons em_nil ea_nil)))) (by show 4 ≤ 100000; omega))) (by rw [hrows]; rfl)) (fun k Γ' W' => ∃ fn2, Wk Γ' [.dat (dFm fm), .dat (dIs fl), .dat (dSt st), .dat (dWs wi), .dat (dAns A (ledOf fm fl st wi)), .acc l fn2, .dat (dPrs de), .no, .no, .no] ∧ (∀ d ∈ fn2, plD 3 d = true) ∧ fn2.length ≤ 4 + 2 * k) (fun W4 l4 => ⟨fnd, wk_refl _, hpl, by omega⟩) ?_ ?_)
  · rintro k d Γi Wi hdk ⟨fn2, hwk, hp2, hn2⟩ _
    have hk : k < rows.length := by
      have := (List.getElem?_eq_some_iff.mp hdk).1
      rwa [List.length_map] at this
    have hk4 : k < 4 := by rw [hrows] at hk; exact hk
    rw [List.getElem?_map] at hdk
    obtain ⟨row, hrow, rfl⟩ := Option.map_eq_some_iff.mp hdk
    have hrl2 := hrl row (List.mem_of_getElem? hrow)
    refine ⟨_, _, fun Wz σ v E r Q q => tg_name Wz σ v (E.weak hwk) r Q q, fun W6 l6 => ?_⟩
    refine st_seq (st_asgD (d := dJd A (judgeOf fm fl st wi row)) (ev_call (ea_cons (ev_var rfl) (ea_cons (ev_var rfl) (ea_cons (ev_var rfl) (ea_cons (ev_var rfl) (ea_cons (ev_var rfl) ea_nil))))) ⟨fm, fl, st, wi, row, rfl, hf, hl, hs, hw, hrl2, rfl⟩) (fun W7 l7 => ?_))
    generalize hj : judgeOf fm fl st wi row = j
    refine st_mid (fun Γ' W' => ∃ fn3, Γ' = [.dat (dFm fm), .dat (dIs fl), .dat (dSt st), .dat (dWs wi), .dat (dAns A (ledOf fm fl st wi)), .acc l fn3, .dat (dPrs de), .dat (dPrs row), .dat (dJd A j), .no] ∧ (∀ d ∈ fn3, plD 3 d = true) ∧ fn3.length ≤ 4 + 2 * k + 1) ?_ ?_
    · refine st_when (et_test (ev_isi (EvD.h (ev_var rfl)) (.own _) (jd_ok J j) (jd_H TC j))) (fun hb W8 l8 => ?_) (fun hb W8 l8 => ⟨fn2, rfl, hp2, by omega⟩)
      cases j with
      | fine => cases hb
      | off p => cases hb
      | halt p =>
        refine st_app (i := 5) (d := .int p) rfl (ev_fld (ev_var (d := dHalt A p) rfl) rfl J.hk.cl J.h1) (by show _ ≤ 100000; omega) (fun W9 l9 => ⟨_, rfl, fun d hd => ?_, by rw [List.length_append]; show _ + 1 ≤ _; omega⟩)
        rcases List.mem_append.mp hd with hd | hd
        · exact hp2 d hd
        · rw [List.mem_singleton.mp hd]
          exact plq_int _ _
    rintro Γb Wb ⟨fn3, rfl, hp3, hn3⟩
    refine st_mid (fun Γ' W' => ∃ fn4, Γ' = [.dat (dFm fm), .dat (dIs fl), .dat (dSt st), .dat (dWs wi), .dat (dAns A (ledOf fm fl st wi)), .acc l fn4, .dat (dPrs de), .dat (dPrs row), .dat (dJd A j), .no] ∧ (∀ d ∈ fn4, plD 3 d = true) ∧ fn4.length ≤ 4 + 2 * (k + 1)) ?_ ?_
    · refine st_when (et_test (ev_isi (EvD.h (ev_var rfl)) (.own _) (jd_ok J j) (jd_O TC j))) (fun hb W8 l8 => ?_) (fun hb W8 l8 => ⟨fn3, rfl, hp3, by omega⟩)
      cases j with
      | fine => cases hb
      | halt p => cases hb
      | off p =>
        refine st_app (i := 5) (d := .int p) rfl (ev_fld (ev_var (d := dOff A p) rfl) rfl J.ok.cl J.o1) (by show _ ≤ 100000; omega) (fun W9 l9 => ⟨_, rfl, fun d hd => ?_, by rw [List.length_append]; show _ + 1 ≤ _; omega⟩)
        rcases List.mem_append.mp hd with hd | hd
        · exact hp3 d hd
        · rw [List.mem_singleton.mp hd]
          exact plq_int _ _
    rintro Γc Wc ⟨fn4, rfl, hp4, hn4⟩
    refine st_pass (EvT.to (et_not (et_test (ev_call (ea_cons (EvD.to ((el_lcA [j, .fine] (dJd A) (fun jj => .bl (decide (judgeOf fm fl st wi row = jj))) (it_list (ev_lst (ea_cons (ev_var rfl) (ea_cons ev_mkB ea_nil)) c2)) (by show 2 ≤ 100000; omega) (fun jj _ => ⟨_, _, fun _ h => h, tg_name, fun W2 l2 => ev_jshows (EvD.h (ev_var rfl)) (EvA.h (ea_cons (ev_var rfl) (ea_cons (ev_var rfl) (ea_cons (ev_var rfl) (ea_cons (ev_var rfl) (ea_cons (ev_var rfl) ea_nil)))))) hjk⟩)).fz (by show 2 ≤ 100000; omega)) (show _ = D.lst ([decide (judgeOf fm fl st wi row = j), decide (judgeOf fm fl st wi row = .fine)].map .bl) from rfl)) ea_nil) ⟨_, rfl, by show 2 ≤ 1000; omega, rfl⟩))) rfl) (fun W8 l8 => ⟨fn4, ?_, hp4, hn4⟩)
    exact wk_cons (wk_cons (wk_cons (wk_cons (wk_cons (wk_cons (wk_cons (wk_drop (wk_drop (wk_drop wk_nil)))))))))
  rintro Γn Wn _ ⟨fn2, hwk, hp2, hn2⟩
  have hn3 : fn2.length ≤ 100 := by
    rw [List.length_map, hrows] at hn2
    exact Nat.le_trans hn2 (by show 4 + 2 * 4 ≤ 100; omega)
  refine st_weak hwk (st_freeze (i := 5) rfl (by show _ ≤ 100000; omega) (fun W3 l3 => ?_))
  refine st_seq (st_pass (EvT.to (et_not (et_test (ev_call (ea_cons (ev_var rfl) ea_nil) ⟨.lst fn2, rfl, plq_lst hp2 (by omega), rfl⟩))) rfl) (fun W4 l4 => ?_))
  exact st_ret (ev_call (ea_cons (EvD.to ((el_lcA [ledOf fm fl st wi, .inr []] (dAns A) (fun an => .bl (ansShows fm fl st wi an)) (it_list (ev_lst (ea_cons (ev_var rfl) (ea_cons (ev_mkF (ea_cons (em_nil (c := dSt)) ea_nil) ⟨[], rfl, Nat.zero_le _, rfl⟩ (fun W1 W2 x l p => by
    obtain ⟨q, o⟩ := p
    exact OwO.rpF (fs := [("stands", q, ([] : List (List Int)).map dSt)]) o)) ea_nil)) c2)) (by show 2 ≤ 100000; omega) (fun an han => ⟨_, _, fun _ h => h, tg_name, fun W2 l2 => ev_shows (EvD.h (ev_var rfl)) (EvA.h (ea4 rfl rfl rfl rfl)) hr6 hf4 hsl (by
      simp only [List.mem_cons, List.not_mem_nil, or_false] at han
      rcases han with rfl | rfl
      · exact led_ansOk hr6 hf4 hs
      · exact ⟨Nat.zero_le _, fun t ht => by cases ht⟩)⟩)).fz (by show 2 ≤ 100000; omega)) (show _ = D.lst ([ansShows fm fl st wi (ledOf fm fl st wi), ansShows fm fl st wi (.inr [])].map .bl) from rfl)) ea_nil) ⟨_, rfl, by show 2 ≤ 1000; omega, rfl⟩) rfl
end
end Fg

set_option Elab.async false
set_option linter.all false
set_option maxRecDepth 100000
set_option maxHeartbeats 4000000
/-! xs.remove(y), items data of any depth. -/
namespace PySem.SeqAt
open AutoSeq1 (wpAny_loadPart')
open MeetsSeq MeetsSeq2 MeetsSeq3 SeqRoads2
theorem remove_loopAt (l : Addr) (items : Array Value) (n : Nat) (x : Value) (e : Value → Bool) (j : Nat) (hj : j < items.size) (hit : e items[j] = true) (k : Nat) (hs1 : items.size ≤ sizeLine) :
    ∀ i : Nat, j - i = k → i ≤ j → (∀ m (hm : m < items.size), i ≤ m → m < j → e items[m] = false) → Meets (Builtin.«list.remove.loop» ⟨[.ref l, x, rawInt i], []⟩)
      (fun A R s => s.heap.get? l = some { cls := .type "list", dict := none, data := .seq items n, slots := #[] } ∧ (∀ y, y ∈ items → EqAt A.in1 s y x (e y)) ∧ R (.ok (.ret .none)) { s with heap := s.heap.update l (Obj.mapSeq fun xs => xs.eraseIdxIfInBounds j) }) := by
  induction k with
  | zero =>
    intro i hk hij hno prog w A R s h
    obtain ⟨hp, g, d, tk, os⟩ := s; obtain ⟨hl, he, h⟩ := h
    have hij' : i = j := by omega
    subst hij'
    wp_walk using wpAny_loadPart' hl
    have hi : items[((i : Nat) : Int).toNat]? = some items[i] := by simp [hj]
    rw [hi]
    refine wpAny_bind (he _ (Array.getElem_mem hj) prog w _ _ ?_)
    rw [hit]
    have hz' : (items.eraseIdxIfInBounds i).size ≤ sizeLine + 1 := Nat.le_trans (size_erased items _) (Nat.le_succ_of_le hs1)
    wp_walk using (wpAny_updateSeq hl rfl (hz := hs1) (_hz' := hz')), wpAny_loadPart' hl
    simpa using h
  | succ k ih =>
    intro i hk hij hno prog w A R s h
    obtain ⟨hp, g, d, tk, os⟩ := s; obtain ⟨hl, he, h⟩ := h
    have hlt : i < items.size := by omega
    wp_walk using wpAny_loadPart' hl
    have hi : items[((i : Nat) : Int).toNat]? = some items[i] := by simp [hlt]
    have hc : ((i : Int) + 1) = ((i + 1 : Nat) : Int) := by push_cast; rfl
    rw [hi]
    refine wpAny_bind (he _ (Array.getElem_mem hlt) prog w _ _ ?_)
    rw [hno i hlt (Nat.le_refl _) (by omega)]
    wp_walk
    rw [hc]
    exact ⟨plainId_quiet plain_remove_loop _, codeAny_builtin entry_remove_loop (by
      rw [Around.under_plainId plain_remove_loop _]
      exact ih (i + 1) (by omega) (by omega) (fun m hm h1 h2 => hno m hm (by omega) h2) prog w A R _ ⟨hl, he, h⟩)⟩
theorem list_removeAt (l : Addr) (items : Array Value) (n : Nat) (x : Value) (e : Value → Bool) (j : Nat) (hj : j < items.size)
    (hit : e items[j] = true) (hno : ∀ m (hm : m < items.size), m < j → e items[m] = false) (hs1 : items.size ≤ sizeLine) :
    Meets (Builtin.«list.remove» ⟨[.ref l, x], []⟩)
      (fun A R s => s.heap.get? l = some { cls := .type "list", dict := none, data := .seq items n, slots := #[] } ∧ (∀ y, y ∈ items → EqAt A.in1 s y x (e y)) ∧ R (.ok (.ret .none)) { s with heap := s.heap.update l (Obj.mapSeq fun xs => xs.eraseIdxIfInBounds j) }) := by
  intro prog w A R s h
  obtain ⟨hp, g, d, tk, os⟩ := s; obtain ⟨hl, he, h⟩ := h
  wp_walk using wpAny_loadPart' hl
  exact ⟨plainId_quiet plain_remove_loop _, codeAny_builtin entry_remove_loop (by
    rw [Around.under_plainId plain_remove_loop _]
    exact remove_loopAt l items n x e j hj hit _ hs1 0 rfl (Nat.zero_le _) (fun m hm _ h2 => hno m hm h2) prog w A R _ ⟨hl, he, h⟩)⟩
end PySem.SeqAt
namespace L2
open PySem PySem.Spec PyProof.Rows
section
variable {X : Cx}
def rRemD (K : PySem.W.Frag) : V → List V → Hp → VK → Prop := fun x xs H Q => ∃ (l : Addr) (y : V) (zs : List V) (d : PyData) (ds : List PyData) (j : Nat) (z : PyData), x = .ref l ∧ xs = [y] ∧ H l = some (.lst zs) ∧ DpAll K H zs ds ∧ Dp K H y d ∧
  SeqAt.shaped (.list ds) = true ∧ SeqAt.shaped d = true ∧ ds[j]? = some z ∧ PyData.eqv z d = true ∧ (∀ (m : Nat) (z' : PyData), m < j → ds[m]? = some z' → PyData.eqv z' d = false) ∧ Q .non (upd H l (.lst (zs.eraseIdx j)))
theorem mt_removeD (hu : X.A.units + 65 < cLine) : MtM X "list.remove" (rRemD X.K) := by
  intro pins s σ H x xs v us Q I rx rxs h
  obtain ⟨a, y, zs, d, ds, j, z, rfl, rfl, hH, ha, hy, sl, sd, hz, hzj, hno, q⟩ := h
  cases rx
  cases rxs with
  | cons ry rt =>
    rename_i uy ut
    cases rt
    obtain ⟨bs, r1⟩ := Dp.reads I d y uy hy ry
    have hxs : PyData.canLayAll0 ds = true := SeqAt.canLay_of_shaped sl
    have hroom : X.A.units + 1 + min (PyData.depthAll ds) d.depth < cLine := room_in_shaped sd hu
    obtain ⟨hzl, its, n, rv, hl, e⟩ := I.lstM hH
    obtain ⟨as, h4⟩ := Dp.readsAll I ds _ its ha rv
    have hn : its.length = ds.length := SeqAt.ReadsAll.length ds its as h4
    have hmap : its.map (SeqAt.readOf s.heap) = ds := SeqAt.readsAll_map ds its as hxs h4
    have hvl := rv.length
    have hsl := sizeLine_eq
    obtain ⟨hjd, _⟩ := List.getElem?_eq_some_iff.mp hz
    have hjl : j < its.length := by omega
    have hj : j < its.toArray.size := by simpa using hjl
    have at_ : ∀ (m : Nat) (hm : m < its.toArray.size) (z' : PyData), ds[m]? = some z' → SeqAt.readOf s.heap its.toArray[m] = z' := by
      intro m hm z' hz'
      have hml : m < its.length := by simpa using hm
      rw [← hmap, List.getElem?_map, List.getElem?_eq_getElem hml] at hz'
      have e1 : SeqAt.readOf s.heap its[m] = z' := Option.some.inj (show some (SeqAt.readOf s.heap its[m]) = some z' from hz')
      simpa using e1
    refine call_meets PySem.F.slot_list_remove ⟨_, e, rfl⟩ PySem.F.entry_list_remove (PySem.F.args_list_remove_2 _ _)
      (SeqAt.list_removeAt a its.toArray n uy (fun u => PyData.eqv (SeqAt.readOf s.heap u) d) j hj ?_ ?_ (by rw [List.size_toArray]; omega)) ⟨e, SeqAt.items_eqAt (vs := its.toArray) (show ReadsAll s.heap its.toArray.toList ds as from h4) r1 hxs (SeqAt.canLay_of_shaped sd) hroom, ?_⟩
    · show PyData.eqv (SeqAt.readOf s.heap its.toArray[j]) d = true
      rw [at_ j hj z hz]
      exact hzj
    · intro m hm hmj
      have hmd : m < ds.length := by omega
      have hz' : ds[m]? = some ds[m] := List.getElem?_eq_getElem hmd
      show PyData.eqv (SeqAt.readOf s.heap its.toArray[m]) d = false
      rw [at_ m hm _ hz']
      exact hno m _ hmj hz'
    · refine ⟨.non, _, I.lset (its' := its.eraseIdx j) (t' := s.toks) hH e ?_ (rv.eraseIdx j) ?_, rfl, q⟩
      · show its.toArray.eraseIdxIfInBounds j = (its.eraseIdx j).toArray
        rw [List.eraseIdxIfInBounds_toArray]
      · have z2 := len_erase zs j
        omega
end
end L2
namespace Fg
open PySem L2 RZ
theorem kx_mt_removeD {X : Cx} {K0 : PySem.W.Frag} (hu : X.A.units + 65 < cLine) (hK : X.K = K0 := by rfl) : MtM X "list.remove" (rRemD K0) := by
  subst hK
  exact mt_removeD hu
end Fg

set_option Elab.async false
set_option linter.all false
set_option maxRecDepth 100000
set_option maxHeartbeats 4000000
/-! A yard of one's own; what a call changes. -/
namespace Fg
open PySem L2 RZ
structure YA where
  r : Addr
  g : Addr
  f : Addr
  s : Addr
structure YD where
  fm : Farm
  fl : List Int
  st : List Int
  sh : List (Int × Int)
  tm : Int
/-- the farm without the locked gates -/
def YD.now (Y : YD) : Farm := ⟨Y.fm.rooms, Y.fm.gates.filter fun g => !decide (g ∈ Y.sh)⟩
abbrev yF (vp : V) (q : YA) (tm : Int) : List (Str × V) := [("rooms", .ref q.r), ("gates", .ref q.g), ("flocks", .ref q.f), ("pens", vp), ("shut", .ref q.s), ("times", .int tm)]
abbrev dYd (C : Addr) (Y : YD) : D := .obj C [("rooms", dIs Y.fm.rooms), ("gates", dPrs Y.fm.gates), ("flocks", dIs Y.fl), ("pens", dSt Y.st), ("shut", dPrs Y.sh), ("times", .int Y.tm)]
structure OwY (W0 W : Wd) (C a : Addr) (q : YA) (Y : YD) : Prop where
  ob : ∃ dx vp, W.h a = some (.ins C dx (yF vp q Y.tm)) ∧ Rp W.f vp (dSt Y.st)
  fa : W.f a = none
  na : W0.h a = none
  r : OL W0 W q.r (Y.fm.rooms.map .int)
  g : OL W0 W q.g (Y.fm.gates.map dPr)
  f : OL W0 W q.f (Y.fl.map .int)
  s : OL W0 W q.s (Y.sh.map dPr)
  nr : q.s ≠ q.r
  ng : q.s ≠ q.g
  nf : q.s ≠ q.f
section
variable {W0 W W' : Wd} {C a : Addr} {q : YA} {Y : YD} {ps : List Addr}
theorem OwY.mono (h : OwY W0 W C a q Y) (l : W ≤ W') : OwY W0 W' C a q Y := by
  obtain ⟨dx, vp, e, rv⟩ := h.ob
  obtain ⟨n, e2⟩ := l.ow _ _ e h.fa
  exact ⟨⟨dx, vp, e2, rv.mono l.fr⟩, n, h.na, h.r.mono l, h.g.mono l, h.f.mono l, h.s.mono l, h.nr, h.ng, h.nf⟩
theorem OwY.base {W1 : Wd} (h : OwY W1 W C a q Y) (l : W0 ≤ W1) : OwY W0 W C a q Y := ⟨h.ob, h.fa, l.hh.free h.na, h.r.base l, h.g.base l, h.f.base l, h.s.base l, h.nr, h.ng, h.nf⟩
theorem OwY.rp (h : OwY W0 W C a q Y) : Rp W.h (.ref a) (dYd C Y) := by
  obtain ⟨dx, vp, e, rv⟩ := h.ob
  exact .obj e (.cons h.r.rp (.cons h.g.rp (.cons h.f.rp (.cons (rv.mono W.ex) (.cons h.s.rp (.cons (.int _) .nil))))))
/-- a list is no yard -/
theorem OwY.nl {p : Addr} {ds : List D} (h : OwY W0 W C a q Y) {W1 : Wd} (o : OL W1 W p ds) : p ≠ a := fun z => by
  obtain ⟨dx, vp, e, _⟩ := h.ob
  obtain ⟨xs, hx, _⟩ := o.h
  rw [z, e] at hx
  cases hx
theorem OwY.ch (h : OwY W0 W C a q Y) (c : Ch W W' ps) (ha : a ∉ ps) (hr : q.r ∉ ps) (hg : q.g ∉ ps) (hf : q.f ∉ ps) (hs : q.s ∉ ps) : OwY W0 W' C a q Y := by
  obtain ⟨dx, vp, e, rv⟩ := h.ob
  obtain ⟨n, e2⟩ := c.ow _ _ ha e h.fa
  exact ⟨⟨dx, vp, e2, rv.mono c.fr⟩, n, h.na, h.r.ch c hr, h.g.ch c hg, h.f.ch c hf, h.s.ch c hs, h.nr, h.ng, h.nf⟩
theorem Ch.of {W1 : Wd} (l : W ≤ W1) (c : Ch W1 W' ps) : Ch W W' ps := ⟨l.fr.trans c.fr, fun b o nb h n => by
  obtain ⟨n1, h1⟩ := l.ow b o h n
  exact c.ow b o nb h1 n1⟩
theorem Ch.trans {W1 : Wd} (c1 : Ch W W1 ps) (c2 : Ch W1 W' ps) : Ch W W' ps := ⟨c1.fr.trans c2.fr, fun b o nb h n => by
  obtain ⟨n1, h1⟩ := c1.ow b o nb h n
  exact c2.ow b o nb h1 n1⟩
theorem En.ch {σ : L2.St} {Γ : List Sl} (E : En W0 W σ Γ) (c : Ch W W' ps) (l : W0 ≤ W') (ha : ∀ s ∈ Γ, s.adr = none) : En W0 W' σ Γ := ⟨l, E.len, (fun i s e => by
  obtain ⟨o, h1, h2⟩ := E.ok i s e
  refine ⟨o, h1, ?_⟩
  have hs := ha s (List.mem_of_getElem? e)
  cases s with
  | no => exact True.intro
  | val v => exact h2
  | dat d =>
    obtain ⟨v, e, r⟩ := h2
    exact ⟨v, e, r.mono c.fr⟩
  | acc b es => exact absurd hs (fun z => by cases z)
  | dac b es => exact absurd hs (fun z => by cases z)), E.ap⟩
/-- a write in its shut list -/
theorem OwY.setS (h : OwY W0 W C a q Y) {ys : List V} {sh : List (Int × Int)} (n : W.f q.s = none) (r : RpL W.f ys (sh.map dPr)) (hc : sh.length ≤ cap) : OwY W0 (W.up q.s (.lst ys) n) C a q ⟨Y.fm, Y.fl, Y.st, sh, Y.tm⟩ := by
  obtain ⟨dx, vp, e, rv⟩ := h.ob
  have na : a ≠ q.s := fun z => h.nl h.s z.symm
  refine ⟨⟨dx, vp, ?_, rv⟩, h.fa, h.na, h.r.oth h.nr n, h.g.oth h.ng n, h.f.oth h.nf n, h.s.wr r (by rw [List.length_map]; exact hc) n, h.nr, h.ng, h.nf⟩
  show upd W.h q.s _ a = _
  rw [upd_ne na]
  exact e
/-- a write of its fields -/
theorem OwY.setF (h : OwY W0 W C a q Y) {dx : Addr} {vp : V} {st : List Int} {tm : Int} (n : W.f a = none) (r : Rp W.f vp (dSt st)) : OwY W0 (W.up a (.ins C dx (yF vp q tm)) n) C a q ⟨Y.fm, Y.fl, st, Y.sh, tm⟩ := by
  refine ⟨⟨dx, vp, upd_same, r⟩, n, h.na, h.r.other (h.nl h.r) n, h.g.other (h.nl h.g) n, h.f.other (h.nl h.f) n, h.s.other (h.nl h.s) n, h.nr, h.ng, h.nf⟩
end
/-- a method that changes its yard, or refuses -/
def MutX (C : Addr) (g : YD → List D → (YD × D) ⊕ Addr → Prop) : Sp := fun vs H Q E => ∃ (B W : Wd) (a : Addr) (q : YA) (Y : YD) (vs' : List V) (ds : List D) (o : (YD × D) ⊕ Addr), W.h = H ∧ vs = .ref a :: vs' ∧ B ≤ W ∧ OwY B W C a q Y ∧ RpL W.f vs' ds ∧ g Y ds o ∧
  (∀ Y' d, o = .inl (Y', d) → ∀ v W', B ≤ W' → Ch W W' [a, q.s] → OwY B W' C a q Y' → Rp W'.f v d → Q v W'.h) ∧ ∀ e, o = .inr e → ∀ W', B ≤ W' → Ch W W' [a, q.s] → OwY B W' C a q Y → E (.ref e) none W'.h
theorem fn_mutX {P : Program} {w : World} {K : PySem.W.Frag} {mg : Str → Option Value} {base : Heap} {x qual : Str} {st : Stmt} {f C : Addr} {fd : FuncData} {Nm ps : List Str} {k : Nat} {g : YD → List D → (YD × D) ⊕ Addr → Prop} (F : Fun K x qual st f fd) (sc : FnScope Nm ps (defScope st))
    (hl : ∀ Y ds o, g Y ds o → ds.length + 1 = ps.length)
    (hb : ∀ (cdv : Value) (A : Around) (outer : List Env) (s : Shared) (H : Hp) (E : XK), Room k (A.deeper (PyProof.Rows.envOfC qual (defScope st) s.heap.objs.size f cdv)) → ∀ Y ds o, g Y ds o →
      ∃ t, PSs (cxOf (L2.CX P w) P w K mg base Nm qual (defScope st) f cdv A outer s H E) (defBody st) t ∧ ∀ B W a q, B ≤ W → OwY B W C a q Y → (∀ e, o = .inr e → ∀ W', B ≤ W' → Ch W W' [a, q.s] → OwY B W' C a q Y → E (.ref e) none W'.h) →
        ST B t (.val (.ref a) :: (ds.map .dat ++ List.replicate (Nm.length - ps.length) .no)) W (fun _ _ => False) (fun W' v => ∃ Y' d, o = .inl (Y', d) ∧ Ch W W' [a, q.s] ∧ OwY B W' C a q Y' ∧ Rp W'.f v d)) :
    FnOk P w K mg base (L2.CX P w) (k + 1) f fd ps (MutX C g) := by
  refine F.okX sc (fun vs H Q E h => ?_) (fun cdv A outer s H vs Q E hr h => ?_)
  · obtain ⟨B, W, a, q, Y, vs', ds, o, rfl, rfl, _, _, rl, hg, _⟩ := h
    rw [List.length_cons, rl.length]
    exact hl Y ds o hg
  · obtain ⟨B, W, a, q, Y, vs', ds, o, rfl, rfl, hB, hy, rl, hg, k1, k2⟩ := h
    obtain ⟨t, ht, hs⟩ := hb cdv A outer s W.h E hr Y ds o hg
    refine ⟨t, ht, ?_⟩
    have e : L2.start Nm (.ref a :: vs') = some (.ref a) :: (vs'.map some ++ List.replicate (Nm.length - ps.length) none) := by
      unfold L2.start
      rw [List.length_cons, rl.length, hl Y ds o hg]
      rfl
    rw [e]
    exact hs B W a q hB hy k2 _ ((en_self rl _ _).unbase hB) _ (fun σ' W' Γ' l n E' => n.elim) (fun v W' l ⟨Y', d, e1, c, oy, r⟩ => k1 Y' d e1 v W' l c oy r)
section
variable {K : PySem.W.Frag} {W0 W W' : Wd} {Γ Γ' : List Sl} {te : TE} {ta : TA} {tu : TS} {d : D} {ds es : List D} {N : List Sl → Wd → Prop} {R : Wd → V → Prop} {i j : Nat} {C a : Addr} {q : YA} {Y Y' : YD} {ps : List Addr} {F : Wd → V → Prop} {E : XK} {m : Str} {fs : List (Str × D)}
/-- what is evaluated may change what stands at ps -/
def EvM (W0 : Wd) (te : TE) (Γ : List Sl) (W : Wd) (ps : List Addr) (F : Wd → V → Prop) : Prop := ∀ σ, En W0 W σ Γ → ∀ Q : VK, (∀ v W', Ch W W' ps → W0 ≤ W' → F W' v → Q v W'.h) → te σ W.h Q
theorem em_meth {g : YD → List D → (YD × D) ⊕ Addr → Prop} (hi : Γ[i]? = some (.val (.ref a))) (hy : OwY W0 W C a q Y) (hm : ∀ vp, (yF vp q Y.tm).lookup m = none) (h : EvA W0 ta Γ W ds) (hg : g Y ds (.inl (Y', d))) :
    EvM W0 (tMeth C m (MutX C g) [] E (tVar i) ta) Γ W [a, q.s] (fun W' v => OwY W0 W' C a q Y' ∧ Rp W'.f v d) := fun σ En Q k => by
  obtain ⟨o, h1, h2⟩ := En.ok i _ hi
  cases h2
  obtain ⟨dx, vp, e, rv⟩ := hy.ob
  refine ⟨_, h1, a, dx, _, rfl, e, hm vp, h W Wd.rfl σ En _ fun vs W1 l1 rs => ?_⟩
  refine ⟨W0, W1, a, q, Y, vs, ds, _, rfl, ?_, En.le.tr l1, hy.mono l1, rs, hg, fun Y2 d2 e2 v W2 l0 c oy r => ?_, fun e he => by cases he⟩
  · rw [List.append_nil]
  · cases e2
    exact k v W2 (Ch.of l1 c) l0 ⟨oy, r⟩
/-- xs.append(e), e with changes, xs apart from them -/
theorem st_appM {p : Addr} (hi : Γ[j]? = some (.val (.ref p))) (ol : OL W0 W p ds) (hp : p ∉ ps) (ha : ∀ s ∈ Γ, s.adr = none) (hz : ds.length < cap) (h : EvM W0 te Γ W ps F) (hr : ∀ W' v, F W' v → Rp W'.f v d)
    (k : ∀ xs v W1 (n : W1.f p = none), Ch W W1 ps → F W1 v → OL W0 (W1.up p (.lst xs) n) p (ds ++ [d]) → N Γ (W1.up p (.lst xs) n)) : ST W0 (tDrop (tBM K "list" rAppend (tVar j) (tCons te tNil))) Γ W N R := fun σ E D hn hrr => by
  obtain ⟨o, h1, h2⟩ := E.ok j _ hi
  cases h2
  obtain ⟨xs, hx, rx⟩ := ol.h
  refine ⟨_, h1, .inl ⟨rfl, xs, SqL.of hx⟩, h σ E _ fun v W2 c l0 hF => ?_⟩
  obtain ⟨n2, hx2⟩ := c.ow _ _ hp hx ol.f
  have hl := rx.length
  refine ⟨p, xs, v, rfl, rfl, hx2, ?_, hn σ (W2.up p _ n2) Γ c.fr (k (xs ++ [v]) v W2 n2 c hF ?_) ?_⟩
  · rw [hl]
    show _ < sizeLine
    have h2 : sizeLine = 100000 ∨ 100000 ≤ sizeLine := by first | exact .inl rfl | exact .inr (by decide)
    have : ds.length < 100000 := hz
    omega
  · refine ⟨n2, ol.n, ⟨_, upd_same, (rx.mono c.fr).append (.cons (hr W2 v hF) .nil)⟩, ?_⟩
    rw [List.length_append]
    show ds.length + 1 ≤ cap
    exact hz
  · exact (E.ch c l0 ha).upR (fun s hs => by rw [ha s hs]; exact fun z => by cases z) n2 ol.n
/-- x = e, e with changes -/
theorem st_asgM (ha : ∀ s ∈ Γ, s.adr = none) (h : EvM W0 te Γ W ps F) (hr : ∀ W' v, F W' v → Rp W'.f v d) (k : ∀ v W1, Ch W W1 ps → W0 ≤ W1 → F W1 v → N (Γ.set i (.dat d)) W1) : ST W0 (tAsg te (gName i)) Γ W N R := fun σ E D hn hrr =>
  h σ E _ fun v W2 c l0 hF => hn _ W2 _ c.fr (k v W2 c l0 hF) ((E.ch c l0 ha).putD (hr W2 v hF))
theorem st_dropM (ha : ∀ s ∈ Γ, s.adr = none) (h : EvM W0 te Γ W ps F) (k : ∀ v W1, Ch W W1 ps → W0 ≤ W1 → F W1 v → N Γ W1) : ST W0 (tDrop te) Γ W N R := fun σ E D hn hrr =>
  h σ E _ fun v W2 c l0 hF => hn _ W2 _ c.fr (k v W2 c l0 hF) (E.ch c l0 ha)
/-- o.m(..), o data over the heap: a new list of one's own -/
theorem ej_methL {g : List D → (Wd → Wd → V → Prop) → Prop} (ho : EvH W0 te Γ W (.obj C fs)) (hm : fs.lookup m = none) (h : EvAH W0 ta Γ W ds) (hg : g (.obj C fs :: ds) (fun W1 W2 v => ∃ p, v = .ref p ∧ OL W1 W2 p es)) (ht : D.tpys es = true) :
    EvJ W0 (tMeth C m (Prm g) [] E te ta) Γ W (fun W1 W2 v => ∃ p, v = .ref p ∧ OL W1 W2 p es) := fun W1 l1 σ En Q k => ho W1 l1 σ En _ fun x W2 l2 r => by
  cases r with
  | obj e r =>
    refine ⟨_, _, _, rfl, e, r.lookup_none hm, h W2 (l1.tr l2) σ (En.mono l2) _ fun vs W3 l3 rs => ?_⟩
    refine ⟨W3.all, _, _, rfl, .cons (.obj (l3.hh _ _ e) (r.mono l3.hh)) ?_, hg, fun v W' l' r' => ?_⟩
    · rw [List.append_nil]
      exact rs
    · obtain ⟨p, rfl, o⟩ := r'
      exact k (.ref p) (W3.cut W' l') ((l2.tr l3).tr (Wd.le_cut l')) ⟨p, rfl, (OL.cut l' o ht).base (l2.tr l3)⟩
theorem eh_methH {g : List D → D → Prop} (ho : EvH W0 te Γ W (.obj C fs)) (hm : fs.lookup m = none) (h : EvAH W0 ta Γ W ds) (hg : g (.obj C fs :: ds) d) :
    EvH W0 (tMeth C m (Pure g) [] E te ta) Γ W d := fun W1 l1 σ En Q k => ho W1 l1 σ En _ fun x W2 l2 r => by
  cases r with
  | obj e r =>
    refine ⟨_, _, _, rfl, e, r.lookup_none hm, h W2 (l1.tr l2) σ (En.mono l2) _ fun vs W3 l3 rs => ?_⟩
    refine ⟨W3.all, _, d, rfl, .cons (.obj (l3.hh _ _ e) (r.mono l3.hh)) ?_, hg, fun v W' l' r' => k v (W3.cut W' l') ((l2.tr l3).tr (Wd.le_cut l')) (r'.mono W'.ex)⟩
    rw [List.append_nil]
    exact rs
/-- a call hands back a new list of one's own -/
theorem ej_callL {g : List D → (Wd → Wd → V → Prop) → Prop} (h : EvAH W0 ta Γ W ds) (hg : g ds (fun W1 W2 v => ∃ p, v = .ref p ∧ OL W1 W2 p es)) (ht : D.tpys es = true) : EvJ W0 (tCall (Prm g) [] E ta) Γ W (fun W1 W2 v => ∃ p, v = .ref p ∧ OL W1 W2 p es) := fun W1 l1 σ En Q k => h W1 l1 σ En _ fun vs W2 l2 r => by
  refine ⟨W2.all, ds, _, rfl, ?_, hg, fun v W' l' r' => ?_⟩
  · rw [List.append_nil]
    exact r
  · obtain ⟨p, rfl, o⟩ := r'
    exact k (.ref p) (W2.cut W' l') (l2.tr (Wd.le_cut l')) ⟨p, rfl, (OL.cut l' o ht).base l2⟩
/-- a new list of one's own, frozen at once -/
theorem EvJ.fzl (h : EvJ W0 te Γ W (fun W1 W2 v => ∃ p, v = .ref p ∧ OL W1 W2 p es)) : EvD W0 te Γ W (.lst es) := fun W1 l1 σ E Q k => h W1 l1 σ E Q fun v W2 l2 hF => by
  obtain ⟨p, rfl, o⟩ := hF
  obtain ⟨xs, hx, r⟩ := o.h
  exact k (.ref p) (W2.fz p _ hx) (Wd.le_fz0 l2 o.n hx) (.lst upd_same o.c (r.mono (Wd.fz_fr hx)))
/-- return of a new list of one's own -/
theorem st_retJ {F : Wd → Wd → V → Prop} (h : EvJ W0 te Γ W F) (hR : ∀ v W2, W ≤ W2 → F W W2 v → R W2 v) : ST W0 (tRet te) Γ W N R := fun σ E D hn hr => h W Wd.rfl σ E _ fun v W2 l2 r => hr v W2 (E.le.tr l2) (hR v W2 l2 r)
end
/-- a method that may refuse -/
structure DkX (P : Program) (w : World) (K : PySem.W.Frag) (mg : Str → Option Value) (base : Heap) (k : Nat) (C : Addr) (m : Str) (ps : List Str) (sp : Sp) : Prop where
  cl : Cls K C
  ex : ∃ f fd, Meth K C m f ∧ Binds K fd ps [] ∧ FnOk P w K mg base (L2.CX P w) k f fd ps sp
section
variable {X : Cx} {k : Nat} {C : Addr} {m : Str} {ps : List Str} {sp : Sp} {o e : Expr} {es : List Expr} {ta : TE} {t : TA} {apos pos : Pos} {pl : Sem Bool}
theorem pe_mt0 (G : Dk X.prog X.w X.K X.mg X.base k C m ps sp) (hr : Room k X.A) (ho : PE X o ta)
    (ht : eval (.Call (.Attribute o m apos) [] [] pos) X.env = (do
      let ov ← eval o X.env
      standAt apos.atName
      let (f, first) ← holding [ov] (getMethod ov m pl)
      callWith pos f first (backTo pos (starEach [] X.env)) (backToKw pos (keywordEach [] X.env))) := by rfl) :
    PE X (.Call (.Attribute o m apos) [] [] pos) (tMeth C m sp [] E0 ta tNil) := by
  obtain ⟨f, fd, hk, hb, F⟩ := G.ex
  exact pe_meth0 ho G.cl hk F hr hb .nil pass0 ht
theorem pe_mtL (G : DkX X.prog X.w X.K X.mg X.base k C m ps sp) (hr : Room k X.A) (ho : PE X o ta) (ha : PA X (e :: es) t)
    (hst : starEach (e :: es) X.env = (false, eval e X.env) :: starEach es X.env := by rfl) (hpl : (backTo pos (starEach es X.env)).any (·.1) = false := by rfl)
    (ht : eval (.Call (.Attribute o m apos) (e :: es) [] pos) X.env = (do
      let ov ← eval o X.env
      standAt apos.atName
      let (f, first) ← holding [ov] (getMethod ov m pl)
      callWith pos f first (backTo pos (starEach (e :: es) X.env)) (backToKw pos (keywordEach [] X.env))) := by rfl) :
    PE X (.Call (.Attribute o m apos) (e :: es) [] pos) (tMeth C m sp [] E0 ta t) := by
  obtain ⟨f, fd, hk, hb, F⟩ := G.ex
  exact pe_meth ho G.cl hk F hr hb .nil passL ha hst hpl ht
theorem pe_mtT {E : XK} (G : DkX X.prog X.w X.K X.mg X.base k C m ps sp) (tk : Takes X (fun cls d _ H => E cls d H)) (hr : Room k X.A) (ho : PE X o ta) (ha : PA X (e :: es) t)
    (hst : starEach (e :: es) X.env = (false, eval e X.env) :: starEach es X.env := by rfl) (hpl : (backTo pos (starEach es X.env)).any (·.1) = false := by rfl)
    (ht : eval (.Call (.Attribute o m apos) (e :: es) [] pos) X.env = (do
      let ov ← eval o X.env
      standAt apos.atName
      let (f, first) ← holding [ov] (getMethod ov m pl)
      callWith pos f first (backTo pos (starEach (e :: es) X.env)) (backToKw pos (keywordEach [] X.env))) := by rfl) :
    PE X (.Call (.Attribute o m apos) (e :: es) [] pos) (tMeth C m sp [] E ta t) := by
  obtain ⟨f, fd, hk, hb, F⟩ := G.ex
  exact pe_meth ho G.cl hk F hr hb .nil (passes_call tk (fun _ _ _ _ h => h)) ha hst hpl ht
end
/-- self.f = e, self one's own: what stays -/
theorem st_fldY {K : PySem.W.Frag} {W0 W : Wd} {Γ : List Sl} {te : TE} {N : List Sl → Wd → Prop} {R : Wd → V → Prop} {i : Nat} {F : Wd → Wd → V → Prop} {a C dx : Addr} {f : Str} {gs : List (Str × V)} {gs' : V → List (Str × V)} (hi : Γ[i]? = some (.val (.ref a))) (ha : W.h a = some (.ins C dx gs)) (hf : W.f a = none) (h0 : W0.h a = none) (l0 : W0 ≤ W) (hc : Cls K C) (hn : NoAttr K C f) (hl : gs.length < 1000)
    (hg : ∀ v, putF f v gs = gs' v) (h : EvJ W0 te Γ W F) (q : ∀ v W1 W2, W ≤ W1 → F W W1 v → W2.f = W1.f → W2.h a = some (.ins C dx (gs' v)) → W0 ≤ W2 → (∀ p ds, p ≠ a → OL W0 W1 p ds → OL W0 W2 p ds) → N Γ W2) : ST W0 (sFld K (tVar i) te f) Γ W N R :=
  st_fldJ hi ha hf h0 hc hn hl h fun v W1 n l r => q v W1 _ l r rfl (by rw [← hg]; exact upd_same) (Wd.le_up0 (l0.tr l) h0 n) fun p ds hp o => o.other hp n
theorem OL.nea {W W' : Wd} {p a : Addr} {ds : List D} {u : HO} (o : OL W W' p ds) (e : W.h a = some u) : p ≠ a := fun z => by
  have := o.n
  rw [z, e] at this
  cases this
section
variable {K : PySem.W.Frag} {W0 W W' : Wd} {Γ Γ' : List Sl} {te t1 : TE} {ta : TA} {d : D} {ds es : List D} {N : List Sl → Wd → Prop} {R : Wd → V → Prop} {i j : Nat} {C a : Addr} {E : XK} {m : Str} {fs : List (Str × D)}
/-- o.m(..), which may refuse and changes nothing -/
theorem st_dropMX {g : List D → (Wd → Wd → V → Prop) ⊕ Addr → Prop} {o : (Wd → Wd → V → Prop) ⊕ Addr} (ho : EvH W0 te Γ W (.obj C fs)) (hm : fs.lookup m = none) (h : EvAH W0 ta Γ W ds) (hg : g (.obj C fs :: ds) o) (hin : ∀ po, o = .inl po → ∀ W2, W ≤ W2 → N Γ W2)
    (hex : ∀ e, o = .inr e → ∀ W', W ≤ W' → E (.ref e) none W'.h) : ST W0 (tDrop (tMeth C m (PrmX g) [] E te ta)) Γ W N R := fun σ En D hn hr => ho W Wd.rfl σ En _ fun x W2 l2 r => by
  cases r with
  | obj e r =>
    refine ⟨_, _, _, rfl, e, r.lookup_none hm, h W2 l2 σ (En.mono l2) _ fun vs W3 l3 rs => ?_⟩
    refine ⟨W3.all, _, o, rfl, .cons (.obj (l3.hh _ _ e) (r.mono l3.hh)) ?_, hg, fun po eo v W' l' r' => ?_, fun c eo W' l' => ?_⟩
    · rw [List.append_nil]
      exact rs
    · have l := (l2.tr l3).tr (Wd.le_cut l')
      exact hn σ (W3.cut W' l') Γ l.fr (hin po eo _ l) (En.mono l)
    · exact hex c eo (W3.cut W' l') ((l2.tr l3).tr (Wd.le_cut l'))
theorem st_raiseW {C : Addr} (h : E (.ref C) none W.h) : ST W0 (fun _ σ H => (fun (_ : L2.St) (H : Hp) (Q : XK) => Q (.ref C) none H) σ H fun cls d H' => (fun cls d (_ : L2.St) H => E cls d H) cls d σ H') Γ W N R := fun σ En D hn hr => h
theorem pys_get : ∀ {ds : List D} {j : Nat} {z : PyData}, (D.pys ds)[j]? = some z → ∃ d, ds[j]? = some d ∧ z = d.py
  | [], j, z, h => by unfold D.pys at h; simp at h
  | d :: ds, 0, z, h => by
    unfold D.pys at h
    exact ⟨d, rfl, (Option.some.inj h).symm⟩
  | d :: ds, j + 1, z, h => by
    unfold D.pys at h
    obtain ⟨e, h1, h2⟩ := pys_get (ds := ds) (j := j) (by simpa using h)
    exact ⟨e, by simpa using h1, h2⟩
theorem pys_get2 : ∀ {ds : List D} {j : Nat} {d : D}, ds[j]? = some d → (D.pys ds)[j]? = some d.py
  | [], j, z, h => by simp at h
  | d :: ds, 0, z, h => by
    unfold D.pys
    cases h
    rfl
  | d :: ds, j + 1, z, h => by
    unfold D.pys
    simpa using pys_get2 (ds := ds) (j := j) (by simpa using h)
/-- where the first one stands -/
theorem first_of {α : Type} [BEq α] [LawfulBEq α] : ∀ {xs : List α} {x : α}, x ∈ xs → ∃ j, xs[j]? = some x ∧ (∀ m y, m < j → xs[m]? = some y → y ≠ x) ∧ xs.eraseIdx j = xs.erase x
  | [], x, h => by cases h
  | a :: r, x, h => by
    by_cases e : a = x
    · refine ⟨0, by rw [e]; rfl, fun m y hm => absurd hm (Nat.not_lt_zero _), ?_⟩
      rw [e, List.erase_cons_head]
      rfl
    · have hr : x ∈ r := by
        rcases List.mem_cons.mp h with z | z
        · exact absurd z.symm e
        · exact z
      obtain ⟨j, h1, h3, h4⟩ := first_of hr
      refine ⟨j + 1, by simpa using h1, fun m y hm hy => ?_, ?_⟩
      · cases m with
        | zero => cases hy; exact e
        | succ m => exact h3 m y (Nat.lt_of_succ_lt_succ hm) (by simpa using hy)
      · rw [List.erase_cons_tail (by simpa using e), ← h4]
        rfl
theorem RpL.eraseIdx {f : Hp} : ∀ {vs : List V} {ds : List D} (j : Nat), RpL f vs ds → RpL f (vs.eraseIdx j) (ds.eraseIdx j)
  | _, _, _, .nil => .nil
  | _, _, 0, .cons h r => r
  | _, _, j + 1, .cons h r => .cons h (RpL.eraseIdx j r)
theorem erase_mapA {α β : Type} (f : α → β) : ∀ (l : List α) (j : Nat), (l.map f).eraseIdx j = (l.eraseIdx j).map f
  | [], j => by simp
  | a :: r, 0 => by simp
  | a :: r, j + 1 => by
    have ih := erase_mapA f r j
    simp [ih]
/-- xs.remove(y), y in it, xs one's own -/
theorem st_remD {α : Type} [BEq α] [LawfulBEq α] {c : α → D} {as : List α} {y : α} {p : Addr} {xs : List V} (hr : EvRef W0 t1 Γ W p) (n : W.f p = none) (n0 : W0.h p = none) (hx : W.h p = some (.lst xs)) (rx : RpL W.f xs (as.map c)) (hc : (as.map c).length ≤ cap) (ha : ∀ s ∈ Γ, s.adr ≠ some p) (h : EvD W0 te Γ W (c y)) (hy : y ∈ as)
    (he : ∀ a b, D.eqb (c a) (c b) = true ↔ a = b) (h1 : (c y).shp = true) (h2 : (D.lst (as.map c)).shp = true)
    (q : ∀ ys W1 (n1 : W1.f p = none), W ≤ W1 → RpL W1.f ys ((as.erase y).map c) → N Γ (W1.up p (.lst ys) n1)) : ST W0 (tDrop (tBM K "list" (rRemD K) t1 (tCons te tNil))) Γ W N R := fun σ E Dn hn hrr =>
  hr W Wd.rfl σ E _ ⟨.inl ⟨rfl, xs, SqL.of hx⟩, h W Wd.rfl σ E _ fun v W2 l2 rv => by
    obtain ⟨n2, hx2⟩ := l2.ow _ _ hx n
    obtain ⟨k, hk1, hk2, hk3⟩ := first_of hy
    have hp := shp_pl h2
    unfold D.pl at hp
    have da := RpL.dp (K := K) (Same.refl _) hp ((rx.mono l2.fr).mono W2.ex)
    refine ⟨p, v, xs, (c y).py, D.pys (as.map c), k, (c y).py, rfl, rfl, hx2, da, (rv.mono W2.ex).dp (Same.refl _) (shp_pl h1), by rw [← py_lst]; exact shp_sh h2, shp_sh h1, pys_get2 (by rw [List.getElem?_map, hk1]; rfl), (he y y).mpr rfl, fun m z hm hz => ?_, ?_⟩
    · obtain ⟨d, hd, rfl⟩ := pys_get hz
      rw [List.getElem?_map] at hd
      obtain ⟨b, hb, rfl⟩ := Option.map_eq_some_iff.mp hd
      have := hk2 m b hm hb
      cases e : PyData.eqv (c b).py (c y).py with
      | false => rfl
      | true => exact absurd ((he b y).mp e) this
    · refine hn σ (W2.up p _ n2) Γ l2.fr (q (xs.eraseIdx k) W2 n2 l2 ?_) ((E.mono l2).upR ha n2 n0)
      have := (rx.mono l2.fr).eraseIdx k
      rw [erase_mapA, hk3] at this
      exact this⟩
end
end Fg

set_option Elab.async false
set_option linter.all false
set_option maxRecDepth 100000
set_option maxHeartbeats 4000000
namespace Fg
open PySem L2 RZ
local macro_rules | `(tactic| walk_at "bo") => `(tactic| simp only [Bool.or_eq_false_iff, Bool.or_eq_true, Bool.and_eq_true, Bool.not_eq_true', Bool.not_eq_false', Bool.not_eq_true, Bool.not_eq_false, decide_eq_true_eq, decide_eq_false_iff_not, Bool.true_eq_false, Bool.false_eq_true, Bool.and_eq_false_imp] at *)
local macro_rules | `(tactic| walk_at "sd") => `(tactic| first
  | assumption
  | exact rfl
  | omega
  | (refine at_ints ?_; first | omega | (walk_at "bo"; omega) | skip)
  | exact Nat.le_of_ble_eq_true rfl
  | (show _ ≤ cap; first | decide | omega | (simp only [List.length_map, List.length_append]; omega))
  | (walk_at "bo"; omega)
  | skip)
local macro_rules | `(tactic| walk_at "ea") => `(tactic| first
  | exact ea_nil
  | (apply ea_cons; (focus walk_at "ev"); walk_at "ea"))
local macro_rules | `(tactic| walk_at "eh") => `(tactic| first
  | exact ev_varA rfl (by first | assumption | omega | decide)
  | exact ev_varK rfl (by first | assumption | omega | decide)
  | (apply EvD.h; walk_at "ev"))
local macro_rules | `(tactic| walk_at "el") => `(tactic| first
  | ((with_reducible apply el_lst); (focus walk_at "ea"); walk_at "sd")
  | ((with_reducible apply el_cat); (focus walk_at "ev"); (focus walk_at "ev"); walk_at "sd")
  | ((with_reducible apply el_sl); (focus walk_at "ev"); (focus walk_at "eo"); (focus walk_at "eo"))
  | ((with_reducible apply el_list); walk_at "ev")
  | ((with_reducible apply el_listT); walk_at "ev")
  | ((with_reducible apply el_rev); walk_at "ev"))
local macro_rules | `(tactic| walk_at "eo") => `(tactic| first
  | exact eo_none
  | (apply eo_some; walk_at "ev"))
local macro_rules | `(tactic| walk_at "ev") => `(tactic| first
  | exact ev_int | exact ev_bl | exact ev_non | exact ev_str
  | exact ev_var rfl
  | ((with_reducible apply ev_add); (focus walk_at "ev"); walk_at "ev")
  | ((with_reducible apply ev_sub); (focus walk_at "ev"); walk_at "ev")
  | ((with_reducible apply ev_lt); (focus walk_at "ev"); walk_at "ev")
  | ((with_reducible apply ev_le); (focus walk_at "ev"); walk_at "ev")
  | ((with_reducible apply ev_gt); (focus walk_at "ev"); walk_at "ev")
  | ((with_reducible apply ev_ge); (focus walk_at "ev"); walk_at "ev")
  | ((with_reducible apply ev_eqI); (focus walk_at "ev"); (focus walk_at "ev"); done)
  | ((with_reducible apply ev_neI); (focus walk_at "ev"); (focus walk_at "ev"); done)
  | ((with_reducible apply ev_mulW); (focus walk_at "ev"); (focus walk_at "ev"); walk_at "sd")
  | ((with_reducible apply ev_fdiv); (focus walk_at "ev"); (focus walk_at "ev"); walk_at "sd")
  | ((with_reducible apply ev_mod); (focus walk_at "ev"); (focus walk_at "ev"); walk_at "sd")
  | ((with_reducible apply ev_neg); walk_at "ev")
  | ((with_reducible apply ev_ixT); (focus walk_at "ev"); (focus walk_at "ev"); walk_at "sd")
  | (with_reducible apply ev_ixA rfl ?_ ?_; (focus walk_at "ev"); walk_at "sd")
  | ((with_reducible apply ev_ixL); (focus walk_at "ev"); (focus walk_at "ev"); walk_at "sd")
  | (with_reducible apply ev_lenA rfl)
  | ((with_reducible apply ev_lenLM); walk_at "eh"; done)
  | ((with_reducible apply ev_lenTM); walk_at "eh"; done)
  | ((with_reducible apply ev_lenL); walk_at "eh")
  | ((with_reducible apply ev_lenT); walk_at "eh")
  | ((with_reducible apply ev_lenK); walk_at "eh")
  | ((with_reducible apply ev_isN); walk_at "eh")
  | ((with_reducible apply ev_notN); walk_at "eh")
  | ((with_reducible apply ev_inT); (focus walk_at "ev"); walk_at "ev")
  | ((with_reducible apply ev_inD); (focus walk_at "eh"); (focus walk_at "eh"); all_goals walk_at "sh")
  | ((with_reducible apply ev_notInD); (focus walk_at "eh"); (focus walk_at "eh"); all_goals walk_at "sh")
  | ((with_reducible apply ev_eqD); (focus walk_at "eh"); (focus walk_at "eh"); all_goals walk_at "sh")
  | ((with_reducible apply ev_neD); (focus walk_at "eh"); (focus walk_at "eh"); all_goals walk_at "sh")
  | ((with_reducible apply ev_all); walk_at "eh")
  | ((with_reducible apply ev_any); walk_at "eh")
  | ((with_reducible apply ev_sum); walk_at "eh")
  | ((with_reducible apply ev_lenSet); (focus walk_at "ev"); walk_at "sd")
  | ((with_reducible apply ev_isaI); (focus walk_at "eh"); walk_at "sd")
  | ((with_reducible apply ev_isaB); (focus walk_at "eh"); walk_at "sd")
  | ((with_reducible apply ev_isaL); (focus walk_at "eh"); walk_at "sd")
  | ((with_reducible apply ev_isaT); (focus walk_at "eh"); walk_at "sd")
  | ((with_reducible apply ev_tup); (focus walk_at "ea"); walk_at "sd")
  | ((with_reducible apply ev_catT); (focus walk_at "ev"); (focus walk_at "ev"); walk_at "sd")
  | ((with_reducible apply ev_slT); (focus walk_at "ev"); (focus walk_at "eo"); (focus walk_at "eo"))
  | ((with_reducible apply ev_max2); (focus walk_at "ev"); walk_at "ev")
  | ((with_reducible apply ev_min2); (focus walk_at "ev"); walk_at "ev")
  | ((with_reducible apply ev_abs); walk_at "ev")
  | ((with_reducible apply ev_chain); (focus walk_at "ev"); (focus walk_at "ev"); intro _; walk_at "ev")
  | ((with_reducible apply ev_and); (focus walk_at "ev"); intro _; walk_at "ev")
  | ((with_reducible apply ev_or); (focus walk_at "ev"); intro _; walk_at "ev")
  | ((with_reducible apply ev_not); walk_at "ev")
  | (apply EvL.fz; (focus walk_at "el"); walk_at "sd"))
local macro_rules | `(tactic| walk_at "et") => `(tactic| first
  | ((with_reducible apply et_test); walk_at "ev")
  | ((with_reducible apply et_B); walk_at "ev")
  | ((with_reducible apply et_and); (focus walk_at "et"); intro _; walk_at "et")
  | ((with_reducible apply et_or); (focus walk_at "et"); intro _; walk_at "et")
  | ((with_reducible apply et_not); walk_at "et"))
local macro_rules | `(tactic| walk_at "sh") => `(tactic| first
  | exact (sh_tup2 (sh_int _) (sh_int _)).shp (by decide) | exact (sh_pr _).shp (by decide) | exact (sh_prs _).shp (by decide) | exact (sh_st _).shp (by decide) | exact (sh_is _).shp (by decide) | exact (sh_ws _).shp (by decide) | exact (sh_rg _).shp (by decide) | exact (sh_rgs _).shp (by decide) | exact (sh_fm _).shp (by decide)
  | exact sh_nil.shp (by decide) | exact (sh_bls _).shp (by decide) | decide +kernel | skip)

/-- Yard's own facts -/
structure Ty (K : PySem.W.Frag) (C : Addr) : Prop where
  k : OkC K C
  r : NoAttr K C "rooms"
  g : NoAttr K C "gates"
  f : NoAttr K C "flocks"
  p : NoAttr K C "pens"
  s : NoAttr K C "shut"
  t : NoAttr K C "times"
section
variable {P : Program} {w : World} {K : PySem.W.Frag} {mg : Str → Option Value} {base : Heap} {B : EAdr} {C : Addr}
abbrev s_Yard___init__ : Stmt := inClass (top 47) 0
theorem sc_Yard___init__ : FnScope ["self", "farm", "flocks", "stand"] ["self", "farm", "flocks", "stand"] (defScope s_Yard___init__) := ⟨rfl, rfl, rfl, by decide +kernel, rfl, by decide +kernel, by decide +kernel⟩
abbrev s_Yard_farm_now : Stmt := inClass (top 47) 1
theorem sc_Yard_farm_now : FnScope ["self", "gate"] ["self"] (defScope s_Yard_farm_now) := ⟨rfl, rfl, rfl, by decide +kernel, rfl, by decide +kernel, by decide +kernel⟩
abbrev s_Yard_lead : Stmt := inClass (top 47) 2
theorem sc_Yard_lead : FnScope ["self", "flock", "pen"] ["self", "flock", "pen"] (defScope s_Yard_lead) := ⟨rfl, rfl, rfl, by decide +kernel, rfl, by decide +kernel, by decide +kernel⟩
abbrev s_Yard_asked_gate : Stmt := inClass (top 47) 3
theorem sc_Yard_asked_gate : FnScope ["self", "gate", "one"] ["self", "gate"] (defScope s_Yard_asked_gate) := ⟨rfl, rfl, rfl, by decide +kernel, rfl, by decide +kernel, by decide +kernel⟩
abbrev s_Yard_lock : Stmt := inClass (top 47) 4
theorem sc_Yard_lock : FnScope ["self", "gate"] ["self", "gate"] (defScope s_Yard_lock) := ⟨rfl, rfl, rfl, by decide +kernel, rfl, by decide +kernel, by decide +kernel⟩
abbrev s_Yard_unlock : Stmt := inClass (top 47) 5
theorem sc_Yard_unlock : FnScope ["self", "gate"] ["self", "gate"] (defScope s_Yard_unlock) := ⟨rfl, rfl, rfl, by decide +kernel, rfl, by decide +kernel, by decide +kernel⟩
abbrev s_Yard_stand_now : Stmt := inClass (top 47) 6
theorem sc_Yard_stand_now : FnScope ["self"] ["self"] (defScope s_Yard_stand_now) := ⟨rfl, rfl, rfl, by decide +kernel, rfl, by decide +kernel, by decide +kernel⟩
abbrev s_Yard_can_do : Stmt := inClass (top 47) 7
theorem sc_Yard_can_do : FnScope ["self"] ["self"] (defScope s_Yard_can_do) := ⟨rfl, rfl, rfl, by decide +kernel, rfl, by decide +kernel, by decide +kernel⟩
abbrev s_Yard_locked : Stmt := inClass (top 47) 8
theorem sc_Yard_locked : FnScope ["self"] ["self"] (defScope s_Yard_locked) := ⟨rfl, rfl, rfl, by decide +kernel, rfl, by decide +kernel, by decide +kernel⟩
/-- a yard as it should be -/
structure YOk (Y : YD) : Prop where
  f : Fok Y.fm
  l : Lok Y.fl
  s : Std Y.fm Y.fl Y.st
  h : ∀ g ∈ Y.sh, g ∈ Y.fm.gates
  nd : Y.sh.Nodup
theorem YOk.len {Y : YD} (h : YOk Y) : Y.sh.length ≤ 100 := Nat.le_trans (nodup_le h.nd h.h) h.f.2.2.2.2
theorem YOk.now {Y : YD} (h : YOk Y) : GatesOk Y.fm.rooms.length Y.now.gates := (gates_ok h.f).sub List.filter_sublist
def gDeedsL : List D → (Wd → Wd → V → Prop) → Prop := fun ds po => ∃ (fm : Farm) (fl st : List Int), ds = [dFm fm, dIs fl, dSt st] ∧ Sz fm fl st ∧ po = postL ((deedsOf fm fl st).map dPr)
theorem ok_deeds_ofL {f : Addr} {fd : FuncData} (F : Fun K "deeds_of" "deeds_of" s_deeds_of f fd) (T : Tp mg) (D_can_go : Df P w K mg base 1 "can_go" ["farm", "flocks", "stand", "flock", "pen"] (Pure gCanGo)) :
    FnOk P w K mg base CX0 2 f fd ["farm", "flocks", "stand"] (Prm gDeedsL) := by
  refine fn_prm F sc_deeds_of (fun ds r h => by obtain ⟨_, _, _, rfl, _⟩ := h; rfl) (fun cdv A outer s H E hr ds po hg => ?_)
  obtain ⟨fm, fl, st, rfl, hz, rfl⟩ := hg
  refine ⟨_, (pss_cons (ps_sv 3 sc_deeds_of.nd (pe_lst pa_nil))
  (pss_cons (ps_for PassesOwn.never rfl (pi_range1 (by rfl) T.n_range (pa_cons (pe_callB (kx_c_len K) (by rfl) T.n_len b_len (pa_cons (pv 1) pa_nil)) pa_nil)) (pg_n 4 sc_deeds_of.nd) (pss_one (ps_expr (pe_bm PySem.F.plainAttrs_list PySem.F.slot_list_extend PySem.F.type_list_extend mt_extend (pv 3) (pa_cons (pe_lc (own := [("pen", 5)]) rfl sc_deeds_of.nd (pi_range1 (by rfl) T.n_range (pa_cons (pe_callB (kx_c_len K) (by rfl) T.n_len b_len (pa_cons (pe_ix (kx_ix_tup K) (pv 0) pe_int (fun _ _ => rfl)) pa_nil)) pa_nil)) (blkOk_by (own := [("pen", 5)]) (N := ["farm", "flocks", "stand", "found", "flock", "pen"]) (sc := defScope s_deeds_of) (by decide +kernel)) (fun _ _ _ _ _ => (pg_n 5 sc_deeds_of.nd)) (fun _ _ _ _ _ => (pts_one (pt_val (pe_df D_can_go (hr.mono (by decide)) (by rfl) (pa_cons (pv 0) (pa_cons (pv 1) (pa_cons (pv 2) (pa_cons (pv 4) (pa_cons (pv 5) pa_nil))))))))) (fun _ _ _ _ _ => (pe_tup (pa_cons (pv 4) (pa_cons (pv 5) pa_nil))))) pa_nil)))))
  (pss_one (ps_ret (pv 3))))), fun W0 => ?_⟩
  refine st_seq (st_asgL (by walk_at "el") (fun l W1 l1 => ?_))
  refine st_seq (st_fold (List.range fl.length) (fun i => .int (i : Int)) (fun gs => [.dat (dFm fm), .dat (dIs fl), .dat (dSt st), .acc l (gs.map dPr), .no, .no]) (fun gs i => gs ++ deedsAt fm fl st i) [] ?_ ?_ ?_ ?_)
  · refine ItD.to (it_rng1 (ea_cons (by walk_at "ev") ea_nil) ?_) ?_
    · have := hz.f
      omega
    · rw [Int.toNat_natCast]
  · exact wk_refl _
  · intro i s a W' hi hs l'
    refine ⟨_, _, tg_name, fun W2 l2 => ?_⟩
    refine st_ext (i := 3) rfl ((el_lc (List.range fm.rooms.length) (fun j => .int (j : Int)) (fun j => canGo fm fl st (a : Int) (j : Int)) (fun j => .tup [.int (a : Int), .int (j : Int)]) (ItD.to (it_rng1 (ea_cons (by walk_at "ev") ea_nil) ?_) ?_) ?_ (fun j _ => ⟨_, _, fun _ h => h, tg_name, fun W3 l3 => ⟨et_test (ev_call (by walk_at "ea") ⟨fm, fl, st, a, j, rfl, hz.s, rfl⟩), fun _ => by walk_at "ev"⟩⟩)).fz ?_) ?_ (fun W3 l3 => ?_)
    · have := hz.r
      omega
    · rw [Int.toNat_natCast]
    · rw [List.length_range]
      have := hz.r
      show _ ≤ 100000
      omega
    · have := deedsAt_le fm fl st a
      unfold deedsAt at this
      rw [List.length_map] at this
      rw [List.length_map]
      have := hz.r
      show _ ≤ 100000
      omega
    · have e1 := flatMap_le (deedsAt fm fl st) 6 (fun i => Nat.le_trans (deedsAt_le fm fl st i) hz.r) ((List.range fl.length).take i)
      have e2 := deedsAt_le fm fl st a
      unfold deedsAt at e2
      rw [List.length_map] at e2
      have := hz.r
      have := hz.f
      have e3 : ((List.range fl.length).take i).length ≤ 4 := by
        rw [List.length_take, List.length_range]
        omega
      rw [hs, foldl_flatMap, List.nil_append, List.length_map, List.length_map]
      show _ ≤ 100000
      omega
    · show Wk _ [_, _, _, Sl.acc l (List.map dPr (s ++ deedsAt fm fl st a)), _, _]
      rw [List.map_append]
      unfold deedsAt
      rw [List.map_map]
      exact wk_cons (wk_cons (wk_cons (wk_cons (wk_drop (wk_drop wk_nil)))))
  · intro Wn ln
    rw [foldl_flatMap, List.nil_append]
    have hl := deedsOf_le hz
    unfold deedsOf at hl
    refine st_retA (i := 3) rfl ?_ (fun o => ⟨l, rfl, o⟩)
    rw [List.length_map]
    show _ ≤ 100000
    omega
/-! ### what a yard tells -/
def gFarmNow (C : Addr) : List D → D → Prop := fun ds r => ∃ Y : YD, ds = [dYd C Y] ∧ Y.fm.gates.length ≤ 1000 ∧ Y.sh.length ≤ 1000 ∧ r = dFm Y.now
theorem ok_farm_now {f : Addr} {fd : FuncData} (F : Fun K "farm_now" "Yard.farm_now" s_Yard_farm_now f fd) (T : Tp mg) (Q : Ty K C) : FnOk P w K mg base CX0 1 f fd ["self"] (Pure (gFarmNow C)) := by
  refine fn_pure F sc_Yard_farm_now (fun ds r h => by obtain ⟨_, rfl, _⟩ := h; rfl) (fun cdv A2 outer s H E hr ds r hg => ?_)
  obtain ⟨Y, rfl, h1, h2, rfl⟩ := hg
  have hu65 := hu65_of hr
  refine ⟨_, (pss_one (ps_ret (pe_tup (pa_cons (kx_fld K (pv 0) rfl) (pa_cons (pe_lc (own := [("gate", 1)]) rfl sc_Yard_farm_now.nd (pi_list (kx_fld K (pv 0) rfl)) (blkOk_by (own := [("gate", 1)]) (N := ["self", "gate"]) (sc := defScope s_Yard_farm_now) (by decide +kernel)) (fun _ _ _ _ _ => (pg_n 1 sc_Yard_farm_now.nd)) (fun _ _ _ _ _ => (pts_one (pt_cmpR (kx_op_notInD K hu65) (pv 1) (kx_fld K (pv 0) rfl) (by rfl)))) (fun _ _ _ _ _ => (pv 1))) pa_nil))))), fun W0 => ?_⟩
  refine st_ret (ev_tup (ds := [dIs Y.fm.rooms, dPrs (Y.fm.gates.filter fun g => !decide (g ∈ Y.sh))]) (ea_cons (ev_fld (ev_var rfl) rfl Q.k.cl Q.r) (ea_cons (EvL.fz (el_lc Y.fm.gates dPr (fun g => !decide (g ∈ Y.sh)) dPr (it_list (ev_fld (ev_var rfl) rfl Q.k.cl Q.g)) (by show _ ≤ 100000; omega) (fun g _ => ⟨_, _, fun _ h => h, tg_name, fun W6 l6 => ⟨et_test (EvD.to (ev_notInD (EvD.h (ev_var rfl)) (EvD.h (ev_fld (ev_var rfl) rfl Q.k.cl Q.s)) ((sh_pr _).shp (by decide)) ((sh_prs _).shp (by decide))) (by rw [inb_pr])), fun _ => ev_var rfl⟩⟩)) ?_) ea_nil)) (by show 2 ≤ 100000; omega)) rfl
  rw [List.length_map]
  have := List.length_filter_le (fun g => !decide (g ∈ Y.sh)) Y.fm.gates
  show _ ≤ 100000
  omega
def gStandNow (C : Addr) : List D → D → Prop := fun ds r => ∃ Y : YD, ds = [dYd C Y] ∧ r = dSt Y.st
theorem ok_stand_now {f : Addr} {fd : FuncData} (F : Fun K "stand_now" "Yard.stand_now" s_Yard_stand_now f fd) (T : Tp mg) (Q : Ty K C) : FnOk P w K mg base CX0 1 f fd ["self"] (Pure (gStandNow C)) := by
  refine fn_pure F sc_Yard_stand_now (fun ds r h => by obtain ⟨_, rfl, _⟩ := h; rfl) (fun cdv A2 outer s H E hr ds r hg => ?_)
  obtain ⟨Y, rfl, rfl⟩ := hg
  refine ⟨_, (pss_one (ps_ret (kx_fld K (pv 0) rfl))), fun W0 => ?_⟩
  exact st_ret (ev_fld (ev_var rfl) rfl Q.k.cl Q.p) rfl
def gCanDo (C : Addr) : List D → (Wd → Wd → V → Prop) → Prop := fun ds po => ∃ Y : YD, ds = [dYd C Y] ∧ YOk Y ∧ po = postL ((deedsOf Y.now Y.fl Y.st).map dPr)
theorem ok_can_do {f : Addr} {fd : FuncData} (F : Fun K "can_do" "Yard.can_do" s_Yard_can_do f fd) (T : Tp mg) (Q : Ty K C) (D_deeds_of : Df P w K mg base 2 "deeds_of" ["farm", "flocks", "stand"] (Prm gDeedsL)) (S_Yard_farm_now : Dk P w K mg base 1 C "farm_now" ["self"] (Pure (gFarmNow C))) : FnOk P w K mg base CX0 3 f fd ["self"] (Prm (gCanDo C)) := by
  refine fn_prm F sc_Yard_can_do (fun ds r h => by obtain ⟨_, rfl, _⟩ := h; rfl) (fun cdv A2 outer s H E hr ds r hg => ?_)
  obtain ⟨Y, rfl, ok, rfl⟩ := hg
  have h1 : Y.fm.gates.length ≤ 100 := ok.f.2.2.2.2
  have h2 := ok.len
  refine ⟨_, (pss_one (ps_ret (pe_df D_deeds_of (hr.mono (by decide)) (by rfl) (pa_cons (pe_mt0 S_Yard_farm_now (hr.mono (by decide)) (pv 0)) (pa_cons (kx_fld K (pv 0) rfl) (pa_cons (kx_fld K (pv 0) rfl) pa_nil)))))), fun W0 => ?_⟩
  refine st_retJ (ej_callL (ds := [dFm Y.now, dIs Y.fl, dSt Y.st]) (es := (deedsOf Y.now Y.fl Y.st).map dPr) (eah_cons (eh_methH (EvD.h (ev_var rfl)) rfl eah_nil ⟨Y, rfl, by omega, by omega, rfl⟩) (eah_cons (EvD.h (ev_fld (ev_var rfl) rfl Q.k.cl Q.f)) (eah_cons (EvD.h (ev_fld (ev_var rfl) rfl Q.k.cl Q.p)) eah_nil))) ⟨Y.now, Y.fl, Y.st, rfl, ⟨ok.f.1.2, ok.l.1.2, ok.s.len⟩, rfl⟩ (tpys_map tpy_pr _)) (fun v W2 l o => o)
def gLocked (C : Addr) : List D → (Wd → Wd → V → Prop) → Prop := fun ds po => ∃ Y : YD, ds = [dYd C Y] ∧ Y.sh.length ≤ 1000 ∧ po = postL ((srtP Y.sh).map dPr)
theorem ok_locked {f : Addr} {fd : FuncData} (F : Fun K "locked" "Yard.locked" s_Yard_locked f fd) (T : Tp mg) (Q : Ty K C) : FnOk P w K mg base CX0 1 f fd ["self"] (Prm (gLocked C)) := by
  refine fn_prm F sc_Yard_locked (fun ds r h => by obtain ⟨_, rfl, _⟩ := h; rfl) (fun cdv A2 outer s H E hr ds r hg => ?_)
  obtain ⟨Y, rfl, h1, rfl⟩ := hg
  refine ⟨_, (pss_one (ps_ret (pe_callB (kx_c_sorted K rfl) (by rfl) T.n_sorted b_sorted (pa_cons (kx_fld K (pv 0) rfl) pa_nil)))), fun W0 => ?_⟩
  refine st_retJ (EvL.j (el_sortedP (gs := Y.sh) (ev_fld (ev_var rfl) rfl Q.k.cl Q.s)) ?_) (fun v W2 l o => o)
  rw [List.length_map, (srtP_perm _).length_eq]
  show _ ≤ 100000
  omega
/-! ### a new yard -/
def gYardIni (C : Addr) : List D → (Wd → Wd → Addr → Prop) → Prop := fun ds po => ∃ (fm : Farm) (fl st : List Int), ds = [dFm fm, dIs fl, dSt st] ∧ Fok fm ∧ Lok fl ∧ Std fm fl st ∧ po = fun W1 W2 x => ∃ q, OwY W1 W2 C x q ⟨fm, fl, st, [], 0⟩
theorem ok_Yard_init {f : Addr} {fd : FuncData} (F : Fun K "__init__" "Yard.__init__" s_Yard___init__ f fd) (T : Tp mg) (Q : Ty K C) (D_asked_stand : Df P w K mg base 4 "asked_stand" ["farm", "flocks", "stand"] (Pure gAskedStand)) : FnOk P w K mg base CX0 5 f fd ["self", "farm", "flocks", "stand"] (Ini C (gYardIni C)) := by
  refine fn_ini F sc_Yard___init__ (fun ds r h => by obtain ⟨_, _, _, rfl, _⟩ := h; rfl) (fun cdv A2 outer s H E hr ds po hg => ?_)
  obtain ⟨fm, fl, st, rfl, hf, hl, hs, rfl⟩ := hg
  have c1 : (fm.rooms.map D.int).length ≤ cap := by
    rw [List.length_map]
    have := hf.1.2
    show _ ≤ 100000
    omega
  have c2 : (fm.gates.map dPr).length ≤ cap := by
    rw [List.length_map]
    have : fm.gates.length ≤ 100 := hf.2.2.2.2
    show _ ≤ 100000
    omega
  have c3 : (fl.map D.int).length ≤ cap := by
    rw [List.length_map]
    have := hl.1.2
    show _ ≤ 100000
    omega
  refine ⟨_, (pss_cons (ps_expr (pe_df D_asked_stand (hr.mono (by decide)) (by rfl) (pa_cons (pv 1) (pa_cons (pv 2) (pa_cons (pv 3) pa_nil)))))
  (pss_cons (ps_fld (pv 0) (pe_callTy (kx_c_list K) (by rfl) T.n_list b_list (pa_cons (pe_ix (kx_ix_tup K) (pv 1) pe_int (fun _ _ => rfl)) pa_nil)) rfl)
  (pss_cons (ps_fld (pv 0) (pe_callTy (kx_c_list K) (by rfl) T.n_list b_list (pa_cons (pe_ix (kx_ix_tup K) (pv 1) pe_int (fun _ _ => rfl)) pa_nil)) rfl)
  (pss_cons (ps_fld (pv 0) (pe_callTy (kx_c_list K) (by rfl) T.n_list b_list (pa_cons (pv 2) pa_nil)) rfl)
  (pss_cons (ps_fld (pv 0) (pv 3) rfl)
  (pss_cons (ps_fld (pv 0) (pe_lst pa_nil) rfl)
  (pss_one (ps_fld (pv 0) pe_int rfl)))))))), fun W1 W2 a dx l12 h1 h2 h3 => ?_⟩
  refine st_seq (st_drop (ev_call (ea_cons (ev_var rfl) (ea_cons (ev_var rfl) (ea_cons (ev_var rfl) ea_nil))) ⟨fm, fl, st, rfl, hf, hl, hs, rfl⟩) (fun W3 l3 => ?_))
  obtain ⟨n3, e3⟩ := l3.ow _ _ h3 h2
  have l13 := l12.tr l3
  refine st_seq (st_fldY (i := 0) (gs' := fun v => [("rooms", v)]) rfl e3 n3 h1 l13 Q.k.cl Q.r (by show 0 < 1000; omega) (fun v => rfl) (EvL.j (el_list (ev_ixT (ev_var rfl) ev_int at0)) c1) (fun v W4 W5 l4 r4 f5 e5 l5 t5 => ?_))
  obtain ⟨pr, rfl, o4⟩ := r4
  have npr := o4.nea e3
  have n5 : W5.f a = none := by rw [f5]; exact (l4.ow _ _ e3 n3).1
  have or5 := t5 _ _ npr (o4.base l13)
  refine st_seq (st_fldY (i := 0) (gs' := fun v => [("rooms", .ref pr), ("gates", v)]) rfl e5 n5 h1 l5 Q.k.cl Q.g (by show 1 < 1000; omega) (fun v => rfl) (EvL.j (el_list (ev_ixT (ev_var rfl) ev_int at1)) c2) (fun v W6 W7 l6 r6 f7 e7 l7 t7 => ?_))
  obtain ⟨pg, rfl, o6⟩ := r6
  have npg := o6.nea e5
  have n7 : W7.f a = none := by rw [f7]; exact (l6.ow _ _ e5 n5).1
  have or7 := t7 _ _ npr (or5.mono l6)
  have og7 := t7 _ _ npg (o6.base l5)
  refine st_seq (st_fldY (i := 0) (gs' := fun v => [("rooms", .ref pr), ("gates", .ref pg), ("flocks", v)]) rfl e7 n7 h1 l7 Q.k.cl Q.f (by show 2 < 1000; omega) (fun v => rfl) (EvL.j (el_list (ev_var rfl)) c3) (fun v W8 W9 l8 r8 f9 e9 l9 t9 => ?_))
  obtain ⟨pf, rfl, o8⟩ := r8
  have npf := o8.nea e7
  have n9 : W9.f a = none := by rw [f9]; exact (l8.ow _ _ e7 n7).1
  have or9 := t9 _ _ npr (or7.mono l8)
  have og9 := t9 _ _ npg (og7.mono l8)
  have of9 := t9 _ _ npf (o8.base l7)
  refine st_seq (st_fldY (i := 0) (gs' := fun v => [("rooms", .ref pr), ("gates", .ref pg), ("flocks", .ref pf), ("pens", v)]) rfl e9 n9 h1 l9 Q.k.cl Q.p (by show 3 < 1000; omega) (fun v => rfl) (EvD.jt (d := dSt st) (ev_var rfl)) (fun vp W10 W11 l10 r10 f11 e11 l11 t11 => ?_))
  have n11 : W11.f a = none := by rw [f11]; exact (l10.ow _ _ e9 n9).1
  have or11 := t11 _ _ npr (or9.mono l10)
  have og11 := t11 _ _ npg (og9.mono l10)
  have of11 := t11 _ _ npf (of9.mono l10)
  have rp11 : Rp W11.f vp (dSt st) := by rw [f11]; exact r10
  refine st_seq (st_fldY (i := 0) (gs' := fun v => [("rooms", .ref pr), ("gates", .ref pg), ("flocks", .ref pf), ("pens", vp), ("shut", v)]) rfl e11 n11 h1 l11 Q.k.cl Q.s (by show 4 < 1000; omega) (fun v => rfl) (EvL.j (el_lst ea_nil (by decide)) (by decide)) (fun v W12 W13 l12' r12 f13 e13 l13' t13 => ?_))
  obtain ⟨ps, rfl, o12⟩ := r12
  have nps := o12.nea e11
  have n13 : W13.f a = none := by rw [f13]; exact (l12'.ow _ _ e11 n11).1
  have or13 := t13 _ _ npr (or11.mono l12')
  have og13 := t13 _ _ npg (og11.mono l12')
  have of13 := t13 _ _ npf (of11.mono l12')
  have os13 := t13 _ _ nps (o12.base l11)
  have rp13 : Rp W13.f vp (dSt st) := by rw [f13]; exact rp11.mono l12'.fr
  refine st_fldY (i := 0) (gs' := fun v => [("rooms", .ref pr), ("gates", .ref pg), ("flocks", .ref pf), ("pens", vp), ("shut", .ref ps), ("times", v)]) rfl e13 n13 h1 l13' Q.k.cl Q.t (by show 5 < 1000; omega) (fun v => rfl) (EvD.jt (d := .int 0) ev_int) (fun v W14 W15 l14 r14 f15 e15 l15 t15 => ?_)
  cases r14
  refine ⟨⟨pr, pg, pf, ps⟩, ⟨dx, vp, e15, by rw [f15]; exact rp13.mono l14.fr⟩, by rw [f15]; exact (l14.ow _ _ e13 n13).1, h1, t15 _ _ npr (or13.mono l14), t15 _ _ npg (og13.mono l14), t15 _ _ npf (of13.mono l14), t15 _ _ nps (os13.mono l14), Ne.symm (or11.ne o12), Ne.symm (og11.ne o12), Ne.symm (of11.ne o12)⟩
/-! ### what changes a yard -/
def gAskedGate (B : EAdr) (C : Addr) : List D → (Wd → Wd → V → Prop) ⊕ Addr → Prop := fun ds o => ∃ (Y : YD) (g : Int × Int), ds = [dYd C Y, dPr g] ∧ YOk Y ∧ o = if g ∈ Y.fm.gates then .inl (fun _ _ v => v = .non) else .inr B.BadGate
theorem ok_asked_gate {f : Addr} {fd : FuncData} (F : Fun K "asked_gate" "Yard.asked_gate" s_Yard_asked_gate f fd) (T : Tp mg) (Q : Ty K C) (XC : Ex K mg B) (D_is_between : Df P w K mg base 1 "is_between" ["thing", "least", "most"] (Pure gBetween)) : FnOk P w K mg base (L2.CX P w) 2 f fd ["self", "gate"] (PrmX (gAskedGate B C)) := by
  refine fn_prmX F sc_Yard_asked_gate (fun ds r h => by obtain ⟨_, _, rfl, _⟩ := h; rfl) (fun cdv A2 outer s H E hr ds o hg => ?_)
  obtain ⟨Y, g, rfl, ok, rfl⟩ := hg
  have hu65 := hu65_of hr
  refine ⟨_, (pss_cons (ps_if (PW.pt (pw_or (pt_not (pt_val (pe_callB (kx_call_isi K) (by rfl) T.n_isinstance b_isinstance (pa_cons (pv 1) (pa_cons (pe_bltn (v := .ty "tuple") (by rfl) T.n_tuple b_tuple rfl) pa_nil))))) (pw_or (pt_cmpR op_ne (pe_callB (kx_c_len K) (by rfl) T.n_len b_len (pa_cons (pv 1) pa_nil)) pe_int (nomark _)) (pw_or1 (pt_not (pt_val (pe_callB (kx_cr_all K rfl) (by rfl) T.n_all b_all (pa_cons (pe_lc (own := [("one", 2)]) rfl sc_Yard_asked_gate.nd (pi_tup (pv 1)) (blkOk_by (own := [("one", 2)]) (N := ["self", "gate", "one"]) (sc := defScope s_Yard_asked_gate) (by decide +kernel)) (fun _ _ _ _ _ => (pg_n 2 sc_Yard_asked_gate.nd)) (fun _ _ _ _ _ => pts_nil) (fun _ _ _ _ _ => (pe_df D_is_between (hr.mono (by decide)) (by rfl) (pa_cons (pv 2) (pa_cons pe_int (pa_cons pe_int pa_nil)))))) pa_nil)))))))) (pss_one (ps_raise rfl (takes_of rfl rfl rfl rfl) (pmk_own PySem.F.excBase_ValueError XC.BadGate.x XC.BadGate.g XC.BadGate.k (raises_own XC.BadGate.b XC.BadGate.t) rfl))) pss_nil)
  (pss_one (ps_if (pt_cmpR (kx_op_notInD K hu65) (pv 1) (kx_fld K (pv 0) rfl) (by rfl)) (pss_one (ps_raise rfl (takes_of rfl rfl rfl rfl) (pmk_own PySem.F.excBase_ValueError XC.BadGate.x XC.BadGate.g XC.BadGate.k (raises_own XC.BadGate.b XC.BadGate.t) rfl))) pss_nil))), fun W0 hX => ?_⟩
  have hrg : g ∈ Y.fm.gates → 0 ≤ g.1 ∧ g.1 ≤ 5 ∧ 0 ≤ g.2 ∧ g.2 ≤ 5 := fun h => by
    have h1 := (gates_ok ok.f).1 g h
    have := ok.f.1.2
    omega
  refine st_seq (st_when (b := !(decide (0 ≤ g.1 ∧ g.1 ≤ 5) && decide (0 ≤ g.2 ∧ g.2 ≤ 5))) (EvT.to (et_or (et_not (et_test (ev_isaT (EvD.h (ev_var rfl)) rfl))) (fun _ => et_or (et_test (ev_neI (ev_lenT (ds := [.int g.1, .int g.2]) (EvD.h (ev_var rfl))) ev_int)) (fun _ => et_not (et_test (ev_allA [g.1, g.2] .int (fun p => decide (0 ≤ p ∧ p ≤ 5)) (it_tup (ev_var rfl)) (by show 2 ≤ 100000; omega) (fun q _ => ⟨_, _, fun _ h => h, tg_name, fun W3 l3 => EvD.to (ev_call (ea_cons (ev_var rfl) (ea_cons ev_int (ea_cons ev_int ea_nil))) ⟨.int q, 0, 5, rfl, rfl, rfl⟩) ?_⟩)))))) ?_) (fun hb W1 l1 => ?_) (fun hb W1 l1 => ?_))
  · show D.bl (decide (0 ≤ q) && decide (q ≤ 5)) = _
    rw [Bool.decide_and]
  · simp [D.isaT]
  · refine st_raise (hX B.BadGate ?_)
    rw [if_neg]
    intro h
    have h2 := hrg h
    rw [decide_eq_true ⟨h2.1, h2.2.1⟩, decide_eq_true ⟨h2.2.2.1, h2.2.2.2⟩] at hb
    cases hb
  refine st_when (EvT.to (et_test (ev_notInD (EvD.h (ev_var rfl)) (EvD.h (ev_fld (ev_var rfl) rfl Q.k.cl Q.g)) ((sh_pr _).shp (by decide)) ((sh_prs _).shp (by decide)))) (by rw [inb_pr])) (fun hb W2 l2 => ?_) (fun hb W2 l2 => ?_)
  · refine st_raise (hX B.BadGate ?_)
    rw [if_neg]
    simpa using hb
  · refine ⟨_, if_pos (by simpa using hb), rfl⟩
theorem eh_yard {W0 W Wa : Wd} {Γ : List Sl} {a : Addr} {q : YA} {Y : YD} (hy : OwY W0 Wa C a q Y) (l : Wa ≤ W) {i : Nat} (h : Γ[i]? = some (.val (.ref a))) : EvH W0 (tVar i) Γ W (dYd C Y) := eh_val h fun W1 l1 => (hy.mono (l.tr l1)).rp
theorem er_shut {W0 W : Wd} {Γ : List Sl} {a : Addr} {q : YA} {Y : YD} (Q : Ty K C) (hy : OwY W0 W C a q Y) {i : Nat} (h : Γ[i]? = some (.val (.ref a))) : EvRef W0 (tFld K (tVar i) "shut") Γ W q.s := by
  obtain ⟨dx, vp, e, rv⟩ := hy.ob
  exact er_fld h (fun W1 l1 => (l1.ow _ _ e hy.fa).2) rfl Q.k.cl Q.s
def gLead (B : EAdr) : YD → List D → (YD × D) ⊕ Addr → Prop := fun Y ds o => ∃ f p : Int, ds = [.int f, .int p] ∧ YOk Y ∧
  o = if 0 ≤ f ∧ f < Y.fl.length then if 0 ≤ p ∧ p < Y.fm.rooms.length then if canGo Y.now Y.fl Y.st f p = true then .inl (⟨Y.fm, Y.fl, bhd Y.st f p, Y.sh, Y.tm + 1⟩, .int (Y.tm + 1)) else .inr B.CantGo else .inr B.BadPen else .inr B.BadFlock
theorem ok_lead {f : Addr} {fd : FuncData} (F : Fun K "lead" "Yard.lead" s_Yard_lead f fd) (T : Tp mg) (Q : Ty K C) (XC : Ex K mg B) (D_is_between : Df P w K mg base 1 "is_between" ["thing", "least", "most"] (Pure gBetween)) (D_can_go : Df P w K mg base 1 "can_go" ["farm", "flocks", "stand", "flock", "pen"] (Pure gCanGo)) (D_behind : Df P w K mg base 1 "behind" ["stand", "flock", "pen"] (Pure gBehind)) (S_Yard_farm_now : Dk P w K mg base 1 C "farm_now" ["self"] (Pure (gFarmNow C))) :
    FnOk P w K mg base (L2.CX P w) 2 f fd ["self", "flock", "pen"] (MutX C (gLead B)) := by
  refine fn_mutX F sc_Yard_lead (fun Y ds r h => by obtain ⟨_, _, rfl, _⟩ := h; rfl) (fun cdv A2 outer s H E hr Y ds o hg => ?_)
  obtain ⟨fk, pn, rfl, ok, rfl⟩ := hg
  refine ⟨_, (pss_cons (ps_if (pt_not (pt_val (pe_df D_is_between (hr.mono (by decide)) (by rfl) (pa_cons (pv 1) (pa_cons pe_int (pa_cons (pe_op op_sub (pe_callB (kx_c_len K) (by rfl) T.n_len b_len (pa_cons (kx_fld K (pv 0) rfl) pa_nil)) pe_int) pa_nil)))))) (pss_one (ps_raise rfl (takes_of rfl rfl rfl rfl) (pmk_own PySem.F.excBase_ValueError XC.BadFlock.x XC.BadFlock.g XC.BadFlock.k (raises_own XC.BadFlock.b XC.BadFlock.t) rfl))) pss_nil)
  (pss_cons (ps_if (pt_not (pt_val (pe_df D_is_between (hr.mono (by decide)) (by rfl) (pa_cons (pv 2) (pa_cons pe_int (pa_cons (pe_op op_sub (pe_callB (kx_c_len K) (by rfl) T.n_len b_len (pa_cons (kx_fld K (pv 0) rfl) pa_nil)) pe_int) pa_nil)))))) (pss_one (ps_raise rfl (takes_of rfl rfl rfl rfl) (pmk_own PySem.F.excBase_ValueError XC.BadPen.x XC.BadPen.g XC.BadPen.k (raises_own XC.BadPen.b XC.BadPen.t) rfl))) pss_nil)
  (pss_cons (ps_if (pt_not (pt_val (pe_df D_can_go (hr.mono (by decide)) (by rfl) (pa_cons (pe_mt0 S_Yard_farm_now (hr.mono (by decide)) (pv 0)) (pa_cons (kx_fld K (pv 0) rfl) (pa_cons (kx_fld K (pv 0) rfl) (pa_cons (pv 1) (pa_cons (pv 2) pa_nil)))))))) (pss_one (ps_raise rfl (takes_of rfl rfl rfl rfl) (pmk_own PySem.F.excBase_ValueError XC.CantGo.x XC.CantGo.g XC.CantGo.k (raises_own XC.CantGo.b XC.CantGo.t) rfl))) pss_nil)
  (pss_cons (ps_fld (pv 0) (pe_df D_behind (hr.mono (by decide)) (by rfl) (pa_cons (kx_fld K (pv 0) rfl) (pa_cons (pv 1) (pa_cons (pv 2) pa_nil)))) rfl)
  (pss_cons (ps_fld (pv 0) (pe_op op_add (kx_fld K (pv 0) rfl) pe_int) rfl)
  (pss_one (ps_ret (kx_fld K (pv 0) rfl)))))))), fun Bw W a q hB hy hX => ?_⟩
  have h1 : Y.fm.gates.length ≤ 100 := ok.f.2.2.2.2
  have h2 := ok.len
  have hr6 := ok.f.1.2
  have hf4 := ok.l.1.2
  have hX2 : ∀ e, (if 0 ≤ fk ∧ fk < Y.fl.length then if 0 ≤ pn ∧ pn < Y.fm.rooms.length then if canGo Y.now Y.fl Y.st fk pn = true then (Sum.inl (⟨Y.fm, Y.fl, bhd Y.st fk pn, Y.sh, Y.tm + 1⟩, D.int (Y.tm + 1)) : (YD × D) ⊕ Addr) else .inr B.CantGo else .inr B.BadPen else .inr B.BadFlock) = .inr e → ∀ W', W ≤ W' → E (.ref e) none W'.h := fun e he W' l => hX e he W' (hB.tr l) (Ch.rfl.le l) (hy.mono l)
  have bw : ∀ (x : Int) (n : Nat), between (.int x) 0 ((n : Int) - 1) = decide (0 ≤ x ∧ x < (n : Int)) := fun x n => by
    show (decide (0 ≤ x) && decide (x ≤ (n : Int) - 1)) = _
    rw [Bool.decide_and]
    congr 1
    exact decide_eq_decide.mpr ⟨fun h => by omega, fun h => by omega⟩
  have hfl : ∀ {W' : Wd} {Γ : List Sl}, W ≤ W' → Γ[0]? = some (.val (.ref a)) → EvH Bw (tFld K (tVar 0) "flocks") Γ W' (dIs Y.fl) := fun l h => eh_fld (eh_yard hy l h) rfl Q.k.cl Q.f
  have hrm : ∀ {W' : Wd} {Γ : List Sl}, W ≤ W' → Γ[0]? = some (.val (.ref a)) → EvH Bw (tFld K (tVar 0) "rooms") Γ W' (dIs Y.fm.rooms) := fun l h => eh_fld (eh_yard hy l h) rfl Q.k.cl Q.r
  have hpn : ∀ {W' : Wd} {Γ : List Sl}, W ≤ W' → Γ[0]? = some (.val (.ref a)) → EvH Bw (tFld K (tVar 0) "pens") Γ W' (dSt Y.st) := fun l h => eh_fld (eh_yard hy l h) rfl Q.k.cl Q.p
  refine st_seq (st_when (et_not (et_test (EvD.to (ev_call (ea_cons (ev_var rfl) (ea_cons ev_int (ea_cons (ev_sub (ev_lenLM (hfl Wd.rfl rfl)) ev_int) ea_nil))) ⟨.int fk, 0, _, rfl, rfl, rfl⟩) (by rw [bw])))) (fun hb W1 l1 => ?_) (fun hb W1 l1 => ?_))
  · refine st_raiseW (hX2 B.BadFlock ?_ W1 l1)
    rw [if_neg]
    intro h
    rw [decide_eq_true h] at hb
    cases hb
  have hk1 : 0 ≤ fk ∧ fk < Y.fl.length := by simpa using hb
  refine st_seq (st_when (et_not (et_test (EvD.to (ev_call (ea_cons (ev_var rfl) (ea_cons ev_int (ea_cons (ev_sub (ev_lenLM (hrm l1 rfl)) ev_int) ea_nil))) ⟨.int pn, 0, _, rfl, rfl, rfl⟩) (by rw [bw])))) (fun hb2 W2 l2 => ?_) (fun hb2 W2 l2 => ?_))
  · refine st_raiseW (hX2 B.BadPen ?_ W2 (l1.tr l2))
    rw [if_pos hk1, if_neg]
    intro h
    rw [decide_eq_true h] at hb2
    cases hb2
  have hk2 : 0 ≤ pn ∧ pn < Y.fm.rooms.length := by simpa using hb2
  have l12 := l1.tr l2
  refine st_seq (st_when (et_not (et_test (ev_callH (eah_cons (eh_methH (eh_yard hy l12 rfl) rfl eah_nil ⟨Y, rfl, by omega, by omega, rfl⟩) (eah_cons (hfl l12 rfl) (eah_cons (hpn l12 rfl) (eah_cons (EvD.h (ev_var rfl)) (eah_cons (EvD.h (ev_var rfl)) eah_nil))))) ⟨Y.now, Y.fl, Y.st, fk, pn, rfl, ok.s.len, rfl⟩ rfl))) (fun hb3 W3 l3 => ?_) (fun hb3 W3 l3 => ?_))
  · refine st_raiseW (hX2 B.CantGo ?_ W3 (l12.tr l3))
    rw [if_pos hk1, if_pos hk2, if_neg]
    simpa using hb3
  have hk3 : canGo Y.now Y.fl Y.st fk pn = true := by simpa using hb3
  have l13 := l12.tr l3
  have hy3 := hy.mono l13
  obtain ⟨dx, vp, e3, rv3⟩ := hy3.ob
  have hst := ok.s.len
  refine st_seq (st_fldJ (i := 0) rfl e3 hy3.fa hy3.na Q.k.cl Q.p (by show 6 < 1000; omega) (EvD.jt (ev_call (ds := [dSt Y.st, .int fk, .int pn]) (ea_cons ((hpn l13 rfl).tp (tpy_st _)) (ea_cons (ev_var rfl) (ea_cons (ev_var rfl) ea_nil))) ⟨Y.st, fk, pn, rfl, by omega, by omega, by omega, rfl⟩)) (fun v W4 n4 l4 r4 => ?_))
  have hy5 : OwY Bw (W4.up a (.ins C dx (yF v q Y.tm)) n4) C a q ⟨Y.fm, Y.fl, bhd Y.st fk pn, Y.sh, Y.tm⟩ := (hy3.mono l4).setF n4 r4
  have c5 : Ch W (W4.up a (.ins C dx (yF v q Y.tm)) n4) [a, q.s] := (Ch.rfl.le (l13.tr l4)).up (List.mem_cons_self ..) n4
  show ST Bw _ _ (W4.up a (.ins C dx (yF v q Y.tm)) n4) _ _
  generalize W4.up a (.ins C dx (yF v q Y.tm)) n4 = W5 at hy5 c5
  obtain ⟨dx5, vp5, e5, rv5⟩ := hy5.ob
  refine st_seq (st_fldJ (i := 0) rfl e5 hy5.fa hy5.na Q.k.cl Q.t (by show 6 < 1000; omega) (EvD.jt (d := .int (Y.tm + 1)) (ev_add ((eh_fld (eh_yard hy5 Wd.rfl rfl) rfl Q.k.cl Q.t).sc rfl) ev_int)) (fun v W6 n6 l6 r6 => ?_))
  cases r6
  have hy7 : OwY Bw (W6.up a (.ins C dx5 (yF vp5 q (Y.tm + 1))) n6) C a q ⟨Y.fm, Y.fl, bhd Y.st fk pn, Y.sh, Y.tm + 1⟩ := (hy5.mono l6).setF n6 (rv5.mono l6.fr)
  have c7 : Ch W (W6.up a (.ins C dx5 (yF vp5 q (Y.tm + 1))) n6) [a, q.s] := (c5.le l6).up (List.mem_cons_self ..) n6
  show ST Bw _ _ (W6.up a (.ins C dx5 (yF vp5 q (Y.tm + 1))) n6) _ _
  generalize W6.up a (.ins C dx5 (yF vp5 q (Y.tm + 1))) n6 = W7 at hy7 c7
  refine st_retX (d := .int (Y.tm + 1)) ((eh_fld (eh_yard hy7 Wd.rfl rfl) rfl Q.k.cl Q.t).sc rfl) (fun W8 v l8 r8 => ⟨_, _, ?_, c7.le l8, hy7.mono l8, r8⟩)
  rw [if_pos hk1, if_pos hk2, if_pos hk3]
def gLock (B : EAdr) : YD → List D → (YD × D) ⊕ Addr → Prop := fun Y ds o => ∃ g : Int × Int, ds = [dPr g] ∧ YOk Y ∧
  o = if g ∈ Y.fm.gates then if g ∈ Y.sh then .inr B.NotSo else .inl (⟨Y.fm, Y.fl, Y.st, Y.sh ++ [g], Y.tm⟩, .int (Y.sh.length + 1 : Nat)) else .inr B.BadGate
theorem ok_lock {f : Addr} {fd : FuncData} (F : Fun K "lock" "Yard.lock" s_Yard_lock f fd) (T : Tp mg) (Q : Ty K C) (XC : Ex K mg B) (S_Yard_asked_gate : DkX P w K mg base 2 C "asked_gate" ["self", "gate"] (PrmX (gAskedGate B C))) : FnOk P w K mg base (L2.CX P w) 3 f fd ["self", "gate"] (MutX C (gLock B)) := by
  refine fn_mutX F sc_Yard_lock (fun Y ds r h => by obtain ⟨_, rfl, _⟩ := h; rfl) (fun cdv A2 outer s H E hr Y ds o hg => ?_)
  obtain ⟨g, rfl, ok, rfl⟩ := hg
  have hu65 := hu65_of hr
  refine ⟨_, (pss_cons (ps_expr (pe_mtT S_Yard_asked_gate (takes_of rfl rfl rfl rfl) (hr.mono (by decide)) (pv 0) (pa_cons (pv 1) pa_nil)))
  (pss_cons (ps_if (pt_cmpR (kx_op_inD K hu65) (pv 1) (kx_fld K (pv 0) rfl) (by rfl)) (pss_one (ps_raise rfl (takes_of rfl rfl rfl rfl) (pmk_own PySem.F.excBase_ValueError XC.NotSo.x XC.NotSo.g XC.NotSo.k (raises_own XC.NotSo.b XC.NotSo.t) rfl))) pss_nil)
  (pss_cons (ps_expr (pe_bm PySem.F.plainAttrs_list PySem.F.slot_list_append PySem.F.type_list_append mt_append (kx_fld K (pv 0) rfl) (pa_cons (pv 1) pa_nil)))
  (pss_one (ps_ret (pe_callB (kx_c_len K) (by rfl) T.n_len b_len (pa_cons (kx_fld K (pv 0) rfl) pa_nil))))))), fun Bw W a q hB hy hX => ?_⟩
  have h2 := ok.len
  have hX2 : ∀ e, (if g ∈ Y.fm.gates then if g ∈ Y.sh then (.inr B.NotSo : (YD × D) ⊕ Addr) else .inl (⟨Y.fm, Y.fl, Y.st, Y.sh ++ [g], Y.tm⟩, .int (Y.sh.length + 1 : Nat)) else .inr B.BadGate) = .inr e → ∀ W', W ≤ W' → E (.ref e) none W'.h := fun e he W' l => hX e he W' (hB.tr l) (Ch.rfl.le l) (hy.mono l)
  refine st_seq (st_dropMX (eh_yard hy Wd.rfl rfl) rfl (eah_cons (EvD.h (ev_var rfl)) eah_nil) ⟨Y, g, rfl, ok, rfl⟩ (fun po hpo W1 l1 => ?_) (fun e he W1 l1 => ?_))
  rotate_left
  · by_cases hg : g ∈ Y.fm.gates
    · rw [if_pos hg] at he
      cases he
    · rw [if_neg hg] at he
      cases he
      exact hX2 _ (if_neg hg) W1 l1
  have hg : g ∈ Y.fm.gates := by
    by_cases hg : g ∈ Y.fm.gates
    · exact hg
    · rw [if_neg hg] at hpo
      cases hpo
  refine st_seq (st_when (EvT.to (et_test (ev_inD (EvD.h (ev_var rfl)) (eh_fld (eh_yard hy l1 rfl) rfl Q.k.cl Q.s) ((sh_pr _).shp (by decide)) ((sh_prs _).shp (by decide)))) (by rw [inb_pr])) (fun hb W2 l2 => ?_) (fun hb W2 l2 => ?_))
  · refine st_raiseW (hX2 B.NotSo ?_ W2 (l1.tr l2))
    rw [if_pos hg, if_pos]
    simpa using hb
  have hns : g ∉ Y.sh := by simpa using hb
  have l12 := l1.tr l2
  have hy2 := hy.mono l12
  obtain ⟨xs, hx, rx⟩ := hy2.s.h
  have hxl := rx.length
  rw [List.length_map] at hxl
  refine st_seq (st_appR (p := q.s) (er_shut Q hy2 rfl) hy2.s.f hy2.s.n hx (noadr2 rfl) (by rw [hxl]; show _ ≤ 100000; omega) (ev_var (d := dPr g) rfl) (fun v W3 n3 l3 r3 => ?_))
  have hy4 : OwY Bw (W3.up q.s (.lst (xs ++ [v])) n3) C a q ⟨Y.fm, Y.fl, Y.st, Y.sh ++ [g], Y.tm⟩ := (hy2.mono l3).setS n3 (by rw [List.map_append]; exact (rx.mono l3.fr).append (.cons r3 .nil)) (by rw [List.length_append]; show _ + 1 ≤ 100000; omega)
  have c4 : Ch W (W3.up q.s (.lst (xs ++ [v])) n3) [a, q.s] := (Ch.rfl.le (l12.tr l3)).up (List.mem_cons_of_mem _ (List.mem_cons_self ..)) n3
  generalize W3.up q.s (.lst (xs ++ [v])) n3 = W4 at hy4 c4
  refine st_retX (d := .int (Y.sh.length + 1 : Nat)) (EvD.to (ev_lenLM (eh_fld (eh_yard hy4 Wd.rfl rfl) rfl Q.k.cl Q.s)) (by rw [List.length_append]; rfl)) (fun W8 v l8 r8 => ⟨_, _, ?_, c4.le l8, hy4.mono l8, r8⟩)
  rw [if_pos hg, if_neg hns]
def gUnlock (B : EAdr) : YD → List D → (YD × D) ⊕ Addr → Prop := fun Y ds o => ∃ g : Int × Int, ds = [dPr g] ∧ YOk Y ∧
  o = if g ∈ Y.fm.gates then if g ∈ Y.sh then .inl (⟨Y.fm, Y.fl, Y.st, Y.sh.erase g, Y.tm⟩, .int ((Y.sh.erase g).length : Nat)) else .inr B.NotSo else .inr B.BadGate
theorem ok_unlock {f : Addr} {fd : FuncData} (F : Fun K "unlock" "Yard.unlock" s_Yard_unlock f fd) (T : Tp mg) (Q : Ty K C) (XC : Ex K mg B) (S_Yard_asked_gate : DkX P w K mg base 2 C "asked_gate" ["self", "gate"] (PrmX (gAskedGate B C))) : FnOk P w K mg base (L2.CX P w) 3 f fd ["self", "gate"] (MutX C (gUnlock B)) := by
  refine fn_mutX F sc_Yard_unlock (fun Y ds r h => by obtain ⟨_, rfl, _⟩ := h; rfl) (fun cdv A2 outer s H E hr Y ds o hg => ?_)
  obtain ⟨g, rfl, ok, rfl⟩ := hg
  have hu65 := hu65_of hr
  refine ⟨_, (pss_cons (ps_expr (pe_mtT S_Yard_asked_gate (takes_of rfl rfl rfl rfl) (hr.mono (by decide)) (pv 0) (pa_cons (pv 1) pa_nil)))
  (pss_cons (ps_if (pt_cmpR (kx_op_notInD K hu65) (pv 1) (kx_fld K (pv 0) rfl) (by rfl)) (pss_one (ps_raise rfl (takes_of rfl rfl rfl rfl) (pmk_own PySem.F.excBase_ValueError XC.NotSo.x XC.NotSo.g XC.NotSo.k (raises_own XC.NotSo.b XC.NotSo.t) rfl))) pss_nil)
  (pss_cons (ps_expr (pe_bm PySem.F.plainAttrs_list PySem.F.slot_list_remove PySem.F.type_list_remove (kx_mt_removeD (K0 := K) hu65) (kx_fld K (pv 0) rfl) (pa_cons (pv 1) pa_nil)))
  (pss_one (ps_ret (pe_callB (kx_c_len K) (by rfl) T.n_len b_len (pa_cons (kx_fld K (pv 0) rfl) pa_nil))))))), fun Bw W a q hB hy hX => ?_⟩
  have h2 := ok.len
  have hX2 : ∀ e, (if g ∈ Y.fm.gates then if g ∈ Y.sh then (.inl (⟨Y.fm, Y.fl, Y.st, Y.sh.erase g, Y.tm⟩, .int ((Y.sh.erase g).length : Nat)) : (YD × D) ⊕ Addr) else .inr B.NotSo else .inr B.BadGate) = .inr e → ∀ W', W ≤ W' → E (.ref e) none W'.h := fun e he W' l => hX e he W' (hB.tr l) (Ch.rfl.le l) (hy.mono l)
  refine st_seq (st_dropMX (eh_yard hy Wd.rfl rfl) rfl (eah_cons (EvD.h (ev_var rfl)) eah_nil) ⟨Y, g, rfl, ok, rfl⟩ (fun po hpo W1 l1 => ?_) (fun e he W1 l1 => ?_))
  rotate_left
  · by_cases hg : g ∈ Y.fm.gates
    · rw [if_pos hg] at he
      cases he
    · rw [if_neg hg] at he
      cases he
      exact hX2 _ (if_neg hg) W1 l1
  have hg : g ∈ Y.fm.gates := by
    by_cases hg : g ∈ Y.fm.gates
    · exact hg
    · rw [if_neg hg] at hpo
      cases hpo
  refine st_seq (st_when (EvT.to (et_test (ev_notInD (EvD.h (ev_var rfl)) (eh_fld (eh_yard hy l1 rfl) rfl Q.k.cl Q.s) ((sh_pr _).shp (by decide)) ((sh_prs _).shp (by decide)))) (by rw [inb_pr])) (fun hb W2 l2 => ?_) (fun hb W2 l2 => ?_))
  · refine st_raiseW (hX2 B.NotSo ?_ W2 (l1.tr l2))
    rw [if_pos hg, if_neg]
    simpa using hb
  have hns : g ∈ Y.sh := by simpa using hb
  have l12 := l1.tr l2
  have hy2 := hy.mono l12
  obtain ⟨xs, hx, rx⟩ := hy2.s.h
  refine st_seq (st_remD (c := dPr) (as := Y.sh) (y := g) (p := q.s) (er_shut Q hy2 rfl) hy2.s.f hy2.s.n hx rx hy2.s.c (noadr2 rfl) (ev_var rfl) hns eqb_pr ((sh_pr _).shp (by decide)) ((sh_prs _).shp (by decide)) (fun ys W3 n3 l3 r3 => ?_))
  have hy4 : OwY Bw (W3.up q.s (.lst ys) n3) C a q ⟨Y.fm, Y.fl, Y.st, Y.sh.erase g, Y.tm⟩ := (hy2.mono l3).setS n3 r3 (by rw [List.length_erase_of_mem hns]; show _ ≤ 100000; omega)
  have c4 : Ch W (W3.up q.s (.lst ys) n3) [a, q.s] := (Ch.rfl.le (l12.tr l3)).up (List.mem_cons_of_mem _ (List.mem_cons_self ..)) n3
  generalize W3.up q.s (.lst ys) n3 = W4 at hy4 c4
  refine st_retX (d := .int ((Y.sh.erase g).length : Nat)) (ev_lenLM (eh_fld (eh_yard hy4 Wd.rfl rfl) rfl Q.k.cl Q.s)) (fun W8 v l8 r8 => ⟨_, _, ?_, c4.le l8, hy4.mono l8, r8⟩)
  rw [if_pos hg, if_pos hns]
end
end Fg

set_option Elab.async false
set_option linter.all false
set_option maxRecDepth 100000
set_option maxHeartbeats 4000000
namespace Fg
open PySem L2 RZ
local macro_rules | `(tactic| walk_at "bo") => `(tactic| simp only [Bool.or_eq_false_iff, Bool.or_eq_true, Bool.and_eq_true, Bool.not_eq_true', Bool.not_eq_false', Bool.not_eq_true, Bool.not_eq_false, decide_eq_true_eq, decide_eq_false_iff_not, Bool.true_eq_false, Bool.false_eq_true, Bool.and_eq_false_imp] at *)
local macro_rules | `(tactic| walk_at "sd") => `(tactic| first
  | assumption
  | exact rfl
  | omega
  | (refine at_ints ?_; first | omega | (walk_at "bo"; omega) | skip)
  | exact Nat.le_of_ble_eq_true rfl
  | (show _ ≤ cap; first | decide | omega | (simp only [List.length_map, List.length_append]; omega))
  | (walk_at "bo"; omega)
  | skip)
local macro_rules | `(tactic| walk_at "ea") => `(tactic| first
  | exact ea_nil
  | (apply ea_cons; (focus walk_at "ev"); walk_at "ea"))
local macro_rules | `(tactic| walk_at "eh") => `(tactic| first
  | exact ev_varA rfl (by first | assumption | omega | decide)
  | exact ev_varK rfl (by first | assumption | omega | decide)
  | (apply EvD.h; walk_at "ev"))
local macro_rules | `(tactic| walk_at "el") => `(tactic| first
  | ((with_reducible apply el_lst); (focus walk_at "ea"); walk_at "sd")
  | ((with_reducible apply el_cat); (focus walk_at "ev"); (focus walk_at "ev"); walk_at "sd")
  | ((with_reducible apply el_sl); (focus walk_at "ev"); (focus walk_at "eo"); (focus walk_at "eo"))
  | ((with_reducible apply el_list); walk_at "ev")
  | ((with_reducible apply el_listT); walk_at "ev")
  | ((with_reducible apply el_rev); walk_at "ev"))
local macro_rules | `(tactic| walk_at "eo") => `(tactic| first
  | exact eo_none
  | (apply eo_some; walk_at "ev"))
local macro_rules | `(tactic| walk_at "ev") => `(tactic| first
  | exact ev_int | exact ev_bl | exact ev_non | exact ev_str
  | exact ev_var rfl
  | ((with_reducible apply ev_add); (focus walk_at "ev"); walk_at "ev")
  | ((with_reducible apply ev_sub); (focus walk_at "ev"); walk_at "ev")
  | ((with_reducible apply ev_lt); (focus walk_at "ev"); walk_at "ev")
  | ((with_reducible apply ev_le); (focus walk_at "ev"); walk_at "ev")
  | ((with_reducible apply ev_gt); (focus walk_at "ev"); walk_at "ev")
  | ((with_reducible apply ev_ge); (focus walk_at "ev"); walk_at "ev")
  | ((with_reducible apply ev_eqI); (focus walk_at "ev"); (focus walk_at "ev"); done)
  | ((with_reducible apply ev_neI); (focus walk_at "ev"); (focus walk_at "ev"); done)
  | ((with_reducible apply ev_mulW); (focus walk_at "ev"); (focus walk_at "ev"); walk_at "sd")
  | ((with_reducible apply ev_fdiv); (focus walk_at "ev"); (focus walk_at "ev"); walk_at "sd")
  | ((with_reducible apply ev_mod); (focus walk_at "ev"); (focus walk_at "ev"); walk_at "sd")
  | ((with_reducible apply ev_neg); walk_at "ev")
  | ((with_reducible apply ev_ixT); (focus walk_at "ev"); (focus walk_at "ev"); walk_at "sd")
  | (with_reducible apply ev_ixA rfl ?_ ?_; (focus walk_at "ev"); walk_at "sd")
  | ((with_reducible apply ev_ixL); (focus walk_at "ev"); (focus walk_at "ev"); walk_at "sd")
  | (with_reducible apply ev_lenA rfl)
  | ((with_reducible apply ev_lenLM); walk_at "eh"; done)
  | ((with_reducible apply ev_lenTM); walk_at "eh"; done)
  | ((with_reducible apply ev_lenL); walk_at "eh")
  | ((with_reducible apply ev_lenT); walk_at "eh")
  | ((with_reducible apply ev_lenK); walk_at "eh")
  | ((with_reducible apply ev_isN); walk_at "eh")
  | ((with_reducible apply ev_notN); walk_at "eh")
  | ((with_reducible apply ev_inT); (focus walk_at "ev"); walk_at "ev")
  | ((with_reducible apply ev_inD); (focus walk_at "eh"); (focus walk_at "eh"); all_goals walk_at "sh")
  | ((with_reducible apply ev_notInD); (focus walk_at "eh"); (focus walk_at "eh"); all_goals walk_at "sh")
  | ((with_reducible apply ev_eqD); (focus walk_at "eh"); (focus walk_at "eh"); all_goals walk_at "sh")
  | ((with_reducible apply ev_neD); (focus walk_at "eh"); (focus walk_at "eh"); all_goals walk_at "sh")
  | ((with_reducible apply ev_all); walk_at "eh")
  | ((with_reducible apply ev_any); walk_at "eh")
  | ((with_reducible apply ev_sum); walk_at "eh")
  | ((with_reducible apply ev_lenSet); (focus walk_at "ev"); walk_at "sd")
  | ((with_reducible apply ev_isaI); (focus walk_at "eh"); walk_at "sd")
  | ((with_reducible apply ev_isaB); (focus walk_at "eh"); walk_at "sd")
  | ((with_reducible apply ev_isaL); (focus walk_at "eh"); walk_at "sd")
  | ((with_reducible apply ev_isaT); (focus walk_at "eh"); walk_at "sd")
  | ((with_reducible apply ev_tup); (focus walk_at "ea"); walk_at "sd")
  | ((with_reducible apply ev_catT); (focus walk_at "ev"); (focus walk_at "ev"); walk_at "sd")
  | ((with_reducible apply ev_slT); (focus walk_at "ev"); (focus walk_at "eo"); (focus walk_at "eo"))
  | ((with_reducible apply ev_max2); (focus walk_at "ev"); walk_at "ev")
  | ((with_reducible apply ev_min2); (focus walk_at "ev"); walk_at "ev")
  | ((with_reducible apply ev_abs); walk_at "ev")
  | ((with_reducible apply ev_chain); (focus walk_at "ev"); (focus walk_at "ev"); intro _; walk_at "ev")
  | ((with_reducible apply ev_and); (focus walk_at "ev"); intro _; walk_at "ev")
  | ((with_reducible apply ev_or); (focus walk_at "ev"); intro _; walk_at "ev")
  | ((with_reducible apply ev_not); walk_at "ev")
  | (apply EvL.fz; (focus walk_at "el"); walk_at "sd"))
local macro_rules | `(tactic| walk_at "et") => `(tactic| first
  | ((with_reducible apply et_test); walk_at "ev")
  | ((with_reducible apply et_B); walk_at "ev")
  | ((with_reducible apply et_and); (focus walk_at "et"); intro _; walk_at "et")
  | ((with_reducible apply et_or); (focus walk_at "et"); intro _; walk_at "et")
  | ((with_reducible apply et_not); walk_at "et"))
local macro_rules | `(tactic| walk_at "sh") => `(tactic| first
  | exact (sh_tup2 (sh_int _) (sh_int _)).shp (by decide) | exact (sh_pr _).shp (by decide) | exact (sh_prs _).shp (by decide) | exact (sh_st _).shp (by decide) | exact (sh_is _).shp (by decide) | exact (sh_ws _).shp (by decide) | exact (sh_rg _).shp (by decide) | exact (sh_rgs _).shp (by decide) | exact (sh_fm _).shp (by decide)
  | exact sh_nil.shp (by decide) | exact (sh_bls _).shp (by decide) | decide +kernel | skip)

theorem OwY.upo {W0 W : Wd} {C a p : Addr} {q : YA} {Y : YD} (h : OwY W0 W C a q Y) {x : HO} (n : W.f p = none) {ho : ∀ xs, x ≠ .tup xs} (na : p ≠ a) (nr : p ≠ q.r) (ng : p ≠ q.g) (nf : p ≠ q.f) (ns : p ≠ q.s) : OwY W0 (W.up p x n ho) C a q Y := by
  have c : Ch W (W.up p x n ho) [p] := (Ch.rfl).up (List.mem_singleton.mpr rfl) n
  have z : ∀ {b : Addr}, p ≠ b → b ∉ [p] := fun hb hm => hb (List.mem_singleton.mp hm).symm
  exact h.ch c (z na) (z nr) (z ng) (z nf) (z ns)
section
variable {P : Program} {w : World} {K : PySem.W.Frag} {mg : Str → Option Value} {base : Heap} {A : Adr} {B : EAdr} {C : Addr}
abbrev s__law_yard_right : Stmt := top 54
theorem sc__law_yard_right : FnScope ["_law_farm_here", "_law_flocks", "_law_stand", "_law_yard", "_law_found", "_law_gate", "_law_flock", "_law_pen", "_law_deed"] ["_law_farm_here", "_law_flocks", "_law_stand"] (defScope s__law_yard_right) := ⟨rfl, rfl, rfl, by decide +kernel, rfl, by decide +kernel, by decide +kernel⟩

def gYardRight : List D → D → Prop := fun ds r => ∃ (fm : Farm) (fl st : List Int), ds = [dFm fm, dIs fl, dSt st] ∧ Fok fm ∧ Lok fl ∧ Std fm fl st ∧ r = .bl true
theorem ok_law_yard_right {f : Addr} {fd : FuncData} (F : Fun K "_law_yard_right" "_law_yard_right" s__law_yard_right f fd) (T : Tp mg) (Q : Ty K C) (D__law_plain : Df P w K mg base 5 "_law_plain" ["_law_thing"] (Pure (gPlain 4))) (M_Yard : Dm P w K mg base 5 "Yard" C ["self", "farm", "flocks", "stand"] (Ini C (gYardIni C)))
    (S_Yard_stand_now : Dk P w K mg base 1 C "stand_now" ["self"] (Pure (gStandNow C))) (S_Yard_can_do : Dk P w K mg base 3 C "can_do" ["self"] (Prm (gCanDo C))) (S_Yard_locked : Dk P w K mg base 1 C "locked" ["self"] (Prm (gLocked C)))
    (S_Yard_lead : DkX P w K mg base 2 C "lead" ["self", "flock", "pen"] (MutX C (gLead B))) (S_Yard_lock : DkX P w K mg base 3 C "lock" ["self", "gate"] (MutX C (gLock B))) (S_Yard_unlock : DkX P w K mg base 3 C "unlock" ["self", "gate"] (MutX C (gUnlock B))) :
    FnOk P w K mg base CX0 7 f fd ["_law_farm_here", "_law_flocks", "_law_stand"] (Pure gYardRight) := by
  refine fn_pure F sc__law_yard_right (fun ds r h => by obtain ⟨_, _, _, rfl, _⟩ := h; rfl) (fun cdv A2 outer s H E hr ds r hg => ?_)
  obtain ⟨fm, fl, st, rfl, hf, hl, hs, rfl⟩ := hg
  refine ⟨_, (pss_cons (ps_sv 3 sc__law_yard_right.nd (pe_mk M_Yard (hr.mono (by decide)) (by rfl) (pa_cons (pv 0) (pa_cons (pv 1) (pa_cons (pv 2) pa_nil)))))
  (pss_cons (ps_sv 4 sc__law_yard_right.nd (pe_lst (pa_cons (pe_mt0 S_Yard_can_do (hr.mono (by decide)) (pv 3)) (pa_cons (pe_mt0 S_Yard_locked (hr.mono (by decide)) (pv 3)) (pa_cons (pe_mt0 S_Yard_stand_now (hr.mono (by decide)) (pv 3)) pa_nil)))))
  (pss_cons (ps_for PassesOwn.never rfl (pi_list (pe_ix (kx_ix_tup K) (pv 0) pe_int (fun _ _ => rfl))) (pg_n 5 sc__law_yard_right.nd) (pss_one (ps_expr (pe_bm PySem.F.plainAttrs_list PySem.F.slot_list_append PySem.F.type_list_append mt_append (pv 4) (pa_cons (pe_mtL S_Yard_lock (hr.mono (by decide)) (pv 3) (pa_cons (pv 5) pa_nil)) pa_nil)))))
  (pss_cons (ps_expr (pe_bm PySem.F.plainAttrs_list PySem.F.slot_list_append PySem.F.type_list_append mt_append (pv 4) (pa_cons (pe_mt0 S_Yard_locked (hr.mono (by decide)) (pv 3)) pa_nil)))
  (pss_cons (ps_for PassesOwn.never rfl (pi_list (pe_slice (kx_sl_list K) (pe_ix (kx_ix_tup K) (pv 0) pe_int (fun _ _ => rfl)) (po_some pe_int) po_none)) (pg_n 5 sc__law_yard_right.nd) (pss_one (ps_expr (pe_bm PySem.F.plainAttrs_list PySem.F.slot_list_append PySem.F.type_list_append mt_append (pv 4) (pa_cons (pe_mtL S_Yard_unlock (hr.mono (by decide)) (pv 3) (pa_cons (pv 5) pa_nil)) pa_nil)))))
  (pss_cons (ps_for PassesOwn.never rfl (pi_list (pe_slice (kx_sl_list K) (pe_mt0 S_Yard_can_do (hr.mono (by decide)) (pv 3)) po_none (po_some pe_int))) (pg_tupK (K0 := K) (n := 2) rfl rfl (pgs_cons (pg_n 6 sc__law_yard_right.nd) (pgs_cons (pg_n 7 sc__law_yard_right.nd) pgs_nil))) (pss_one (ps_expr (pe_bm PySem.F.plainAttrs_list PySem.F.slot_list_append PySem.F.type_list_append mt_append (pv 4) (pa_cons (pe_mtL S_Yard_lead (hr.mono (by decide)) (pv 3) (pa_cons (pv 6) (pa_cons (pv 7) pa_nil))) pa_nil)))))
  (pss_cons (ps_if (PW.pt (pw_or (pt_not (pt_val (pe_df D__law_plain (hr.mono (by decide)) (by rfl) (pa_cons (pv 4) pa_nil)))) (pw_or1 (pt_not (pt_val (pe_callB (kx_call_isi K) (by rfl) T.n_isinstance b_isinstance (pa_cons (pe_mt0 S_Yard_stand_now (hr.mono (by decide)) (pv 3)) (pa_cons (pe_bltn (v := .ty "tuple") (by rfl) T.n_tuple b_tuple rfl) pa_nil)))))))) (pss_one (ps_ret pe_bl)) pss_nil)
  (pss_one (ps_ret (pe_callB (kx_cr_all K rfl) (by rfl) T.n_all b_all (pa_cons (pe_lc (own := [("_law_deed", 8)]) rfl sc__law_yard_right.nd (pi_list (pe_mt0 S_Yard_can_do (hr.mono (by decide)) (pv 3))) (blkOk_by (own := [("_law_deed", 8)]) (N := ["_law_farm_here", "_law_flocks", "_law_stand", "_law_yard", "_law_found", "_law_gate", "_law_flock", "_law_pen", "_law_deed"]) (sc := defScope s__law_yard_right) (by decide +kernel)) (fun _ _ _ _ _ => (pg_n 8 sc__law_yard_right.nd)) (fun _ _ _ _ _ => pts_nil) (fun _ _ _ _ _ => (pe_callB (kx_call_isi K) (by rfl) T.n_isinstance b_isinstance (pa_cons (pv 8) (pa_cons (pe_bltn (v := .ty "tuple") (by rfl) T.n_tuple b_tuple rfl) pa_nil))))) pa_nil))))))))))), fun W0 => ?_⟩
  have hgl : fm.gates.length ≤ 100 := hf.2.2.2.2
  have hgn := (gates_ok hf).nd
  have hsl := hs.len
  have hf4 := hl.1.2
  have hgc : fm.gates.length ≤ cap := by show _ ≤ 100000; omega
  have yok : ∀ sh : List (Int × Int), sh.Nodup → (∀ g ∈ sh, g ∈ fm.gates) → ∀ tm, YOk ⟨fm, fl, st, sh, tm⟩ := fun sh h1 h2 tm => ⟨hf, hl, hs, h2, h1⟩
  have hdl : ∀ Y : YD, YOk Y → (deedsOf Y.now Y.fl Y.st).length ≤ 100 := fun Y h => Nat.le_trans (deedsOf_le ⟨h.f.1.2, h.l.1.2, h.s.len⟩) (by decide)
  refine st_seq (st_asgP (ep_make (ea_cons (ev_var rfl) (ea_cons (ev_var rfl) (ea_cons (ev_var rfl) ea_nil))) ⟨fm, fl, st, rfl, hf, hl, hs, rfl⟩) (fun v W1 W2 l1 l2 hpo => ?_))
  obtain ⟨x, rfl, q, oy2⟩ := hpo
  have oy2 := oy2.base l1
  have hcd : ∀ {Y : YD} {W W' : Wd} {Γ : List Sl}, OwY W0 W C x q Y → YOk Y → W ≤ W' → Γ[3]? = some (.val (.ref x)) → EvD W0 (tMeth C "can_do" (Prm (gCanDo C)) [] E0 (tVar 3) tNil) Γ W' (.lst ((deedsOf Y.now Y.fl Y.st).map dPr)) := fun {Y} {W} {W'} {Γ} hy ok l h =>
    EvJ.fzl (ej_methL (eh_yard hy l h) rfl eah_nil ⟨Y, rfl, ok, rfl⟩ (tpys_map tpy_pr _))
  have hlk : ∀ {Y : YD} {W W' : Wd} {Γ : List Sl}, OwY W0 W C x q Y → YOk Y → W ≤ W' → Γ[3]? = some (.val (.ref x)) → EvD W0 (tMeth C "locked" (Prm (gLocked C)) [] E0 (tVar 3) tNil) Γ W' (.lst ((srtP Y.sh).map dPr)) := fun {Y} {W} {W'} {Γ} hy ok l h =>
    EvJ.fzl (ej_methL (eh_yard hy l h) rfl eah_nil ⟨Y, rfl, by have := ok.len; omega, rfl⟩ (tpys_map tpy_pr _))
  have hsn : ∀ {Y : YD} {W W' : Wd} {Γ : List Sl}, OwY W0 W C x q Y → W ≤ W' → Γ[3]? = some (.val (.ref x)) → EvH W0 (tMeth C "stand_now" (Pure (gStandNow C)) [] E0 (tVar 3) tNil) Γ W' (dSt Y.st) := fun {Y} {W} {W'} {Γ} hy l h => eh_methH (eh_yard hy l h) rfl eah_nil ⟨Y, rfl, rfl⟩
  have y0 := yok [] List.nodup_nil (fun g hg => by cases hg) 0
  refine st_seq (st_asgJ (EvL.j (el_lst (ds := [dPrs (deedsOf (YD.now ⟨fm, fl, st, [], 0⟩) fl st), dPrs (srtP []), dSt st]) (ea_cons (hcd oy2 y0 Wd.rfl rfl) (ea_cons (hlk oy2 y0 Wd.rfl rfl) (ea_cons ((hsn oy2 Wd.rfl rfl).tp (tpy_st _)) ea_nil))) (by show 3 ≤ 100000; omega)) (by show 3 ≤ 100000; omega)) (fun v W3 l3 hv => ?_))
  obtain ⟨p, rfl, op3⟩ := hv
  have nx : p ≠ x := (oy2.mono l3).nl op3
  have nr : p ≠ q.r := Ne.symm (oy2.r.ne op3)
  have ng : p ≠ q.g := Ne.symm (oy2.g.ne op3)
  have nf : p ≠ q.f := Ne.symm (oy2.f.ne op3)
  have ns : p ≠ q.s := Ne.symm (oy2.s.ne op3)
  have hp : p ∉ [x, q.s] := fun hm => by
    simp only [List.mem_cons, List.not_mem_nil, or_false] at hm
    rcases hm with h | h
    · exact nx h
    · exact ns h
  refine st_le (fun hle3 => ?_)
  have oy3 := oy2.mono l3
  have op3 : OL W0 W3 p [dPrs (deedsOf (YD.now ⟨fm, fl, st, [], 0⟩) fl st), dPrs (srtP []), dSt st] := ⟨op3.f, (l1.tr l2).hh.free op3.n, op3.h, op3.c⟩
  have pl0 : ∀ d ∈ [dPrs (deedsOf (YD.now ⟨fm, fl, st, [], 0⟩) fl st), dPrs (srtP []), dSt st], plD 3 d = true := fun d hd => by
    simp only [List.mem_cons, List.not_mem_nil, or_false] at hd
    rcases hd with rfl | rfl | rfl
    · exact plq_up _ _ (plq_prs (Nat.le_trans (hdl _ y0) (by decide)))
    · exact plq_up _ _ (plq_prs (by rw [(srtP_perm _).length_eq]; exact Nat.zero_le _))
    · exact plq_up _ _ (plq_up _ _ (plq_st (by omega)))
  have padd : ∀ {ds : List D} {i : Int}, (∀ d ∈ ds, plD 3 d = true) → ∀ d ∈ ds ++ [.int i], plD 3 d = true := fun h d hd => by
    rcases List.mem_append.mp hd with hd | hd
    · exact h d hd
    · rw [List.mem_singleton.mp hd]
      exact plq_int _ _
  -- all gates locked, one by one
  refine st_seq (st_forI (ItD.to (it_list (ev_ixT (ev_var rfl) ev_int at1)) rfl) (fun k Γ' W' => ∃ ds, Wk Γ' [.dat (dFm fm), .dat (dIs fl), .dat (dSt st), .val (.ref x), .val (.ref p), .no, .no, .no, .no] ∧ OwY W0 W' C x q ⟨fm, fl, st, fm.gates.take k, 0⟩ ∧ OL W0 W' p ds ∧ (∀ d ∈ ds, plD 3 d = true) ∧ ds.length ≤ 3 + k) (fun W4 l4 => ⟨_, wk_refl _, oy3.mono l4, op3.mono l4, pl0, by show 3 ≤ 3 + 0; omega⟩) ?_ ?_)
  · rintro k d Γi Wi hdk ⟨ds, hwk, oyi, opi, hpl, hdn⟩ _
    rw [List.getElem?_map] at hdk
    obtain ⟨g, hg, rfl⟩ := Option.map_eq_some_iff.mp hdk
    have hk : k < fm.gates.length := (List.getElem?_eq_some_iff.mp hg).1
    have hgm := List.mem_of_getElem? hg
    have htk : fm.gates.take (k + 1) = fm.gates.take k ++ [g] := by rw [List.take_add_one, hg]; rfl
    have hns : g ∉ fm.gates.take k := fun hm => by
      have h1 := hgn.sublist (List.take_sublist (k + 1) fm.gates)
      rw [htk] at h1
      exact (List.nodup_append.mp h1).2.2 g hm g (List.mem_singleton.mpr rfl) rfl
    refine ⟨_, _, fun Wz σ v E r Q q => tg_name Wz σ v (E.weak hwk) r Q q, fun W6 l6 => ?_⟩
    have oy6 := oyi.mono l6
    refine st_appM (j := 4) (p := p) (ps := [x, q.s]) (d := .int ((fm.gates.take k).length + 1 : Nat)) rfl (opi.mono l6) hp (noadr rfl) (by show _ < 100000; omega) (em_meth (g := gLock B) (Y' := ⟨fm, fl, st, fm.gates.take k ++ [g], 0⟩) rfl oy6 (fun vp => rfl) (ea_cons (ev_var (d := dPr g) rfl) ea_nil) ⟨g, rfl, yok _ (hgn.sublist (List.take_sublist ..)) (fun h hh => List.mem_of_mem_take hh) 0, by rw [if_pos hgm, if_neg hns]⟩) (fun W' v h => h.2) (fun xs v W7 n7 c7 hF ol7 => ⟨_, ?_, ?_, ol7, padd hpl, by rw [List.length_append]; show _ + 1 ≤ _; omega⟩)
    · exact wk_cons (wk_cons (wk_cons (wk_cons (wk_cons (wk_drop (wk_cons (wk_cons (wk_cons wk_nil))))))))
    · rw [htk]
      exact hF.1.upo n7 nx nr ng nf ns
  rintro Γa Wa _ ⟨da, hwa, oya, opa, hpa, hna⟩
  rw [List.length_map] at hna oya
  rw [List.take_length] at oya
  have ya := yok fm.gates hgn (fun g h => h) 0
  obtain ⟨xs, hx, rx⟩ := opa.h
  have hxl := rx.length
  have hsr : (srtP fm.gates).length ≤ 100 := by rw [(srtP_perm _).length_eq]; exact hgl
  refine st_weak hwa (st_seq (st_appR (p := p) (d := dPrs (srtP fm.gates)) (er_var (i := 4) rfl) opa.f opa.n hx (noadr2 rfl) (by rw [hxl]; show _ ≤ 100000; omega) (hlk oya ya Wd.rfl rfl) (fun v W5 n5 l5 r5 => ?_)))
  have op5 := (opa.mono l5).wr (ys := xs ++ [v]) (es := da ++ [dPrs (srtP fm.gates)]) ((rx.mono l5.fr).append (.cons r5 .nil)) (by rw [List.length_append]; show _ + 1 ≤ 100000; omega) n5
  have oy5 := (oya.mono l5).upo (x := .lst (xs ++ [v])) (ho := fun _ e => by cases e) n5 nx nr ng nf ns
  generalize W5.up p (.lst (xs ++ [v])) n5 = W6 at op5 oy5
  have hp5 : ∀ d ∈ da ++ [dPrs (srtP fm.gates)], plD 3 d = true := fun d hd => by
    rcases List.mem_append.mp hd with hd | hd
    · exact hpa d hd
    · rw [List.mem_singleton.mp hd]
      exact plq_up _ _ (plq_prs (by omega))
  have hcf : cutL fm.gates (some 1) none = fm.gates.drop 1 := by rw [cutL_from _ (by omega)]; rfl
  have hd1 : (fm.gates.drop 1).Nodup := hgn.sublist (List.drop_sublist ..)
  refine st_seq (st_forI (ds := (fm.gates.drop 1).map dPr) (ItD.to (it_list (em_sl (c := dPr) (as := fm.gates) (ev_ixT (ev_var rfl) ev_int at1) (eo_some ev_int) eo_none hgc)) (by rw [hcf])) (fun k Γ' W' => ∃ ds sh, Wk Γ' [.dat (dFm fm), .dat (dIs fl), .dat (dSt st), .val (.ref x), .val (.ref p), .no, .no, .no, .no] ∧ OwY W0 W' C x q ⟨fm, fl, st, sh, 0⟩ ∧ sh.Nodup ∧ (∀ g ∈ sh, g ∈ fm.gates) ∧ (∀ g ∈ (fm.gates.drop 1).drop k, g ∈ sh) ∧ OL W0 W' p ds ∧ (∀ d ∈ ds, plD 3 d = true) ∧ ds.length ≤ 104 + k) (fun W7 l7 => ⟨_, fm.gates, wk_refl _, oy5.mono l7, hgn, fun g h => h, fun g h => List.mem_of_mem_drop (List.mem_of_mem_drop h), op5.mono l7, hp5, by rw [List.length_append]; show _ + 1 ≤ _; omega⟩) ?_ ?_)
  · rintro k d Γi Wi hdk ⟨ds, sh, hwk, oyi, hnd, hsub, hrest, opi, hpl, hdn⟩ _
    rw [List.getElem?_map] at hdk
    obtain ⟨g, hg, rfl⟩ := Option.map_eq_some_iff.mp hdk
    have hk : k < (fm.gates.drop 1).length := (List.getElem?_eq_some_iff.mp hg).1
    have hk2 := hk
    rw [List.length_drop] at hk2
    have hdr : (fm.gates.drop 1).drop k = g :: (fm.gates.drop 1).drop (k + 1) := by
      rw [List.drop_eq_getElem_cons hk]
      congr 1
      exact (List.getElem?_eq_some_iff.mp hg).2
    have hgs : g ∈ sh := hrest g (by rw [hdr]; exact List.mem_cons_self ..)
    have hgm := hsub g hgs
    have hnx : g ∉ (fm.gates.drop 1).drop (k + 1) := by
      have := hd1.sublist (List.drop_sublist k _)
      rw [hdr] at this
      exact (List.nodup_cons.mp this).1
    refine ⟨_, _, fun Wz σ v E r Q q => tg_name Wz σ v (E.weak hwk) r Q q, fun W6 l6 => ?_⟩
    have oy6 := oyi.mono l6
    refine st_appM (j := 4) (p := p) (ps := [x, q.s]) (d := .int ((sh.erase g).length : Nat)) rfl (opi.mono l6) hp (noadr rfl) (by show _ < 100000; omega) (em_meth (g := gUnlock B) (Y' := ⟨fm, fl, st, sh.erase g, 0⟩) rfl oy6 (fun vp => rfl) (ea_cons (ev_var (d := dPr g) rfl) ea_nil) ⟨g, rfl, yok _ hnd hsub 0, by rw [if_pos hgm, if_pos hgs]⟩) (fun W' v h => h.2) (fun xs v W7 n7 c7 hF ol7 => ⟨_, sh.erase g, ?_, hF.1.upo n7 nx nr ng nf ns, hnd.erase g, fun h hh => hsub h (List.mem_of_mem_erase hh), fun h hh => ?_, ol7, padd hpl, by rw [List.length_append]; show _ + 1 ≤ _; omega⟩)
    · exact wk_cons (wk_cons (wk_cons (wk_cons (wk_cons (wk_drop (wk_cons (wk_cons (wk_cons wk_nil))))))))
    · exact (List.mem_erase_of_ne (fun e => hnx (by rw [← e]; exact hh))).mpr (hrest h (by rw [hdr]; exact List.mem_cons_of_mem _ hh))
  rintro Γb Wb _ ⟨db, sh, hwb, oyb, hnd, hsub, _, opb, hpb, hnb⟩
  rw [List.length_map, List.length_drop] at hnb
  have yb := yok sh hnd hsub 0
  have hdb : (deedsOf (YD.now ⟨fm, fl, st, sh, 0⟩) fl st).length ≤ 100 := hdl _ yb
  have hdbc : (deedsOf (YD.now ⟨fm, fl, st, sh, 0⟩) fl st).length ≤ cap := Nat.le_trans hdb (by decide)
  refine st_weak hwb ?_
  refine st_seq (st_forI (ds := (cutL (deedsOf (YD.now ⟨fm, fl, st, sh, 0⟩) fl st) none (some 1)).map dPr) (it_list (em_sl (c := dPr) (hcd oyb yb Wd.rfl rfl) eo_none (eo_some ev_int) hdbc)) (fun k Γ' W' => ∃ ds Y, Wk Γ' [.dat (dFm fm), .dat (dIs fl), .dat (dSt st), .val (.ref x), .val (.ref p), .no, .no, .no, .no] ∧ OwY W0 W' C x q Y ∧ YOk Y ∧ (k = 0 → Y = ⟨fm, fl, st, sh, 0⟩) ∧ OL W0 W' p ds ∧ (∀ d ∈ ds, plD 3 d = true) ∧ ds.length ≤ 300 + k) (fun W7 l7 => ⟨_, _, wk_refl _, oyb.mono l7, yb, fun _ => rfl, opb.mono l7, hpb, by omega⟩) ?_ ?_)
  · rintro k d Γi Wi hdk ⟨ds, Y, hwk, oyi, ok, hY, opi, hpl, hdn⟩ _
    rw [List.getElem?_map] at hdk
    obtain ⟨g, hg, rfl⟩ := Option.map_eq_some_iff.mp hdk
    have hk := (List.getElem?_eq_some_iff.mp hg).1
    have hk0 : k = 0 := by
      rw [cutL_to _ (by omega), List.length_take] at hk
      have : (1 : Int).toNat = 1 := rfl
      omega
    have hYe := hY hk0
    subst hYe
    have hgm := cutL_sub (List.mem_of_getElem? hg)
    have hcan := deeds_mem.mp hgm
    obtain ⟨a0, a1, a2, a3⟩ := canGo_rng hcan
    have hs2 : Std (YD.now ⟨fm, fl, st, sh, 0⟩) fl st := ⟨hs.len, hs.rng, hs.nd, hs.rm⟩
    have hst3 := hs2.bhd hcan
    have hst2 : Std fm fl (bhd st g.1 g.2) := ⟨hst3.len, hst3.rng, hst3.nd, hst3.rm⟩
    refine ⟨_, _, fun Wz σ v E r Q q => tg_pair Wz σ v (E.weak hwk) r Q q, fun W6 l6 => ?_⟩
    have oy6 := oyi.mono l6
    refine st_appM (j := 4) (p := p) (ps := [x, q.s]) (d := .int (0 + 1)) rfl (opi.mono l6) hp (noadr rfl) (by show _ < 100000; omega) (em_meth (g := gLead B) (Y' := ⟨fm, fl, bhd st g.1 g.2, sh, 0 + 1⟩) rfl oy6 (fun vp => rfl) (ea_cons (ev_var (d := .int g.1) rfl) (ea_cons (ev_var (d := .int g.2) rfl) ea_nil)) ⟨g.1, g.2, rfl, yb, by rw [if_pos ⟨a0, a1⟩, if_pos ⟨a2, a3⟩, if_pos hcan]⟩) (fun W' v h => h.2) (fun xs v W7 n7 c7 hF ol7 => ⟨_, _, ?_, hF.1.upo n7 nx nr ng nf ns, ⟨hf, hl, hst2, hsub, hnd⟩, fun z => by omega, ol7, padd hpl, by rw [List.length_append]; show _ + 1 ≤ _; omega⟩)
    exact wk_cons (wk_cons (wk_cons (wk_cons (wk_cons (wk_cons (wk_drop (wk_drop (wk_cons wk_nil))))))))
  rintro Γc Wc _ ⟨dc, Y, hwc, oyc, ok, _, opc, hpc, hnc⟩
  have hnc2 : dc.length ≤ 500 := by
    rw [List.length_map] at hnc
    have := cutL_len (deedsOf (YD.now ⟨fm, fl, st, sh, 0⟩) fl st) none (some 1)
    omega
  refine st_weak hwc ?_
  refine st_seq (st_pass (EvT.to (et_or (et_not (et_test (ev_callH (eah_cons (eh_val rfl (fun W1 l1 => (opc.mono l1).rp)) eah_nil) ⟨.lst dc, rfl, plq_lst hpc (by omega), rfl⟩ rfl))) (fun _ => et_not (et_test (ev_isaT (hsn oyc Wd.rfl rfl) rfl)))) rfl) (fun W8 l8 => ?_))
  refine st_ret (EvD.to (ev_allA (deedsOf Y.now Y.fl Y.st) dPr (fun _ => true) (it_list (hcd oyc ok l8 rfl)) (Nat.le_trans (hdl Y ok) (by decide)) (fun g _ => ⟨_, _, fun _ h => h, tg_name, fun W9 l9 => ev_isaT (EvD.h (ev_var (d := dPr g) rfl)) rfl⟩)) ?_) rfl
  simp
def gLaw (K : PySem.W.Frag) : List D → (Wd → Wd → V → Prop) → Prop := fun ds po => ∃ ns : List Int, ds = [dFl K ns] ∧ ns.length ≤ 63 ∧ po = fun _ _ v => v = .bl true
theorem ok_law {f : Addr} {fd : FuncData} (F : Fun K "law" "law" s_law f fd) (T : Tp mg) (D__law_farm : Df P w K mg base 2 "_law_farm" ["_law_script", "_law_by", "_law_most"] (Prm (gLawFarm K))) (D__law_told_right : Df P w K mg base 6 "_law_told_right" ["_law_farm_here", "_law_flocks", "_law_stand", "_law_wish"] (Pure gTold)) (D__law_yard_right : Df P w K mg base 7 "_law_yard_right" ["_law_farm_here", "_law_flocks", "_law_stand"] (Pure gYardRight)) :
    FnOk P w K mg base CX0 8 f fd ["_law_script"] (Prm (gLaw K)) := by
  refine fn_prm F sc_law (fun ds r h => by obtain ⟨_, rfl, _⟩ := h; rfl) (fun cdv A2 outer s H E hr ds r hg => ?_)
  obtain ⟨ns, rfl, hn63, rfl⟩ := hg
  refine ⟨_, (pss_cons (ps_for PassesOwn.never rfl (pi_list (pe_lst (pa_cons pe_int (pa_cons pe_int (pa_cons pe_int pa_nil))))) (pg_n 1 sc_law.nd) (pss_cons (ps_asg (pe_df D__law_farm (hr.mono (by decide)) (by rfl) (pa_cons (pv 0) (pa_cons (pv 1) (pa_cons pe_int pa_nil)))) (pg_tupK (K0 := K) (n := 4) rfl rfl (pgs_cons (pg_n 2 sc_law.nd) (pgs_cons (pg_n 3 sc_law.nd) (pgs_cons (pg_n 4 sc_law.nd) (pgs_cons (pg_n 5 sc_law.nd) pgs_nil))))))
  (pss_one (ps_if (PW.pt (pw_or (pt_not (pt_val (pe_df D__law_told_right (hr.mono (by decide)) (by rfl) (pa_cons (pv 2) (pa_cons (pv 3) (pa_cons (pv 4) (pa_cons (pv 5) pa_nil))))))) (pw_or1 (pt_not (pt_val (pe_df D__law_yard_right (hr.mono (by decide)) (by rfl) (pa_cons (pv 2) (pa_cons (pv 3) (pa_cons (pv 4) pa_nil))))))))) (pss_one (ps_ret pe_bl)) pss_nil))))
  (pss_one (ps_ret pe_bl))), fun W0 => ?_⟩
  refine st_seq (st_fold [0, 1, 3] (fun (i : Int) => .int i) (fun (_ : Unit) => [.dat (dFl K ns), .no, .no, .no, .no, .no]) (fun _ _ => ()) () (it_list (ev_lst (ea_cons ev_int (ea_cons ev_int (ea_cons ev_int ea_nil))) (by show 3 ≤ 100000; omega))) (wk_refl _) ?_ ?_)
  · intro i _ bi W2 hi _ l2
    have hbi : bi = 0 ∨ bi = 1 ∨ bi = 3 := by
      have := List.mem_of_getElem? hi
      simpa using this
    refine ⟨_, _, tg_name, fun W3 l3 => ?_⟩
    refine st_seq (st_asgTE (P := fun q : Farm × List Int × List Int × List (Option Int) => FarmOk q.1 q.2.1 q.2.2.1 q.2.2.2 ∧ (q.1.rooms.length : Int) ≤ 4) (c := fun q => .tup [dFm q.1, dIs q.2.1, dSt q.2.2.1, dWs q.2.2.2]) (ep_call (ea_cons (ev_var rfl) (ea_cons (ev_var rfl) (ea_cons ev_int ea_nil))) ⟨ns, bi, 4, rfl, by omega, by omega, by omega, by omega, rfl⟩) (fun q hq => tg_tup (tg_cons tg_name (tg_cons tg_name (tg_cons tg_name (tg_cons tg_name tg_nil)))) rfl) (fun q hq W4 l4 => ?_))
    obtain ⟨fm, fl, st, wi⟩ := q
    obtain ⟨hok, hr4⟩ := hq
    dsimp only at hok hr4 ⊢
    obtain ⟨hf, hl, hs, hw⟩ := id hok
    refine st_pass (EvT.to (et_or (et_not (et_test (ev_call (ea_cons (ev_var rfl) (ea_cons (ev_var rfl) (ea_cons (ev_var rfl) (ea_cons (ev_var rfl) ea_nil)))) ⟨fm, fl, st, wi, rfl, hok, by omega, rfl⟩))) (fun _ => et_not (et_test (ev_call (ea_cons (ev_var rfl) (ea_cons (ev_var rfl) (ea_cons (ev_var rfl) ea_nil))) ⟨fm, fl, st, rfl, hf, hl, hs, rfl⟩)))) rfl) (fun W5 l5 => ?_)
    exact wk_cons (wk_drop (wk_drop (wk_drop (wk_drop (wk_drop wk_nil)))))
  · intro Wn ln
    refine st_retX (d := .bl true) ev_bl (fun W2 v l r => ?_)
    cases r
    rfl
end
end Fg

set_option Elab.async false
set_option linter.all false
set_option maxRecDepth 100000
set_option maxHeartbeats 8000000
namespace Fg
open PySem L2 RZ
/-! What the top has written, and the law's own head. -/
theorem all_mk {l : PySem.W.OpenLaw} {w : World} {K : PySem.W.Frag} {h : Heap} {mg : Str → Option Value} {fa : Addr} (X : K.In h) (G : h.Ns mainGlobals mg) (hfa : mg "law" = some (.ref fa))
    {t_MOST_PENS : Tok} {t_MOST_ROOM : Tok} {t_MOST_FLOCKS : Tok} {t_LONGEST : Tok} {f_is_between : Addr} {od_is_between an_is_between : Option Addr} {sl_is_between : Array (Option Value)} {oc_is_between kV_is_between dc_is_between pm_is_between cd_is_between ct_is_between : Value} {f_can_go : Addr} {od_can_go an_can_go : Option Addr} {sl_can_go : Array (Option Value)} {oc_can_go kV_can_go dc_can_go pm_can_go cd_can_go ct_can_go : Value} {f_behind : Addr} {od_behind an_behind : Option Addr} {sl_behind : Array (Option Value)} {oc_behind kV_behind dc_behind pm_behind cd_behind ct_behind : Value} {f_as_wished : Addr} {od_as_wished an_as_wished : Option Addr} {sl_as_wished : Array (Option Value)} {oc_as_wished kV_as_wished dc_as_wished pm_as_wished cd_as_wished ct_as_wished : Value} {f_is_gate : Addr} {od_is_gate an_is_gate : Option Addr} {sl_is_gate : Array (Option Value)} {oc_is_gate kV_is_gate dc_is_gate pm_is_gate cd_is_gate ct_is_gate : Value} {f_asked_farm : Addr} {od_asked_farm an_asked_farm : Option Addr} {sl_asked_farm : Array (Option Value)} {oc_asked_farm kV_asked_farm dc_asked_farm pm_asked_farm cd_asked_farm ct_asked_farm : Value} {f_asked_flocks : Addr} {od_asked_flocks an_asked_flocks : Option Addr} {sl_asked_flocks : Array (Option Value)} {oc_asked_flocks kV_asked_flocks dc_asked_flocks pm_asked_flocks cd_asked_flocks ct_asked_flocks : Value} {f_is_stand : Addr} {od_is_stand an_is_stand : Option Addr} {sl_is_stand : Array (Option Value)} {oc_is_stand kV_is_stand dc_is_stand pm_is_stand cd_is_stand ct_is_stand : Value} {f_asked_stand : Addr} {od_asked_stand an_asked_stand : Option Addr} {sl_asked_stand : Array (Option Value)} {oc_asked_stand kV_asked_stand dc_asked_stand pm_asked_stand cd_asked_stand ct_asked_stand : Value} {f_asked_wish : Addr} {od_asked_wish an_asked_wish : Option Addr} {sl_asked_wish : Array (Option Value)} {oc_asked_wish kV_asked_wish dc_asked_wish pm_asked_wish cd_asked_wish ct_asked_wish : Value} {f_deeds_of : Addr} {od_deeds_of an_deeds_of : Option Addr} {sl_deeds_of : Array (Option Value)} {oc_deeds_of kV_deeds_of dc_deeds_of pm_deeds_of cd_deeds_of ct_deeds_of : Value} {f_rings_of : Addr} {od_rings_of an_rings_of : Option Addr} {sl_rings_of : Array (Option Value)} {oc_rings_of kV_rings_of dc_rings_of pm_rings_of cd_rings_of ct_rings_of : Value} {f_first_bad : Addr} {od_first_bad an_first_bad : Option Addr} {sl_first_bad : Array (Option Value)} {oc_first_bad kV_first_bad dc_first_bad pm_first_bad cd_first_bad ct_first_bad : Value} {f_nexts_of : Addr} {od_nexts_of an_nexts_of : Option Addr} {sl_nexts_of : Array (Option Value)} {oc_nexts_of kV_nexts_of dc_nexts_of pm_nexts_of cd_nexts_of ct_nexts_of : Value} {f_Led___init__ : Addr} {od_Led___init__ an_Led___init__ : Option Addr} {sl_Led___init__ : Array (Option Value)} {oc_Led___init__ kV_Led___init__ dc_Led___init__ pm_Led___init__ cd_Led___init__ ct_Led___init__ : Value} {f_Led_shows : Addr} {od_Led_shows an_Led_shows : Option Addr} {sl_Led_shows : Array (Option Value)} {oc_Led_shows kV_Led_shows dc_Led_shows pm_Led_shows cd_Led_shows ct_Led_shows : Value} {f_Never___init__ : Addr} {od_Never___init__ an_Never___init__ : Option Addr} {sl_Never___init__ : Array (Option Value)} {oc_Never___init__ kV_Never___init__ dc_Never___init__ pm_Never___init__ cd_Never___init__ ct_Never___init__ : Value} {f_Never_shows : Addr} {od_Never_shows an_Never_shows : Option Addr} {sl_Never_shows : Array (Option Value)} {oc_Never_shows kV_Never_shows dc_Never_shows pm_Never_shows cd_Never_shows ct_Never_shows : Value} {f_led : Addr} {od_led an_led : Option Addr} {sl_led : Array (Option Value)} {oc_led kV_led dc_led pm_led cd_led ct_led : Value} {f_come_to : Addr} {od_come_to an_come_to : Option Addr} {sl_come_to : Array (Option Value)} {oc_come_to kV_come_to dc_come_to pm_come_to cd_come_to ct_come_to : Value} {f__law_number : Addr} {od__law_number an__law_number : Option Addr} {sl__law_number : Array (Option Value)} {oc__law_number kV__law_number dc__law_number pm__law_number cd__law_number ct__law_number : Value} {f__law_farm : Addr} {od__law_farm an__law_farm : Option Addr} {sl__law_farm : Array (Option Value)} {oc__law_farm kV__law_farm dc__law_farm pm__law_farm cd__law_farm ct__law_farm : Value} {f_can_be : Addr} {od_can_be an_can_be : Option Addr} {sl_can_be : Array (Option Value)} {oc_can_be kV_can_be dc_can_be pm_can_be cd_can_be ct_can_be : Value} {f_hang_on : Addr} {od_hang_on an_hang_on : Option Addr} {sl_hang_on : Array (Option Value)} {oc_hang_on kV_hang_on dc_hang_on pm_hang_on cd_hang_on ct_hang_on : Value} {f_is_deed : Addr} {od_is_deed an_is_deed : Option Addr} {sl_is_deed : Array (Option Value)} {oc_is_deed kV_is_deed dc_is_deed pm_is_deed cd_is_deed ct_is_deed : Value} {f_Fine_shows : Addr} {od_Fine_shows an_Fine_shows : Option Addr} {sl_Fine_shows : Array (Option Value)} {oc_Fine_shows kV_Fine_shows dc_Fine_shows pm_Fine_shows cd_Fine_shows ct_Fine_shows : Value} {f_Halt___init__ : Addr} {od_Halt___init__ an_Halt___init__ : Option Addr} {sl_Halt___init__ : Array (Option Value)} {oc_Halt___init__ kV_Halt___init__ dc_Halt___init__ pm_Halt___init__ cd_Halt___init__ ct_Halt___init__ : Value} {f_Halt_shows : Addr} {od_Halt_shows an_Halt_shows : Option Addr} {sl_Halt_shows : Array (Option Value)} {oc_Halt_shows kV_Halt_shows dc_Halt_shows pm_Halt_shows cd_Halt_shows ct_Halt_shows : Value} {f_Off___init__ : Addr} {od_Off___init__ an_Off___init__ : Option Addr} {sl_Off___init__ : Array (Option Value)} {oc_Off___init__ kV_Off___init__ dc_Off___init__ pm_Off___init__ cd_Off___init__ ct_Off___init__ : Value} {f_Off_shows : Addr} {od_Off_shows an_Off_shows : Option Addr} {sl_Off_shows : Array (Option Value)} {oc_Off_shows kV_Off_shows dc_Off_shows pm_Off_shows cd_Off_shows ct_Off_shows : Value} {f_judged : Addr} {od_judged an_judged : Option Addr} {sl_judged : Array (Option Value)} {oc_judged kV_judged dc_judged pm_judged cd_judged ct_judged : Value} {f_Yard___init__ : Addr} {od_Yard___init__ an_Yard___init__ : Option Addr} {sl_Yard___init__ : Array (Option Value)} {oc_Yard___init__ kV_Yard___init__ dc_Yard___init__ pm_Yard___init__ cd_Yard___init__ ct_Yard___init__ : Value} {f_Yard_farm_now : Addr} {od_Yard_farm_now an_Yard_farm_now : Option Addr} {sl_Yard_farm_now : Array (Option Value)} {oc_Yard_farm_now kV_Yard_farm_now dc_Yard_farm_now pm_Yard_farm_now cd_Yard_farm_now ct_Yard_farm_now : Value} {f_Yard_lead : Addr} {od_Yard_lead an_Yard_lead : Option Addr} {sl_Yard_lead : Array (Option Value)} {oc_Yard_lead kV_Yard_lead dc_Yard_lead pm_Yard_lead cd_Yard_lead ct_Yard_lead : Value} {f_Yard_asked_gate : Addr} {od_Yard_asked_gate an_Yard_asked_gate : Option Addr} {sl_Yard_asked_gate : Array (Option Value)} {oc_Yard_asked_gate kV_Yard_asked_gate dc_Yard_asked_gate pm_Yard_asked_gate cd_Yard_asked_gate ct_Yard_asked_gate : Value} {f_Yard_lock : Addr} {od_Yard_lock an_Yard_lock : Option Addr} {sl_Yard_lock : Array (Option Value)} {oc_Yard_lock kV_Yard_lock dc_Yard_lock pm_Yard_lock cd_Yard_lock ct_Yard_lock : Value} {f_Yard_unlock : Addr} {od_Yard_unlock an_Yard_unlock : Option Addr} {sl_Yard_unlock : Array (Option Value)} {oc_Yard_unlock kV_Yard_unlock dc_Yard_unlock pm_Yard_unlock cd_Yard_unlock ct_Yard_unlock : Value} {f_Yard_stand_now : Addr} {od_Yard_stand_now an_Yard_stand_now : Option Addr} {sl_Yard_stand_now : Array (Option Value)} {oc_Yard_stand_now kV_Yard_stand_now dc_Yard_stand_now pm_Yard_stand_now cd_Yard_stand_now ct_Yard_stand_now : Value} {f_Yard_can_do : Addr} {od_Yard_can_do an_Yard_can_do : Option Addr} {sl_Yard_can_do : Array (Option Value)} {oc_Yard_can_do kV_Yard_can_do dc_Yard_can_do pm_Yard_can_do cd_Yard_can_do ct_Yard_can_do : Value} {f_Yard_locked : Addr} {od_Yard_locked an_Yard_locked : Option Addr} {sl_Yard_locked : Array (Option Value)} {oc_Yard_locked kV_Yard_locked dc_Yard_locked pm_Yard_locked cd_Yard_locked ct_Yard_locked : Value} {f__law_plain : Addr} {od__law_plain an__law_plain : Option Addr} {sl__law_plain : Array (Option Value)} {oc__law_plain kV__law_plain dc__law_plain pm__law_plain cd__law_plain ct__law_plain : Value} {f__law_truths : Addr} {od__law_truths an__law_truths : Option Addr} {sl__law_truths : Array (Option Value)} {oc__law_truths kV__law_truths dc__law_truths pm__law_truths cd__law_truths ct__law_truths : Value} {f__law_told_right : Addr} {od__law_told_right an__law_told_right : Option Addr} {sl__law_told_right : Array (Option Value)} {oc__law_told_right kV__law_told_right dc__law_told_right pm__law_told_right cd__law_told_right ct__law_told_right : Value} {f__law_yard_right : Addr} {od__law_yard_right an__law_yard_right : Option Addr} {sl__law_yard_right : Array (Option Value)} {oc__law_yard_right kV__law_yard_right dc__law_yard_right pm__law_yard_right cd__law_yard_right ct__law_yard_right : Value} {f_law : Addr} {od_law an_law : Option Addr} {sl_law : Array (Option Value)} {oc_law kV_law dc_law pm_law cd_law ct_law : Value} {C_Answer : Addr} {C_Led : Addr} {C_Never : Addr} {C_Fine : Addr} {C_Halt : Addr} {C_Off : Addr} {C_FlockError : Addr} {C_BadFarm : Addr} {C_BadFlocks : Addr} {C_BadStand : Addr} {C_BadWish : Addr} {C_BadDeeds : Addr} {C_BadFlock : Addr} {C_BadPen : Addr} {C_BadGate : Addr} {C_CantGo : Addr} {C_NotSo : Addr} {C_NeverSo : Addr} {C_Yard : Addr}
    (aAnswer : PySem.W.nsIn K mainGlobals "Answer" = some (some (.ref C_Answer)))
    (aLed : PySem.W.nsIn K mainGlobals "Led" = some (some (.ref C_Led)))
    (aNever : PySem.W.nsIn K mainGlobals "Never" = some (some (.ref C_Never)))
    (aFine : PySem.W.nsIn K mainGlobals "Fine" = some (some (.ref C_Fine)))
    (aHalt : PySem.W.nsIn K mainGlobals "Halt" = some (some (.ref C_Halt)))
    (aOff : PySem.W.nsIn K mainGlobals "Off" = some (some (.ref C_Off)))
    (aYard : PySem.W.nsIn K mainGlobals "Yard" = some (some (.ref C_Yard)))
    (gMOST_PENS : PySem.W.nsIn K mainGlobals "MOST_PENS" = some (some (.int 6 t_MOST_PENS)))
    (gMOST_ROOM : PySem.W.nsIn K mainGlobals "MOST_ROOM" = some (some (.int 9 t_MOST_ROOM)))
    (gMOST_FLOCKS : PySem.W.nsIn K mainGlobals "MOST_FLOCKS" = some (some (.int 4 t_MOST_FLOCKS)))
    (gLONGEST : PySem.W.nsIn K mainGlobals "LONGEST" = some (some (.int 100 t_LONGEST)))
    (z_len : PySem.W.nsIn K mainGlobals "len" = some none)
    (z_abs : PySem.W.nsIn K mainGlobals "abs" = some none)
    (z_all : PySem.W.nsIn K mainGlobals "all" = some none)
    (z_any : PySem.W.nsIn K mainGlobals "any" = some none)
    (z_sum : PySem.W.nsIn K mainGlobals "sum" = some none)
    (z_min : PySem.W.nsIn K mainGlobals "min" = some none)
    (z_max : PySem.W.nsIn K mainGlobals "max" = some none)
    (z_sorted : PySem.W.nsIn K mainGlobals "sorted" = some none)
    (z_isinstance : PySem.W.nsIn K mainGlobals "isinstance" = some none)
    (z_int : PySem.W.nsIn K mainGlobals "int" = some none)
    (z_bool : PySem.W.nsIn K mainGlobals "bool" = some none)
    (z_str : PySem.W.nsIn K mainGlobals "str" = some none)
    (z_list : PySem.W.nsIn K mainGlobals "list" = some none)
    (z_tuple : PySem.W.nsIn K mainGlobals "tuple" = some none)
    (z_dict : PySem.W.nsIn K mainGlobals "dict" = some none)
    (z_set : PySem.W.nsIn K mainGlobals "set" = some none)
    (z_range : PySem.W.nsIn K mainGlobals "range" = some none)
    (z_zip : PySem.W.nsIn K mainGlobals "zip" = some none)
    (z_enumerate : PySem.W.nsIn K mainGlobals "enumerate" = some none)
    (pgLed : PySem.W.plainGet K C_Led Str.empty = true)
    (hdLed : PySem.W.hasDictIn K C_Led = true)
    (poLed : PySem.W.plainOver K C_Led = true)
    (saLed : PySem.W.findIn K (.ref C_Led) "__setattr__" = some (some (.builtin "object.__setattr__")))
    (mkLed : PySem.W.makesIn K C_Led = true)
    (kcLed : PySem.W.keepIn K (.ref C_Led) = true)
    (haLed : PySem.W.findIn K (.ref C_Led) "__class__" = some (some (.builtin "object.__class__")))
    (hmLed : PySem.W.mroIn K C_Led (.type "object") = some true)
    (nLed_deeds : PySem.W.findIn K (.ref C_Led) "deeds" = some none)
    (nLed_rings : PySem.W.findIn K (.ref C_Led) "rings" = some none)
    (kLed_Answer : PySem.W.kitOne K (.ref C_Led) (.ref C_Answer) = some true)
    (kLed_Led : PySem.W.kitOne K (.ref C_Led) (.ref C_Led) = some true)
    (kLed_Never : PySem.W.kitOne K (.ref C_Led) (.ref C_Never) = some false)
    (kLed_Fine : PySem.W.kitOne K (.ref C_Led) (.ref C_Fine) = some false)
    (kLed_Halt : PySem.W.kitOne K (.ref C_Led) (.ref C_Halt) = some false)
    (kLed_Off : PySem.W.kitOne K (.ref C_Led) (.ref C_Off) = some false)
    (pgNever : PySem.W.plainGet K C_Never Str.empty = true)
    (hdNever : PySem.W.hasDictIn K C_Never = true)
    (poNever : PySem.W.plainOver K C_Never = true)
    (saNever : PySem.W.findIn K (.ref C_Never) "__setattr__" = some (some (.builtin "object.__setattr__")))
    (mkNever : PySem.W.makesIn K C_Never = true)
    (kcNever : PySem.W.keepIn K (.ref C_Never) = true)
    (haNever : PySem.W.findIn K (.ref C_Never) "__class__" = some (some (.builtin "object.__class__")))
    (hmNever : PySem.W.mroIn K C_Never (.type "object") = some true)
    (nNever_stands : PySem.W.findIn K (.ref C_Never) "stands" = some none)
    (kNever_Answer : PySem.W.kitOne K (.ref C_Never) (.ref C_Answer) = some true)
    (kNever_Led : PySem.W.kitOne K (.ref C_Never) (.ref C_Led) = some false)
    (kNever_Never : PySem.W.kitOne K (.ref C_Never) (.ref C_Never) = some true)
    (kNever_Fine : PySem.W.kitOne K (.ref C_Never) (.ref C_Fine) = some false)
    (kNever_Halt : PySem.W.kitOne K (.ref C_Never) (.ref C_Halt) = some false)
    (kNever_Off : PySem.W.kitOne K (.ref C_Never) (.ref C_Off) = some false)
    (pgFine : PySem.W.plainGet K C_Fine Str.empty = true)
    (hdFine : PySem.W.hasDictIn K C_Fine = true)
    (poFine : PySem.W.plainOver K C_Fine = true)
    (saFine : PySem.W.findIn K (.ref C_Fine) "__setattr__" = some (some (.builtin "object.__setattr__")))
    (mkFine : PySem.W.makesIn K C_Fine = true)
    (kcFine : PySem.W.keepIn K (.ref C_Fine) = true)
    (haFine : PySem.W.findIn K (.ref C_Fine) "__class__" = some (some (.builtin "object.__class__")))
    (hmFine : PySem.W.mroIn K C_Fine (.type "object") = some true)
    (biFine : PySem.W.findIn K (.ref C_Fine) "__init__" = some (some (.builtin "object.__init__")))
    (kFine_Answer : PySem.W.kitOne K (.ref C_Fine) (.ref C_Answer) = some true)
    (kFine_Led : PySem.W.kitOne K (.ref C_Fine) (.ref C_Led) = some false)
    (kFine_Never : PySem.W.kitOne K (.ref C_Fine) (.ref C_Never) = some false)
    (kFine_Fine : PySem.W.kitOne K (.ref C_Fine) (.ref C_Fine) = some true)
    (kFine_Halt : PySem.W.kitOne K (.ref C_Fine) (.ref C_Halt) = some false)
    (kFine_Off : PySem.W.kitOne K (.ref C_Fine) (.ref C_Off) = some false)
    (pgHalt : PySem.W.plainGet K C_Halt Str.empty = true)
    (hdHalt : PySem.W.hasDictIn K C_Halt = true)
    (poHalt : PySem.W.plainOver K C_Halt = true)
    (saHalt : PySem.W.findIn K (.ref C_Halt) "__setattr__" = some (some (.builtin "object.__setattr__")))
    (mkHalt : PySem.W.makesIn K C_Halt = true)
    (kcHalt : PySem.W.keepIn K (.ref C_Halt) = true)
    (haHalt : PySem.W.findIn K (.ref C_Halt) "__class__" = some (some (.builtin "object.__class__")))
    (hmHalt : PySem.W.mroIn K C_Halt (.type "object") = some true)
    (nHalt_place : PySem.W.findIn K (.ref C_Halt) "place" = some none)
    (kHalt_Answer : PySem.W.kitOne K (.ref C_Halt) (.ref C_Answer) = some true)
    (kHalt_Led : PySem.W.kitOne K (.ref C_Halt) (.ref C_Led) = some false)
    (kHalt_Never : PySem.W.kitOne K (.ref C_Halt) (.ref C_Never) = some false)
    (kHalt_Fine : PySem.W.kitOne K (.ref C_Halt) (.ref C_Fine) = some false)
    (kHalt_Halt : PySem.W.kitOne K (.ref C_Halt) (.ref C_Halt) = some true)
    (kHalt_Off : PySem.W.kitOne K (.ref C_Halt) (.ref C_Off) = some false)
    (pgOff : PySem.W.plainGet K C_Off Str.empty = true)
    (hdOff : PySem.W.hasDictIn K C_Off = true)
    (poOff : PySem.W.plainOver K C_Off = true)
    (saOff : PySem.W.findIn K (.ref C_Off) "__setattr__" = some (some (.builtin "object.__setattr__")))
    (mkOff : PySem.W.makesIn K C_Off = true)
    (kcOff : PySem.W.keepIn K (.ref C_Off) = true)
    (haOff : PySem.W.findIn K (.ref C_Off) "__class__" = some (some (.builtin "object.__class__")))
    (hmOff : PySem.W.mroIn K C_Off (.type "object") = some true)
    (nOff_flock : PySem.W.findIn K (.ref C_Off) "flock" = some none)
    (kOff_Answer : PySem.W.kitOne K (.ref C_Off) (.ref C_Answer) = some true)
    (kOff_Led : PySem.W.kitOne K (.ref C_Off) (.ref C_Led) = some false)
    (kOff_Never : PySem.W.kitOne K (.ref C_Off) (.ref C_Never) = some false)
    (kOff_Fine : PySem.W.kitOne K (.ref C_Off) (.ref C_Fine) = some false)
    (kOff_Halt : PySem.W.kitOne K (.ref C_Off) (.ref C_Halt) = some false)
    (kOff_Off : PySem.W.kitOne K (.ref C_Off) (.ref C_Off) = some true)
    (pgYard : PySem.W.plainGet K C_Yard Str.empty = true)
    (hdYard : PySem.W.hasDictIn K C_Yard = true)
    (poYard : PySem.W.plainOver K C_Yard = true)
    (saYard : PySem.W.findIn K (.ref C_Yard) "__setattr__" = some (some (.builtin "object.__setattr__")))
    (mkYard : PySem.W.makesIn K C_Yard = true)
    (kcYard : PySem.W.keepIn K (.ref C_Yard) = true)
    (haYard : PySem.W.findIn K (.ref C_Yard) "__class__" = some (some (.builtin "object.__class__")))
    (hmYard : PySem.W.mroIn K C_Yard (.type "object") = some true)
    (nYard_rooms : PySem.W.findIn K (.ref C_Yard) "rooms" = some none)
    (nYard_gates : PySem.W.findIn K (.ref C_Yard) "gates" = some none)
    (nYard_flocks : PySem.W.findIn K (.ref C_Yard) "flocks" = some none)
    (nYard_pens : PySem.W.findIn K (.ref C_Yard) "pens" = some none)
    (nYard_shut : PySem.W.findIn K (.ref C_Yard) "shut" = some none)
    (nYard_times : PySem.W.findIn K (.ref C_Yard) "times" = some none)
    (aFlockError : PySem.W.nsIn K mainGlobals "FlockError" = some (some (.ref C_FlockError)))
    (xeFlockError : PySem.W.excIn K C_FlockError [.type "ValueError", .type "Exception", .type "BaseException", .type "object"] "ValueError.__new__" = true)
    (kpFlockError : PySem.W.keepIn K (.ref C_FlockError) = true)
    (sbFlockError : PySem.W.subIn K (.ref C_FlockError) (.type "BaseException") = some true)
    (tyFlockError : PySem.W.typeIn K (.ref C_FlockError) = some (.type "type"))
    (egFlockError : PySem.W.findIn K (.ref C_FlockError) "__getattribute__" = some (some (.builtin "BaseException.__getattribute__")))
    (ekFlockError : PySem.W.findIn K (.ref C_FlockError) "__getattr__" = some none)
    (edFlockError : PySem.W.hasDictIn K C_FlockError = true)
    (eaFlockError : PySem.W.findIn K (.ref C_FlockError) "__class__" = some (some (.builtin "object.__class__")))
    (emFlockError : PySem.W.mroIn K C_FlockError (.type "object") = some true)
    (aBadFarm : PySem.W.nsIn K mainGlobals "BadFarm" = some (some (.ref C_BadFarm)))
    (xeBadFarm : PySem.W.excIn K C_BadFarm [.type "ValueError", .type "Exception", .type "BaseException", .type "object"] "ValueError.__new__" = true)
    (kpBadFarm : PySem.W.keepIn K (.ref C_BadFarm) = true)
    (sbBadFarm : PySem.W.subIn K (.ref C_BadFarm) (.type "BaseException") = some true)
    (tyBadFarm : PySem.W.typeIn K (.ref C_BadFarm) = some (.type "type"))
    (egBadFarm : PySem.W.findIn K (.ref C_BadFarm) "__getattribute__" = some (some (.builtin "BaseException.__getattribute__")))
    (ekBadFarm : PySem.W.findIn K (.ref C_BadFarm) "__getattr__" = some none)
    (edBadFarm : PySem.W.hasDictIn K C_BadFarm = true)
    (eaBadFarm : PySem.W.findIn K (.ref C_BadFarm) "__class__" = some (some (.builtin "object.__class__")))
    (emBadFarm : PySem.W.mroIn K C_BadFarm (.type "object") = some true)
    (aBadFlocks : PySem.W.nsIn K mainGlobals "BadFlocks" = some (some (.ref C_BadFlocks)))
    (xeBadFlocks : PySem.W.excIn K C_BadFlocks [.type "ValueError", .type "Exception", .type "BaseException", .type "object"] "ValueError.__new__" = true)
    (kpBadFlocks : PySem.W.keepIn K (.ref C_BadFlocks) = true)
    (sbBadFlocks : PySem.W.subIn K (.ref C_BadFlocks) (.type "BaseException") = some true)
    (tyBadFlocks : PySem.W.typeIn K (.ref C_BadFlocks) = some (.type "type"))
    (egBadFlocks : PySem.W.findIn K (.ref C_BadFlocks) "__getattribute__" = some (some (.builtin "BaseException.__getattribute__")))
    (ekBadFlocks : PySem.W.findIn K (.ref C_BadFlocks) "__getattr__" = some none)
    (edBadFlocks : PySem.W.hasDictIn K C_BadFlocks = true)
    (eaBadFlocks : PySem.W.findIn K (.ref C_BadFlocks) "__class__" = some (some (.builtin "object.__class__")))
    (emBadFlocks : PySem.W.mroIn K C_BadFlocks (.type "object") = some true)
    (aBadStand : PySem.W.nsIn K mainGlobals "BadStand" = some (some (.ref C_BadStand)))
    (xeBadStand : PySem.W.excIn K C_BadStand [.type "ValueError", .type "Exception", .type "BaseException", .type "object"] "ValueError.__new__" = true)
    (kpBadStand : PySem.W.keepIn K (.ref C_BadStand) = true)
    (sbBadStand : PySem.W.subIn K (.ref C_BadStand) (.type "BaseException") = some true)
    (tyBadStand : PySem.W.typeIn K (.ref C_BadStand) = some (.type "type"))
    (egBadStand : PySem.W.findIn K (.ref C_BadStand) "__getattribute__" = some (some (.builtin "BaseException.__getattribute__")))
    (ekBadStand : PySem.W.findIn K (.ref C_BadStand) "__getattr__" = some none)
    (edBadStand : PySem.W.hasDictIn K C_BadStand = true)
    (eaBadStand : PySem.W.findIn K (.ref C_BadStand) "__class__" = some (some (.builtin "object.__class__")))
    (emBadStand : PySem.W.mroIn K C_BadStand (.type "object") = some true)
    (aBadWish : PySem.W.nsIn K mainGlobals "BadWish" = some (some (.ref C_BadWish)))
    (xeBadWish : PySem.W.excIn K C_BadWish [.type "ValueError", .type "Exception", .type "BaseException", .type "object"] "ValueError.__new__" = true)
    (kpBadWish : PySem.W.keepIn K (.ref C_BadWish) = true)
    (sbBadWish : PySem.W.subIn K (.ref C_BadWish) (.type "BaseException") = some true)
    (tyBadWish : PySem.W.typeIn K (.ref C_BadWish) = some (.type "type"))
    (egBadWish : PySem.W.findIn K (.ref C_BadWish) "__getattribute__" = some (some (.builtin "BaseException.__getattribute__")))
    (ekBadWish : PySem.W.findIn K (.ref C_BadWish) "__getattr__" = some none)
    (edBadWish : PySem.W.hasDictIn K C_BadWish = true)
    (eaBadWish : PySem.W.findIn K (.ref C_BadWish) "__class__" = some (some (.builtin "object.__class__")))
    (emBadWish : PySem.W.mroIn K C_BadWish (.type "object") = some true)
    (aBadDeeds : PySem.W.nsIn K mainGlobals "BadDeeds" = some (some (.ref C_BadDeeds)))
    (xeBadDeeds : PySem.W.excIn K C_BadDeeds [.type "ValueError", .type "Exception", .type "BaseException", .type "object"] "ValueError.__new__" = true)
    (kpBadDeeds : PySem.W.keepIn K (.ref C_BadDeeds) = true)
    (sbBadDeeds : PySem.W.subIn K (.ref C_BadDeeds) (.type "BaseException") = some true)
    (tyBadDeeds : PySem.W.typeIn K (.ref C_BadDeeds) = some (.type "type"))
    (egBadDeeds : PySem.W.findIn K (.ref C_BadDeeds) "__getattribute__" = some (some (.builtin "BaseException.__getattribute__")))
    (ekBadDeeds : PySem.W.findIn K (.ref C_BadDeeds) "__getattr__" = some none)
    (edBadDeeds : PySem.W.hasDictIn K C_BadDeeds = true)
    (eaBadDeeds : PySem.W.findIn K (.ref C_BadDeeds) "__class__" = some (some (.builtin "object.__class__")))
    (emBadDeeds : PySem.W.mroIn K C_BadDeeds (.type "object") = some true)
    (aBadFlock : PySem.W.nsIn K mainGlobals "BadFlock" = some (some (.ref C_BadFlock)))
    (xeBadFlock : PySem.W.excIn K C_BadFlock [.type "ValueError", .type "Exception", .type "BaseException", .type "object"] "ValueError.__new__" = true)
    (kpBadFlock : PySem.W.keepIn K (.ref C_BadFlock) = true)
    (sbBadFlock : PySem.W.subIn K (.ref C_BadFlock) (.type "BaseException") = some true)
    (tyBadFlock : PySem.W.typeIn K (.ref C_BadFlock) = some (.type "type"))
    (egBadFlock : PySem.W.findIn K (.ref C_BadFlock) "__getattribute__" = some (some (.builtin "BaseException.__getattribute__")))
    (ekBadFlock : PySem.W.findIn K (.ref C_BadFlock) "__getattr__" = some none)
    (edBadFlock : PySem.W.hasDictIn K C_BadFlock = true)
    (eaBadFlock : PySem.W.findIn K (.ref C_BadFlock) "__class__" = some (some (.builtin "object.__class__")))
    (emBadFlock : PySem.W.mroIn K C_BadFlock (.type "object") = some true)
    (aBadPen : PySem.W.nsIn K mainGlobals "BadPen" = some (some (.ref C_BadPen)))
    (xeBadPen : PySem.W.excIn K C_BadPen [.type "ValueError", .type "Exception", .type "BaseException", .type "object"] "ValueError.__new__" = true)
    (kpBadPen : PySem.W.keepIn K (.ref C_BadPen) = true)
    (sbBadPen : PySem.W.subIn K (.ref C_BadPen) (.type "BaseException") = some true)
    (tyBadPen : PySem.W.typeIn K (.ref C_BadPen) = some (.type "type"))
    (egBadPen : PySem.W.findIn K (.ref C_BadPen) "__getattribute__" = some (some (.builtin "BaseException.__getattribute__")))
    (ekBadPen : PySem.W.findIn K (.ref C_BadPen) "__getattr__" = some none)
    (edBadPen : PySem.W.hasDictIn K C_BadPen = true)
    (eaBadPen : PySem.W.findIn K (.ref C_BadPen) "__class__" = some (some (.builtin "object.__class__")))
    (emBadPen : PySem.W.mroIn K C_BadPen (.type "object") = some true)
    (aBadGate : PySem.W.nsIn K mainGlobals "BadGate" = some (some (.ref C_BadGate)))
    (xeBadGate : PySem.W.excIn K C_BadGate [.type "ValueError", .type "Exception", .type "BaseException", .type "object"] "ValueError.__new__" = true)
    (kpBadGate : PySem.W.keepIn K (.ref C_BadGate) = true)
    (sbBadGate : PySem.W.subIn K (.ref C_BadGate) (.type "BaseException") = some true)
    (tyBadGate : PySem.W.typeIn K (.ref C_BadGate) = some (.type "type"))
    (egBadGate : PySem.W.findIn K (.ref C_BadGate) "__getattribute__" = some (some (.builtin "BaseException.__getattribute__")))
    (ekBadGate : PySem.W.findIn K (.ref C_BadGate) "__getattr__" = some none)
    (edBadGate : PySem.W.hasDictIn K C_BadGate = true)
    (eaBadGate : PySem.W.findIn K (.ref C_BadGate) "__class__" = some (some (.builtin "object.__class__")))
    (emBadGate : PySem.W.mroIn K C_BadGate (.type "object") = some true)
    (aCantGo : PySem.W.nsIn K mainGlobals "CantGo" = some (some (.ref C_CantGo)))
    (xeCantGo : PySem.W.excIn K C_CantGo [.type "ValueError", .type "Exception", .type "BaseException", .type "object"] "ValueError.__new__" = true)
    (kpCantGo : PySem.W.keepIn K (.ref C_CantGo) = true)
    (sbCantGo : PySem.W.subIn K (.ref C_CantGo) (.type "BaseException") = some true)
    (tyCantGo : PySem.W.typeIn K (.ref C_CantGo) = some (.type "type"))
    (egCantGo : PySem.W.findIn K (.ref C_CantGo) "__getattribute__" = some (some (.builtin "BaseException.__getattribute__")))
    (ekCantGo : PySem.W.findIn K (.ref C_CantGo) "__getattr__" = some none)
    (edCantGo : PySem.W.hasDictIn K C_CantGo = true)
    (eaCantGo : PySem.W.findIn K (.ref C_CantGo) "__class__" = some (some (.builtin "object.__class__")))
    (emCantGo : PySem.W.mroIn K C_CantGo (.type "object") = some true)
    (aNotSo : PySem.W.nsIn K mainGlobals "NotSo" = some (some (.ref C_NotSo)))
    (xeNotSo : PySem.W.excIn K C_NotSo [.type "ValueError", .type "Exception", .type "BaseException", .type "object"] "ValueError.__new__" = true)
    (kpNotSo : PySem.W.keepIn K (.ref C_NotSo) = true)
    (sbNotSo : PySem.W.subIn K (.ref C_NotSo) (.type "BaseException") = some true)
    (tyNotSo : PySem.W.typeIn K (.ref C_NotSo) = some (.type "type"))
    (egNotSo : PySem.W.findIn K (.ref C_NotSo) "__getattribute__" = some (some (.builtin "BaseException.__getattribute__")))
    (ekNotSo : PySem.W.findIn K (.ref C_NotSo) "__getattr__" = some none)
    (edNotSo : PySem.W.hasDictIn K C_NotSo = true)
    (eaNotSo : PySem.W.findIn K (.ref C_NotSo) "__class__" = some (some (.builtin "object.__class__")))
    (emNotSo : PySem.W.mroIn K C_NotSo (.type "object") = some true)
    (aNeverSo : PySem.W.nsIn K mainGlobals "NeverSo" = some (some (.ref C_NeverSo)))
    (xeNeverSo : PySem.W.excIn K C_NeverSo [.type "ValueError", .type "Exception", .type "BaseException", .type "object"] "ValueError.__new__" = true)
    (kpNeverSo : PySem.W.keepIn K (.ref C_NeverSo) = true)
    (sbNeverSo : PySem.W.subIn K (.ref C_NeverSo) (.type "BaseException") = some true)
    (tyNeverSo : PySem.W.typeIn K (.ref C_NeverSo) = some (.type "type"))
    (egNeverSo : PySem.W.findIn K (.ref C_NeverSo) "__getattribute__" = some (some (.builtin "BaseException.__getattribute__")))
    (ekNeverSo : PySem.W.findIn K (.ref C_NeverSo) "__getattr__" = some none)
    (edNeverSo : PySem.W.hasDictIn K C_NeverSo = true)
    (eaNeverSo : PySem.W.findIn K (.ref C_NeverSo) "__class__" = some (some (.builtin "object.__class__")))
    (emNeverSo : PySem.W.mroIn K C_NeverSo (.type "object") = some true)
    (sNeverSo : PySem.W.subIn K (.ref C_NeverSo) (.ref C_FlockError) = some true)
    (hn : PySem.W.specialIn K (.builtin "object.__class__") "__get__" = some (some (.builtin "getset_descriptor.__get__")))
    (htk : PySem.W.takesIn K (.builtin "object.__class__") = some true)
    (a_is_between : PySem.W.nsIn K mainGlobals "is_between" = some (some (.ref f_is_between)))
    (l_is_between : K.lookup f_is_between = some ⟨oc_is_between, od_is_between, .func (PySem.W.fnOf "is_between" "is_between" (defArgs s_is_between) (defBody s_is_between) (defScope s_is_between) .none kV_is_between dc_is_between pm_is_between an_is_between cd_is_between ct_is_between), sl_is_between⟩)
    (c_is_between : PySem.W.codeIn K cd_is_between "is_between" = true)
    (k_is_between : PySem.W.keepIn K (.ref f_is_between) = true)
    (a_can_go : PySem.W.nsIn K mainGlobals "can_go" = some (some (.ref f_can_go)))
    (l_can_go : K.lookup f_can_go = some ⟨oc_can_go, od_can_go, .func (PySem.W.fnOf "can_go" "can_go" (defArgs s_can_go) (defBody s_can_go) (defScope s_can_go) .none kV_can_go dc_can_go pm_can_go an_can_go cd_can_go ct_can_go), sl_can_go⟩)
    (c_can_go : PySem.W.codeIn K cd_can_go "can_go" = true)
    (k_can_go : PySem.W.keepIn K (.ref f_can_go) = true)
    (a_behind : PySem.W.nsIn K mainGlobals "behind" = some (some (.ref f_behind)))
    (l_behind : K.lookup f_behind = some ⟨oc_behind, od_behind, .func (PySem.W.fnOf "behind" "behind" (defArgs s_behind) (defBody s_behind) (defScope s_behind) .none kV_behind dc_behind pm_behind an_behind cd_behind ct_behind), sl_behind⟩)
    (c_behind : PySem.W.codeIn K cd_behind "behind" = true)
    (k_behind : PySem.W.keepIn K (.ref f_behind) = true)
    (a_as_wished : PySem.W.nsIn K mainGlobals "as_wished" = some (some (.ref f_as_wished)))
    (l_as_wished : K.lookup f_as_wished = some ⟨oc_as_wished, od_as_wished, .func (PySem.W.fnOf "as_wished" "as_wished" (defArgs s_as_wished) (defBody s_as_wished) (defScope s_as_wished) .none kV_as_wished dc_as_wished pm_as_wished an_as_wished cd_as_wished ct_as_wished), sl_as_wished⟩)
    (c_as_wished : PySem.W.codeIn K cd_as_wished "as_wished" = true)
    (k_as_wished : PySem.W.keepIn K (.ref f_as_wished) = true)
    (a_is_gate : PySem.W.nsIn K mainGlobals "is_gate" = some (some (.ref f_is_gate)))
    (l_is_gate : K.lookup f_is_gate = some ⟨oc_is_gate, od_is_gate, .func (PySem.W.fnOf "is_gate" "is_gate" (defArgs s_is_gate) (defBody s_is_gate) (defScope s_is_gate) .none kV_is_gate dc_is_gate pm_is_gate an_is_gate cd_is_gate ct_is_gate), sl_is_gate⟩)
    (c_is_gate : PySem.W.codeIn K cd_is_gate "is_gate" = true)
    (k_is_gate : PySem.W.keepIn K (.ref f_is_gate) = true)
    (a_asked_farm : PySem.W.nsIn K mainGlobals "asked_farm" = some (some (.ref f_asked_farm)))
    (l_asked_farm : K.lookup f_asked_farm = some ⟨oc_asked_farm, od_asked_farm, .func (PySem.W.fnOf "asked_farm" "asked_farm" (defArgs s_asked_farm) (defBody s_asked_farm) (defScope s_asked_farm) .none kV_asked_farm dc_asked_farm pm_asked_farm an_asked_farm cd_asked_farm ct_asked_farm), sl_asked_farm⟩)
    (c_asked_farm : PySem.W.codeIn K cd_asked_farm "asked_farm" = true)
    (k_asked_farm : PySem.W.keepIn K (.ref f_asked_farm) = true)
    (a_asked_flocks : PySem.W.nsIn K mainGlobals "asked_flocks" = some (some (.ref f_asked_flocks)))
    (l_asked_flocks : K.lookup f_asked_flocks = some ⟨oc_asked_flocks, od_asked_flocks, .func (PySem.W.fnOf "asked_flocks" "asked_flocks" (defArgs s_asked_flocks) (defBody s_asked_flocks) (defScope s_asked_flocks) .none kV_asked_flocks dc_asked_flocks pm_asked_flocks an_asked_flocks cd_asked_flocks ct_asked_flocks), sl_asked_flocks⟩)
    (c_asked_flocks : PySem.W.codeIn K cd_asked_flocks "asked_flocks" = true)
    (k_asked_flocks : PySem.W.keepIn K (.ref f_asked_flocks) = true)
    (a_is_stand : PySem.W.nsIn K mainGlobals "is_stand" = some (some (.ref f_is_stand)))
    (l_is_stand : K.lookup f_is_stand = some ⟨oc_is_stand, od_is_stand, .func (PySem.W.fnOf "is_stand" "is_stand" (defArgs s_is_stand) (defBody s_is_stand) (defScope s_is_stand) .none kV_is_stand dc_is_stand pm_is_stand an_is_stand cd_is_stand ct_is_stand), sl_is_stand⟩)
    (c_is_stand : PySem.W.codeIn K cd_is_stand "is_stand" = true)
    (k_is_stand : PySem.W.keepIn K (.ref f_is_stand) = true)
    (a_asked_stand : PySem.W.nsIn K mainGlobals "asked_stand" = some (some (.ref f_asked_stand)))
    (l_asked_stand : K.lookup f_asked_stand = some ⟨oc_asked_stand, od_asked_stand, .func (PySem.W.fnOf "asked_stand" "asked_stand" (defArgs s_asked_stand) (defBody s_asked_stand) (defScope s_asked_stand) .none kV_asked_stand dc_asked_stand pm_asked_stand an_asked_stand cd_asked_stand ct_asked_stand), sl_asked_stand⟩)
    (c_asked_stand : PySem.W.codeIn K cd_asked_stand "asked_stand" = true)
    (k_asked_stand : PySem.W.keepIn K (.ref f_asked_stand) = true)
    (a_asked_wish : PySem.W.nsIn K mainGlobals "asked_wish" = some (some (.ref f_asked_wish)))
    (l_asked_wish : K.lookup f_asked_wish = some ⟨oc_asked_wish, od_asked_wish, .func (PySem.W.fnOf "asked_wish" "asked_wish" (defArgs s_asked_wish) (defBody s_asked_wish) (defScope s_asked_wish) .none kV_asked_wish dc_asked_wish pm_asked_wish an_asked_wish cd_asked_wish ct_asked_wish), sl_asked_wish⟩)
    (c_asked_wish : PySem.W.codeIn K cd_asked_wish "asked_wish" = true)
    (k_asked_wish : PySem.W.keepIn K (.ref f_asked_wish) = true)
    (a_deeds_of : PySem.W.nsIn K mainGlobals "deeds_of" = some (some (.ref f_deeds_of)))
    (l_deeds_of : K.lookup f_deeds_of = some ⟨oc_deeds_of, od_deeds_of, .func (PySem.W.fnOf "deeds_of" "deeds_of" (defArgs s_deeds_of) (defBody s_deeds_of) (defScope s_deeds_of) .none kV_deeds_of dc_deeds_of pm_deeds_of an_deeds_of cd_deeds_of ct_deeds_of), sl_deeds_of⟩)
    (c_deeds_of : PySem.W.codeIn K cd_deeds_of "deeds_of" = true)
    (k_deeds_of : PySem.W.keepIn K (.ref f_deeds_of) = true)
    (a_rings_of : PySem.W.nsIn K mainGlobals "rings_of" = some (some (.ref f_rings_of)))
    (l_rings_of : K.lookup f_rings_of = some ⟨oc_rings_of, od_rings_of, .func (PySem.W.fnOf "rings_of" "rings_of" (defArgs s_rings_of) (defBody s_rings_of) (defScope s_rings_of) .none kV_rings_of dc_rings_of pm_rings_of an_rings_of cd_rings_of ct_rings_of), sl_rings_of⟩)
    (c_rings_of : PySem.W.codeIn K cd_rings_of "rings_of" = true)
    (k_rings_of : PySem.W.keepIn K (.ref f_rings_of) = true)
    (a_first_bad : PySem.W.nsIn K mainGlobals "first_bad" = some (some (.ref f_first_bad)))
    (l_first_bad : K.lookup f_first_bad = some ⟨oc_first_bad, od_first_bad, .func (PySem.W.fnOf "first_bad" "first_bad" (defArgs s_first_bad) (defBody s_first_bad) (defScope s_first_bad) .none kV_first_bad dc_first_bad pm_first_bad an_first_bad cd_first_bad ct_first_bad), sl_first_bad⟩)
    (c_first_bad : PySem.W.codeIn K cd_first_bad "first_bad" = true)
    (k_first_bad : PySem.W.keepIn K (.ref f_first_bad) = true)
    (a_nexts_of : PySem.W.nsIn K mainGlobals "nexts_of" = some (some (.ref f_nexts_of)))
    (l_nexts_of : K.lookup f_nexts_of = some ⟨oc_nexts_of, od_nexts_of, .func (PySem.W.fnOf "nexts_of" "nexts_of" (defArgs s_nexts_of) (defBody s_nexts_of) (defScope s_nexts_of) .none kV_nexts_of dc_nexts_of pm_nexts_of an_nexts_of cd_nexts_of ct_nexts_of), sl_nexts_of⟩)
    (c_nexts_of : PySem.W.codeIn K cd_nexts_of "nexts_of" = true)
    (k_nexts_of : PySem.W.keepIn K (.ref f_nexts_of) = true)
    (a_Led___init__ : PySem.W.findIn K (.ref C_Led) "__init__" = some (some (.ref f_Led___init__)))
    (i_Led___init__ : PySem.W.isFn K (.ref f_Led___init__) = true)
    (l_Led___init__ : K.lookup f_Led___init__ = some ⟨oc_Led___init__, od_Led___init__, .func (PySem.W.fnOf "__init__" "Led.__init__" (defArgs s_Led___init__) (defBody s_Led___init__) (defScope s_Led___init__) .none kV_Led___init__ dc_Led___init__ pm_Led___init__ an_Led___init__ cd_Led___init__ ct_Led___init__), sl_Led___init__⟩)
    (c_Led___init__ : PySem.W.codeIn K cd_Led___init__ "Led.__init__" = true)
    (k_Led___init__ : PySem.W.keepIn K (.ref f_Led___init__) = true)
    (a_Led_shows : PySem.W.findIn K (.ref C_Led) "shows" = some (some (.ref f_Led_shows)))
    (i_Led_shows : PySem.W.isFn K (.ref f_Led_shows) = true)
    (l_Led_shows : K.lookup f_Led_shows = some ⟨oc_Led_shows, od_Led_shows, .func (PySem.W.fnOf "shows" "Led.shows" (defArgs s_Led_shows) (defBody s_Led_shows) (defScope s_Led_shows) .none kV_Led_shows dc_Led_shows pm_Led_shows an_Led_shows cd_Led_shows ct_Led_shows), sl_Led_shows⟩)
    (c_Led_shows : PySem.W.codeIn K cd_Led_shows "Led.shows" = true)
    (k_Led_shows : PySem.W.keepIn K (.ref f_Led_shows) = true)
    (a_Never___init__ : PySem.W.findIn K (.ref C_Never) "__init__" = some (some (.ref f_Never___init__)))
    (i_Never___init__ : PySem.W.isFn K (.ref f_Never___init__) = true)
    (l_Never___init__ : K.lookup f_Never___init__ = some ⟨oc_Never___init__, od_Never___init__, .func (PySem.W.fnOf "__init__" "Never.__init__" (defArgs s_Never___init__) (defBody s_Never___init__) (defScope s_Never___init__) .none kV_Never___init__ dc_Never___init__ pm_Never___init__ an_Never___init__ cd_Never___init__ ct_Never___init__), sl_Never___init__⟩)
    (c_Never___init__ : PySem.W.codeIn K cd_Never___init__ "Never.__init__" = true)
    (k_Never___init__ : PySem.W.keepIn K (.ref f_Never___init__) = true)
    (a_Never_shows : PySem.W.findIn K (.ref C_Never) "shows" = some (some (.ref f_Never_shows)))
    (i_Never_shows : PySem.W.isFn K (.ref f_Never_shows) = true)
    (l_Never_shows : K.lookup f_Never_shows = some ⟨oc_Never_shows, od_Never_shows, .func (PySem.W.fnOf "shows" "Never.shows" (defArgs s_Never_shows) (defBody s_Never_shows) (defScope s_Never_shows) .none kV_Never_shows dc_Never_shows pm_Never_shows an_Never_shows cd_Never_shows ct_Never_shows), sl_Never_shows⟩)
    (c_Never_shows : PySem.W.codeIn K cd_Never_shows "Never.shows" = true)
    (k_Never_shows : PySem.W.keepIn K (.ref f_Never_shows) = true)
    (a_led : PySem.W.nsIn K mainGlobals "led" = some (some (.ref f_led)))
    (l_led : K.lookup f_led = some ⟨oc_led, od_led, .func (PySem.W.fnOf "led" "led" (defArgs s_led) (defBody s_led) (defScope s_led) .none kV_led dc_led pm_led an_led cd_led ct_led), sl_led⟩)
    (c_led : PySem.W.codeIn K cd_led "led" = true)
    (k_led : PySem.W.keepIn K (.ref f_led) = true)
    (a_come_to : PySem.W.nsIn K mainGlobals "come_to" = some (some (.ref f_come_to)))
    (l_come_to : K.lookup f_come_to = some ⟨oc_come_to, od_come_to, .func (PySem.W.fnOf "come_to" "come_to" (defArgs s_come_to) (defBody s_come_to) (defScope s_come_to) .none kV_come_to dc_come_to pm_come_to an_come_to cd_come_to ct_come_to), sl_come_to⟩)
    (c_come_to : PySem.W.codeIn K cd_come_to "come_to" = true)
    (k_come_to : PySem.W.keepIn K (.ref f_come_to) = true)
    (a__law_number : PySem.W.nsIn K mainGlobals "_law_number" = some (some (.ref f__law_number)))
    (l__law_number : K.lookup f__law_number = some ⟨oc__law_number, od__law_number, .func (PySem.W.fnOf "_law_number" "_law_number" (defArgs s__law_number) (defBody s__law_number) (defScope s__law_number) .none kV__law_number dc__law_number pm__law_number an__law_number cd__law_number ct__law_number), sl__law_number⟩)
    (c__law_number : PySem.W.codeIn K cd__law_number "_law_number" = true)
    (k__law_number : PySem.W.keepIn K (.ref f__law_number) = true)
    (a__law_farm : PySem.W.nsIn K mainGlobals "_law_farm" = some (some (.ref f__law_farm)))
    (l__law_farm : K.lookup f__law_farm = some ⟨oc__law_farm, od__law_farm, .func (PySem.W.fnOf "_law_farm" "_law_farm" (defArgs s__law_farm) (defBody s__law_farm) (defScope s__law_farm) .none kV__law_farm dc__law_farm pm__law_farm an__law_farm cd__law_farm ct__law_farm), sl__law_farm⟩)
    (c__law_farm : PySem.W.codeIn K cd__law_farm "_law_farm" = true)
    (k__law_farm : PySem.W.keepIn K (.ref f__law_farm) = true)
    (a_can_be : PySem.W.nsIn K mainGlobals "can_be" = some (some (.ref f_can_be)))
    (l_can_be : K.lookup f_can_be = some ⟨oc_can_be, od_can_be, .func (PySem.W.fnOf "can_be" "can_be" (defArgs s_can_be) (defBody s_can_be) (defScope s_can_be) .none kV_can_be dc_can_be pm_can_be an_can_be cd_can_be ct_can_be), sl_can_be⟩)
    (c_can_be : PySem.W.codeIn K cd_can_be "can_be" = true)
    (k_can_be : PySem.W.keepIn K (.ref f_can_be) = true)
    (a_hang_on : PySem.W.nsIn K mainGlobals "hang_on" = some (some (.ref f_hang_on)))
    (l_hang_on : K.lookup f_hang_on = some ⟨oc_hang_on, od_hang_on, .func (PySem.W.fnOf "hang_on" "hang_on" (defArgs s_hang_on) (defBody s_hang_on) (defScope s_hang_on) .none kV_hang_on dc_hang_on pm_hang_on an_hang_on cd_hang_on ct_hang_on), sl_hang_on⟩)
    (c_hang_on : PySem.W.codeIn K cd_hang_on "hang_on" = true)
    (k_hang_on : PySem.W.keepIn K (.ref f_hang_on) = true)
    (a_is_deed : PySem.W.nsIn K mainGlobals "is_deed" = some (some (.ref f_is_deed)))
    (l_is_deed : K.lookup f_is_deed = some ⟨oc_is_deed, od_is_deed, .func (PySem.W.fnOf "is_deed" "is_deed" (defArgs s_is_deed) (defBody s_is_deed) (defScope s_is_deed) .none kV_is_deed dc_is_deed pm_is_deed an_is_deed cd_is_deed ct_is_deed), sl_is_deed⟩)
    (c_is_deed : PySem.W.codeIn K cd_is_deed "is_deed" = true)
    (k_is_deed : PySem.W.keepIn K (.ref f_is_deed) = true)
    (a_Fine_shows : PySem.W.findIn K (.ref C_Fine) "shows" = some (some (.ref f_Fine_shows)))
    (i_Fine_shows : PySem.W.isFn K (.ref f_Fine_shows) = true)
    (l_Fine_shows : K.lookup f_Fine_shows = some ⟨oc_Fine_shows, od_Fine_shows, .func (PySem.W.fnOf "shows" "Fine.shows" (defArgs s_Fine_shows) (defBody s_Fine_shows) (defScope s_Fine_shows) .none kV_Fine_shows dc_Fine_shows pm_Fine_shows an_Fine_shows cd_Fine_shows ct_Fine_shows), sl_Fine_shows⟩)
    (c_Fine_shows : PySem.W.codeIn K cd_Fine_shows "Fine.shows" = true)
    (k_Fine_shows : PySem.W.keepIn K (.ref f_Fine_shows) = true)
    (a_Halt___init__ : PySem.W.findIn K (.ref C_Halt) "__init__" = some (some (.ref f_Halt___init__)))
    (i_Halt___init__ : PySem.W.isFn K (.ref f_Halt___init__) = true)
    (l_Halt___init__ : K.lookup f_Halt___init__ = some ⟨oc_Halt___init__, od_Halt___init__, .func (PySem.W.fnOf "__init__" "Halt.__init__" (defArgs s_Halt___init__) (defBody s_Halt___init__) (defScope s_Halt___init__) .none kV_Halt___init__ dc_Halt___init__ pm_Halt___init__ an_Halt___init__ cd_Halt___init__ ct_Halt___init__), sl_Halt___init__⟩)
    (c_Halt___init__ : PySem.W.codeIn K cd_Halt___init__ "Halt.__init__" = true)
    (k_Halt___init__ : PySem.W.keepIn K (.ref f_Halt___init__) = true)
    (a_Halt_shows : PySem.W.findIn K (.ref C_Halt) "shows" = some (some (.ref f_Halt_shows)))
    (i_Halt_shows : PySem.W.isFn K (.ref f_Halt_shows) = true)
    (l_Halt_shows : K.lookup f_Halt_shows = some ⟨oc_Halt_shows, od_Halt_shows, .func (PySem.W.fnOf "shows" "Halt.shows" (defArgs s_Halt_shows) (defBody s_Halt_shows) (defScope s_Halt_shows) .none kV_Halt_shows dc_Halt_shows pm_Halt_shows an_Halt_shows cd_Halt_shows ct_Halt_shows), sl_Halt_shows⟩)
    (c_Halt_shows : PySem.W.codeIn K cd_Halt_shows "Halt.shows" = true)
    (k_Halt_shows : PySem.W.keepIn K (.ref f_Halt_shows) = true)
    (a_Off___init__ : PySem.W.findIn K (.ref C_Off) "__init__" = some (some (.ref f_Off___init__)))
    (i_Off___init__ : PySem.W.isFn K (.ref f_Off___init__) = true)
    (l_Off___init__ : K.lookup f_Off___init__ = some ⟨oc_Off___init__, od_Off___init__, .func (PySem.W.fnOf "__init__" "Off.__init__" (defArgs s_Off___init__) (defBody s_Off___init__) (defScope s_Off___init__) .none kV_Off___init__ dc_Off___init__ pm_Off___init__ an_Off___init__ cd_Off___init__ ct_Off___init__), sl_Off___init__⟩)
    (c_Off___init__ : PySem.W.codeIn K cd_Off___init__ "Off.__init__" = true)
    (k_Off___init__ : PySem.W.keepIn K (.ref f_Off___init__) = true)
    (a_Off_shows : PySem.W.findIn K (.ref C_Off) "shows" = some (some (.ref f_Off_shows)))
    (i_Off_shows : PySem.W.isFn K (.ref f_Off_shows) = true)
    (l_Off_shows : K.lookup f_Off_shows = some ⟨oc_Off_shows, od_Off_shows, .func (PySem.W.fnOf "shows" "Off.shows" (defArgs s_Off_shows) (defBody s_Off_shows) (defScope s_Off_shows) .none kV_Off_shows dc_Off_shows pm_Off_shows an_Off_shows cd_Off_shows ct_Off_shows), sl_Off_shows⟩)
    (c_Off_shows : PySem.W.codeIn K cd_Off_shows "Off.shows" = true)
    (k_Off_shows : PySem.W.keepIn K (.ref f_Off_shows) = true)
    (a_judged : PySem.W.nsIn K mainGlobals "judged" = some (some (.ref f_judged)))
    (l_judged : K.lookup f_judged = some ⟨oc_judged, od_judged, .func (PySem.W.fnOf "judged" "judged" (defArgs s_judged) (defBody s_judged) (defScope s_judged) .none kV_judged dc_judged pm_judged an_judged cd_judged ct_judged), sl_judged⟩)
    (c_judged : PySem.W.codeIn K cd_judged "judged" = true)
    (k_judged : PySem.W.keepIn K (.ref f_judged) = true)
    (a_Yard___init__ : PySem.W.findIn K (.ref C_Yard) "__init__" = some (some (.ref f_Yard___init__)))
    (i_Yard___init__ : PySem.W.isFn K (.ref f_Yard___init__) = true)
    (l_Yard___init__ : K.lookup f_Yard___init__ = some ⟨oc_Yard___init__, od_Yard___init__, .func (PySem.W.fnOf "__init__" "Yard.__init__" (defArgs s_Yard___init__) (defBody s_Yard___init__) (defScope s_Yard___init__) .none kV_Yard___init__ dc_Yard___init__ pm_Yard___init__ an_Yard___init__ cd_Yard___init__ ct_Yard___init__), sl_Yard___init__⟩)
    (c_Yard___init__ : PySem.W.codeIn K cd_Yard___init__ "Yard.__init__" = true)
    (k_Yard___init__ : PySem.W.keepIn K (.ref f_Yard___init__) = true)
    (a_Yard_farm_now : PySem.W.findIn K (.ref C_Yard) "farm_now" = some (some (.ref f_Yard_farm_now)))
    (i_Yard_farm_now : PySem.W.isFn K (.ref f_Yard_farm_now) = true)
    (l_Yard_farm_now : K.lookup f_Yard_farm_now = some ⟨oc_Yard_farm_now, od_Yard_farm_now, .func (PySem.W.fnOf "farm_now" "Yard.farm_now" (defArgs s_Yard_farm_now) (defBody s_Yard_farm_now) (defScope s_Yard_farm_now) .none kV_Yard_farm_now dc_Yard_farm_now pm_Yard_farm_now an_Yard_farm_now cd_Yard_farm_now ct_Yard_farm_now), sl_Yard_farm_now⟩)
    (c_Yard_farm_now : PySem.W.codeIn K cd_Yard_farm_now "Yard.farm_now" = true)
    (k_Yard_farm_now : PySem.W.keepIn K (.ref f_Yard_farm_now) = true)
    (a_Yard_lead : PySem.W.findIn K (.ref C_Yard) "lead" = some (some (.ref f_Yard_lead)))
    (i_Yard_lead : PySem.W.isFn K (.ref f_Yard_lead) = true)
    (l_Yard_lead : K.lookup f_Yard_lead = some ⟨oc_Yard_lead, od_Yard_lead, .func (PySem.W.fnOf "lead" "Yard.lead" (defArgs s_Yard_lead) (defBody s_Yard_lead) (defScope s_Yard_lead) .none kV_Yard_lead dc_Yard_lead pm_Yard_lead an_Yard_lead cd_Yard_lead ct_Yard_lead), sl_Yard_lead⟩)
    (c_Yard_lead : PySem.W.codeIn K cd_Yard_lead "Yard.lead" = true)
    (k_Yard_lead : PySem.W.keepIn K (.ref f_Yard_lead) = true)
    (a_Yard_asked_gate : PySem.W.findIn K (.ref C_Yard) "asked_gate" = some (some (.ref f_Yard_asked_gate)))
    (i_Yard_asked_gate : PySem.W.isFn K (.ref f_Yard_asked_gate) = true)
    (l_Yard_asked_gate : K.lookup f_Yard_asked_gate = some ⟨oc_Yard_asked_gate, od_Yard_asked_gate, .func (PySem.W.fnOf "asked_gate" "Yard.asked_gate" (defArgs s_Yard_asked_gate) (defBody s_Yard_asked_gate) (defScope s_Yard_asked_gate) .none kV_Yard_asked_gate dc_Yard_asked_gate pm_Yard_asked_gate an_Yard_asked_gate cd_Yard_asked_gate ct_Yard_asked_gate), sl_Yard_asked_gate⟩)
    (c_Yard_asked_gate : PySem.W.codeIn K cd_Yard_asked_gate "Yard.asked_gate" = true)
    (k_Yard_asked_gate : PySem.W.keepIn K (.ref f_Yard_asked_gate) = true)
    (a_Yard_lock : PySem.W.findIn K (.ref C_Yard) "lock" = some (some (.ref f_Yard_lock)))
    (i_Yard_lock : PySem.W.isFn K (.ref f_Yard_lock) = true)
    (l_Yard_lock : K.lookup f_Yard_lock = some ⟨oc_Yard_lock, od_Yard_lock, .func (PySem.W.fnOf "lock" "Yard.lock" (defArgs s_Yard_lock) (defBody s_Yard_lock) (defScope s_Yard_lock) .none kV_Yard_lock dc_Yard_lock pm_Yard_lock an_Yard_lock cd_Yard_lock ct_Yard_lock), sl_Yard_lock⟩)
    (c_Yard_lock : PySem.W.codeIn K cd_Yard_lock "Yard.lock" = true)
    (k_Yard_lock : PySem.W.keepIn K (.ref f_Yard_lock) = true)
    (a_Yard_unlock : PySem.W.findIn K (.ref C_Yard) "unlock" = some (some (.ref f_Yard_unlock)))
    (i_Yard_unlock : PySem.W.isFn K (.ref f_Yard_unlock) = true)
    (l_Yard_unlock : K.lookup f_Yard_unlock = some ⟨oc_Yard_unlock, od_Yard_unlock, .func (PySem.W.fnOf "unlock" "Yard.unlock" (defArgs s_Yard_unlock) (defBody s_Yard_unlock) (defScope s_Yard_unlock) .none kV_Yard_unlock dc_Yard_unlock pm_Yard_unlock an_Yard_unlock cd_Yard_unlock ct_Yard_unlock), sl_Yard_unlock⟩)
    (c_Yard_unlock : PySem.W.codeIn K cd_Yard_unlock "Yard.unlock" = true)
    (k_Yard_unlock : PySem.W.keepIn K (.ref f_Yard_unlock) = true)
    (a_Yard_stand_now : PySem.W.findIn K (.ref C_Yard) "stand_now" = some (some (.ref f_Yard_stand_now)))
    (i_Yard_stand_now : PySem.W.isFn K (.ref f_Yard_stand_now) = true)
    (l_Yard_stand_now : K.lookup f_Yard_stand_now = some ⟨oc_Yard_stand_now, od_Yard_stand_now, .func (PySem.W.fnOf "stand_now" "Yard.stand_now" (defArgs s_Yard_stand_now) (defBody s_Yard_stand_now) (defScope s_Yard_stand_now) .none kV_Yard_stand_now dc_Yard_stand_now pm_Yard_stand_now an_Yard_stand_now cd_Yard_stand_now ct_Yard_stand_now), sl_Yard_stand_now⟩)
    (c_Yard_stand_now : PySem.W.codeIn K cd_Yard_stand_now "Yard.stand_now" = true)
    (k_Yard_stand_now : PySem.W.keepIn K (.ref f_Yard_stand_now) = true)
    (a_Yard_can_do : PySem.W.findIn K (.ref C_Yard) "can_do" = some (some (.ref f_Yard_can_do)))
    (i_Yard_can_do : PySem.W.isFn K (.ref f_Yard_can_do) = true)
    (l_Yard_can_do : K.lookup f_Yard_can_do = some ⟨oc_Yard_can_do, od_Yard_can_do, .func (PySem.W.fnOf "can_do" "Yard.can_do" (defArgs s_Yard_can_do) (defBody s_Yard_can_do) (defScope s_Yard_can_do) .none kV_Yard_can_do dc_Yard_can_do pm_Yard_can_do an_Yard_can_do cd_Yard_can_do ct_Yard_can_do), sl_Yard_can_do⟩)
    (c_Yard_can_do : PySem.W.codeIn K cd_Yard_can_do "Yard.can_do" = true)
    (k_Yard_can_do : PySem.W.keepIn K (.ref f_Yard_can_do) = true)
    (a_Yard_locked : PySem.W.findIn K (.ref C_Yard) "locked" = some (some (.ref f_Yard_locked)))
    (i_Yard_locked : PySem.W.isFn K (.ref f_Yard_locked) = true)
    (l_Yard_locked : K.lookup f_Yard_locked = some ⟨oc_Yard_locked, od_Yard_locked, .func (PySem.W.fnOf "locked" "Yard.locked" (defArgs s_Yard_locked) (defBody s_Yard_locked) (defScope s_Yard_locked) .none kV_Yard_locked dc_Yard_locked pm_Yard_locked an_Yard_locked cd_Yard_locked ct_Yard_locked), sl_Yard_locked⟩)
    (c_Yard_locked : PySem.W.codeIn K cd_Yard_locked "Yard.locked" = true)
    (k_Yard_locked : PySem.W.keepIn K (.ref f_Yard_locked) = true)
    (a__law_plain : PySem.W.nsIn K mainGlobals "_law_plain" = some (some (.ref f__law_plain)))
    (l__law_plain : K.lookup f__law_plain = some ⟨oc__law_plain, od__law_plain, .func (PySem.W.fnOf "_law_plain" "_law_plain" (defArgs s__law_plain) (defBody s__law_plain) (defScope s__law_plain) .none kV__law_plain dc__law_plain pm__law_plain an__law_plain cd__law_plain ct__law_plain), sl__law_plain⟩)
    (c__law_plain : PySem.W.codeIn K cd__law_plain "_law_plain" = true)
    (k__law_plain : PySem.W.keepIn K (.ref f__law_plain) = true)
    (a__law_truths : PySem.W.nsIn K mainGlobals "_law_truths" = some (some (.ref f__law_truths)))
    (l__law_truths : K.lookup f__law_truths = some ⟨oc__law_truths, od__law_truths, .func (PySem.W.fnOf "_law_truths" "_law_truths" (defArgs s__law_truths) (defBody s__law_truths) (defScope s__law_truths) .none kV__law_truths dc__law_truths pm__law_truths an__law_truths cd__law_truths ct__law_truths), sl__law_truths⟩)
    (c__law_truths : PySem.W.codeIn K cd__law_truths "_law_truths" = true)
    (k__law_truths : PySem.W.keepIn K (.ref f__law_truths) = true)
    (a__law_told_right : PySem.W.nsIn K mainGlobals "_law_told_right" = some (some (.ref f__law_told_right)))
    (l__law_told_right : K.lookup f__law_told_right = some ⟨oc__law_told_right, od__law_told_right, .func (PySem.W.fnOf "_law_told_right" "_law_told_right" (defArgs s__law_told_right) (defBody s__law_told_right) (defScope s__law_told_right) .none kV__law_told_right dc__law_told_right pm__law_told_right an__law_told_right cd__law_told_right ct__law_told_right), sl__law_told_right⟩)
    (c__law_told_right : PySem.W.codeIn K cd__law_told_right "_law_told_right" = true)
    (k__law_told_right : PySem.W.keepIn K (.ref f__law_told_right) = true)
    (a__law_yard_right : PySem.W.nsIn K mainGlobals "_law_yard_right" = some (some (.ref f__law_yard_right)))
    (l__law_yard_right : K.lookup f__law_yard_right = some ⟨oc__law_yard_right, od__law_yard_right, .func (PySem.W.fnOf "_law_yard_right" "_law_yard_right" (defArgs s__law_yard_right) (defBody s__law_yard_right) (defScope s__law_yard_right) .none kV__law_yard_right dc__law_yard_right pm__law_yard_right an__law_yard_right cd__law_yard_right ct__law_yard_right), sl__law_yard_right⟩)
    (c__law_yard_right : PySem.W.codeIn K cd__law_yard_right "_law_yard_right" = true)
    (k__law_yard_right : PySem.W.keepIn K (.ref f__law_yard_right) = true)
    (a_law : PySem.W.nsIn K mainGlobals "law" = some (some (.ref f_law)))
    (l_law : K.lookup f_law = some ⟨oc_law, od_law, .func (PySem.W.fnOf "law" "law" (defArgs s_law) (defBody s_law) (defScope s_law) .none kV_law dc_law pm_law an_law cd_law ct_law), sl_law⟩)
    (c_law : PySem.W.codeIn K cd_law "law" = true)
    (k_law : PySem.W.keepIn K (.ref f_law) = true)
    : ∃ fd : FuncData, (∀ (s : Shared) (v : Value), BindsTo s fd ⟨[v], []⟩ [("_law_script", v)]) ∧ ∀ base : Heap, K.In base → base.Ns mainGlobals mg → FnOk l.prog w K mg base CX0 8 fa fd ["_law_script"] (Prm (gLaw K)) := by
  have e := hfa.symm.trans (PySem.W.mg_of X G a_law)
  cases e
  have T : Tp mg := ⟨⟨PySem.W.mg_none_of X G z_len, PySem.W.mg_none_of X G z_abs, PySem.W.mg_none_of X G z_all, PySem.W.mg_none_of X G z_any, PySem.W.mg_none_of X G z_sum, PySem.W.mg_none_of X G z_min, PySem.W.mg_none_of X G z_max, PySem.W.mg_none_of X G z_sorted, PySem.W.mg_none_of X G z_isinstance, PySem.W.mg_none_of X G z_int, PySem.W.mg_none_of X G z_bool, PySem.W.mg_none_of X G z_str, PySem.W.mg_none_of X G z_list, PySem.W.mg_none_of X G z_tuple, PySem.W.mg_none_of X G z_dict, PySem.W.mg_none_of X G z_set, PySem.W.mg_none_of X G z_range, PySem.W.mg_none_of X G z_zip, PySem.W.mg_none_of X G z_enumerate⟩, ⟨_, PySem.W.mg_of X G gMOST_PENS⟩, ⟨_, PySem.W.mg_of X G gMOST_ROOM⟩, ⟨_, PySem.W.mg_of X G gMOST_FLOCKS⟩⟩
  let A : Adr := ⟨C_Answer, C_Led, C_Never, C_Fine, C_Halt, C_Off⟩
  have Q : Tk K A := ⟨⟨⟨pgLed, hdLed, poLed, saLed⟩, haLed, hn, htk, hmLed⟩, nLed_deeds, nLed_rings, ⟨⟨pgNever, hdNever, poNever, saNever⟩, haNever, hn, htk, hmNever⟩, nNever_stands⟩
  have TL : Tc K mg A := ⟨PySem.W.mg_of X G aAnswer, PySem.W.mg_of X G aLed, PySem.W.mg_of X G aNever, PySem.W.mg_of X G aFine, PySem.W.mg_of X G aHalt, PySem.W.mg_of X G aOff, kLed_Answer, kLed_Led, kLed_Never, kLed_Fine, kLed_Halt, kLed_Off, kNever_Answer, kNever_Led, kNever_Never, kNever_Fine, kNever_Halt, kNever_Off⟩
  have J : Tj K mg A := ⟨⟨⟨pgFine, hdFine, poFine, saFine⟩, haFine, hn, htk, hmFine⟩, ⟨mkFine, biFine, kcFine⟩, ⟨⟨pgHalt, hdHalt, poHalt, saHalt⟩, haHalt, hn, htk, hmHalt⟩, nHalt_place, ⟨⟨pgOff, hdOff, poOff, saOff⟩, haOff, hn, htk, hmOff⟩, nOff_flock, PySem.W.mg_of X G aFine, ⟨_, PySem.W.mg_of X G gLONGEST⟩⟩
  have TC : Tq K mg A := ⟨PySem.W.mg_of X G aAnswer, PySem.W.mg_of X G aLed, PySem.W.mg_of X G aNever, PySem.W.mg_of X G aFine, PySem.W.mg_of X G aHalt, PySem.W.mg_of X G aOff, kFine_Answer, kFine_Led, kFine_Never, kFine_Fine, kFine_Halt, kFine_Off, kHalt_Answer, kHalt_Led, kHalt_Never, kHalt_Fine, kHalt_Halt, kHalt_Off, kOff_Answer, kOff_Led, kOff_Never, kOff_Fine, kOff_Halt, kOff_Off⟩
  have TY : Ty K C_Yard := ⟨⟨⟨pgYard, hdYard, poYard, saYard⟩, haYard, hn, htk, hmYard⟩, nYard_rooms, nYard_gates, nYard_flocks, nYard_pens, nYard_shut, nYard_times⟩
  let B : EAdr := ⟨C_FlockError, C_BadFarm, C_BadFlocks, C_BadStand, C_BadWish, C_BadDeeds, C_BadFlock, C_BadPen, C_BadGate, C_CantGo, C_NotSo, C_NeverSo⟩
  have XC : Ex K mg B := ⟨⟨xeFlockError, PySem.W.mg_of X G aFlockError, kpFlockError, sbFlockError, tyFlockError, ⟨egFlockError, ekFlockError, sbFlockError, edFlockError, eaFlockError, hn, htk, emFlockError⟩⟩, ⟨xeBadFarm, PySem.W.mg_of X G aBadFarm, kpBadFarm, sbBadFarm, tyBadFarm, ⟨egBadFarm, ekBadFarm, sbBadFarm, edBadFarm, eaBadFarm, hn, htk, emBadFarm⟩⟩, ⟨xeBadFlocks, PySem.W.mg_of X G aBadFlocks, kpBadFlocks, sbBadFlocks, tyBadFlocks, ⟨egBadFlocks, ekBadFlocks, sbBadFlocks, edBadFlocks, eaBadFlocks, hn, htk, emBadFlocks⟩⟩, ⟨xeBadStand, PySem.W.mg_of X G aBadStand, kpBadStand, sbBadStand, tyBadStand, ⟨egBadStand, ekBadStand, sbBadStand, edBadStand, eaBadStand, hn, htk, emBadStand⟩⟩, ⟨xeBadWish, PySem.W.mg_of X G aBadWish, kpBadWish, sbBadWish, tyBadWish, ⟨egBadWish, ekBadWish, sbBadWish, edBadWish, eaBadWish, hn, htk, emBadWish⟩⟩, ⟨xeBadDeeds, PySem.W.mg_of X G aBadDeeds, kpBadDeeds, sbBadDeeds, tyBadDeeds, ⟨egBadDeeds, ekBadDeeds, sbBadDeeds, edBadDeeds, eaBadDeeds, hn, htk, emBadDeeds⟩⟩, ⟨xeBadFlock, PySem.W.mg_of X G aBadFlock, kpBadFlock, sbBadFlock, tyBadFlock, ⟨egBadFlock, ekBadFlock, sbBadFlock, edBadFlock, eaBadFlock, hn, htk, emBadFlock⟩⟩, ⟨xeBadPen, PySem.W.mg_of X G aBadPen, kpBadPen, sbBadPen, tyBadPen, ⟨egBadPen, ekBadPen, sbBadPen, edBadPen, eaBadPen, hn, htk, emBadPen⟩⟩, ⟨xeBadGate, PySem.W.mg_of X G aBadGate, kpBadGate, sbBadGate, tyBadGate, ⟨egBadGate, ekBadGate, sbBadGate, edBadGate, eaBadGate, hn, htk, emBadGate⟩⟩, ⟨xeCantGo, PySem.W.mg_of X G aCantGo, kpCantGo, sbCantGo, tyCantGo, ⟨egCantGo, ekCantGo, sbCantGo, edCantGo, eaCantGo, hn, htk, emCantGo⟩⟩, ⟨xeNotSo, PySem.W.mg_of X G aNotSo, kpNotSo, sbNotSo, tyNotSo, ⟨egNotSo, ekNotSo, sbNotSo, edNotSo, eaNotSo, hn, htk, emNotSo⟩⟩, ⟨xeNeverSo, PySem.W.mg_of X G aNeverSo, kpNeverSo, sbNeverSo, tyNeverSo, ⟨egNeverSo, ekNeverSo, sbNeverSo, edNeverSo, eaNeverSo, hn, htk, emNeverSo⟩⟩, sNeverSo⟩
  have F_is_between := fun_mk (st := s_is_between) l_is_between c_is_between k_is_between
  have b_is_between := F_is_between.binds (ps := ["thing", "least", "most"]) fun _ _ _ _ _ _ us hl => match us, hl with | [_, _, _], _ => rfl
  have F_can_go := fun_mk (st := s_can_go) l_can_go c_can_go k_can_go
  have b_can_go := F_can_go.binds (ps := ["farm", "flocks", "stand", "flock", "pen"]) fun _ _ _ _ _ _ us hl => match us, hl with | [_, _, _, _, _], _ => rfl
  have F_behind := fun_mk (st := s_behind) l_behind c_behind k_behind
  have b_behind := F_behind.binds (ps := ["stand", "flock", "pen"]) fun _ _ _ _ _ _ us hl => match us, hl with | [_, _, _], _ => rfl
  have F_as_wished := fun_mk (st := s_as_wished) l_as_wished c_as_wished k_as_wished
  have b_as_wished := F_as_wished.binds (ps := ["stand", "wish"]) fun _ _ _ _ _ _ us hl => match us, hl with | [_, _], _ => rfl
  have F_is_gate := fun_mk (st := s_is_gate) l_is_gate c_is_gate k_is_gate
  have b_is_gate := F_is_gate.binds (ps := ["thing", "many"]) fun _ _ _ _ _ _ us hl => match us, hl with | [_, _], _ => rfl
  have F_asked_farm := fun_mk (st := s_asked_farm) l_asked_farm c_asked_farm k_asked_farm
  have b_asked_farm := F_asked_farm.binds (ps := ["farm"]) fun _ _ _ _ _ _ us hl => match us, hl with | [_], _ => rfl
  have F_asked_flocks := fun_mk (st := s_asked_flocks) l_asked_flocks c_asked_flocks k_asked_flocks
  have b_asked_flocks := F_asked_flocks.binds (ps := ["flocks"]) fun _ _ _ _ _ _ us hl => match us, hl with | [_], _ => rfl
  have F_is_stand := fun_mk (st := s_is_stand) l_is_stand c_is_stand k_is_stand
  have b_is_stand := F_is_stand.binds (ps := ["farm", "flocks", "thing"]) fun _ _ _ _ _ _ us hl => match us, hl with | [_, _, _], _ => rfl
  have F_asked_stand := fun_mk (st := s_asked_stand) l_asked_stand c_asked_stand k_asked_stand
  have b_asked_stand := F_asked_stand.binds (ps := ["farm", "flocks", "stand"]) fun _ _ _ _ _ _ us hl => match us, hl with | [_, _, _], _ => rfl
  have F_asked_wish := fun_mk (st := s_asked_wish) l_asked_wish c_asked_wish k_asked_wish
  have b_asked_wish := F_asked_wish.binds (ps := ["farm", "flocks", "wish"]) fun _ _ _ _ _ _ us hl => match us, hl with | [_, _, _], _ => rfl
  have F_deeds_of := fun_mk (st := s_deeds_of) l_deeds_of c_deeds_of k_deeds_of
  have b_deeds_of := F_deeds_of.binds (ps := ["farm", "flocks", "stand"]) fun _ _ _ _ _ _ us hl => match us, hl with | [_, _, _], _ => rfl
  have F_rings_of := fun_mk (st := s_rings_of) l_rings_of c_rings_of k_rings_of
  have b_rings_of := F_rings_of.binds (ps := ["farm", "flocks", "stand"]) fun _ _ _ _ _ _ us hl => match us, hl with | [_, _, _], _ => rfl
  have F_first_bad := fun_mk (st := s_first_bad) l_first_bad c_first_bad k_first_bad
  have b_first_bad := F_first_bad.binds (ps := ["farm", "flocks", "stand", "deeds"]) fun _ _ _ _ _ _ us hl => match us, hl with | [_, _, _, _], _ => rfl
  have F_nexts_of := fun_mk (st := s_nexts_of) l_nexts_of c_nexts_of k_nexts_of
  have b_nexts_of := F_nexts_of.binds (ps := ["farm", "flocks", "stand"]) fun _ _ _ _ _ _ us hl => match us, hl with | [_, _, _], _ => rfl
  have F_Led___init__ := fun_mk (st := s_Led___init__) l_Led___init__ c_Led___init__ k_Led___init__
  have b_Led___init__ := F_Led___init__.binds (ps := ["self", "deeds", "rings"]) fun _ _ _ _ _ _ us hl => match us, hl with | [_, _, _], _ => rfl
  have F_Led_shows := fun_mk (st := s_Led_shows) l_Led_shows c_Led_shows k_Led_shows
  have b_Led_shows := F_Led_shows.binds (ps := ["self", "farm", "flocks", "stand", "wish"]) fun _ _ _ _ _ _ us hl => match us, hl with | [_, _, _, _, _], _ => rfl
  have F_Never___init__ := fun_mk (st := s_Never___init__) l_Never___init__ c_Never___init__ k_Never___init__
  have b_Never___init__ := F_Never___init__.binds (ps := ["self", "stands"]) fun _ _ _ _ _ _ us hl => match us, hl with | [_, _], _ => rfl
  have F_Never_shows := fun_mk (st := s_Never_shows) l_Never_shows c_Never_shows k_Never_shows
  have b_Never_shows := F_Never_shows.binds (ps := ["self", "farm", "flocks", "stand", "wish"]) fun _ _ _ _ _ _ us hl => match us, hl with | [_, _, _, _, _], _ => rfl
  have F_led := fun_mk (st := s_led) l_led c_led k_led
  have b_led := F_led.binds (ps := ["farm", "flocks", "stand", "wish"]) fun _ _ _ _ _ _ us hl => match us, hl with | [_, _, _, _], _ => rfl
  have F_come_to := fun_mk (st := s_come_to) l_come_to c_come_to k_come_to
  have b_come_to := F_come_to.binds (ps := ["farm", "flocks", "stand"]) fun _ _ _ _ _ _ us hl => match us, hl with | [_, _, _], _ => rfl
  have F__law_number := fun_mk (st := s__law_number) l__law_number c__law_number k__law_number
  have b__law_number := F__law_number.binds (ps := ["_law_cell", "_law_at", "_law_whole"]) fun _ _ _ _ _ _ us hl => match us, hl with | [_, _, _], _ => rfl
  have F__law_farm := fun_mk (st := s__law_farm) l__law_farm c__law_farm k__law_farm
  have b__law_farm := F__law_farm.binds (ps := ["_law_script", "_law_by", "_law_most"]) fun _ _ _ _ _ _ us hl => match us, hl with | [_, _, _], _ => rfl
  have F_can_be := fun_mk (st := s_can_be) l_can_be c_can_be k_can_be
  have b_can_be := F_can_be.binds (ps := ["farm", "flocks", "stand", "wish"]) fun _ _ _ _ _ _ us hl => match us, hl with | [_, _, _, _], _ => rfl
  have F_hang_on := fun_mk (st := s_hang_on) l_hang_on c_hang_on k_hang_on
  have b_hang_on := F_hang_on.binds (ps := ["farm", "flocks", "stand", "wish"]) fun _ _ _ _ _ _ us hl => match us, hl with | [_, _, _, _], _ => rfl
  have F_is_deed := fun_mk (st := s_is_deed) l_is_deed c_is_deed k_is_deed
  have b_is_deed := F_is_deed.binds (ps := ["thing"]) fun _ _ _ _ _ _ us hl => match us, hl with | [_], _ => rfl
  have F_Fine_shows := fun_mk (st := s_Fine_shows) l_Fine_shows c_Fine_shows k_Fine_shows
  have b_Fine_shows := F_Fine_shows.binds (ps := ["self", "farm", "flocks", "stand", "wish", "deeds"]) fun _ _ _ _ _ _ us hl => match us, hl with | [_, _, _, _, _, _], _ => rfl
  have F_Halt___init__ := fun_mk (st := s_Halt___init__) l_Halt___init__ c_Halt___init__ k_Halt___init__
  have b_Halt___init__ := F_Halt___init__.binds (ps := ["self", "place"]) fun _ _ _ _ _ _ us hl => match us, hl with | [_, _], _ => rfl
  have F_Halt_shows := fun_mk (st := s_Halt_shows) l_Halt_shows c_Halt_shows k_Halt_shows
  have b_Halt_shows := F_Halt_shows.binds (ps := ["self", "farm", "flocks", "stand", "wish", "deeds"]) fun _ _ _ _ _ _ us hl => match us, hl with | [_, _, _, _, _, _], _ => rfl
  have F_Off___init__ := fun_mk (st := s_Off___init__) l_Off___init__ c_Off___init__ k_Off___init__
  have b_Off___init__ := F_Off___init__.binds (ps := ["self", "flock"]) fun _ _ _ _ _ _ us hl => match us, hl with | [_, _], _ => rfl
  have F_Off_shows := fun_mk (st := s_Off_shows) l_Off_shows c_Off_shows k_Off_shows
  have b_Off_shows := F_Off_shows.binds (ps := ["self", "farm", "flocks", "stand", "wish", "deeds"]) fun _ _ _ _ _ _ us hl => match us, hl with | [_, _, _, _, _, _], _ => rfl
  have F_judged := fun_mk (st := s_judged) l_judged c_judged k_judged
  have b_judged := F_judged.binds (ps := ["farm", "flocks", "stand", "wish", "deeds"]) fun _ _ _ _ _ _ us hl => match us, hl with | [_, _, _, _, _], _ => rfl
  have F_Yard___init__ := fun_mk (st := s_Yard___init__) l_Yard___init__ c_Yard___init__ k_Yard___init__
  have b_Yard___init__ := F_Yard___init__.binds (ps := ["self", "farm", "flocks", "stand"]) fun _ _ _ _ _ _ us hl => match us, hl with | [_, _, _, _], _ => rfl
  have F_Yard_farm_now := fun_mk (st := s_Yard_farm_now) l_Yard_farm_now c_Yard_farm_now k_Yard_farm_now
  have b_Yard_farm_now := F_Yard_farm_now.binds (ps := ["self"]) fun _ _ _ _ _ _ us hl => match us, hl with | [_], _ => rfl
  have F_Yard_lead := fun_mk (st := s_Yard_lead) l_Yard_lead c_Yard_lead k_Yard_lead
  have b_Yard_lead := F_Yard_lead.binds (ps := ["self", "flock", "pen"]) fun _ _ _ _ _ _ us hl => match us, hl with | [_, _, _], _ => rfl
  have F_Yard_asked_gate := fun_mk (st := s_Yard_asked_gate) l_Yard_asked_gate c_Yard_asked_gate k_Yard_asked_gate
  have b_Yard_asked_gate := F_Yard_asked_gate.binds (ps := ["self", "gate"]) fun _ _ _ _ _ _ us hl => match us, hl with | [_, _], _ => rfl
  have F_Yard_lock := fun_mk (st := s_Yard_lock) l_Yard_lock c_Yard_lock k_Yard_lock
  have b_Yard_lock := F_Yard_lock.binds (ps := ["self", "gate"]) fun _ _ _ _ _ _ us hl => match us, hl with | [_, _], _ => rfl
  have F_Yard_unlock := fun_mk (st := s_Yard_unlock) l_Yard_unlock c_Yard_unlock k_Yard_unlock
  have b_Yard_unlock := F_Yard_unlock.binds (ps := ["self", "gate"]) fun _ _ _ _ _ _ us hl => match us, hl with | [_, _], _ => rfl
  have F_Yard_stand_now := fun_mk (st := s_Yard_stand_now) l_Yard_stand_now c_Yard_stand_now k_Yard_stand_now
  have b_Yard_stand_now := F_Yard_stand_now.binds (ps := ["self"]) fun _ _ _ _ _ _ us hl => match us, hl with | [_], _ => rfl
  have F_Yard_can_do := fun_mk (st := s_Yard_can_do) l_Yard_can_do c_Yard_can_do k_Yard_can_do
  have b_Yard_can_do := F_Yard_can_do.binds (ps := ["self"]) fun _ _ _ _ _ _ us hl => match us, hl with | [_], _ => rfl
  have F_Yard_locked := fun_mk (st := s_Yard_locked) l_Yard_locked c_Yard_locked k_Yard_locked
  have b_Yard_locked := F_Yard_locked.binds (ps := ["self"]) fun _ _ _ _ _ _ us hl => match us, hl with | [_], _ => rfl
  have F__law_plain := fun_mk (st := s__law_plain) l__law_plain c__law_plain k__law_plain
  have b__law_plain := F__law_plain.binds (ps := ["_law_thing"]) fun _ _ _ _ _ _ us hl => match us, hl with | [_], _ => rfl
  have F__law_truths := fun_mk (st := s__law_truths) l__law_truths c__law_truths k__law_truths
  have b__law_truths := F__law_truths.binds (ps := ["_law_things"]) fun _ _ _ _ _ _ us hl => match us, hl with | [_], _ => rfl
  have F__law_told_right := fun_mk (st := s__law_told_right) l__law_told_right c__law_told_right k__law_told_right
  have b__law_told_right := F__law_told_right.binds (ps := ["_law_farm_here", "_law_flocks", "_law_stand", "_law_wish"]) fun _ _ _ _ _ _ us hl => match us, hl with | [_, _, _, _], _ => rfl
  have F__law_yard_right := fun_mk (st := s__law_yard_right) l__law_yard_right c__law_yard_right k__law_yard_right
  have b__law_yard_right := F__law_yard_right.binds (ps := ["_law_farm_here", "_law_flocks", "_law_stand"]) fun _ _ _ _ _ _ us hl => match us, hl with | [_, _, _], _ => rfl
  have F_law := fun_mk (st := s_law) l_law c_law k_law
  have b_law := F_law.binds (ps := ["_law_script"]) fun _ _ _ _ _ _ us hl => match us, hl with | [_], _ => rfl
  refine ⟨PySem.W.fnOf "law" "law" (defArgs s_law) (defBody s_law) (defScope s_law) .none kV_law dc_law pm_law an_law cd_law ct_law, fun s v => .of_eq rfl, fun base _ _ => ?_⟩
  have D_is_between : Df l.prog w K mg base 1 "is_between" ["thing", "least", "most"] (Pure gBetween) := ⟨_, _, PySem.W.mg_of X G a_is_between, k_is_between, b_is_between, ok_is_between F_is_between T⟩
  have D_can_go : Df l.prog w K mg base 1 "can_go" ["farm", "flocks", "stand", "flock", "pen"] (Pure gCanGo) := ⟨_, _, PySem.W.mg_of X G a_can_go, k_can_go, b_can_go, ok_can_go F_can_go T⟩
  have D_behind : Df l.prog w K mg base 1 "behind" ["stand", "flock", "pen"] (Pure gBehind) := ⟨_, _, PySem.W.mg_of X G a_behind, k_behind, b_behind, ok_behind F_behind T⟩
  have D_as_wished : Df l.prog w K mg base 1 "as_wished" ["stand", "wish"] (Pure gAsWished) := ⟨_, _, PySem.W.mg_of X G a_as_wished, k_as_wished, b_as_wished, ok_as_wished F_as_wished T⟩
  have D_is_gate : Df l.prog w K mg base 2 "is_gate" ["thing", "many"] (Pure gIsGate) := ⟨_, _, PySem.W.mg_of X G a_is_gate, k_is_gate, b_is_gate, ok_is_gate F_is_gate T D_is_between⟩
  have D_asked_farm : Df l.prog w K mg base 3 "asked_farm" ["farm"] (Pure gAskedFarm) := ⟨_, _, PySem.W.mg_of X G a_asked_farm, k_asked_farm, b_asked_farm, ok_asked_farm F_asked_farm T D_is_between D_is_gate⟩
  have D_asked_flocks : Df l.prog w K mg base 2 "asked_flocks" ["flocks"] (Pure gAskedFlocks) := ⟨_, _, PySem.W.mg_of X G a_asked_flocks, k_asked_flocks, b_asked_flocks, ok_asked_flocks F_asked_flocks T D_is_between⟩
  have D_is_stand : Df l.prog w K mg base 2 "is_stand" ["farm", "flocks", "thing"] (Pure gIsStand) := ⟨_, _, PySem.W.mg_of X G a_is_stand, k_is_stand, b_is_stand, ok_is_stand F_is_stand T D_is_between⟩
  have D_asked_stand : Df l.prog w K mg base 4 "asked_stand" ["farm", "flocks", "stand"] (Pure gAskedStand) := ⟨_, _, PySem.W.mg_of X G a_asked_stand, k_asked_stand, b_asked_stand, ok_asked_stand F_asked_stand T D_asked_farm D_asked_flocks D_is_stand⟩
  have D_asked_wish : Df l.prog w K mg base 2 "asked_wish" ["farm", "flocks", "wish"] (Pure gAskedWish) := ⟨_, _, PySem.W.mg_of X G a_asked_wish, k_asked_wish, b_asked_wish, ok_asked_wish F_asked_wish T D_is_between⟩
  have D_deeds_of : Df l.prog w K mg base 2 "deeds_of" ["farm", "flocks", "stand"] (Pure gDeedsOf) := ⟨_, _, PySem.W.mg_of X G a_deeds_of, k_deeds_of, b_deeds_of, ok_deeds_of F_deeds_of T D_can_go⟩
  have D_deeds_ofL : Df l.prog w K mg base 2 "deeds_of" ["farm", "flocks", "stand"] (Prm gDeedsL) := ⟨_, _, PySem.W.mg_of X G a_deeds_of, k_deeds_of, b_deeds_of, ok_deeds_ofL F_deeds_of T D_can_go⟩
  have D_rings_of : Df l.prog w K mg base 3 "rings_of" ["farm", "flocks", "stand"] (Pure gRingsOf) := ⟨_, _, PySem.W.mg_of X G a_rings_of, k_rings_of, b_rings_of, ok_rings_of F_rings_of T D_deeds_of D_behind⟩
  have D_first_bad : Df l.prog w K mg base 2 "first_bad" ["farm", "flocks", "stand", "deeds"] (Pure gFirstBad) := ⟨_, _, PySem.W.mg_of X G a_first_bad, k_first_bad, b_first_bad, ok_first_bad F_first_bad T D_can_go D_behind⟩
  have D_nexts_of : Df l.prog w K mg base 3 "nexts_of" ["farm", "flocks", "stand"] (Pure gNextsOf) := ⟨_, _, PySem.W.mg_of X G a_nexts_of, k_nexts_of, b_nexts_of, ok_nexts_of F_nexts_of T D_deeds_of D_behind⟩
  have M_Led : Dm l.prog w K mg base 1 "Led" A.c_Led ["self", "deeds", "rings"] (Ini A.c_Led (gLedIni A.c_Led)) := ⟨PySem.W.mg_of X G aLed, _, _, ⟨mkLed, a_Led___init__, i_Led___init__, kcLed⟩, b_Led___init__, ok_Led_init F_Led___init__ T Q⟩
  have S_Led_shows : Dk l.prog w K mg base 4 A.c_Led "shows" ["self", "farm", "flocks", "stand", "wish"] (Pure (gLedShows A.c_Led)) := ⟨Q.lk.cl, _, _, ⟨a_Led_shows, i_Led_shows, k_Led_shows⟩, b_Led_shows, ok_Led_shows F_Led_shows T Q D_first_bad D_as_wished D_is_stand D_nexts_of⟩
  have M_Never : Dm l.prog w K mg base 1 "Never" A.c_Never ["self", "stands"] (Ini A.c_Never (gNeverIni A.c_Never)) := ⟨PySem.W.mg_of X G aNever, _, _, ⟨mkNever, a_Never___init__, i_Never___init__, kcNever⟩, b_Never___init__, ok_Never_init F_Never___init__ T Q⟩
  have S_Never_shows : Dk l.prog w K mg base 4 A.c_Never "shows" ["self", "farm", "flocks", "stand", "wish"] (Pure (gNeverShows A.c_Never)) := ⟨Q.nk.cl, _, _, ⟨a_Never_shows, i_Never_shows, k_Never_shows⟩, b_Never_shows, ok_Never_shows F_Never_shows T Q D_as_wished D_is_stand D_nexts_of⟩
  have D_led : Df l.prog w K mg base 5 "led" ["farm", "flocks", "stand", "wish"] (Prm (gLed A)) := ⟨_, _, PySem.W.mg_of X G a_led, k_led, b_led, ok_led F_led T Q D_asked_stand D_asked_wish D_rings_of D_as_wished M_Led M_Never⟩
  have D_come_to : Df l.prog w K mg base 5 "come_to" ["farm", "flocks", "stand"] (Pure gComeTo) := ⟨_, _, PySem.W.mg_of X G a_come_to, k_come_to, b_come_to, ok_come_to F_come_to T D_asked_stand D_rings_of⟩
  have D__law_number : Df l.prog w K mg base 1 "_law_number" ["_law_cell", "_law_at", "_law_whole"] (Pure gLawNum) := ⟨_, _, PySem.W.mg_of X G a__law_number, k__law_number, b__law_number, ok_law_number F__law_number T⟩
  have D__law_farm : Df l.prog w K mg base 2 "_law_farm" ["_law_script", "_law_by", "_law_most"] (Prm (gLawFarm K)) := ⟨_, _, PySem.W.mg_of X G a__law_farm, k__law_farm, b__law_farm, ok_law_farm F__law_farm T D__law_number⟩
  have D_can_be : Df l.prog w K mg base 4 "can_be" ["farm", "flocks", "stand", "wish"] (Pure gCanBe) := ⟨_, _, PySem.W.mg_of X G a_can_be, k_can_be, b_can_be, ok_can_be F_can_be T D_rings_of D_as_wished⟩
  have D_hang_on : DfX l.prog w K mg base 5 "hang_on" ["farm", "flocks", "stand", "wish"] (PrmX (gHangOn B)) := ⟨_, _, PySem.W.mg_of X G a_hang_on, k_hang_on, b_hang_on, ok_hang_on F_hang_on T XC D_asked_stand D_asked_wish D_can_be⟩
  have D_is_deed : Df l.prog w K mg base 1 "is_deed" ["thing"] (Pure gIsDeed) := ⟨_, _, PySem.W.mg_of X G a_is_deed, k_is_deed, b_is_deed, ok_is_deed F_is_deed T⟩
  have S_Fine_shows : Dk l.prog w K mg base 3 A.c_Fine "shows" ["self", "farm", "flocks", "stand", "wish", "deeds"] (Pure (gFineShows A)) := ⟨J.fk.cl, _, _, ⟨a_Fine_shows, i_Fine_shows, k_Fine_shows⟩, b_Fine_shows, ok_Fine_shows F_Fine_shows T D_first_bad D_as_wished⟩
  have M_Halt : Dm l.prog w K mg base 1 "Halt" A.c_Halt ["self", "place"] (Ini A.c_Halt (gHaltIni A)) := ⟨PySem.W.mg_of X G aHalt, _, _, ⟨mkHalt, a_Halt___init__, i_Halt___init__, kcHalt⟩, b_Halt___init__, ok_Halt_init F_Halt___init__ T J⟩
  have S_Halt_shows : Dk l.prog w K mg base 3 A.c_Halt "shows" ["self", "farm", "flocks", "stand", "wish", "deeds"] (Pure (gHaltShows A)) := ⟨J.hk.cl, _, _, ⟨a_Halt_shows, i_Halt_shows, k_Halt_shows⟩, b_Halt_shows, ok_Halt_shows F_Halt_shows T J D_first_bad⟩
  have M_Off : Dm l.prog w K mg base 1 "Off" A.c_Off ["self", "flock"] (Ini A.c_Off (gOffIni A)) := ⟨PySem.W.mg_of X G aOff, _, _, ⟨mkOff, a_Off___init__, i_Off___init__, kcOff⟩, b_Off___init__, ok_Off_init F_Off___init__ T J⟩
  have S_Off_shows : Dk l.prog w K mg base 3 A.c_Off "shows" ["self", "farm", "flocks", "stand", "wish", "deeds"] (Pure (gOffShows A)) := ⟨J.ok.cl, _, _, ⟨a_Off_shows, i_Off_shows, k_Off_shows⟩, b_Off_shows, ok_Off_shows F_Off_shows T J D_first_bad⟩
  have D_judged : Df l.prog w K mg base 5 "judged" ["farm", "flocks", "stand", "wish", "deeds"] (Pure (gJudged A)) := ⟨_, _, PySem.W.mg_of X G a_judged, k_judged, b_judged, ok_judged F_judged T J D_asked_stand D_asked_wish D_is_deed D_first_bad M_Halt M_Off⟩
  have M_Yard : Dm l.prog w K mg base 5 "Yard" C_Yard ["self", "farm", "flocks", "stand"] (Ini C_Yard (gYardIni C_Yard)) := ⟨PySem.W.mg_of X G aYard, _, _, ⟨mkYard, a_Yard___init__, i_Yard___init__, kcYard⟩, b_Yard___init__, ok_Yard_init F_Yard___init__ T TY D_asked_stand⟩
  have S_Yard_farm_now : Dk l.prog w K mg base 1 C_Yard "farm_now" ["self"] (Pure (gFarmNow C_Yard)) := ⟨TY.k.cl, _, _, ⟨a_Yard_farm_now, i_Yard_farm_now, k_Yard_farm_now⟩, b_Yard_farm_now, ok_farm_now F_Yard_farm_now T TY⟩
  have S_Yard_lead : DkX l.prog w K mg base 2 C_Yard "lead" ["self", "flock", "pen"] (MutX C_Yard (gLead B)) := ⟨TY.k.cl, _, _, ⟨a_Yard_lead, i_Yard_lead, k_Yard_lead⟩, b_Yard_lead, ok_lead F_Yard_lead T TY XC D_is_between D_can_go D_behind S_Yard_farm_now⟩
  have S_Yard_asked_gate : DkX l.prog w K mg base 2 C_Yard "asked_gate" ["self", "gate"] (PrmX (gAskedGate B C_Yard)) := ⟨TY.k.cl, _, _, ⟨a_Yard_asked_gate, i_Yard_asked_gate, k_Yard_asked_gate⟩, b_Yard_asked_gate, ok_asked_gate F_Yard_asked_gate T TY XC D_is_between⟩
  have S_Yard_lock : DkX l.prog w K mg base 3 C_Yard "lock" ["self", "gate"] (MutX C_Yard (gLock B)) := ⟨TY.k.cl, _, _, ⟨a_Yard_lock, i_Yard_lock, k_Yard_lock⟩, b_Yard_lock, ok_lock F_Yard_lock T TY XC S_Yard_asked_gate⟩
  have S_Yard_unlock : DkX l.prog w K mg base 3 C_Yard "unlock" ["self", "gate"] (MutX C_Yard (gUnlock B)) := ⟨TY.k.cl, _, _, ⟨a_Yard_unlock, i_Yard_unlock, k_Yard_unlock⟩, b_Yard_unlock, ok_unlock F_Yard_unlock T TY XC S_Yard_asked_gate⟩
  have S_Yard_stand_now : Dk l.prog w K mg base 1 C_Yard "stand_now" ["self"] (Pure (gStandNow C_Yard)) := ⟨TY.k.cl, _, _, ⟨a_Yard_stand_now, i_Yard_stand_now, k_Yard_stand_now⟩, b_Yard_stand_now, ok_stand_now F_Yard_stand_now T TY⟩
  have S_Yard_can_do : Dk l.prog w K mg base 3 C_Yard "can_do" ["self"] (Prm (gCanDo C_Yard)) := ⟨TY.k.cl, _, _, ⟨a_Yard_can_do, i_Yard_can_do, k_Yard_can_do⟩, b_Yard_can_do, ok_can_do F_Yard_can_do T TY D_deeds_ofL S_Yard_farm_now⟩
  have S_Yard_locked : Dk l.prog w K mg base 1 C_Yard "locked" ["self"] (Prm (gLocked C_Yard)) := ⟨TY.k.cl, _, _, ⟨a_Yard_locked, i_Yard_locked, k_Yard_locked⟩, b_Yard_locked, ok_locked F_Yard_locked T TY⟩
  have D__law_plain : Df l.prog w K mg base 5 "_law_plain" ["_law_thing"] (Pure (gPlain 4)) := ⟨_, _, PySem.W.mg_of X G a__law_plain, k__law_plain, b__law_plain, ok_law_plain F__law_plain T (PySem.W.mg_of X G a__law_plain) k__law_plain b__law_plain 4⟩
  have D__law_truths : Df l.prog w K mg base 1 "_law_truths" ["_law_things"] (Pure gTruths) := ⟨_, _, PySem.W.mg_of X G a__law_truths, k__law_truths, b__law_truths, ok_law_truths F__law_truths T⟩
  have D__law_told_right : Df l.prog w K mg base 6 "_law_told_right" ["_law_farm_here", "_law_flocks", "_law_stand", "_law_wish"] (Pure gTold) := ⟨_, _, PySem.W.mg_of X G a__law_told_right, k__law_told_right, b__law_told_right, ok_law_told_right F__law_told_right T Q J TC TL D_led D_come_to D_hang_on D_judged D__law_truths D__law_plain M_Never S_Led_shows S_Never_shows S_Fine_shows S_Halt_shows S_Off_shows⟩
  have D__law_yard_right : Df l.prog w K mg base 7 "_law_yard_right" ["_law_farm_here", "_law_flocks", "_law_stand"] (Pure gYardRight) := ⟨_, _, PySem.W.mg_of X G a__law_yard_right, k__law_yard_right, b__law_yard_right, ok_law_yard_right F__law_yard_right T TY D__law_plain M_Yard S_Yard_stand_now S_Yard_can_do S_Yard_locked S_Yard_lead S_Yard_lock S_Yard_unlock⟩
  exact ok_law F_law T D__law_farm D__law_told_right D__law_yard_right
theorem walk {l : PySem.W.OpenLaw} {q : Program} {loose : List Str} {XP : (Str → Option Value) → Heap → Prop} {YP : World → Heap → Prop} {d : DefRec} {K : Params → PySem.W.Frag} (hn : l.most = some 63) (hdf : d.params.defaults = [])
    (hY : ∀ (w : World) (h : Heap), YP w h → (K w.params).In h)
    (F : ∀ (w : World) (mg : Str → Option Value) (fa : Addr) (h : Heap), (K w.params).In h → h.Ns mainGlobals mg → mg d.name = some (.ref fa) →
      ∃ fd : FuncData, (∀ (s : Shared) (u : Value), BindsTo s fd ⟨[u], []⟩ [("_law_script", u)]) ∧ ∀ base : Heap, (K w.params).In base → base.Ns mainGlobals mg → FnOk l.prog w (K w.params) mg base CX0 8 fa fd ["_law_script"] (Prm (gLaw (K w.params)))) :
    PySem.W.WalkO q loose XP YP l.row.toRowW d [] (fun f vs => PySem.call f vs) :=
  L2.walk_of (n := 63) (k := 8) (x := "_law_script") (CX := fun _ => CX0) (sp := fun w => Prm (gLaw (K w.params))) hn (by decide) hdf ⟨rfl, by decide, by decide⟩ hY F (fun w H a ns hl hO hS => by
    refine ⟨⟨H, H, fun _ _ e => e, fun _ _ e => e⟩, [dFl (K w.params) ns], _, rfl, .cons (.fl (xs := ns.map V.int) ?_ (by rw [List.length_map]; show _ ≤ 100000; omega) (RpL.of_ints ns)) .nil, ⟨ns, rfl, hl, rfl⟩, fun v W' l' h => h⟩
    rcases hS with hS | hS
    · rcases hS with hS | hS
      · rcases hO a with z | ⟨o, xs, z⟩
        · rw [hS] at z
          cases z
        · rw [hS] at z
          cases z
      · exact .inl hS
    · exact .inr hS) fun _ _ _ _ _ z => z
end Fg
open PySem PySem.W PyProof.Rows
set_option maxRecDepth 100000 in
set_option maxHeartbeats 0 in
theorem PySem.Challenge.cw_flockgates_k08_whole_numbers_holds : PySem.Challenge.rw_flockgates_k08_whole_numbers.Holds := by
  w_on; o_law; k_head; (case hw => w_witness2)
  k_fill
  refine Fg.walk (l := PySem.Challenge.rw_flockgates_k08_whole_numbers) rfl rfl (fun w h Y => PySem.W.kIn_of Y) ?F
  case F =>
    intro w mg fa h KX G hmg
    refine' Fg.all_mk KX G hmg ?aAnswer ?aLed ?aNever ?aFine ?aHalt ?aOff ?aYard ?gMOST_PENS ?gMOST_ROOM ?gMOST_FLOCKS ?gLONGEST ?z_len ?z_abs ?z_all ?z_any ?z_sum ?z_min ?z_max ?z_sorted ?z_isinstance ?z_int ?z_bool ?z_str ?z_list ?z_tuple ?z_dict ?z_set ?z_range ?z_zip ?z_enumerate ?pgLed ?hdLed ?poLed ?saLed ?mkLed ?kcLed ?haLed ?hmLed ?nLed_deeds ?nLed_rings ?kLed_Answer ?kLed_Led ?kLed_Never ?kLed_Fine ?kLed_Halt ?kLed_Off ?pgNever ?hdNever ?poNever ?saNever ?mkNever ?kcNever ?haNever ?hmNever ?nNever_stands ?kNever_Answer ?kNever_Led ?kNever_Never ?kNever_Fine ?kNever_Halt ?kNever_Off ?pgFine ?hdFine ?poFine ?saFine ?mkFine ?kcFine ?haFine ?hmFine ?biFine ?kFine_Answer ?kFine_Led ?kFine_Never ?kFine_Fine ?kFine_Halt ?kFine_Off ?pgHalt ?hdHalt ?poHalt ?saHalt ?mkHalt ?kcHalt ?haHalt ?hmHalt ?nHalt_place ?kHalt_Answer ?kHalt_Led ?kHalt_Never ?kHalt_Fine ?kHalt_Halt ?kHalt_Off ?pgOff ?hdOff ?poOff ?saOff ?mkOff ?kcOff ?haOff ?hmOff ?nOff_flock ?kOff_Answer ?kOff_Led ?kOff_Never ?kOff_Fine ?kOff_Halt ?kOff_Off ?pgYard ?hdYard ?poYard ?saYard ?mkYard ?kcYard ?haYard ?hmYard ?nYard_rooms ?nYard_gates ?nYard_flocks ?nYard_pens ?nYard_shut ?nYard_times ?aFlockError ?xeFlockError ?kpFlockError ?sbFlockError ?tyFlockError ?egFlockError ?ekFlockError ?edFlockError ?eaFlockError ?emFlockError ?aBadFarm ?xeBadFarm ?kpBadFarm ?sbBadFarm ?tyBadFarm ?egBadFarm ?ekBadFarm ?edBadFarm ?eaBadFarm ?emBadFarm ?aBadFlocks ?xeBadFlocks ?kpBadFlocks ?sbBadFlocks ?tyBadFlocks ?egBadFlocks ?ekBadFlocks ?edBadFlocks ?eaBadFlocks ?emBadFlocks ?aBadStand ?xeBadStand ?kpBadStand ?sbBadStand ?tyBadStand ?egBadStand ?ekBadStand ?edBadStand ?eaBadStand ?emBadStand ?aBadWish ?xeBadWish ?kpBadWish ?sbBadWish ?tyBadWish ?egBadWish ?ekBadWish ?edBadWish ?eaBadWish ?emBadWish ?aBadDeeds ?xeBadDeeds ?kpBadDeeds ?sbBadDeeds ?tyBadDeeds ?egBadDeeds ?ekBadDeeds ?edBadDeeds ?eaBadDeeds ?emBadDeeds ?aBadFlock ?xeBadFlock ?kpBadFlock ?sbBadFlock ?tyBadFlock ?egBadFlock ?ekBadFlock ?edBadFlock ?eaBadFlock ?emBadFlock ?aBadPen ?xeBadPen ?kpBadPen ?sbBadPen ?tyBadPen ?egBadPen ?ekBadPen ?edBadPen ?eaBadPen ?emBadPen ?aBadGate ?xeBadGate ?kpBadGate ?sbBadGate ?tyBadGate ?egBadGate ?ekBadGate ?edBadGate ?eaBadGate ?emBadGate ?aCantGo ?xeCantGo ?kpCantGo ?sbCantGo ?tyCantGo ?egCantGo ?ekCantGo ?edCantGo ?eaCantGo ?emCantGo ?aNotSo ?xeNotSo ?kpNotSo ?sbNotSo ?tyNotSo ?egNotSo ?ekNotSo ?edNotSo ?eaNotSo ?emNotSo ?aNeverSo ?xeNeverSo ?kpNeverSo ?sbNeverSo ?tyNeverSo ?egNeverSo ?ekNeverSo ?edNeverSo ?eaNeverSo ?emNeverSo ?sNeverSo ?hn ?htk ?a_is_between ?l_is_between ?c_is_between ?k_is_between ?a_can_go ?l_can_go ?c_can_go ?k_can_go ?a_behind ?l_behind ?c_behind ?k_behind ?a_as_wished ?l_as_wished ?c_as_wished ?k_as_wished ?a_is_gate ?l_is_gate ?c_is_gate ?k_is_gate ?a_asked_farm ?l_asked_farm ?c_asked_farm ?k_asked_farm ?a_asked_flocks ?l_asked_flocks ?c_asked_flocks ?k_asked_flocks ?a_is_stand ?l_is_stand ?c_is_stand ?k_is_stand ?a_asked_stand ?l_asked_stand ?c_asked_stand ?k_asked_stand ?a_asked_wish ?l_asked_wish ?c_asked_wish ?k_asked_wish ?a_deeds_of ?l_deeds_of ?c_deeds_of ?k_deeds_of ?a_rings_of ?l_rings_of ?c_rings_of ?k_rings_of ?a_first_bad ?l_first_bad ?c_first_bad ?k_first_bad ?a_nexts_of ?l_nexts_of ?c_nexts_of ?k_nexts_of ?a_Led___init__ ?i_Led___init__ ?l_Led___init__ ?c_Led___init__ ?k_Led___init__ ?a_Led_shows ?i_Led_shows ?l_Led_shows ?c_Led_shows ?k_Led_shows ?a_Never___init__ ?i_Never___init__ ?l_Never___init__ ?c_Never___init__ ?k_Never___init__ ?a_Never_shows ?i_Never_shows ?l_Never_shows ?c_Never_shows ?k_Never_shows ?a_led ?l_led ?c_led ?k_led ?a_come_to ?l_come_to ?c_come_to ?k_come_to ?a__law_number ?l__law_number ?c__law_number ?k__law_number ?a__law_farm ?l__law_farm ?c__law_farm ?k__law_farm ?a_can_be ?l_can_be ?c_can_be ?k_can_be ?a_hang_on ?l_hang_on ?c_hang_on ?k_hang_on ?a_is_deed ?l_is_deed ?c_is_deed ?k_is_deed ?a_Fine_shows ?i_Fine_shows ?l_Fine_shows ?c_Fine_shows ?k_Fine_shows ?a_Halt___init__ ?i_Halt___init__ ?l_Halt___init__ ?c_Halt___init__ ?k_Halt___init__ ?a_Halt_shows ?i_Halt_shows ?l_Halt_shows ?c_Halt_shows ?k_Halt_shows ?a_Off___init__ ?i_Off___init__ ?l_Off___init__ ?c_Off___init__ ?k_Off___init__ ?a_Off_shows ?i_Off_shows ?l_Off_shows ?c_Off_shows ?k_Off_shows ?a_judged ?l_judged ?c_judged ?k_judged ?a_Yard___init__ ?i_Yard___init__ ?l_Yard___init__ ?c_Yard___init__ ?k_Yard___init__ ?a_Yard_farm_now ?i_Yard_farm_now ?l_Yard_farm_now ?c_Yard_farm_now ?k_Yard_farm_now ?a_Yard_lead ?i_Yard_lead ?l_Yard_lead ?c_Yard_lead ?k_Yard_lead ?a_Yard_asked_gate ?i_Yard_asked_gate ?l_Yard_asked_gate ?c_Yard_asked_gate ?k_Yard_asked_gate ?a_Yard_lock ?i_Yard_lock ?l_Yard_lock ?c_Yard_lock ?k_Yard_lock ?a_Yard_unlock ?i_Yard_unlock ?l_Yard_unlock ?c_Yard_unlock ?k_Yard_unlock ?a_Yard_stand_now ?i_Yard_stand_now ?l_Yard_stand_now ?c_Yard_stand_now ?k_Yard_stand_now ?a_Yard_can_do ?i_Yard_can_do ?l_Yard_can_do ?c_Yard_can_do ?k_Yard_can_do ?a_Yard_locked ?i_Yard_locked ?l_Yard_locked ?c_Yard_locked ?k_Yard_locked ?a__law_plain ?l__law_plain ?c__law_plain ?k__law_plain ?a__law_truths ?l__law_truths ?c__law_truths ?k__law_truths ?a__law_told_right ?l__law_told_right ?c__law_told_right ?k__law_told_right ?a__law_yard_right ?l__law_yard_right ?c__law_yard_right ?k__law_yard_right ?a_law ?l_law ?c_law ?k_law
    (case aAnswer => k_is)
    (case aLed => k_is)
    (case aNever => k_is)
    (case aFine => k_is)
    (case aHalt => k_is)
    (case aOff => k_is)
    (case aYard => k_is)
    (case gMOST_PENS => k_is)
    (case gMOST_ROOM => k_is)
    (case gMOST_FLOCKS => k_is)
    (case gLONGEST => k_is)
    (case z_len => k_is)
    (case z_abs => k_is)
    (case z_all => k_is)
    (case z_any => k_is)
    (case z_sum => k_is)
    (case z_min => k_is)
    (case z_max => k_is)
    (case z_sorted => k_is)
    (case z_isinstance => k_is)
    (case z_int => k_is)
    (case z_bool => k_is)
    (case z_str => k_is)
    (case z_list => k_is)
    (case z_tuple => k_is)
    (case z_dict => k_is)
    (case z_set => k_is)
    (case z_range => k_is)
    (case z_zip => k_is)
    (case z_enumerate => k_is)
    (case pgLed => k_is)
    (case hdLed => k_is)
    (case poLed => k_is)
    (case saLed => k_is)
    (case mkLed => k_is)
    (case kcLed => k_is)
    (case haLed => k_is)
    (case hmLed => k_is)
    (case nLed_deeds => k_is)
    (case nLed_rings => k_is)
    (case kLed_Answer => kit_is)
    (case kLed_Led => kit_is)
    (case kLed_Never => kit_is)
    (case kLed_Fine => kit_is)
    (case kLed_Halt => kit_is)
    (case kLed_Off => kit_is)
    (case pgNever => k_is)
    (case hdNever => k_is)
    (case poNever => k_is)
    (case saNever => k_is)
    (case mkNever => k_is)
    (case kcNever => k_is)
    (case haNever => k_is)
    (case hmNever => k_is)
    (case nNever_stands => k_is)
    (case kNever_Answer => kit_is)
    (case kNever_Led => kit_is)
    (case kNever_Never => kit_is)
    (case kNever_Fine => kit_is)
    (case kNever_Halt => kit_is)
    (case kNever_Off => kit_is)
    (case pgFine => k_is)
    (case hdFine => k_is)
    (case poFine => k_is)
    (case saFine => k_is)
    (case mkFine => k_is)
    (case kcFine => k_is)
    (case haFine => k_is)
    (case hmFine => k_is)
    (case biFine => k_is)
    (case kFine_Answer => kit_is)
    (case kFine_Led => kit_is)
    (case kFine_Never => kit_is)
    (case kFine_Fine => kit_is)
    (case kFine_Halt => kit_is)
    (case kFine_Off => kit_is)
    (case pgHalt => k_is)
    (case hdHalt => k_is)
    (case poHalt => k_is)
    (case saHalt => k_is)
    (case mkHalt => k_is)
    (case kcHalt => k_is)
    (case haHalt => k_is)
    (case hmHalt => k_is)
    (case nHalt_place => k_is)
    (case kHalt_Answer => kit_is)
    (case kHalt_Led => kit_is)
    (case kHalt_Never => kit_is)
    (case kHalt_Fine => kit_is)
    (case kHalt_Halt => kit_is)
    (case kHalt_Off => kit_is)
    (case pgOff => k_is)
    (case hdOff => k_is)
    (case poOff => k_is)
    (case saOff => k_is)
    (case mkOff => k_is)
    (case kcOff => k_is)
    (case haOff => k_is)
    (case hmOff => k_is)
    (case nOff_flock => k_is)
    (case kOff_Answer => kit_is)
    (case kOff_Led => kit_is)
    (case kOff_Never => kit_is)
    (case kOff_Fine => kit_is)
    (case kOff_Halt => kit_is)
    (case kOff_Off => kit_is)
    (case pgYard => k_is)
    (case hdYard => k_is)
    (case poYard => k_is)
    (case saYard => k_is)
    (case mkYard => k_is)
    (case kcYard => k_is)
    (case haYard => k_is)
    (case hmYard => k_is)
    (case nYard_rooms => k_is)
    (case nYard_gates => k_is)
    (case nYard_flocks => k_is)
    (case nYard_pens => k_is)
    (case nYard_shut => k_is)
    (case nYard_times => k_is)
    (case aFlockError => k_is)
    (case xeFlockError => k_exc)
    (case kpFlockError => k_is)
    (case sbFlockError => k_is)
    (case tyFlockError => k_is)
    (case egFlockError => k_is)
    (case ekFlockError => k_is)
    (case edFlockError => k_is)
    (case eaFlockError => k_is)
    (case emFlockError => k_is)
    (case aBadFarm => k_is)
    (case xeBadFarm => k_exc)
    (case kpBadFarm => k_is)
    (case sbBadFarm => k_is)
    (case tyBadFarm => k_is)
    (case egBadFarm => k_is)
    (case ekBadFarm => k_is)
    (case edBadFarm => k_is)
    (case eaBadFarm => k_is)
    (case emBadFarm => k_is)
    (case aBadFlocks => k_is)
    (case xeBadFlocks => k_exc)
    (case kpBadFlocks => k_is)
    (case sbBadFlocks => k_is)
    (case tyBadFlocks => k_is)
    (case egBadFlocks => k_is)
    (case ekBadFlocks => k_is)
    (case edBadFlocks => k_is)
    (case eaBadFlocks => k_is)
    (case emBadFlocks => k_is)
    (case aBadStand => k_is)
    (case xeBadStand => k_exc)
    (case kpBadStand => k_is)
    (case sbBadStand => k_is)
    (case tyBadStand => k_is)
    (case egBadStand => k_is)
    (case ekBadStand => k_is)
    (case edBadStand => k_is)
    (case eaBadStand => k_is)
    (case emBadStand => k_is)
    (case aBadWish => k_is)
    (case xeBadWish => k_exc)
    (case kpBadWish => k_is)
    (case sbBadWish => k_is)
    (case tyBadWish => k_is)
    (case egBadWish => k_is)
    (case ekBadWish => k_is)
    (case edBadWish => k_is)
    (case eaBadWish => k_is)
    (case emBadWish => k_is)
    (case aBadDeeds => k_is)
    (case xeBadDeeds => k_exc)
    (case kpBadDeeds => k_is)
    (case sbBadDeeds => k_is)
    (case tyBadDeeds => k_is)
    (case egBadDeeds => k_is)
    (case ekBadDeeds => k_is)
    (case edBadDeeds => k_is)
    (case eaBadDeeds => k_is)
    (case emBadDeeds => k_is)
    (case aBadFlock => k_is)
    (case xeBadFlock => k_exc)
    (case kpBadFlock => k_is)
    (case sbBadFlock => k_is)
    (case tyBadFlock => k_is)
    (case egBadFlock => k_is)
    (case ekBadFlock => k_is)
    (case edBadFlock => k_is)
    (case eaBadFlock => k_is)
    (case emBadFlock => k_is)
    (case aBadPen => k_is)
    (case xeBadPen => k_exc)
    (case kpBadPen => k_is)
    (case sbBadPen => k_is)
    (case tyBadPen => k_is)
    (case egBadPen => k_is)
    (case ekBadPen => k_is)
    (case edBadPen => k_is)
    (case eaBadPen => k_is)
    (case emBadPen => k_is)
    (case aBadGate => k_is)
    (case xeBadGate => k_exc)
    (case kpBadGate => k_is)
    (case sbBadGate => k_is)
    (case tyBadGate => k_is)
    (case egBadGate => k_is)
    (case ekBadGate => k_is)
    (case edBadGate => k_is)
    (case eaBadGate => k_is)
    (case emBadGate => k_is)
    (case aCantGo => k_is)
    (case xeCantGo => k_exc)
    (case kpCantGo => k_is)
    (case sbCantGo => k_is)
    (case tyCantGo => k_is)
    (case egCantGo => k_is)
    (case ekCantGo => k_is)
    (case edCantGo => k_is)
    (case eaCantGo => k_is)
    (case emCantGo => k_is)
    (case aNotSo => k_is)
    (case xeNotSo => k_exc)
    (case kpNotSo => k_is)
    (case sbNotSo => k_is)
    (case tyNotSo => k_is)
    (case egNotSo => k_is)
    (case ekNotSo => k_is)
    (case edNotSo => k_is)
    (case eaNotSo => k_is)
    (case emNotSo => k_is)
    (case aNeverSo => k_is)
    (case xeNeverSo => k_exc)
    (case kpNeverSo => k_is)
    (case sbNeverSo => k_is)
    (case tyNeverSo => k_is)
    (case egNeverSo => k_is)
    (case ekNeverSo => k_is)
    (case edNeverSo => k_is)
    (case eaNeverSo => k_is)
    (case emNeverSo => k_is)
    (case sNeverSo => k_is)
    (case hn => k_is)
    (case htk => k_is)
    (case a_is_between => k_is)
    (case l_is_between => k_is)
    (case c_is_between => k_is)
    (case k_is_between => k_is)
    (case a_can_go => k_is)
    (case l_can_go => k_is)
    (case c_can_go => k_is)
    (case k_can_go => k_is)
    (case a_behind => k_is)
    (case l_behind => k_is)
    (case c_behind => k_is)
    (case k_behind => k_is)
    (case a_as_wished => k_is)
    (case l_as_wished => k_is)
    (case c_as_wished => k_is)
    (case k_as_wished => k_is)
    (case a_is_gate => k_is)
    (case l_is_gate => k_is)
    (case c_is_gate => k_is)
    (case k_is_gate => k_is)
    (case a_asked_farm => k_is)
    (case l_asked_farm => k_is)
    (case c_asked_farm => k_is)
    (case k_asked_farm => k_is)
    (case a_asked_flocks => k_is)
    (case l_asked_flocks => k_is)
    (case c_asked_flocks => k_is)
    (case k_asked_flocks => k_is)
    (case a_is_stand => k_is)
    (case l_is_stand => k_is)
    (case c_is_stand => k_is)
    (case k_is_stand => k_is)
    (case a_asked_stand => k_is)
    (case l_asked_stand => k_is)
    (case c_asked_stand => k_is)
    (case k_asked_stand => k_is)
    (case a_asked_wish => k_is)
    (case l_asked_wish => k_is)
    (case c_asked_wish => k_is)
    (case k_asked_wish => k_is)
    (case a_deeds_of => k_is)
    (case l_deeds_of => k_is)
    (case c_deeds_of => k_is)
    (case k_deeds_of => k_is)
    (case a_rings_of => k_is)
    (case l_rings_of => k_is)
    (case c_rings_of => k_is)
    (case k_rings_of => k_is)
    (case a_first_bad => k_is)
    (case l_first_bad => k_is)
    (case c_first_bad => k_is)
    (case k_first_bad => k_is)
    (case a_nexts_of => k_is)
    (case l_nexts_of => k_is)
    (case c_nexts_of => k_is)
    (case k_nexts_of => k_is)
    (case a_Led___init__ => k_is)
    (case i_Led___init__ => k_is)
    (case l_Led___init__ => k_is)
    (case c_Led___init__ => k_is)
    (case k_Led___init__ => k_is)
    (case a_Led_shows => k_is)
    (case i_Led_shows => k_is)
    (case l_Led_shows => k_is)
    (case c_Led_shows => k_is)
    (case k_Led_shows => k_is)
    (case a_Never___init__ => k_is)
    (case i_Never___init__ => k_is)
    (case l_Never___init__ => k_is)
    (case c_Never___init__ => k_is)
    (case k_Never___init__ => k_is)
    (case a_Never_shows => k_is)
    (case i_Never_shows => k_is)
    (case l_Never_shows => k_is)
    (case c_Never_shows => k_is)
    (case k_Never_shows => k_is)
    (case a_led => k_is)
    (case l_led => k_is)
    (case c_led => k_is)
    (case k_led => k_is)
    (case a_come_to => k_is)
    (case l_come_to => k_is)
    (case c_come_to => k_is)
    (case k_come_to => k_is)
    (case a__law_number => k_is)
    (case l__law_number => k_is)
    (case c__law_number => k_is)
    (case k__law_number => k_is)
    (case a__law_farm => k_is)
    (case l__law_farm => k_is)
    (case c__law_farm => k_is)
    (case k__law_farm => k_is)
    (case a_can_be => k_is)
    (case l_can_be => k_is)
    (case c_can_be => k_is)
    (case k_can_be => k_is)
    (case a_hang_on => k_is)
    (case l_hang_on => k_is)
    (case c_hang_on => k_is)
    (case k_hang_on => k_is)
    (case a_is_deed => k_is)
    (case l_is_deed => k_is)
    (case c_is_deed => k_is)
    (case k_is_deed => k_is)
    (case a_Fine_shows => k_is)
    (case i_Fine_shows => k_is)
    (case l_Fine_shows => k_is)
    (case c_Fine_shows => k_is)
    (case k_Fine_shows => k_is)
    (case a_Halt___init__ => k_is)
    (case i_Halt___init__ => k_is)
    (case l_Halt___init__ => k_is)
    (case c_Halt___init__ => k_is)
    (case k_Halt___init__ => k_is)
    (case a_Halt_shows => k_is)
    (case i_Halt_shows => k_is)
    (case l_Halt_shows => k_is)
    (case c_Halt_shows => k_is)
    (case k_Halt_shows => k_is)
    (case a_Off___init__ => k_is)
    (case i_Off___init__ => k_is)
    (case l_Off___init__ => k_is)
    (case c_Off___init__ => k_is)
    (case k_Off___init__ => k_is)
    (case a_Off_shows => k_is)
    (case i_Off_shows => k_is)
    (case l_Off_shows => k_is)
    (case c_Off_shows => k_is)
    (case k_Off_shows => k_is)
    (case a_judged => k_is)
    (case l_judged => k_is)
    (case c_judged => k_is)
    (case k_judged => k_is)
    (case a_Yard___init__ => k_is)
    (case i_Yard___init__ => k_is)
    (case l_Yard___init__ => k_is)
    (case c_Yard___init__ => k_is)
    (case k_Yard___init__ => k_is)
    (case a_Yard_farm_now => k_is)
    (case i_Yard_farm_now => k_is)
    (case l_Yard_farm_now => k_is)
    (case c_Yard_farm_now => k_is)
    (case k_Yard_farm_now => k_is)
    (case a_Yard_lead => k_is)
    (case i_Yard_lead => k_is)
    (case l_Yard_lead => k_is)
    (case c_Yard_lead => k_is)
    (case k_Yard_lead => k_is)
    (case a_Yard_asked_gate => k_is)
    (case i_Yard_asked_gate => k_is)
    (case l_Yard_asked_gate => k_is)
    (case c_Yard_asked_gate => k_is)
    (case k_Yard_asked_gate => k_is)
    (case a_Yard_lock => k_is)
    (case i_Yard_lock => k_is)
    (case l_Yard_lock => k_is)
    (case c_Yard_lock => k_is)
    (case k_Yard_lock => k_is)
    (case a_Yard_unlock => k_is)
    (case i_Yard_unlock => k_is)
    (case l_Yard_unlock => k_is)
    (case c_Yard_unlock => k_is)
    (case k_Yard_unlock => k_is)
    (case a_Yard_stand_now => k_is)
    (case i_Yard_stand_now => k_is)
    (case l_Yard_stand_now => k_is)
    (case c_Yard_stand_now => k_is)
    (case k_Yard_stand_now => k_is)
    (case a_Yard_can_do => k_is)
    (case i_Yard_can_do => k_is)
    (case l_Yard_can_do => k_is)
    (case c_Yard_can_do => k_is)
    (case k_Yard_can_do => k_is)
    (case a_Yard_locked => k_is)
    (case i_Yard_locked => k_is)
    (case l_Yard_locked => k_is)
    (case c_Yard_locked => k_is)
    (case k_Yard_locked => k_is)
    (case a__law_plain => k_is)
    (case l__law_plain => k_is)
    (case c__law_plain => k_is)
    (case k__law_plain => k_is)
    (case a__law_truths => k_is)
    (case l__law_truths => k_is)
    (case c__law_truths => k_is)
    (case k__law_truths => k_is)
    (case a__law_told_right => k_is)
    (case l__law_told_right => k_is)
    (case c__law_told_right => k_is)
    (case k__law_told_right => k_is)
    (case a__law_yard_right => k_is)
    (case l__law_yard_right => k_is)
    (case c__law_yard_right => k_is)
    (case k__law_yard_right => k_is)
    (case a_law => k_is)
    (case l_law => k_is)
    (case c_law => k_is)
    (case k_law => k_is)
#print axioms PySem.Challenge.cw_flockgates_k08_whole_numbers_holds
