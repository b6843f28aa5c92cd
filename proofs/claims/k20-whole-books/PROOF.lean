import PyProof.Rows.All
import Wide.All
import OpenK.AllK
import Wide.FinOn
import KE.KDictKeyed
import KE.KeyNested
import KE.SortData
import HandS.ForMost
import HandS.Exc
import HandS.TryOnly
import HandS.ExcOwn
import HandS.WordsExc
import HandS.IsInst
import HandS.TupAny
import HandS.Style
import HandS.Zip
import HandS.Walk
import HandS.DictComp
import HandS.OwnEq
import HandS.DictEq
import HandS.Defaults
import PySem.Challenge.RW_heardseams_k20_whole_books_one_behind_an
import HandS.ExcIs
import HandS.Sort
import KE.GoesMore
import KE.GoesEnum
import KE.KStateDown
import HandS.Head0
import HandS.Head1
import HandS.Head2
import HandS.HeadEnd
import HandS.HeadHook1
import HandS.HeadHook2
set_option Elab.async false
set_option linter.all false
set_option maxRecDepth 100000
set_option maxHeartbeats 4000000
/-! Own layer: dicts whose keys and values are pairs of rows (tuples of ints), over HO.ext and KE.KDictKeyed. -/
namespace Nd
open PySem PySem.Spec PyProof.Rows L2

abbrev Rw := List Int
abbrev K2 := Rw × Rw
def nr (r : Rw) : NestedKey := .tup (r.map .num)
def nk (k : K2) : NestedKey := .tup [nr k.1, nr k.2]
theorem num_inj : ∀ {a b : Rw}, a.map NestedKey.num = b.map NestedKey.num → a = b
  | [], [], _ => rfl
  | [], _ :: _, h => by simp at h
  | _ :: _, [], h => by simp at h
  | x :: a, y :: b, h => by
    rw [List.map_cons, List.map_cons] at h
    injection h with h1 h2
    injection h1 with h1
    rw [h1, num_inj h2]
theorem nr_inj {a b : Rw} (h : nr a = nr b) : a = b := by
  unfold nr at h
  injection h with h
  exact num_inj h
theorem nk_inj {a b : K2} (h : nk a = nk b) : a = b := by
  unfold nk at h
  injection h with h
  injection h with h1 h2
  injection h2 with h2 _
  exact Prod.ext (nr_inj h1) (nr_inj h2)
theorem depth_nums : ∀ r : Rw, NestedKey.depthAll (r.map NestedKey.num) = 0
  | [] => by simp [NestedKey.depthAll]
  | x :: r => by
    rw [List.map_cons]
    simp [NestedKey.depthAll, NestedKey.depth, depth_nums r]
theorem nk_depth (k : K2) : (nk k).depth ≤ 8 := by
  simp [nk, nr, NestedKey.depth, NestedKey.depthAll, depth_nums]

/-- at a stands a row; a pair of rows -/
def Ro (H : Hp) (a : Addr) (r : Rw) : Prop := H a = some (.tup (r.map V.int))
def Pr (H : Hp) (a : Addr) (k : K2) : Prop := ∃ b c, H a = some (.tup [.ref b, .ref c]) ∧ Ro H b k.1 ∧ Ro H c k.2
/-- tuples stay -/
def Tk (H H' : Hp) : Prop := ∀ a xs, H a = some (.tup xs) → H' a = some (.tup xs)
theorem Ro.tk {H H' : Hp} {a : Addr} {r : Rw} (h : Ro H a r) (t : Tk H H') : Ro H' a r := t _ _ h
theorem Pr.tk {H H' : Hp} {a : Addr} {k : K2} (h : Pr H a k) (t : Tk H H') : Pr H' a k :=
  let ⟨b, c, h1, h2, h3⟩ := h
  ⟨b, c, t _ _ h1, h2.tk t, h3.tk t⟩
theorem Tk.refl (H : Hp) : Tk H H := fun _ _ h => h
theorem Tk.trans {H H1 H2 : Hp} (a : Tk H H1) (b : Tk H1 H2) : Tk H H2 := fun _ _ h => b _ _ (a _ _ h)
theorem ints_inj : ∀ {a b : Rw}, a.map V.int = b.map V.int → a = b
  | [], [], _ => rfl
  | [], _ :: _, h => by simp at h
  | _ :: _, [], h => by simp at h
  | x :: a, y :: b, h => by
    rw [List.map_cons, List.map_cons] at h
    injection h with h1 h2
    injection h1 with h1
    rw [h1, ints_inj h2]
theorem Ro.inj {H : Hp} {a : Addr} {r q : Rw} (h : Ro H a r) (h' : Ro H a q) : r = q := by
  unfold Ro at h h'
  rw [h] at h'
  injection h' with h'
  injection h' with h'
  exact ints_inj h'
theorem Pr.inj {H : Hp} {a : Addr} {k l : K2} (h : Pr H a k) (h' : Pr H a l) : k = l := by
  obtain ⟨b, c, h1, h2, h3⟩ := h
  obtain ⟨b', c', g1, g2, g3⟩ := h'
  rw [h1] at g1
  injection g1 with g1
  injection g1 with g1
  injection g1 with g1 g4
  injection g1 with g1
  injection g4 with g4 _
  injection g4 with g4
  subst g1 g4
  exact Prod.ext (h2.inj g2) (h3.inj g3)

/-! ### entries -/
abbrev En := K2 × Addr × Addr
def cv (x : En) : NestedKey × Addr × Value := (nk x.1, x.2.1, .ref x.2.2)
def DO (P : Program) (w : World) (d : Addr) (xs : List En) : HO := .ext fun h =>
  (d == sysModules) = false ∧ xs.length ≤ sizeLine ∧ (xs.map (·.1)).Nodup ∧
    ∃ o es ep, h.get? d = some o ∧ o.ExactDict ∧ o.data = .dict es ep ∧ es.toList = (xs.map cv).map (entryOfKey (nestedKind P w))
/-- the entries say the pairs kvs -/
abbrev Rel (H : Hp) : List (K2 × K2) → List En → Prop := Paired fun p x => p.1 = x.1 ∧ Pr H x.2.1 p.1 ∧ Pr H x.2.2 p.2
/-- a dict that may be read; that may be written -/
def TD (P : Program) (w : World) (H : Hp) (d : Addr) (kvs : List (K2 × K2)) : Prop := ∃ xs, Rd H d (DO P w d xs) ∧ Rel H kvs xs
def TM (P : Program) (w : World) (H : Hp) (d : Addr) (kvs : List (K2 × K2)) : Prop := ∃ xs, H d = some (DO P w d xs) ∧ Rel H kvs xs
theorem TM.td {P : Program} {w : World} {H : Hp} {d : Addr} {kvs : List (K2 × K2)} (t : TM P w H d kvs) : TD P w H d kvs := let ⟨xs, h, r⟩ := t; ⟨xs, .inl h, r⟩
theorem Rel.tk {H H' : Hp} {kvs : List (K2 × K2)} {xs : List En} (r : Rel H kvs xs) (t : Tk H H') : Rel H' kvs xs :=
  Paired.mapP r fun _ _ z => ⟨z.1, z.2.1.tk t, z.2.2.tk t⟩
theorem TM.tk {P : Program} {w : World} {H H' : Hp} {d : Addr} {kvs : List (K2 × K2)} (t : TM P w H d kvs) (k : Tk H H') (e : ∀ o, H d = some o → H' d = some o) : TM P w H' d kvs :=
  let ⟨xs, h, r⟩ := t
  ⟨xs, e _ h, r.tk k⟩
theorem TD.tk {P : Program} {w : World} {H H' : Hp} {d : Addr} {kvs : List (K2 × K2)} (t : TD P w H d kvs) (k : Tk H H') (e : ∀ o, H d = some o → H' d = some o) : TD P w H' d kvs :=
  let ⟨xs, h, r⟩ := t
  ⟨xs, h.elim (fun h => .inl (e _ h)) (fun ⟨o, h⟩ => .inr ⟨o, e _ h⟩), r.tk k⟩
section
variable {P : Program} {w : World} {H : Hp} {h : Heap} {a d : Addr}
theorem do_ok {xs : List En} (h1 : (d == sysModules) = false) (h2 : xs.length ≤ sizeLine) (h3 : (xs.map (·.1)).Nodup)
    (h4 : ∃ o es ep, h.get? d = some o ∧ o.ExactDict ∧ o.data = .dict es ep ∧ es.toList = (xs.map cv).map (entryOfKey (nestedKind P w))) : ObjOk P w H h d (DO P w d xs) := by
  refine ⟨⟨h1, h2, h3, h4⟩, ?_, ?_⟩
  · obtain ⟨o, _, _, e, _⟩ := h4
    exact ⟨o, e⟩
  · rintro g g' ⟨q1, q2, q3, o, es, ep, e, q⟩ k
    exact ⟨q1, q2, q3, o, es, ep, k o e, q⟩
theorem ints_nested : ∀ {r : Rw} {us : List Value}, Vals (r.map V.int) us → NestedAll h (r.map NestedKey.num) us
  | [], _, v => by
    rw [List.map_nil] at v
    cases v
    exact .nil
  | i :: r, _, v => by
    rw [List.map_cons] at v
    cases v with
    | cons h1 h2 =>
      obtain ⟨t, rfl⟩ := h1
      exact .cons (.int i t) (ints_nested h2)
theorem row_nested (ok : HOk P w H h) {r : Rw} (e : Ro H a r) : NestedIs h (nr r) (.ref a) := by
  obtain ⟨_, its, rv, o, h1, h2, n, h3⟩ := (show ObjOk P w H h a (.tup (r.map V.int)) from ok a _ e)
  exact .tup h1 h2 h3 (by simpa using ints_nested rv)
theorem pr_key (ok : HOk P w H h) {k : K2} (e : Pr H a k) : (nestedKind P w).is h (nk k) a := by
  obtain ⟨b, c, e1, e2, e3⟩ := e
  obtain ⟨_, its, rv, o, h1, h2, n, h3⟩ := (show ObjOk P w H h a (.tup [.ref b, .ref c]) from ok a _ e1)
  obtain ⟨u1, u2, rfl, r1, r2⟩ := vals2 rv
  cases (show u1 = Value.ref b from r1)
  cases (show u2 = Value.ref c from r2)
  exact ⟨.tup h1 h2 h3 (.cons (row_nested ok e2) (.cons (row_nested ok e3) .nil)), nk_depth k⟩
theorem cv_nodup : ∀ {xs : List En}, (xs.map (·.1)).Nodup → ((xs.map cv).map (·.1)).Nodup
  | [], _ => List.nodup_nil
  | x :: xs, hn => by
    rw [List.map_cons, List.nodup_cons] at hn
    rw [List.map_cons, List.map_cons, List.nodup_cons]
    refine ⟨fun hm => hn.1 ?_, cv_nodup hn.2⟩
    rw [List.map_map] at hm
    obtain ⟨y, hy, e⟩ := List.mem_map.mp hm
    exact List.mem_map.mpr ⟨y, hy, nk_inj e⟩
theorem rel_keys (ok : HOk P w H h) {kvs : List (K2 × K2)} {xs : List En} (r : Rel H kvs xs) : ∀ y ∈ xs.map cv, (nestedKind P w).is h y.1 y.2.1 := by
  intro y hy
  obtain ⟨x, hx, rfl⟩ := List.mem_map.mp hy
  clear hy
  induction r with
  | nil => cases hx
  | @cons p q ps qs z t ih =>
    rcases List.mem_cons.mp hx with rfl | hx
    · have := pr_key (P := P) (w := w) ok z.2.1
      rw [z.1] at this
      exact this
    · exact ih hx
/-- the dict, as the library says it -/
theorem td_heap (ok : HOk P w H h) {kvs : List (K2 × K2)} (t : TD P w H d kvs) :
    (d == sysModules) = false ∧ ∃ xs, Rd H d (DO P w d xs) ∧ Rel H kvs xs ∧ xs.length ≤ sizeLine ∧ (xs.map (·.1)).Nodup ∧ h.DictOfH (nestedKind P w) d (xs.map cv) := by
  obtain ⟨xs, hd, r⟩ := t
  obtain ⟨⟨q1, q2, q3, o, es, ep, e1, e2, e3, e4⟩, _⟩ := (show ObjOk P w H h d (DO P w d xs) from hd.ok ok)
  exact ⟨q1, xs, hd, r, q2, q3, o, es, ep, e1, e2, e3, e4, rel_keys ok r, cv_nodup q3⟩
end

/-! ### what the pairs say -/
def dget (kvs : List (K2 × K2)) (k : K2) : Option K2 := (kvs.find? fun p => decide (p.1 = k)).map (·.2)
def dput (kvs : List (K2 × K2)) (k v : K2) : List (K2 × K2) := if (kvs.any fun p => decide (p.1 = k)) = true then kvs.map (fun p => if p.1 = k then (p.1, v) else p) else kvs ++ [(k, v)]
def xput (xs : List En) (k : K2) (b u : Addr) : List En := if (xs.any fun x => decide (x.1 = k)) = true then xs.map (fun x => if x.1 = k then (x.1, x.2.1, u) else x) else xs ++ [(k, b, u)]
theorem rel_any {H : Hp} {kvs : List (K2 × K2)} {xs : List En} (r : Rel H kvs xs) (k : K2) : (kvs.any fun p => decide (p.1 = k)) = xs.any fun x => decide (x.1 = k) := by
  induction r with
  | nil => rfl
  | cons z t ih => rw [List.any_cons, List.any_cons, ih, z.1]
theorem rel_put {H : Hp} {kvs : List (K2 × K2)} {xs : List En} (r : Rel H kvs xs) {k v : K2} {b u : Addr} (hb : Pr H b k) (hu : Pr H u v) : Rel H (dput kvs k v) (xput xs k b u) := by
  unfold dput xput
  rw [rel_any r k]
  by_cases e : (xs.any fun x => decide (x.1 = k)) = true
  · rw [if_pos e, if_pos e]
    clear e
    induction r with
    | nil => exact .nil
    | @cons p x ps qs z t ih =>
      rw [List.map_cons, List.map_cons]
      refine .cons ?_ ih
      by_cases q : p.1 = k
      · rw [if_pos q, if_pos (z.1.symm.trans q)]
        exact ⟨z.1, z.2.1, hu⟩
      · rw [if_neg q, if_neg (fun y => q (z.1.trans y))]
        exact z
  · rw [if_neg e, if_neg e]
    exact Paired.snoc r ⟨rfl, hb, hu⟩
theorem cv_at (k : K2) : ∀ xs : List En, atKey (xs.map cv) (nk k) = (xs.find? fun x => decide (x.1 = k)).map fun x => (x.2.1, Value.ref x.2.2)
  | [] => rfl
  | x :: xs => by
    have ih := cv_at k xs
    by_cases e : x.1 = k
    · have e' : (cv x).1 = nk k := by rw [← e]; rfl
      simp [atKey, List.find?_cons, e, e', cv]
    · have e' : ¬ (cv x).1 = nk k := fun q => e (nk_inj q)
      unfold atKey at ih ⊢
      rw [List.map_cons, List.find?_cons, List.find?_cons, decide_eq_false e, decide_eq_false e']
      exact ih
theorem cv_put (k : K2) (b u : Addr) (xs : List En) : storedH (xs.map cv) (nk k) b (.ref u) = (xput xs k b u).map cv := by
  have h1 : (atKey (xs.map cv) (nk k)).isSome = xs.any fun x => decide (x.1 = k) := by
    rw [cv_at, Option.isSome_map]
    induction xs with
    | nil => rfl
    | cons x xs ih =>
      rw [List.find?_cons, List.any_cons]
      by_cases e : x.1 = k
      · simp [e]
      · rw [decide_eq_false e]
        simpa using ih
  unfold storedH xput
  rw [h1]
  by_cases e : (xs.any fun x => decide (x.1 = k)) = true
  · rw [if_pos e, if_pos e, List.map_map, List.map_map]
    refine List.map_congr_left fun x _ => ?_
    show putAt (nk k) (Value.ref u) (cv x) = cv (if x.1 = k then (x.1, x.2.1, u) else x)
    unfold putAt
    by_cases q : x.1 = k
    · rw [if_pos (show (cv x).1 = nk k by rw [← q]; rfl), if_pos q]
      rfl
    · rw [if_neg (show ¬ (cv x).1 = nk k from fun z => q (nk_inj z)), if_neg q]
  · rw [if_neg e, if_neg e, List.map_append]
    rfl
theorem xput_nodup {xs : List En} {k : K2} {b u : Addr} (h : (xs.map (·.1)).Nodup) : ((xput xs k b u).map (·.1)).Nodup := by
  unfold xput
  by_cases e : (xs.any fun x => decide (x.1 = k)) = true
  · rw [if_pos e, List.map_map]
    have q : (fun x : En => x.1) ∘ (fun x : En => if x.1 = k then (x.1, x.2.1, u) else x) = fun x => x.1 := by
      funext x
      show (if x.1 = k then (x.1, x.2.1, u) else x).1 = x.1
      by_cases q : x.1 = k
      · rw [if_pos q]
      · rw [if_neg q]
    rw [q]
    exact h
  · rw [if_neg e, List.map_append, List.nodup_append]
    refine ⟨h, by simp, fun a ha b' hb => ?_⟩
    rw [List.map_cons, List.map_nil, List.mem_singleton] at hb
    rintro rfl
    obtain ⟨x, hx, e2⟩ := List.mem_map.mp ha
    exact e (List.any_eq_true.mpr ⟨x, hx, decide_eq_true (e2.trans hb)⟩)
theorem xput_len (xs : List En) (k : K2) (b u : Addr) : (xput xs k b u).length ≤ xs.length + 1 := by
  unfold xput
  split
  · rw [List.length_map]
    omega
  · rw [List.length_append, List.length_singleton]
    exact Nat.le_refl _
theorem rel_get {H : Hp} {kvs : List (K2 × K2)} {xs : List En} (r : Rel H kvs xs) (k : K2) :
    (dget kvs k = none ∧ (xs.find? fun x => decide (x.1 = k)) = none) ∨ ∃ v x, dget kvs k = some v ∧ (xs.find? fun x => decide (x.1 = k)) = some x ∧ Pr H x.2.2 v := by
  induction r with
  | nil => exact .inl ⟨rfl, rfl⟩
  | @cons p x ps qs z t ih =>
    unfold dget at ih ⊢
    rw [List.find?_cons, List.find?_cons]
    by_cases q : p.1 = k
    · rw [decide_eq_true q, decide_eq_true (z.1.symm.trans q)]
      exact .inr ⟨p.2, x, rfl, rfl, z.2.2⟩
    · rw [decide_eq_false q, decide_eq_false (fun y => q (z.1.trans y))]
      exact ih
end Nd

set_option Elab.async false
set_option linter.all false
set_option maxRecDepth 100000
set_option maxHeartbeats 4000000
namespace Nd
open PySem PySem.Spec PyProof.Rows L2
/-- all but d stays as it is -/
def Bt (d : Addr) (H H' : Hp) : Prop := ∀ b, b ≠ d → H' b = H b
theorem room_nk {A : Around} {P : Program} {w : World} (hu : A.units + 64 < cLine) : (nestedKind P w).room A.in1 := by
  show A.units + 1 + 8 < cLine
  omega
section
variable {X : Cx} {pins : List (Addr × Obj)} {σ : L2.St} {H : Hp} {s : Shared} {d : Addr}
/-- d[(l, r)] = v -/
def rSetN (P : Program) (w : World) : TSet := fun o i v H Q => ∃ d a q kvs k z, o = .ref d ∧ i = .ref a ∧ v = .ref q ∧ TM P w H d kvs ∧ Pr H a k ∧ Pr H q z ∧ kvs.length < sizeLine ∧
  ∀ H', TM P w H' d (dput kvs k z) → Bt d H H' → Q H'
theorem set_nd (hu : X.A.units + 64 < cLine) : PSet X (rSetN X.prog X.w) := by
  intro pins s σ H o i v ov iv u Q I ro ri rv h
  obtain ⟨d, a, q, kvs, k, z, rfl, rfl, rfl, t, hk, hz, hl, h⟩ := h
  cases ro
  cases ri
  cases rv
  obtain ⟨xs, hd, r⟩ := t
  obtain ⟨⟨q1, q2, q3, ob, es, ep, e1, e2, e3, e4⟩, _⟩ := (show ObjOk X.prog X.w H s.heap d (DO X.prog X.w d xs) from I.hok d _ hd)
  have hx : s.heap.DictOfH (nestedKind X.prog X.w) d (xs.map cv) := ⟨ob, es, ep, e1, e2, e3, e4, rel_keys I.hok r, cv_nodup q3⟩
  have hlen : (xs.map cv).length ≤ sizeLine := by rw [List.length_map]; exact q2
  refine wpAny_setItem_heap (hsz := hlen) (room_nk hu) (pr_key I.hok hk) hx fun h' dd' hs => ?_
  rw [cv_put] at dd'
  obtain ⟨ob', es', ep', g1, g2, g3, g4, _, _⟩ := dd'
  have hxl : (xput xs k a q).length ≤ sizeLine := by
    have h1 := xput_len xs k a q
    have h2 : kvs.length = xs.length := Paired.length r
    omega
  have mu : Mut (H d) := by rw [hd]; exact True.intro
  have hn : ∀ b ys, H b = some (.tup ys) → b ≠ d := fun b ys e => ne_of e hd (fun z => nomatch z)
  have tk : Tk H (upd H d (DO X.prog X.w d (xput xs k a q))) := fun b ys e => by rw [upd_ne (hn b ys e)]; exact e
  refine ⟨_, I.write (x := d) (e := d) (o := DO X.prog X.w d (xput xs k a q)) (t' := s.toks + (nestedKind X.prog X.w).draws (nk k)) mu (.inl rfl) (fun b ob hb e => (hs.2 b hb).trans e) ⟨_, g1⟩
    (do_ok q1 hxl (xput_nodup q3) ⟨ob', es', ep', g1, g2, g3, g4⟩), h _ ⟨_, upd_same, (rel_put r hk hz).tk tk⟩ fun b hb => upd_ne hb⟩
/-- d[k], there -/
def rIxN (P : Program) (w : World) : R2 := fun x y H Q => ∃ d a kvs k z, x = .ref d ∧ y = .ref a ∧ TD P w H d kvs ∧ Pr H a k ∧ dget kvs k = some z ∧ ∀ q, Pr H q z → Q (.ref q) H
theorem ix_nd (hu : X.A.units + 64 < cLine) : IxR X (rIxN X.prog X.w) := by
  intro value slice pins s σ H x y v u Q I rx ry h hs
  obtain ⟨d, a, kvs, k, z, rfl, rfl, t, hk, hz, h⟩ := h
  cases rx
  cases ry
  obtain ⟨q1, xs, hd, r, q2, q3, hx⟩ := td_heap I.hok t
  rcases rel_get r k with ⟨g1, _⟩ | ⟨z', e, g1, g2, g3⟩
  · rw [hz] at g1
    cases g1
  · rw [hz] at g1
    cases g1
    have ha : atKey (xs.map cv) (nk k) = some (e.2.1, Value.ref e.2.2) := by rw [cv_at, g2]; rfl
    exact subscriptTail_builtinR (x := Value.ref e.2.2) hx.typeIs PySem.F.slot_dict_getitem.lookup
      (wpAny_getItem_heap (Q := fun r s' => r = Value.ref e.2.2 ∧ EP X pins σ Q r s') (room_nk hu) (pr_key I.hok hk) hx ha ⟨rfl, .ref e.2.2, H, I.tok _, rfl, h _ g3⟩) hs
/-- d.get(k, x) -/
def tGetN (P : Program) (w : World) (td ty tx : TE) : TE := fun σ H Q => td σ H fun o H1 => ∃ d, o = .ref d ∧ (∃ kvs, TD P w H1 d kvs) ∧ ty σ H1 fun y H2 => tx σ H2 fun x H3 => ∃ a kvs k, y = .ref a ∧ TD P w H3 d kvs ∧ Pr H3 a k ∧
  (dget kvs k = none → Q x H3) ∧ ∀ z q, dget kvs k = some z → Pr H3 q z → Q (.ref q) H3
theorem td_is {H : Hp} {s : Shared} {σ : L2.St} (I : Inv X pins σ H s) {kvs : List (K2 × K2)} (t : TD X.prog X.w H d kvs) :
    s.TypeIs (.ref d) "dict" ∧ (∀ b, Value.ref d = .ref b → ∃ ob, s.heap.get? b = some ob ∧ ob.dict = none) ∧ (d == sysModules) = false := by
  obtain ⟨q1, xs, hd, r, q2, q3, hx⟩ := td_heap I.hok t
  refine ⟨hx.typeIs, fun b e => ?_, q1⟩
  cases e
  obtain ⟨ob, _, _, h1, h2, _⟩ := hx
  exact ⟨ob, h1, h2.2.1⟩
theorem pe_getN {o e f : Expr} {apos cpos : Pos} {td ty tx : TE} (hu : X.A.units + 64 < cLine) (ho : PE X o td) (he : PE X e ty) (hf : PE X f tx) (m : M2 X o "get" apos e f cpos) :
    PE X (.Call (.Attribute o "get" apos) [e, f] [] cpos) (tGetN X.prog X.w td ty tx) := by
  refine ⟨fun pins s σ H Q I h => ?_⟩
  refine wpAny_Call_method m.base m.few m.line PySem.F.plainAttrs_dict PySem.F.slot_dict_get PySem.F.type_dict_get (thn (ho.run pins s σ H _ I h) fun u s1 ⟨x, H1, I1, rx, d, ex, ⟨kvs, t⟩, q1⟩ => ?_)
  subst ex
  obtain rfl : u = Value.ref d := rx
  obtain ⟨t1, t2, _⟩ := td_is I1 t
  refine ⟨t1, t2, ?_⟩
  rw [m.trees]
  refine Calls.callWith_builtin rfl (Calls.evalArgs_plain (Calls.spliced_cons (thn (he.run pins s1 σ H1 _ I1 q1) fun iv s2 ⟨y, H2, I2, ry, q2⟩ =>
    Calls.spliced_cons (thn (hf.run pins s2 σ H2 _ I2 q2) fun fv s3 ⟨z, H3, I3, rz, q3⟩ => Calls.spliced_nil ?_))))
  obtain ⟨a, kvs', k, rfl, t3, hk, qn, qs⟩ := q3
  cases ry
  obtain ⟨hsm, xs, hd, r, hl, hn, hx⟩ := td_heap I3.hok t3
  refine getOr_keyed (room_nk hu) (pr_key I3.hok hk) hsm ⟨_, hx, rfl⟩ ?_
  rw [valueAt_pairsH, cv_at]
  rcases rel_get r k with ⟨g1, g2⟩ | ⟨z', en, g1, g2, g3⟩
  · rw [g2]
    exact ⟨z, H3, I3.tok _, rz, qn g1⟩
  · rw [g2]
    exact ⟨.ref en.2.2, H3, I3.tok _, rfl, qs z' en.2.2 g1 g3⟩
/-- len(d) -/
def rLenN (P : Program) (w : World) : List V → Hp → VK → Prop := fun vs H Q => ∃ d kvs, vs = [.ref d] ∧ TD P w H d kvs ∧ Q (.int (kvs.length : Nat)) H
theorem call_lenN : CallR X (.builtin "len") (rLenN X.prog X.w) := by
  intro pins s σ H vs us Q I r h
  obtain ⟨d, kvs, rfl, t, q⟩ := h
  obtain ⟨u, rfl, ru⟩ := vals1 r
  cases ru
  obtain ⟨hsm, xs, hd, rr, hl, hn, hx⟩ := td_heap I.hok t
  have e : (pairsH (xs.map cv)).length = kvs.length := by rw [pairsH_length, List.length_map]; exact (Paired.length rr).symm
  refine call_len_slot (n := (kvs.length : Int)) hx.typeIs PySem.F.slot_dict_len (fun Q' hq => len_keyed hsm ⟨_, hx, rfl⟩ (by rw [e]; exact hq)) (by omega) ?_ ⟨.int (kvs.length : Nat), H, I.tok _, ⟨_, rfl⟩, q⟩
  have h2 : kvs.length = xs.length := Paired.length rr
  have h3 := line63
  omega
/-- isinstance(d, dict) -/
def rIsN (P : Program) (w : World) : List V → Hp → VK → Prop := fun vs H Q => ∃ d kvs, vs = [.ref d, .ty "dict"] ∧ TD P w H d kvs ∧ Q (.bl true) H
theorem call_isN : CallR X (.builtin "isinstance") (rIsN X.prog X.w) := by
  intro pins s σ H vs us Q I r h
  obtain ⟨d, kvs, rfl, t, q⟩ := h
  obtain ⟨u1, u2, rfl, r1, r2⟩ := vals2 r
  cases r1
  cases r2
  obtain ⟨t1, _, _⟩ := td_is I t
  obtain ⟨o, h1, h2⟩ := t1
  exact PySem.W.kia_one PySem.W.kitx_dict I.kIn ⟨o, h1, h2⟩ (kit_ty (a := "dict") (b := "dict") (r := true) (by decide +kernel)) (fun z => nomatch z) fun tk => ⟨.bl true, H, I.tok tk, rfl, q⟩
/-- {} -/
def tNewN (P : Program) (w : World) : TE := fun _ H Q => ∀ p H', H p = none → TM P w H' p [] → Bt p H H' → Q (.ref p) H'
theorem pe_newN {pos : Pos} : PE X (.Dict [] [] pos) (tNewN X.prog X.w) := by
  refine ⟨fun pins s σ H Q I h => ?_⟩
  have ok : ObjOk X.prog X.w (upd H s.heap.objs.size (DO X.prog X.w s.heap.objs.size [])) (s.heap.push { cls := .type "dict", data := .dict #[] }) s.heap.objs.size (DO X.prog X.w s.heap.objs.size []) :=
    do_ok (beq_eq_false_iff_ne.mpr (Ne.symm (Nat.ne_of_lt I.big))) (Nat.zero_le _) List.nodup_nil ⟨_, #[], 0, Heap.get?_push_size _ rfl, ⟨rfl, rfl, rfl⟩, rfl, rfl⟩
  exact wpAny_Dict_empty ⟨.ref s.heap.objs.size, _, I.laid (a := s.heap.objs.size) (t' := s.toks) (fun _ _ q => Heap.get?_push_of_some _ q) (Nat.le_refl _) ok, rfl, h _ _ (I.hok.fresh (Nat.le_refl _)) ⟨[], upd_same, .nil⟩ fun b hb => upd_ne hb⟩
/-- the keys' places -/
abbrev Ks (H : Hp) : List (K2 × K2) → List Addr → Prop := Paired fun p a => Pr H a p.1
theorem rel_ks {H : Hp} {kvs : List (K2 × K2)} {xs : List En} (r : Rel H kvs xs) : Ks H kvs (xs.map (·.2.1)) := by
  induction r with
  | nil => exact .nil
  | cons z _ ih => exact .cons z.2.1 ih
theorem vals_refs : ∀ as : List Addr, Vals (as.map V.ref) (as.map Value.ref)
  | [] => .nil
  | _ :: as => .cons rfl (vals_refs as)
/-- list(d) -/
def rListN (P : Program) (w : World) : List V → Hp → VK → Prop := fun vs H Q => ∃ d kvs, vs = [.ref d] ∧ TD P w H d kvs ∧ ∀ l as, H l = none → Ks H kvs as → Q (.ref l) (upd H l (.lst (as.map V.ref)))
theorem call_listN (hc : X.calm = true) : CallR X (.type "list") (rListN X.prog X.w) := by
  intro pins s σ H vs us Q I r h
  obtain ⟨d, kvs, rfl, t, q⟩ := h
  obtain ⟨u, rfl, ru⟩ := vals1 r
  cases ru
  obtain ⟨hsm, xs, hd, rr, hl, hn, hx⟩ := td_heap I.hok t
  obtain ⟨ob, es, ep, e1, e2, e3, e4, _, _⟩ := hx
  have raw : s.heap.DictRaw d es ep := ⟨ob, e1, e2, e3⟩
  have hsz : es.size = xs.length := by
    have := congrArg List.length e4
    simpa using this
  refine PySem.W.kdl_call (KdlSrc.rawDict (es := es) (ep := ep) hsm) (I.ok.hd hc) raw (by omega) fun h' tk acc c hk hS hacc => ?_
  have hlen : acc.toList.length = xs.length := by
    rw [Array.length_toList]
    exact hacc.1.trans hsz
  have hv : Vals ((xs.map (·.2.1)).map V.ref) acc.toList := by
    have key : ∀ i : Nat, i < xs.length → acc.toList[i]? = (xs[i]?).map fun x => Value.ref x.2.1 := by
      intro i hi
      have hi1 : i < acc.size := by rw [← Array.length_toList, hlen]; exact hi
      obtain ⟨hi2, e⟩ := hacc.2 i acc[i] (Array.getElem?_eq_getElem hi1)
      have e5 : es.toList[i]? = (((xs.map cv).map (entryOfKey (nestedKind X.prog X.w)))[i]?) := by rw [e4]
      rw [Array.getElem?_toList, Array.getElem?_eq_getElem hi2, List.getElem?_map, List.getElem?_map, List.getElem?_eq_getElem hi] at e5
      rw [Array.getElem?_toList, Array.getElem?_eq_getElem hi1, e, Option.some.inj e5, List.getElem?_eq_getElem hi]
      rfl
    have e6 : acc.toList = xs.map fun x => Value.ref x.2.1 := by
      apply List.ext_getElem?
      intro i
      by_cases hi : i < xs.length
      · rw [key i hi, List.getElem?_map]
      · rw [List.getElem?_eq_none (by omega), List.getElem?_eq_none (by rw [List.length_map]; omega)]
    have e7 : xs.map (fun x => Value.ref x.2.1) = (xs.map fun x => x.2.1).map Value.ref := by rw [List.map_map]; rfl
    rw [e6, e7]
    exact vals_refs _
  have ok : ObjOk X.prog X.w (upd H s.heap.objs.size (.lst ((xs.map (·.2.1)).map V.ref))) h' s.heap.objs.size (.lst ((xs.map (·.2.1)).map V.ref)) := by
    refine ⟨by rw [List.length_map, List.length_map]; exact hl, acc.toList, c, hv, ?_⟩
    rw [Array.toArray_toList]
    exact hS
  exact ⟨.ref s.heap.objs.size, _, I.laid (t' := tk) hk (Nat.le_refl _) ok, rfl, q _ _ (I.hok.fresh (Nat.le_refl _)) (rel_ks rr)⟩
end
end Nd

set_option Elab.async false
set_option linter.all false
set_option maxRecDepth 100000
set_option maxHeartbeats 4000000
namespace Nd
open PySem PySem.Spec PyProof.Rows L2
/-! ### a pair as data -/
def rd (r : Rw) : PyData := .tuple (r.map .int)
def pd (k : K2) : PyData := .tuple [rd k.1, rd k.2]
theorem eqv_ints : ∀ a b : Rw, PyData.eqvAll (a.map .int) (b.map .int) = decide (a = b)
  | [], [] => by simp [PyData.eqvAll]
  | [], _ :: _ => by simp [PyData.eqvAll]
  | _ :: _, [] => by simp [PyData.eqvAll]
  | x :: a, y :: b => by
    rw [List.map_cons, List.map_cons, PyData.eqvAll, PyData.eqv, eqv_ints a b]
    by_cases h : x = y
    · subst h
      simp
    · simp [h]
theorem eqv_rd (a b : Rw) : PyData.eqv (rd a) (rd b) = decide (a = b) := by
  unfold rd
  rw [PyData.eqv, eqv_ints]
theorem eqv_pd (k l : K2) : PyData.eqv (pd k) (pd l) = decide (k = l) := by
  unfold pd
  rw [PyData.eqv, PyData.eqvAll, PyData.eqvAll, PyData.eqvAll, eqv_rd, eqv_rd]
  obtain ⟨a, b⟩ := k
  obtain ⟨c, d⟩ := l
  by_cases h : a = c
  · by_cases h' : b = d
    · subst h h'
      simp
    · simp [h, h']
  · simp [h]
theorem dAll_ints : ∀ r : Rw, PyData.depthAll (r.map .int) ≤ 1 := fun r => PySem.W.depthAll_ints r
theorem lay_ints (r : Rw) : PyData.canLayAll0 (r.map .int) = true := PySem.W.canLayAll0_ints r
theorem shaped_rd (r : Rw) : SeqAt.shaped (rd r) = true := by
  have h := dAll_ints r
  have h2 : PyData.depth (rd r) ≤ 64 := by
    unfold rd
    simp only [PyData.depth]
    omega
  show (PyData.canLay0 (rd r) && decide (PyData.depth (rd r) ≤ 64)) = true
  rw [Bool.and_eq_true]
  exact ⟨by unfold rd; simp only [PyData.canLay0]; exact lay_ints r, decide_eq_true h2⟩
theorem shaped_pd (k : K2) : SeqAt.shaped (pd k) = true := by
  have h := dAll_ints k.1
  have h' := dAll_ints k.2
  have h2 : PyData.depth (pd k) ≤ 64 := by
    unfold pd rd
    simp only [PyData.depth, PyData.depthAll]
    omega
  show (PyData.canLay0 (pd k) && decide (PyData.depth (pd k) ≤ 64)) = true
  rw [Bool.and_eq_true]
  refine ⟨?_, decide_eq_true h2⟩
  unfold pd rd
  simp only [PyData.canLay0, PyData.canLayAll0, lay_ints, Bool.and_self]
section
variable {K : PySem.W.Frag} {H : Hp}
theorem dp_ints : ∀ r : Rw, DpAll K H (r.map V.int) (r.map .int)
  | [] => .nil
  | i :: r => .cons (.int i) (dp_ints r)
theorem dp_row {a : Addr} {r : Rw} (h : Ro H a r) : Dp K H (.ref a) (rd r) := .tup (.inl (.inl h)) (dp_ints r)
theorem dp_pair {a : Addr} {k : K2} (h : Pr H a k) : Dp K H (.ref a) (pd k) := by
  obtain ⟨b, c, h1, h2, h3⟩ := h
  exact .tup (.inl (.inl h1)) (.cons (dp_row h2) (.cons (dp_row h3) .nil))
end
section
variable {X : Cx} {pins : List (Addr × Obj)} {σ : L2.St} {H : Hp} {s : Shared}
/-- two pairs, == -/
theorem eqN_pr (I : Inv X pins σ H s) {A : Around} (hu : A.units + 64 < cLine) {a b : Addr} {k l : K2} (ha : Pr H a k) (hb : Pr H b l) : SeqAt.EqAt A s (.ref a) (.ref b) (decide (k = l)) := by
  obtain ⟨as, r1⟩ := Dp.reads I (pd k) (.ref a) (.ref a) (dp_pair ha) rfl
  obtain ⟨bs, r2⟩ := Dp.reads I (pd l) (.ref b) (.ref b) (dp_pair hb) rfl
  have q := SeqAt.eqAt_reads (pd k) (pd l) A s _ _ as bs r1 r2 (SeqAt.canLay_of_shaped (shaped_pd k)) (SeqAt.canLay_of_shaped (shaped_pd l)) (SeqAt.room_of_shaped (shaped_pd k) hu)
  rw [eqv_pd] at q
  exact q
/-- rows, pairs compared -/
def rEqPr : R2 := fun x y H Q => ∃ a b k l, x = .ref a ∧ y = .ref b ∧ Pr H a k ∧ Pr H b l ∧ Q (.bl (decide (k = l))) H
def rNePr : R2 := fun x y H Q => ∃ a b k l, x = .ref a ∧ y = .ref b ∧ Pr H a k ∧ Pr H b l ∧ Q (.bl (!decide (k = l))) H
def rNeRo : R2 := fun x y H Q => ∃ a b k l, x = .ref a ∧ y = .ref b ∧ Ro H a k ∧ Ro H b l ∧ Q (.bl (!decide (k = l))) H
def rEqRo : R2 := fun x y H Q => ∃ a b k l, x = .ref a ∧ y = .ref b ∧ Ro H a k ∧ Ro H b l ∧ Q (.bl (decide (k = l))) H
theorem op_eqPr (hu : X.A.units + 64 < cLine) : OpR X (compareOp .Eq) rEqPr := fun pins s σ H x y v u Q I rx ry ⟨a, b, k, l, e1, e2, ha, hb, q⟩ => by
  subst e1 e2
  exact op_eqD hu pins s σ H _ _ v u Q I rx ry ⟨pd k, pd l, dp_pair ha, dp_pair hb, shaped_pd k, shaped_pd l, by rw [eqv_pd]; exact q⟩
theorem op_nePr (hu : X.A.units + 64 < cLine) : OpR X (compareOp .NotEq) rNePr := fun pins s σ H x y v u Q I rx ry ⟨a, b, k, l, e1, e2, ha, hb, q⟩ => by
  subst e1 e2
  exact op_neD hu pins s σ H _ _ v u Q I rx ry ⟨pd k, pd l, dp_pair ha, dp_pair hb, shaped_pd k, shaped_pd l, by rw [eqv_pd]; exact q⟩
theorem op_neRo (hu : X.A.units + 64 < cLine) : OpR X (compareOp .NotEq) rNeRo := fun pins s σ H x y v u Q I rx ry ⟨a, b, k, l, e1, e2, ha, hb, q⟩ => by
  subst e1 e2
  exact op_neD hu pins s σ H _ _ v u Q I rx ry ⟨rd k, rd l, dp_row ha, dp_row hb, shaped_rd k, shaped_rd l, by rw [eqv_rd]; exact q⟩
theorem op_eqRo (hu : X.A.units + 64 < cLine) : OpR X (compareOp .Eq) rEqRo := fun pins s σ H x y v u Q I rx ry ⟨a, b, k, l, e1, e2, ha, hb, q⟩ => by
  subst e1 e2
  exact op_eqD hu pins s σ H _ _ v u Q I rx ry ⟨rd k, rd l, dp_row ha, dp_row hb, shaped_rd k, shaped_rd l, by rw [eqv_rd]; exact q⟩
/-! ### two dicts of the same pairs -/
def Mq (ks ls : List (K2 × K2)) : Prop := ks.length = ls.length ∧ ∀ p ∈ ks, dget ls p.1 = some p.2
theorem wp_pairsN (I : Inv X pins σ H s) {A : Around} (hu : A.units + 64 < cLine) {a b : Addr} {ks ls : List (K2 × K2)} (ta : TD X.prog X.w H a ks) (tb : TD X.prog X.w H b ls) (hm : Mq ks ls) {nm : String} {E : Value → Shared → Prop} {Q : Bool → Shared → Prop} (h : Q true s) :
    wpAny (model X.prog X.w) A (Builtin.Dict.samePairs nm a b) Q E s := by
  obtain ⟨sa, xs, da, ra, la, na, xa⟩ := td_heap I.hok ta
  obtain ⟨sb, ys, db, rb, lb, nb, xb⟩ := td_heap I.hok tb
  obtain ⟨oa, es, ep, ga, ca, ua, ea, ka, na'⟩ := xa
  obtain ⟨ob, fs, fp, gb, cb, ub, eb, kb, nb'⟩ := xb
  have h1 : es.size = ks.length := by rw [size_of_entries ea, List.length_map]; exact (Paired.length ra).symm
  have h2 : fs.size = ls.length := by rw [size_of_entries eb, List.length_map]; exact (Paired.length rb).symm
  have hs : es.size = fs.size := by rw [h1, h2]; exact hm.1
  unfold Builtin.Dict.samePairs Builtin.Dict.showsAll
  rw [if_neg (show ¬ (a == sysModules) = true by rw [sa]; exact Bool.false_ne_true), if_neg (show ¬ (b == sysModules) = true by rw [sb]; exact Bool.false_ne_true)]
  refine wpAny_bind (wpAny_pure (wpAny_bind (wpAny_pure (wpAny_bind (wpAny_dictEntries ga ua ?_)))))
  dsimp only
  refine wpAny_bind (wpAny_dictEntries gb ub ?_)
  rw [if_neg (by rw [hs]; simp)]
  refine wpAny_bind (wpAny_dictEpoch ga ua (wpAny_bind ?_))
  rw [Std.Legacy.Range.forIn_eq_forIn_range']
  simp only [Std.Legacy.Range.size, Nat.sub_zero, Nat.add_sub_cancel, Nat.div_one]
  refine wpAny_forIn_list _ (fun rest q s' => s' = s ∧ q = (none, ()) ∧ ∃ i, rest = List.range' i (es.size - i) ∧ i ≤ es.size) _ ?_ ?_ _ _ ⟨rfl, rfl, 0, by simp, Nat.zero_le _⟩
  · rintro j rest q s' ⟨rfl, rfl, i, hr, hi⟩
    have hlt : i < es.size := by
      rcases Nat.lt_or_ge i es.size with z | z
      · exact z
      · rw [Nat.sub_eq_zero_of_le z] at hr
        simp at hr
    obtain ⟨rfl, hrest⟩ : j = i ∧ rest = List.range' (i + 1) (es.size - (i + 1)) := by
      have e : es.size - i = (es.size - (i + 1)) + 1 := by omega
      rw [e, List.range'_succ] at hr
      injection hr with z1 z2
      exact ⟨z1, z2⟩
    have hk : j < ks.length := by omega
    obtain ⟨x, hx, rx⟩ := paired_get ra (List.getElem?_eq_getElem hk)
    refine wpAny_bind (wpAny_dictEntries ga ua ?_)
    have he : es[j]? = some (entryOfKey (nestedKind X.prog X.w) (cv x)) := by rw [entry_at ea, List.getElem?_map, hx]; rfl
    rw [he]
    show wpAny _ _ (holding [.ref x.2.1, .ref x.2.2] _ >>= _) _ _ _
    have hg := hm.2 _ (List.getElem_mem hk)
    rcases rel_get rb (ks[j]).1 with ⟨g1, _⟩ | ⟨z, y, g1, g2, g3⟩
    · rw [hg] at g1
      cases g1
    · rw [hg] at g1
      have ez : (ks[j]).2 = z := Option.some.inj g1
      have hkey : (nestedKind X.prog X.w).is s'.heap (nk x.1) x.2.1 := pr_key I.hok (by rw [← rx.1]; exact rx.2.1)
      have room : (nestedKind X.prog X.w).room A := by show A.units + 8 < cLine; omega
      refine wpAny_bind (wpAny_holding (wpAny_bind (wpAny_dictFind_heap room hkey gb ub eb kb nb' (fun no => ?_) (fun i p hp => ?_))))
      · exfalso
        have hy : y ∈ ys := List.mem_of_find?_eq_some g2
        have hy2 : y.1 = (ks[j]).1 := of_decide_eq_true (List.find?_some (p := fun x : En => decide (x.1 = (ks[j]).1)) g2)
        obtain ⟨i, hi, e⟩ := List.mem_iff_getElem.mp hy
        refine no i (y.2.1, .ref y.2.2) ?_
        rw [List.getElem?_map, List.getElem?_eq_getElem hi, e]
        show some (cv y) = _
        unfold cv
        rw [hy2, rx.1]
      · refine wpAny_bind (wpAny_dictEntries gb ub ?_)
        rw [entry_at eb, hp]
        have e1 : atKey (ys.map cv) (nk x.1) = some p := atKey_of_get nb' hp
        rw [cv_at, ← rx.1, g2] at e1
        have e2 : (y.2.1, Value.ref y.2.2) = p := Option.some.inj e1
        subst e2
        refine wpAny_holding ?_
        have q := eqN_pr I (A := A) hu rx.2.2 g3
        rw [decide_eq_true ez] at q
        refine q _ _ _ _ ?_
        show wpAny _ _ (if (!true) = true then _ else _) _ _ _
        rw [if_neg (by decide)]
        refine wpAny_bind (wpAny_dictEpoch ga ua ?_)
        rw [if_neg (by simp)]
        exact wpAny_pure ⟨rfl, rfl, j + 1, hrest, hlt⟩
  · rintro q s' ⟨rfl, rfl, i, hr, hi⟩
    exact wpAny_pure h
theorem rcN (I : Inv X pins σ H s) {A : Around} (hu : A.units + 65 < cLine) {a b : Addr} {ks ls : List (K2 × K2)} (ta : TD X.prog X.w H a ks) (tb : TD X.prog X.w H b ls) (hm : Mq ks ls) {E Q : Value → Shared → Prop} (h : Q (.bool true) s) :
    wpAny (model X.prog X.w) A (richCompare .Eq (.ref a) (.ref b)) Q E s := by
  obtain ⟨t1, _, _⟩ := td_is I ta
  obtain ⟨t2, _, _⟩ := td_is I tb
  refine wpAny_richCompare_same_room (op := .Eq) t1 t2 PySem.F.slot_dict_eq (wpAny_call_entry PySem.F.slot_dict_eq t1 PySem.F.entry_dict_eq ?_ (PySem.F.args_dict_eq_2 _ _)) (by omega)
  show wpAny _ _ (Builtin.Dict.dictSlotArgs "__eq__" ⟨[.ref a, .ref b], []⟩ >>= _) _ _ s
  refine wpAny_bind ?_
  unfold Builtin.Dict.dictSlotArgs
  refine wpAny_bind (wpAny_notOrdered_dict t1 ?_)
  show wpAny _ _ (pure (Value.ref a, Value.ref b)) _ _ s
  refine wpAny_pure ?_
  refine wpAny_bind (wpAny_isInstance (T := "dict") t2 PySem.F.sub_dict_dict ?_)
  simp only [Bool.not_true, Bool.false_eq_true, if_false]
  refine wpAny_bind (wpAny_pure (wpAny_bind (wpAny_pure (wpAny_bind (wp_pairsN I (by show A.units + 1 + 64 < cLine; omega) ta tb hm ?_)))))
  exact wpAny_pure ⟨_, rfl, (fun x => nomatch x), h⟩
theorem rcNe (I : Inv X pins σ H s) {A : Around} (hu : A.units + 65 < cLine) {a b : Addr} {ks ls : List (K2 × K2)} (ta : TD X.prog X.w H a ks) (tb : TD X.prog X.w H b ls) (hm : Mq ks ls) {E Q : Value → Shared → Prop} (h : Q (.bool false) s) :
    wpAny (model X.prog X.w) A (compareOp .NotEq (.ref a) (.ref b)) Q E s := by
  obtain ⟨t1, _, _⟩ := td_is I ta
  obtain ⟨t2, _, _⟩ := td_is I tb
  refine wpAny_richCompare_same_room (op := .NotEq) t1 t2 PySem.F.slot_dict_ne (wpAny_call_entry PySem.F.slot_dict_ne t1 PySem.F.entry_dict_ne ?_ (PySem.F.args_dict_ne_2 _ _)) (by omega)
  show wpAny _ _ (Builtin.Dict.dictSlotArgs "__ne__" ⟨[.ref a, .ref b], []⟩ >>= _) _ _ s
  refine wpAny_bind ?_
  unfold Builtin.Dict.dictSlotArgs
  refine wpAny_bind (wpAny_notOrdered_dict t1 ?_)
  show wpAny _ _ (pure (Value.ref a, Value.ref b)) _ _ s
  refine wpAny_pure ?_
  refine wpAny_bind (wpAny_isInstance (T := "dict") t2 PySem.F.sub_dict_dict ?_)
  simp only [Bool.not_true, Bool.false_eq_true, if_false]
  refine wpAny_bind (wpAny_pure (wpAny_bind (wpAny_pure (wpAny_bind (wp_pairsN I (by show A.units + 1 + 64 < cLine; omega) ta tb hm ?_)))))
  exact wpAny_pure ⟨_, rfl, (fun x => nomatch x), h⟩
/-- d != e of two dicts of the same pairs -/
def rNeN (P : Program) (w : World) : R2 := fun x y H Q => ∃ a b ks ls, x = .ref a ∧ y = .ref b ∧ TD P w H a ks ∧ TD P w H b ls ∧ Mq ks ls ∧ Q (.bl false) H
theorem op_neN (hu : X.A.units + 65 < cLine) : OpR X (compareOp .NotEq) (rNeN X.prog X.w) := by
  intro pins s σ H x y v u Q I rx ry h
  obtain ⟨a, b, ks, ls, rfl, rfl, ta, tb, hm, q⟩ := h
  cases rx
  cases ry
  exact rcNe I hu ta tb hm ⟨.bl false, H, I, rfl, q⟩
theorem vals4 {a b c d : V} {us : List Value} (r : Vals [a, b, c, d] us) : ∃ u1 u2 u3 u4, us = [u1, u2, u3, u4] ∧ RelV a u1 ∧ RelV b u2 ∧ RelV c u3 ∧ RelV d u4 := by
  cases r with
  | cons h1 r =>
    cases r with
    | cons h2 r =>
      cases r with
      | cons h3 r =>
        cases r with
        | cons h4 r =>
          cases r
          exact ⟨_, _, _, _, rfl, h1, h2, h3, h4⟩
/-- (i, j, k, d) == (i, j, k, e) -/
def rEqParts (P : Program) (w : World) : R2 := fun x y H Q => ∃ p q i j k a b ks ls, x = .ref p ∧ y = .ref q ∧ H p = some (.tup [.int i, .int j, .int k, .ref a]) ∧ H q = some (.tup [.int i, .int j, .int k, .ref b]) ∧ TD P w H a ks ∧ TD P w H b ls ∧ Mq ks ls ∧ Q (.bl true) H
theorem op_eqParts (hu : X.A.units + 70 < cLine) : OpR X (compareOp .Eq) (rEqParts X.prog X.w) := by
  intro pins s σ H x y v u Q I rx ry h
  obtain ⟨p, q, i, j, k, a, b, ks, ls, rfl, rfl, hp, hq, ta, tb, hm, fin⟩ := h
  cases rx
  cases ry
  obtain ⟨its, r, e, z⟩ := I.tuple (SqT.of hp)
  obtain ⟨its2, r2, e2, z2⟩ := I.tuple (SqT.of hq)
  have hsz : its.toArray.size = its2.toArray.size := by rw [List.size_toArray, List.size_toArray, ← r.length, ← r2.length]; rfl
  refine GQ.rc_tupG hsz (by omega) (fun _ s' => s' = s) e e2 (fun n h1 h2 s' es => ?_) (fun s' es => ?_) rfl
  · subst es
    obtain ⟨u1, u2, u3, u4, rfl, q1, q2, q3, q4⟩ := vals4 r
    obtain ⟨w1, w2, w3, w4, rfl, g1, g2, g3, g4⟩ := vals4 r2
    match n, h1, h2 with
    | 0, _, _ => exact thn (eqAt_V (A := X.A.in1) (s := s') q1 g1 rfl rfl X.prog X.w X.xe (fun r t => r = true ∧ t = s') ⟨by simp [eqV], rfl⟩) fun _ _ x => x
    | 1, _, _ => exact thn (eqAt_V (A := X.A.in1) (s := s') q2 g2 rfl rfl X.prog X.w X.xe (fun r t => r = true ∧ t = s') ⟨by simp [eqV], rfl⟩) fun _ _ x => x
    | 2, _, _ => exact thn (eqAt_V (A := X.A.in1) (s := s') q3 g3 rfl rfl X.prog X.w X.xe (fun r t => r = true ∧ t = s') ⟨by simp [eqV], rfl⟩) fun _ _ x => x
    | 3, _, _ =>
      cases (show u4 = Value.ref a from q4)
      cases (show w4 = Value.ref b from g4)
      show wpAny _ _ (eqBool (Value.ref a) (Value.ref b)) _ _ _
      by_cases hab : a = b
      · subst hab
        exact SeqAt.EqAt.same (A := X.A.in1) (s := s') (.ref a) X.prog X.w X.xe _ ⟨rfl, rfl⟩
      · exact GQ.eqBool_refG hab (rcN I (by show X.A.units + 1 + 65 < cLine; omega) ta tb hm ⟨true, rfl, rfl, rfl⟩)
    | n + 4, h1, _ =>
      have h1' : n + 4 < 4 := by simpa using h1
      exact absurd h1' (by omega)
  · subst es
    exact ⟨.bl true, H, I, rfl, fin⟩
end
end Nd

set_option Elab.async false
set_option linter.all false
set_option maxRecDepth 100000
set_option maxHeartbeats 4000000
namespace Nd
open PySem PySem.Spec PyProof.Rows L2
/-! ### walks of such a dict while it is locked -/
section
variable {P : Program} {w : World} {K : PySem.W.Frag} {tg : Expr} {d : Addr} {od : Obj}
/-- the dict is locked as od, with the entries xs -/
def Lk (P : Program) (w : World) (H : Hp) (d : Addr) (od : Obj) (xs : List En) : Prop := H d = some (.frz od (DO P w d xs))
theorem lk_raw {X : Cx} {pins : List (Addr × Obj)} {σ : L2.St} {H : Hp} {s : Shared} {xs : List En} (I : Inv X pins σ H s) (h : Lk X.prog X.w H d od xs) :
    (d == sysModules) = false ∧ ∃ es ep, od.data = .dict es ep ∧ s.heap.DictRaw d es ep ∧ es.size = xs.length ∧ ∀ i (hi : i < es.size), ∃ x, xs[i]? = some x ∧ es[i].key = .ref x.2.1 ∧ es[i].val = .ref x.2.2 := by
  obtain ⟨g, ⟨q1, q2, q3, o, es, ep, e1, e2, e3, e4⟩, _⟩ := (show ObjOk X.prog X.w H s.heap d (.frz od (DO X.prog X.w d xs)) from I.hok d _ h)
  have eo : od = o := Option.some.inj (g.symm.trans e1)
  subst eo
  refine ⟨q1, es, ep, e3, ⟨od, e1, e2, e3⟩, ?_, fun i hi => ?_⟩
  · rw [size_of_entries e4, List.length_map]
  · have h1 : es[i]? = some es[i] := Array.getElem?_eq_getElem hi
    rw [entry_at e4, List.getElem?_map] at h1
    cases hx : xs[i]? with
    | none =>
      rw [hx] at h1
      cases h1
    | some x =>
      rw [hx] at h1
      have h2 : entryOfKey (nestedKind X.prog X.w) (cv x) = es[i] := Option.some.inj h1
      exact ⟨x, rfl, by rw [← h2]; rfl, by rw [← h2]; rfl⟩
/-- its keys, one by one -/
def ItK (P : Program) (w : World) (d : Addr) (od : Obj) (xs : List En) : It :=
  ⟨fun i H => Lk P w H d od xs ∧ i < xs.length, fun i H v H' => H' = H ∧ ∃ x, xs[i]? = some x ∧ v = .ref x.2.1, fun i H => Lk P w H d od xs ∧ xs.length ≤ i⟩
theorem turn_keysN {xs : List En} (it : Addr) (ep : Nat) (hep : ∃ es, od.data = .dict es ep) : Turn P w K tg (ItK P w d od xs) [it] it (fun i h => h.IsKeyIter it d i xs.length ep) where
  mem := List.mem_singleton.mpr rfl
  obj := fun i h st b hb => by
    obtain ⟨o, e, _, dd⟩ := st
    rw [List.mem_singleton.mp hb]
    exact ⟨o, e, fun v z => by rw [dd] at z; cases z⟩
  keep := fun i h h' st k => st.at fun o e => k it (List.mem_singleton.mpr rfl) o e
  item := by
    intro X hP hw hK hc i pins s σ H E I hf st hg
    subst hP hw hK
    obtain ⟨l, hi⟩ := hg
    obtain ⟨f0, f1, f2, f3, f4, f5⟩ := hf it (List.mem_singleton.mpr rfl)
    obtain ⟨hs, es, ep', hd, raw, hz, ent⟩ := lk_raw I l
    obtain ⟨es2, h2⟩ := hep
    have e2 : es2 = es ∧ ep = ep' := by rw [h2] at hd; cases hd; exact ⟨rfl, rfl⟩
    obtain ⟨rfl, rfl⟩ := e2
    have hi' : i < es2.size := by omega
    rw [← hz] at st
    refine wpAny_pyNext_keys_item_raw st raw hi' fun h' st' hs' => ?_
    have I1 : Inv X pins σ H { s with heap := h' } := I.turned (t' := s.toks) (fun b ob hb e => hs'.extBut b ob hb e) f0 f1 f3 f4 f5
    obtain ⟨x, hx, hk, hv⟩ := ent i hi'
    obtain ⟨oi, e, c, dd⟩ := id st'
    rw [hz] at st'
    exact ⟨_, rfl, go_of (s := { s with heap := h' }) e c dd (by decide) ⟨.ref x.2.1, H, I1, hk, ⟨rfl, x, hx, rfl⟩, st', fun b hb => (hf b hb).1⟩⟩
  done := by
    intro X hP hw hK hc i pins s σ H E I hf st hg
    subst hP hw hK
    obtain ⟨l, hi⟩ := hg
    obtain ⟨f0, f1, f2, f3, f4, f5⟩ := hf it (List.mem_singleton.mpr rfl)
    obtain ⟨hs, es, ep', hd, raw, hz, ent⟩ := lk_raw I l
    obtain ⟨es2, h2⟩ := hep
    have e2 : es2 = es ∧ ep = ep' := by rw [h2] at hd; cases hd; exact ⟨rfl, rfl⟩
    obtain ⟨rfl, rfl⟩ := e2
    rw [← hz] at st
    exact wpAny_pyNext_keys_end_raw (I.ok.hd hc) st raw (by omega) fun h' eb => ⟨rfl, I.turned (t' := s.toks) (fun b ob hb e => eb b ob hb e) f0 f1 f3 f4 f5⟩
  self := fun A i s Q E st h => wpAny_pyIter_keyiter st h
/-- its pairs of a key and its value, each in a new tuple -/
def ItP (P : Program) (w : World) (d : Addr) (od : Obj) (xs : List En) : It :=
  ⟨fun i H => Lk P w H d od xs ∧ i < xs.length, fun i H v H' => ∃ T x, v = .ref T ∧ H T = none ∧ H' = upd H T (.tup [.ref x.2.1, .ref x.2.2]) ∧ xs[i]? = some x, fun i H => Lk P w H d od xs ∧ xs.length ≤ i⟩
theorem turn_pairsN {xs : List En} {elts : List Expr} {kk : Nat} {tpos : Pos} (it : Addr) (ep : Nat) (hep : ∃ es, od.data = .dict es ep) :
    Turn P w K (.Tuple elts kk tpos) (ItP P w d od xs) [it] it (fun i h => ∃ ok ov, IsItemIter h it d i xs.length ep ok ov) where
  mem := List.mem_singleton.mpr rfl
  obj := fun i h st b hb => by
    obtain ⟨ok, ov, e⟩ := st
    rw [List.mem_singleton.mp hb]
    exact ⟨_, e, fun v z => nomatch z⟩
  keep := fun i h h' st k => let ⟨ok, ov, e⟩ := st; ⟨ok, ov, k it (List.mem_singleton.mpr rfl) _ e⟩
  item := by
    intro X hP hw hK hc i pins s σ H E I hf st hg
    subst hP hw hK
    obtain ⟨l, hi⟩ := hg
    obtain ⟨hs, es, ep', hd, raw, hz, ent⟩ := lk_raw I l
    obtain ⟨es2, h2⟩ := hep
    have e2 : es2 = es ∧ ep = ep' := by rw [h2] at hd; cases hd; exact ⟨rfl, rfl⟩
    obtain ⟨rfl, rfl⟩ := e2
    have hi' : i < es2.size := by omega
    obtain ⟨ok, ov, he⟩ := st
    rw [← hz] at he
    have hlt : it < s.heap.objs.size := Heap.lt_size he
    obtain ⟨x, hx, hk, hv⟩ := ent i hi'
    refine wpAny_pyNext_items_item_raw he raw hi' fun h' ho hT hsz hkp => ?_
    refine ⟨_, rfl, wpAny_letOwnedTupleGo_items (s := { s with heap := h' }) ho fun h'' he' sb => ?_⟩
    have hT2 : h''.get? s.heap.objs.size = some { cls := .type "tuple", data := .seq #[.ref x.2.1, .ref x.2.2] } := by
      rw [hk, hv] at hT
      exact (sb.2 _ (Nat.ne_of_gt hlt)).trans hT
    have new : ObjOk X.prog X.w (upd H s.heap.objs.size (.tup [.ref x.2.1, .ref x.2.2])) h'' s.heap.objs.size (.tup [.ref x.2.1, .ref x.2.2]) :=
      ⟨by show 2 ≤ sizeLine; decide, [.ref x.2.1, .ref x.2.2], .cons rfl (.cons rfl .nil), ⟨_, hT2, rfl, _, rfl⟩⟩
    have I1 : Inv X pins σ (upd H s.heap.objs.size (.tup [.ref x.2.1, .ref x.2.2])) { s with heap := h'' } :=
      I.turnedNew (t' := s.toks) (ch := [it]) (fun b ob hb e => (sb.2 b (fun z => hb (List.mem_singleton.mpr z))).trans (hkp b ob (fun z => hb (List.mem_singleton.mpr z)) e)) hf (Nat.le_refl _) new
    refine ⟨.ref s.heap.objs.size, _, I1, rfl, ⟨_, x, rfl, I.hok.fresh (Nat.le_refl _), rfl, hx⟩, ⟨_, _, by rw [← hz]; exact he'⟩, fun b hb => ?_⟩
    have hb' : b = it := List.mem_singleton.mp hb
    rw [hb', upd_ne (Nat.ne_of_lt hlt)]
    exact (hf it (List.mem_singleton.mpr rfl)).1
  done := by
    intro X hP hw hK hc i pins s σ H E I hf st hg
    subst hP hw hK
    obtain ⟨l, hi⟩ := hg
    obtain ⟨f0, f1, f2, f3, f4, f5⟩ := hf it (List.mem_singleton.mpr rfl)
    obtain ⟨hs, es, ep', hd, raw, hz, ent⟩ := lk_raw I l
    obtain ⟨es2, h2⟩ := hep
    have e2 : es2 = es ∧ ep = ep' := by rw [h2] at hd; cases hd; exact ⟨rfl, rfl⟩
    obtain ⟨rfl, rfl⟩ := e2
    obtain ⟨ok, ov, he⟩ := st
    rw [← hz] at he
    exact wpAny_pyNext_items_end_raw (I.ok.hd hc) he raw (by omega) fun h' eb => ⟨rfl, I.turned (t' := s.toks) (fun b ob hb e => eb b ob hb e) f0 f1 f3 f4 f5⟩
  self := fun A i s Q E st h => let ⟨_, _, he⟩ := st; wpAny_pyIter_itemiter he h
end
section
variable {X : Cx} {tg e : Expr} {td : TE} {apos cpos : Pos}
def iKeysN (P : Program) (w : World) (td : TE) : TI := fun σ H R => td σ H fun x H1 => ∃ d od xs, x = .ref d ∧ Lk P w H1 d od xs ∧ R (ItK P w d od xs) H1
def iPairsN (P : Program) (w : World) (td : TE) : TI := fun σ H R => td σ H fun x H1 => ∃ d od xs, x = .ref d ∧ Lk P w H1 d od xs ∧ R (ItP P w d od xs) H1
theorem pi_keysN (he : PE X e td) : PI X tg e (iKeysN X.prog X.w td) := by
  refine ⟨fun pins s σ H R I h => ?_⟩
  refine thn (he.run pins s σ H _ I h) fun u s1 ⟨x, H1, I1, rx, d, od, xs, ex, l, q⟩ => ?_
  subst ex
  cases rx
  obtain ⟨hs, es, ep, hd, raw, hz, ent⟩ := lk_raw I1 l
  refine wpAny_pyIter_dict_raw hs raw (pi_one (tk := s1.toks) I1 _ (turn_keysN _ ep ⟨es, hd⟩) ⟨_, Heap.get?_push_size _ rfl, rfl, ?_⟩ q)
  rw [hz] <;> rfl
theorem pi_pairsN {elts : List Expr} {kk : Nat} {tpos : Pos} (he : PE X e td) (hbase : attributeBase e "items" X.env (eval e X.env) = eval e X.env := by rfl) (hline : (apos.endLine == cpos.line) = true := by rfl) :
    PI X (.Tuple elts kk tpos) (.Call (.Attribute e "items" apos) [] [] cpos) (iPairsN X.prog X.w td) := by
  refine ⟨fun pins s σ H R I h => ?_⟩
  refine wpAny_Call_method (T := "dict") (id := "dict.items") hbase rfl hline PySem.F.plainAttrs_dict PySem.F.slot_dict_items PySem.F.type_dict_items (thn (he.run pins s σ H _ I h) fun u s1 ⟨x, H1, I1, rx, d, od, xs, ex, l, q⟩ => ?_)
  subst ex
  cases rx
  obtain ⟨hs, es, ep, hd, raw, hz, ent⟩ := lk_raw I1 l
  refine ⟨raw.typeIs, fun b z => ?_, ?_⟩
  · cases z
    obtain ⟨o, h1, h2, _⟩ := raw
    exact ⟨o, h1, h2.2.1⟩
  have I2 : Inv X pins σ H1 { s1 with heap := s1.heap.push { cls := .type "dict_items", data := .fields #[.ref d] } } := I1.kept (t' := s1.toks) fun b ob q => Heap.get?_push_of_some _ q
  have fin : wpAny (model X.prog X.w) X.A (pyIter (.ref s1.heap.objs.size)) (PIE X pins σ (.Tuple elts kk tpos) R) X.xe { s1 with heap := s1.heap.push { cls := .type "dict_items", data := .fields #[.ref d] } } := by
    refine wpAny_pyIter_items_raw (d := d) ⟨_, Heap.get?_push_size _ rfl, rfl, rfl⟩ (raw.push _) (pi_one (tk := s1.toks) I2 _ (turn_pairsN _ ep ⟨es, hd⟩) ⟨.none, .none, ?_⟩ q)
    rw [← hz]
    exact Heap.get?_push_size _ rfl
  show wpAny _ _ (callWith cpos (.builtin "dict.items") [.ref d] [] []) _ X.xe s1
  exact method_meetsIn PySem.F.slot_dict_items PySem.F.entry_dict_items rfl (PySem.evalArgs_none ⟨rfl, raw.typeIs, PySem.F.args_dict_items_1 _, _, meets_dict_items_raw d hs, ⟨es, ep, raw⟩, fin⟩)
end
end Nd

set_option Elab.async false
set_option linter.all false
set_option maxRecDepth 100000
set_option maxHeartbeats 4000000
namespace Nd
open PySem PySem.Spec PyProof.Rows L2
/-! ### {k: v for .. in .. if ..} with such keys and values -/
/-- one item taken (or left out): what must hold so that the next turn's wish Nx holds; D is the new dict -/
def dcTurn (P : Program) (w : World) (tt : TT) (tk tv : TE) (vs : List Nat) (σ : L2.St) (D : Addr) (Nx : Hp → Prop) : L2.St → Hp → Prop := fun σ2 H2 => wipe σ2 vs = wipe σ vs ∧ tt σ2 H2 fun b H3 =>
  if b = true then tk σ2 H3 fun y H4 => tv σ2 H4 fun z H5 => ∃ a q kvs k v, y = .ref a ∧ z = .ref q ∧ TM P w H5 D kvs ∧ Pr H5 a k ∧ Pr H5 q v ∧ kvs.length < sizeLine ∧ ∀ H6, TM P w H6 D (dput kvs k v) → Bt D H5 H6 → Nx H6
  else Nx H3
def tDcN (P : Program) (w : World) (wi : TI) (g : TG) (tt : TT) (tk tv : TE) (vs : List Nat) : TE := fun σ H Q => wi σ H fun J H1 => ∀ D H1', H1 D = none → TM P w H1' D [] → Bt D H1 H1' →
  ∃ W : Nat → Nat → Hp → Prop, (∃ m, W 0 m H1') ∧ ∀ i m H, W i m H →
    (J.stop i H ∧ Q (.ref D) H) ∨ (J.go i H ∧ ∃ Nx : Hp → Prop, (∀ H', Nx H' → ∃ m', m' < m ∧ W (i + 1) m' H') ∧ ∀ x H', J.yld i H x H' → g x (wipe σ vs) H' (dcTurn P w tt tk tv vs σ D Nx))
section
variable {X : Cx}
/-- the new dict takes a pair -/
theorem dset_nd {Y : Cx} {pins : List (Addr × Obj)} {σ : L2.St} {H : Hp} {s : Shared} {E : Value → Shared → Prop} {D a q : Addr} {kvs : List (K2 × K2)} {k v : K2} {R : Unit → Shared → Prop} (hu : Y.A.units + 64 < cLine) (I : Inv Y pins σ H s)
    (t : TM Y.prog Y.w H D kvs) (hk : Pr H a k) (hv : Pr H q v) (hl : kvs.length < sizeLine) (fin : ∀ H' s', TM Y.prog Y.w H' D (dput kvs k v) → Bt D H H' → Inv Y pins σ H' s' → R () s') :
    wpAny (model Y.prog Y.w) Y.A (dictSet D (.ref a) (.ref q)) R E s := by
  obtain ⟨xs, hd, r⟩ := t
  obtain ⟨⟨q1, q2, q3, ob, es, ep, e1, e2, e3, e4⟩, _⟩ := (show ObjOk Y.prog Y.w H s.heap D (DO Y.prog Y.w D xs) from I.hok D _ hd)
  have hx : s.heap.DictOfH (nestedKind Y.prog Y.w) D (xs.map cv) := ⟨ob, es, ep, e1, e2, e3, e4, rel_keys I.hok r, cv_nodup q3⟩
  have hlen : (xs.map cv).length ≤ sizeLine := by rw [List.length_map]; exact q2
  have room : (nestedKind Y.prog Y.w).room Y.A := by show Y.A.units + 8 < cLine; omega
  refine wpAny_dictSet_heap (hsz := hlen) room (pr_key I.hok hk) hx fun h' dd' hs => ?_
  rw [cv_put] at dd'
  obtain ⟨ob', es', ep', g1, g2, g3, g4, _, _⟩ := dd'
  have hxl : (xput xs k a q).length ≤ sizeLine := by
    have h1 := xput_len xs k a q
    have h2 : kvs.length = xs.length := Paired.length r
    omega
  have tk : Tk H (upd H D (DO Y.prog Y.w D (xput xs k a q))) := fun b ys e => by rw [upd_ne (ne_of e hd (fun z => nomatch z))]; exact e
  exact fin _ _ ⟨_, upd_same, (rel_put r hk hv).tk tk⟩ (fun b hb => upd_ne hb)
    (I.write (x := D) (e := D) (o := DO Y.prog Y.w D (xput xs k a q)) (t' := s.toks + (nestedKind Y.prog Y.w).draws (nk k)) (by rw [hd]; exact True.intro) (.inl rfl) (fun b ob hb e => (hs.2 b hb).trans e) ⟨_, g1⟩ (do_ok q1 hxl (xput_nodup q3) ⟨ob', es', ep', g1, g2, g3, g4⟩))
theorem pe_dcN {kx vx tg iter : Expr} {ifs : List Expr} {scope : Scope} {own : List (Str × Nat)} {pos : Pos} {wi : TI} {g : TG} {tt : TT} {tk tv : TE} (hu : X.A.units + 64 < cLine) (hc : X.calm = true) (hN : X.N.Nodup) (hi : PI X tg iter wi) (ok : BlkOk X.N X.env.scope scope own)
    (hg : ∀ (s : Shared) (H : Hp) (C : Addr) (cl : List (Str × Addr)) (fp : List Addr), PG (X.blk s H scope (compEnvC scope cl C X.env) fp) tg g)
    (ht : ∀ (s : Shared) (H : Hp) (C : Addr) (cl : List (Str × Addr)) (fp : List Addr), PTs (X.blk s H scope (compEnvC scope cl C X.env) fp) ifs tt)
    (hk : ∀ (s : Shared) (H : Hp) (C : Addr) (cl : List (Str × Addr)) (fp : List Addr), PE (X.blk s H scope (compEnvC scope cl C X.env) fp) kx tk)
    (hv : ∀ (s : Shared) (H : Hp) (C : Addr) (cl : List (Str × Addr)) (fp : List Addr), PE (X.blk s H scope (compEnvC scope cl C X.env) fp) vx tv) (hs : ∀ x, foldedSetIterable iter X.env x = pure x := by intro _; rfl) :
    PE X (.DictComp kx vx [⟨tg, iter, ifs, 0⟩] scope pos) (tDcN X.prog X.w wi g tt tk tv (own.map (·.2))) := by
  refine ⟨fun pins s σ H Q I h => ?_⟩
  rw [arm_eval_DictComp]
  have hfree : ∀ y ∈ scope.names, y.2 = .free → ∃ c, X.env.cells.lookup y.1 = some c := fun y hy e => (ok.free y hy e).elim (fun k => I.ok.has _ (.inl k)) fun k => I.ok.has _ (.inr k)
  refine wpAny_comprehension_free (use := none) rfl hs (closure_ok hfree) ok.kind (fun y hy e => by rw [ok.uniq y hy, e]) (thn (hi.run pins s σ H _ I h) fun xv sa ha => thn ha fun itv sb hb => ?_)
  obtain ⟨it, fp, tn, J, Ha, rfl, Ia, T, sta, fa, q⟩ := hb
  refine wpAny_newObj_type (newEnv_comp ?_)
  have okD : ObjOk X.prog X.w (upd Ha sb.heap.objs.size (DO X.prog X.w sb.heap.objs.size [])) (sb.heap.push { cls := .type "dict", data := .dict #[] }) sb.heap.objs.size (DO X.prog X.w sb.heap.objs.size []) :=
    do_ok (beq_eq_false_iff_ne.mpr (Ne.symm (Nat.ne_of_lt Ia.big))) (Nat.zero_le _) List.nodup_nil ⟨_, #[], 0, Heap.get?_push_size _ rfl, ⟨rfl, rfl, rfl⟩, rfl, rfl⟩
  obtain ⟨W, ⟨m0, w0⟩, turn⟩ := q sb.heap.objs.size (upd Ha sb.heap.objs.size (DO X.prog X.w sb.heap.objs.size [])) (Ia.hok.fresh (Nat.le_refl _)) ⟨[], upd_same, .nil⟩ fun b hb => upd_ne hb
  have Ic : Inv X pins σ (upd Ha sb.heap.objs.size (DO X.prog X.w sb.heap.objs.size [])) { sb with heap := sb.heap.push { cls := .type "dict", data := .dict #[] } } :=
    Ia.laid (t' := sb.toks) (fun _ _ z => Heap.get?_push_of_some _ z) (Nat.le_refl _) okD
  have fc : ∀ b ∈ fp, FpOk X pins (upd Ha sb.heap.objs.size (DO X.prog X.w sb.heap.objs.size [])) b ∧ b < (sb.heap.push { cls := .type "dict", data := .dict #[] }).objs.size := fun b hb => by
    obtain ⟨o, e, _⟩ := T.obj _ _ sta b hb
    have lt := Heap.lt_size e
    exact ⟨⟨by rw [upd_ne (Nat.ne_of_lt lt)]; exact (fa b hb).1, (fa b hb).2⟩, by rw [Heap.size_push]; exact Nat.lt_succ_of_lt lt⟩
  have stc : tn 0 (sb.heap.push { cls := .type "dict", data := .dict #[] }) := T.keep _ _ _ sta fun b _ o e => Heap.get?_push_of_some _ e
  generalize hD : sb.heap.objs.size = D at *
  generalize hHc : upd Ha D (DO X.prog X.w D []) = Hc at *
  generalize hsc : ({ sb with heap := sb.heap.push { cls := .type "dict", data := .dict #[] } } : Shared) = sc at Ic
  have hhc : sc.heap = sb.heap.push { cls := .type "dict", data := .dict #[] } := by rw [← hsc]
  rw [← hhc] at fc stc
  have Id := block_start Ic ok hN fc
  have pg := hg sc Hc sc.heap.objs.size (cellsFrom (sc.heap.objs.size + 1) scope.names (cloFrom X.env.cells scope.names [])) fp
  have pt := ht sc Hc sc.heap.objs.size (cellsFrom (sc.heap.objs.size + 1) scope.names (cloFrom X.env.cells scope.names [])) fp
  have pk := hk sc Hc sc.heap.objs.size (cellsFrom (sc.heap.objs.size + 1) scope.names (cloFrom X.env.cells scope.names [])) fp
  have pv' := hv sc Hc sc.heap.objs.size (cellsFrom (sc.heap.objs.size + 1) scope.names (cloFrom X.env.cells scope.names [])) fp
  show codeAny _ _ (.compStart (.DictComp kx vx [⟨tg, iter, ifs, 0⟩] scope pos) 0 (.ref it) (.ref D) (compEnvC scope (cellsFrom (sc.heap.objs.size + 1) scope.names (cloFrom X.env.cells scope.names [])) sc.heap.objs.size X.env)) (compPost (model X.prog X.w) X.A X.xe none _ (.ref D) sc.heap.objs.size) { sc with heap := pushCells (sc.heap.push { cls := .type "dict", data := .dict #[] }) scope.names }
  have nfp : ∀ b ∈ fp, Hc b = none := fun b hb => (fc b hb).1.1
  generalize hce : compEnvC scope (cellsFrom (sc.heap.objs.size + 1) scope.names (cloFrom X.env.cells scope.names [])) sc.heap.objs.size X.env = ce at Id pg pt pk pv' ⊢
  have cL : ce.locals = sc.heap.objs.size := by subst hce; rfl
  have std : tn 0 (pushCells (sc.heap.push { cls := .type "dict", data := .dict #[] }) scope.names) := T.keep _ _ _ stc fun b _ o e => pushCells_keeps _ _ _ _ (Heap.get?_push_of_some _ e)
  generalize hse : ({ sc with heap := pushCells (sc.heap.push { cls := .type "dict", data := .dict #[] }) scope.names } : Shared) = se at Id ⊢
  have ste : tn 0 se.heap := by rw [← hse]; exact std
  have stat : ∀ {σ' : L2.St} {H' : Hp} {s' : Shared}, Inv (X.blk sc Hc scope ce fp) [] σ' H' s' → (∀ b ∈ fp, H' b = none) → ∀ b ∈ fp, FpOk (X.blk sc Hc scope ce fp) [] H' b := fun {σ' H' s'} I' hn b hb =>
    ⟨hn b hb, (I'.ok.exf b hb).1, I'.ok.exfs b hb, .inl hb, fun x c e => (I'.ok.exf b hb).2 x c e, fun p hp => by cases hp⟩
  have loop : codeAny (model X.prog X.w) X.A (.compLoop (.DictComp kx vx [⟨tg, iter, ifs, 0⟩] scope pos) 0 (.ref it) (.ref D) ce) (compPost (model X.prog X.w) X.A X.xe none (EP X pins σ Q) (.ref D) sc.heap.objs.size) se := by
    refine compLoop_anyD (fun n s' => ∃ i H', Inv (X.blk sc Hc scope ce fp) [] (wipe σ (own.map (·.2))) H' s' ∧ tn i s'.heap ∧ (∀ b ∈ fp, H' b = none) ∧ W i n H') ?_ m0 ⟨0, Hc, Id, ste, nfp, w0⟩
    rintro n s5 ⟨i, H5, I5, st5, n5, w5⟩
    rcases turn i n H5 w5 with ⟨stop, qq⟩ | ⟨go, Nx, hNx, step⟩
    · refine thnF (T.done (X.blk sc Hc scope ce fp) rfl rfl rfl hc i [] s5 _ H5 (fun _ _ => False) I5 (stat I5 n5) st5 stop) fun r s6 ⟨hr, I6⟩ => ?_
      subst hr
      have I7 : Inv X pins σ H5 s6 := Ic.call' (ch := fp) I6.os I6.base I6.hok I6.bare fun b hb => ⟨(fc b hb).1.2.2.2.1, (fc b hb).1.2.1, (fc b hb).1.2.2.2.2.1, (fc b hb).1.2.2.2.2.2⟩
      have nC : H5 sc.heap.objs.size = none := by
        have z : H5 ce.locals = none := I6.free
        rw [cL] at z
        exact z
      obtain ⟨m, hn, _⟩ := I6.loc
      have hn : s6.heap.Ns ce.locals m := hn
      rw [cL] at hn
      obtain ⟨f0, f1, f2, f3, f4, f5⟩ := Ic.fpOk (Nat.le_refl _) nC
      exact ⟨m, hn, fun h'' sb => ⟨.ref D, H5, I7.turned (t' := s6.toks) (fun b o hb e => (sb.2 b hb).trans e) f0 f1 f3 f4 f5, rfl, qq⟩⟩
    · refine thnF (T.item (X.blk sc Hc scope ce fp) rfl rfl rfl hc i [] s5 _ H5 (fun _ _ => False) I5 (stat I5 n5) st5 go) fun r s6 ⟨u, hr, h6⟩ => ?_
      subst hr
      refine thnF h6 fun _ s7 ⟨x, H7, I7, r7, y7, st7, n7⟩ => ?_
      have I7' := I7.pinned (stat I7 n7) (T.obj _ _ st7)
      refine thnF (pg.run _ s7 _ H7 x u _ I7' r7 (step x H7 y7)) fun _ s8 ⟨σ8, H8, I8, hw8, q8⟩ => ?_
      refine thnF (pt.run _ s8 σ8 H8 _ I8 q8) fun b s9 ⟨H9, I9, q9⟩ => ?_
      have fin : ∀ {s' : Shared} {H' : Hp}, Inv (X.blk sc Hc scope ce fp) ([] ++ pinsAt fp s7.heap) σ8 H' s' → Nx H' → ∃ m, m < n ∧ ∃ i H', Inv (X.blk sc Hc scope ce fp) [] (wipe σ (own.map (·.2))) H' s' ∧ tn i s'.heap ∧ (∀ b ∈ fp, H' b = none) ∧ W i m H' := fun {s' H'} I' nx => by
        obtain ⟨m', hm, w'⟩ := hNx H' nx
        have pin' : ∀ b ∈ fp, ∀ o, s7.heap.get? b = some o → s'.heap.get? b = some o ∧ H' b = none := fun b hb o e => by
          have z := I'.pin (b, o) (List.mem_append_right _ (List.mem_append_right _ (mem_pinsAt hb e)))
          exact ⟨z.1, z.2.1⟩
        refine ⟨m', hm, i + 1, H', (I'.unpinned (pins := [])).weak (by rw [← hw8, wipe_length]) (fun j v e => ?_), T.keep _ _ _ st7 fun b hb o e => (pin' b hb o e).1, fun b hb => ?_, w'⟩
        · rw [← hw8] at e
          exact (wipe_some e).1
        · obtain ⟨o, e, _⟩ := T.obj _ _ st7 b hb
          exact (pin' b hb o e).2
      cases b with
      | false =>
        rw [if_neg Bool.false_ne_true] at q9 ⊢
        exact fin I9 q9
      | true =>
        rw [if_pos rfl] at q9 ⊢
        refine thnF (pk.run _ s9 σ8 H9 _ I9 q9) fun z s10 ⟨yk, H10, I10, r10, q10⟩ => ?_
        refine thnF (pv'.run _ s10 σ8 H10 _ I10 q10) fun z2 s11 ⟨yv, H11, I11, r11, a, q, kvs, k, v, e1, e2, t11, hk11, hv11, hz11, nx⟩ => ?_
        subst e1 e2
        cases r10
        cases r11
        exact dset_nd (Y := X.blk sc Hc scope ce fp) hu I11 t11 hk11 hv11 hz11 fun H12 s12 t12 b12 I12 => fin I12 (nx H12 t12 b12)
  exact codeAny_compStart_dict loop (T.self X.A 0 _ _ _ ste loop)
/-- over the pairs of a dict that is locked: Pv by the turn and the heap -/
theorem dc_pairs {P : Program} {w : World} {d : Addr} {od : Obj} {xs : List En} {g : TG} {tt : TT} {tk tv : TE} {vs : List Nat} {σ : L2.St} {H1 : Hp} {D : Addr} {Qd : Hp → Prop} (Pv : Nat → Hp → Prop) (h0 : Pv 0 H1) (hl : ∀ i H, i ≤ xs.length → Pv i H → Lk P w H d od xs)
    (hs : ∀ i x H T, xs[i]? = some x → Pv i H → H T = none → g (.ref T) (wipe σ vs) (upd H T (.tup [.ref x.2.1, .ref x.2.2])) (dcTurn P w tt tk tv vs σ D (Pv (i + 1)))) (hd : ∀ H, Pv xs.length H → Qd H) :
    ∃ W : Nat → Nat → Hp → Prop, (∃ m, W 0 m H1) ∧ ∀ i m H, W i m H →
      ((ItP P w d od xs).stop i H ∧ Qd H) ∨ ((ItP P w d od xs).go i H ∧ ∃ Nx : Hp → Prop, (∀ H', Nx H' → ∃ m', m' < m ∧ W (i + 1) m' H') ∧ ∀ x H', (ItP P w d od xs).yld i H x H' → g x (wipe σ vs) H' (dcTurn P w tt tk tv vs σ D Nx)) := by
  refine ⟨fun i m H => m = xs.length - i ∧ i ≤ xs.length ∧ Pv i H, ⟨xs.length, by omega, Nat.zero_le _, h0⟩, ?_⟩
  rintro i m H ⟨rfl, hi, p⟩
  by_cases hlt : i < xs.length
  · refine .inr ⟨⟨hl i H hi p, hlt⟩, Pv (i + 1), fun H' p' => ⟨xs.length - (i + 1), by omega, rfl, hlt, p'⟩, fun v H' y => ?_⟩
    obtain ⟨T, x, rfl, nT, rfl, hx⟩ := y
    exact hs i x H T hx p nT
  · have e : i = xs.length := by omega
    subst e
    exact .inl ⟨⟨hl _ H hi p, Nat.le_refl _⟩, hd H p⟩
end
end Nd

set_option Elab.async false
set_option linter.all false
set_option maxRecDepth 100000
set_option maxHeartbeats 4000000
namespace Nd
open PySem PySem.Spec PyProof.Rows L2
section
variable {X : Cx} {pins : List (Addr × Obj)} {σ : L2.St} {H : Hp} {s : Shared} {d : Addr}
/-- dict(d): no two keys hash alike -/
def rDictN (P : Program) (w : World) : List V → Hp → VK → Prop := fun vs H Q => ∃ d kvs, vs = [.ref d] ∧ TD P w H d kvs ∧ (kvs.map fun p => (nk p.1).hash w).Nodup ∧ ∀ p H', H p = none → TM P w H' p kvs → Bt p H H' → Q (.ref p) H'
theorem rel_hash {H : Hp} {w : World} {kvs : List (K2 × K2)} {xs : List En} (r : Rel H kvs xs) : (xs.map cv).map (fun x => x.1.hash w) = kvs.map fun p => (nk p.1).hash w := by
  induction r with
  | nil => rfl
  | cons z _ ih => rw [List.map_cons, List.map_cons, List.map_cons, ih, z.1] <;> rfl
theorem rel_tup (I : Inv X pins σ H s) {kvs : List (K2 × K2)} {xs : List En} (r : Rel H kvs xs) : ∀ y ∈ xs.map cv, s.TypeIs (.ref y.2.1) "tuple" := fun y hy =>
  nestedKind_stays.tuple (rel_keys (P := X.prog) (w := X.w) I.hok r y hy)
theorem call_dictN (hu0 : X.A.units + 64 < cLine) : CallR X (.type "dict") (rDictN X.prog X.w) := by
  intro pins s σ H vs us Q I r h
  obtain ⟨d, kvs, rfl, t, hh, fin⟩ := h
  obtain ⟨u, rfl, ru⟩ := L2.vals1 r
  cases ru
  obtain ⟨hsm, xs, hd, rr, hl, hn, hx⟩ := td_heap I.hok t
  have hlt : d < s.heap.objs.size := by
    obtain ⟨o, _, _, e, _⟩ := id hx
    exact Heap.lt_size e
  refine callType_codes (Q₁ := fun obj s₁ => obj = .ref s.heap.objs.size ∧ s₁ = { s with heap := s.heap.push { cls := .type "dict", data := .dict #[] } }) PySem.F.kt_called_dict (PySem.F.kt_typeCall_dict_1 _) PySem.F.entry_dict_init (kt_code_dict_new _ ⟨rfl, rfl⟩) ?_
  rintro obj s₁ ⟨rfl, rfl⟩
  have hT : Shared.TypeIs { s with heap := s.heap.push { cls := .type "dict", data := .dict #[] } } (.ref s.heap.objs.size) "dict" := ⟨_, Heap.get?_push_size _ rfl, rfl⟩
  refine ⟨hT, PySem.F.args_dict_init_2 _ _, ?_⟩
  unfold Builtin.«dict.__init__»
  refine wpAny_bind ?_
  unfold Builtin.Dict.selfAndRest
  refine wpAny_bind (wpAny_notOrdered_dict hT ?_)
  show wpAny _ _ (pure (s.heap.objs.size, [Value.ref d])) _ _ _
  refine wpAny_pure ?_
  have keep : ∀ b o, s.heap.get? b = some o → (s.heap.push { cls := .type "dict", data := .dict #[] }).get? b = some o := fun b o e => Heap.get?_push_of_some _ e
  have hx' : (s.heap.push { cls := .type "dict", data := .dict #[] }).DictOfH (nestedKind X.prog X.w) d (xs.map cv) :=
    hx.at' (fun o e => keep _ _ e) fun y hy => nestedKind_stays.stays (fun b o _ _ e _ => keep b o e) (rel_keys I.hok rr y hy)
  have room : (nestedKind X.prog X.w).room X.A.in1.in1 := by show X.A.units + 1 + 1 + 8 < cLine; omega
  have hne : s.heap.objs.size ≠ d := Nat.ne_of_gt hlt
  have tup : ∀ y ∈ xs.map cv, Shared.TypeIs { s with heap := s.heap.push { cls := .type "dict", data := .dict #[] } } (.ref y.2.1) "tuple" := fun y hy => by
    obtain ⟨o, h1, h2⟩ := rel_tup I rr y hy
    exact ⟨o, keep _ _ h1, h2⟩
  refine updateFrom_dictH (A := X.A.in1) (kvs := []) (more := xs.map cv) .none room hne hsm (Heap.DictOfH.new s.heap) hx' (.inr ⟨tup, by rw [show ((xs.map cv).map fun x => (nestedKind X.prog X.w).hash x.1) = kvs.map fun p => (nk p.1).hash X.w from rel_hash rr]; exact hh⟩) (by rw [List.length_map]; simpa using hl) fun h' hd' ho' hs' => ?_
  rw [storedAllH_nil_of_nodup _ (cv_nodup hn)] at hd'
  obtain ⟨o, es, ep, g1, g2, g3, g4, _, _⟩ := hd'
  have okD : ObjOk X.prog X.w (upd H s.heap.objs.size (DO X.prog X.w s.heap.objs.size xs)) h' s.heap.objs.size (DO X.prog X.w s.heap.objs.size xs) :=
    do_ok (beq_eq_false_iff_ne.mpr (Ne.symm (Nat.ne_of_lt I.big))) hl hn ⟨o, es, ep, g1, g2, g3, g4⟩
  have hp := I.hok.fresh (Nat.le_refl _)
  have tk : Tk H (upd H s.heap.objs.size (DO X.prog X.w s.heap.objs.size xs)) := fun b ys e => by rw [upd_ne (ne_of_none e hp)]; exact e
  exact ⟨rfl, .ref s.heap.objs.size, _, I.laid (t' := s.toks) (fun b ob e => hs'.extBut b ob (Nat.ne_of_lt (Heap.lt_size e)) (keep b ob e)) (Nat.le_refl _) okD, rfl, fin _ _ hp ⟨xs, upd_same, rr.tk tk⟩ fun b hb => upd_ne hb⟩
/-! ### sorted(a list of pairs) -/
abbrev Prs (H : Hp) : List K2 → List Addr → Prop := Paired fun k a => Pr H a k
def rSortN : List V → Hp → VK → Prop := fun vs H Q => ∃ l ks as, vs = [.ref l] ∧ H l = some (.lst (as.map V.ref)) ∧ Prs H ks as ∧ ∀ p ks' as', H p = none → ks'.Perm ks → Prs H ks' as' → Q (.ref p) (upd H p (.lst (as'.map V.ref)))
theorem prs_mem {H : Hp} {ks : List K2} {as : List Addr} (r : Prs H ks as) : ∀ q ∈ ks.zip as, Pr H q.2 q.1 := by
  induction r with
  | nil => intro q hq; cases hq
  | cons h _ ih =>
    intro q hq
    rcases List.mem_cons.mp hq with rfl | hq
    · exact h
    · exact ih q hq
theorem prs_of {H : Hp} : ∀ {qs : List (K2 × Addr)}, (∀ q ∈ qs, Pr H q.2 q.1) → Prs H (qs.map (·.1)) (qs.map (·.2))
  | [], _ => .nil
  | q :: qs, h => .cons (h q List.mem_cons_self) (prs_of fun r hr => h r (List.mem_cons_of_mem _ hr))
theorem each_of {R : Value → (K2 × Addr) → Prop} : ∀ {qs : List (K2 × Addr)} {f : K2 × Addr → Value}, (∀ q ∈ qs, R (f q) q) → PySem.W.EachIs R (qs.map f) qs
  | [], _, _ => .nil
  | q :: qs, f, h => .cons (h q List.mem_cons_self) (each_of fun r hr => h r (List.mem_cons_of_mem _ hr))
theorem of_each {qs : List (K2 × Addr)} {out : List Value} (h : PySem.W.EachIs (fun v (q : K2 × Addr) => v = Value.ref q.2) out qs) : out = (qs.map (·.2)).map Value.ref := by
  induction h with
  | nil => rfl
  | cons e _ ih => rw [List.map_cons, List.map_cons, ← ih, e]
theorem alike_rd (a b : Rw) : PySem.W.alike (rd a) (rd b) = true := by
  show PySem.W.alikeAll (a.map .int) (b.map .int) = true
  exact PySem.W.alike_ints a b
theorem depth_pd (k : K2) : (pd k).depth ≤ 4 := by
  have h := dAll_ints k.1
  have h' := dAll_ints k.2
  unfold pd rd
  simp only [PyData.depth, PyData.depthAll]
  omega
theorem zip_fst : ∀ {ks : List K2} {as : List Addr}, ks.length = as.length → (ks.zip as).map (·.1) = ks
  | [], _, _ => rfl
  | k :: ks, [], h => by cases h
  | k :: ks, a :: as, h => by rw [List.zip_cons_cons, List.map_cons, zip_fst (Nat.succ.inj h)]
theorem zip_snd : ∀ {ks : List K2} {as : List Addr}, ks.length = as.length → (ks.zip as).map (·.2) = as
  | [], [], _ => rfl
  | [], _ :: _, h => by cases h
  | k :: ks, [], h => by cases h
  | k :: ks, a :: as, h => by rw [List.zip_cons_cons, List.map_cons, zip_snd (Nat.succ.inj h)]
theorem call_sortN (hu : X.A.units + 64 < cLine) : CallR X (.builtin "sorted") rSortN := by
  intro pins s σ H vs us Q I r h
  obtain ⟨l, ks, as, rfl, hL, hp, fin⟩ := h
  obtain ⟨u, rfl, ru⟩ := L2.vals1 r
  cases ru
  obtain ⟨hz, its, n, rv, hl⟩ := (show ObjOk X.prog X.w H s.heap l (.lst (as.map V.ref)) from I.hok l _ hL)
  have hlen : ks.length = as.length := Paired.length hp
  have hits : its = (ks.zip as).map fun q => Value.ref q.2 := by
    have h1 : Vals (as.map V.ref) (as.map Value.ref) := vals_refs as
    have h2 : ∀ {xs : List Addr} {us : List Value}, Vals (xs.map V.ref) us → us = xs.map Value.ref := by
      intro xs
      induction xs with
      | nil => intro us v; cases v; rfl
      | cons x xs ih =>
        intro us v
        cases v with
        | cons a b => rw [List.map_cons, ← ih b, show _ = Value.ref x from a]
    have e := h2 rv
    rw [e, show ((ks.zip as).map fun q => Value.ref q.2) = ((ks.zip as).map (·.2)).map Value.ref by rw [List.map_map]; rfl, zip_snd hlen]
  subst hits
  have hz' : (ks.zip as).length ≤ sizeLine := by
    rw [List.length_map] at hz
    rw [List.length_zip]
    omega
  refine PySem.W.sorted_data (β := K2 × Addr) (enc := fun q => pd q.1) (R := fun v q => v = Value.ref q.2) (bs := ks.zip as) ⟨_, hl, rfl, n, rfl⟩ (each_of fun q _ => rfl) (each_of fun q hq => ?_) (PySem.W.AllAlike.of fun b b' => ?_) (PySem.W.Sortable.tuples fun b => ⟨_, _, rfl⟩) hz' (fun b _ => ?_) fun out ho eo => ?_
  · exact Dp.reads I (pd q.1) (.ref q.2) (.ref q.2) (dp_pair (prs_mem hp q hq)) rfl
  · unfold pd
    show (PySem.W.alike (rd b.1.1) (rd b'.1.1) && (PySem.W.alike (rd b.1.2) (rd b'.1.2) && true)) = true
    rw [alike_rd, alike_rd] <;> rfl
  · have := depth_pd b.1
    show X.A.units + 2 + (pd b.1).depth < cLine
    omega
  · have e := of_each eo
    subst e
    generalize hms : (ks.zip as).mergeSort (PySem.W.dataLe false fun q => pd q.1) = ms at *
    have perm : ms.Perm (ks.zip as) := by rw [← hms]; exact List.mergeSort_perm _ _
    have all : ∀ q ∈ ms, Pr H q.2 q.1 := fun q hq => prs_mem hp q (perm.mem_iff.mp hq)
    have hks : (ms.map (·.1)).Perm ks := by
      have := perm.map (·.1)
      rw [zip_fst hlen] at this
      exact this
    have hml : ms.length ≤ sizeLine := by rw [perm.length_eq]; exact hz'
    refine ⟨.ref (s.heap.objs.size + 1), upd H (s.heap.objs.size + 1) (.lst ((ms.map (·.2)).map V.ref)), ?_, rfl, fin _ _ _ (I.hok.fresh (Nat.le_succ _)) hks (prs_of all)⟩
    obtain ⟨c, hc⟩ := sortedAll_at s.heap ((ks.zip as).map fun q => Value.ref q.2) ((ms.map (·.2)).map Value.ref).toArray
    exact I.laid (t' := s.toks) (fun b o e => sortedAll_old e) (Nat.le_succ _) ⟨by rw [List.length_map, List.length_map]; exact hml, (ms.map (·.2)).map Value.ref, c, vals_refs _, hc⟩
end
end Nd

set_option Elab.async false
set_option linter.all false
set_option maxRecDepth 100000
set_option maxHeartbeats 0
/-! No two keys that a book can have hash alike (computed in the kernel). -/
namespace Nd
open PySem
/-- all rows of n to m sounds below s -/
def rowsN (s : Nat) : Nat → List Rw
  | 0 => [[]]
  | n + 1 => (List.range s).flatMap fun (i : Nat) => (rowsN s n).map fun r => (i : Int) :: r
def rowsUp (s : Nat) : Nat → List Rw
  | 0 => []
  | n + 1 => rowsUp s n ++ rowsN s (n + 1)
def rowH (r : Rw) : Int := reduceHash (Builtin.Tuple.tupleHashOf (r.map hashInt))
def pairH (a b : Int) : Int := reduceHash (Builtin.Tuple.tupleHashOf [a, b])
def keyH (k : K2) : Int := pairH (rowH k.1) (rowH k.2)
theorem hashes_num (w : World) : ∀ r : Rw, NestedKey.hashes w (r.map .num) = r.map hashInt
  | [] => by simp [NestedKey.hashes]
  | i :: r => by
    rw [List.map_cons, NestedKey.hashes, hashes_num w r, NestedKey.hash]
    rfl
theorem hash_nk (w : World) (k : K2) : (nk k).hash w = keyH k := by
  unfold nk nr keyH pairH rowH
  simp only [NestedKey.hash, NestedKey.hashes, hashes_num]
/-! ### the check -/
def frcI {α : Type} (i : Int) (f : Int → α) : α := match i with
  | .ofNat 0 => f (.ofNat 0)
  | .ofNat (n + 1) => f (.ofNat (n + 1))
  | .negSucc 0 => f (.negSucc 0)
  | .negSucc (n + 1) => f (.negSucc (n + 1))
theorem frcI_eq {α : Type} (i : Int) (f : Int → α) : frcI i f = f i := by
  unfold frcI
  split <;> rfl
def frcN {α : Type} (n : Nat) (f : Nat → α) : α := match n with
  | 0 => f 0
  | m + 1 => f (m + 1)
theorem frcN_eq {α : Type} (n : Nat) (f : Nat → α) : frcN n f = f n := by cases n <;> rfl
def codeN (i : Int) : Nat := (i + 9223372036854775808).toNat
/-- the codes of all pairs -/
def codesR (a : Int) : List Int → List Nat → List Nat
  | [], acc => acc
  | b :: r, acc => frcN (codeN (pairH a b)) fun c => codesR a r (c :: acc)
def codesA (bs : List Int) : List Int → List Nat → List Nat
  | [], acc => acc
  | a :: r, acc => codesA bs r (codesR a bs acc)
def splitB : List Nat → List Nat → List Nat → (List Nat → List Nat → Bool) → Bool
  | [], e, o, k => k e o
  | x :: r, e, o, k => match x % 2 with
    | 0 => frcN (x / 2) fun y => splitB r (y :: e) o k
    | _ => frcN (x / 2) fun y => splitB r e (y :: o) k
def apartB : Nat → List Nat → Bool
  | 0, l => match l with
    | [] => true
    | [_] => true
    | _ => false
  | f + 1, l => match l with
    | [] => true
    | [_] => true
    | x :: y :: r => splitB (x :: y :: r) [] [] fun e o => match apartB f e with
      | true => apartB f o
      | false => false
def litA0 : List Int := [-8753497827991233192, -6644214454873602895, 6909455589863252355, -8458139203682520985, -1950498447580522560, 7204814214171964562, -5164621852614943976, 8389048192121911274, -3550055125485641917, 4685526799349444076, 6794810172467074373, 1901736143494378007, 3010437511937009226, -1882636517035687140, 226646856081943157, 7619408953831620358, -4319694363775932833, 2187946392326065592, 4753388729894279496, 6862672103011909793, -5076431214595643398, 7839147235533974352, 2946073206561277986, -8993030111046275205, -757448186211189212, 5750192569890809213, -3541238842066255281, -3194506032951434905, 3313134723150563520, -1579939305822132846]
def litA1 : List Int := [5744133208557280471, 7853416581674910768, 2960342552702214402, 9037650559624857480, -7299810140967063839, 6253859903769791411, -3957302245104674212, 2550338510997324213, -2342735517975372153, -3226225171056353554, 5929087490696133568, -6010015826911419623, 2225566097923666370, 8733206854025664795, 3840132825052968429, 5519083448991243379, 626009420018547013, 7133650176120545438, 6917473940299867721, -5021629377307685470, -2912346004190055173, 4480416093559622028, -7458687224047931163, -951046467945932738, 2043358246819376335, 8550999002921374760, -3388104314686178431, 350290352649326483, -8941141059307738011, -2433500303205739586]
def litA2 : List Int := [-7756907081357791299, -5647623708240161002, 860017047861837423, 8252779145611514624, -3686324171996038567, 2821316584105959858, 2338065862577075610, 8845706618679074035, -445724793277990459, -6258529559168087954, -4149246186050457657, 2358394570051540768, -8695587405908333647, -2187946649806335222, -78663276688704925, 7245409237690708392, 2352335208718012026, 8859975964820010451, 9206708773934830827, -84722638022233667, 6422918118079764758, 8988360455647978662, -2950742861959574529, 3556897894142423896, -8946484840382887566, -2438844084280889141, -7331918113253585507, -6985185304138765131, -4875901931021134834, 8677768113715720416]
def litA3 : List Int := [-1533394035158745207, 4974246720943253218, 81172691970556852, 6860383632667078926, 8969667005784709223, 4076592976812012857, -8292843089974895681, 5260826954761959569, 7370110327879589866, 1557305561989492371, 3666588935107122668, -1226485093865573698, -6757650717445507564, -250009961343509139, 1859273411774121158, -3464133366377930555, 3043507389724067870, -6247924022232996624, 6386015285586457497, 8495298658704087794, 3602224629731391428, 3880267855475947920, -1012806173496748446, 5494834582605249979, 8489239297370559052, -3449864020236994139, 3057776735865004286, -7153385413009461337, 6400284631727393913, -5538818685880159278]
def litA : List Int := litA0 ++ litA1 ++ litA2 ++ litA3
def litB0 : List Int := [-8753497827991233192, -6644214454873602895, 6909455589863252355, -5029647727744300836, 8524022316992554414, -7813438383599366905, -1305797627497368480, -6198871656470064846]
def litB : List Int := litB0
theorem litA_eq : (rowsUp 3 4).map rowH = litA := by decide +kernel
theorem litB_eq : (rowsUp 8 1).map rowH = litB := by decide +kernel
theorem checkB : apartB 64 (codesA litB litB []) = true := by decide +kernel
theorem checkA : apartB 64 (codesA litA litA []) = true := by decide +kernel
/-! ### what the check says -/
theorem splitB_ok : ∀ (l e o : List Nat) (k : List Nat → List Nat → Bool), splitB l e o k = k (((l.filter fun x => x % 2 == 0).map (· / 2)).reverse ++ e) (((l.filter fun x => !(x % 2 == 0)).map (· / 2)).reverse ++ o)
  | [], e, o, k => rfl
  | x :: r, e, o, k => by
    have h : x % 2 = 0 ∨ x % 2 = 1 := by omega
    unfold splitB
    rcases h with h | h
    · rw [h]
      show (frcN (x / 2) fun y => splitB r (y :: e) o k) = _
      rw [frcN_eq, splitB_ok r]
      simp [h]
    · rw [h]
      show (frcN (x / 2) fun y => splitB r e (y :: o) k) = _
      rw [frcN_eq, splitB_ok r]
      simp [h]
theorem nodup_split : ∀ l : List Nat, ((l.filter fun x => x % 2 == 0).map (· / 2)).Nodup → ((l.filter fun x => !(x % 2 == 0)).map (· / 2)).Nodup → l.Nodup
  | [], _, _ => List.nodup_nil
  | x :: r, he, ho => by
    have h : x % 2 = 0 ∨ x % 2 = 1 := by omega
    rw [List.nodup_cons]
    rcases h with h | h
    · rw [List.filter_cons_of_pos (by simp [h]), List.map_cons, List.nodup_cons] at he
      rw [List.filter_cons_of_neg (by simp [h])] at ho
      exact ⟨fun hm => he.1 (List.mem_map.mpr ⟨x, List.mem_filter.mpr ⟨hm, by simp [h]⟩, rfl⟩), nodup_split r he.2 ho⟩
    · rw [List.filter_cons_of_neg (by simp [h])] at he
      rw [List.filter_cons_of_pos (by simp [h]), List.map_cons, List.nodup_cons] at ho
      exact ⟨fun hm => ho.1 (List.mem_map.mpr ⟨x, List.mem_filter.mpr ⟨hm, by simp [h]⟩, rfl⟩), nodup_split r he ho.2⟩
theorem apartB_ok : ∀ (f : Nat) (l : List Nat), apartB f l = true → l.Nodup
  | 0, [], _ => List.nodup_nil
  | 0, [_], _ => by simp
  | 0, _ :: _ :: _, h => by cases h
  | f + 1, [], _ => List.nodup_nil
  | f + 1, [_], _ => by simp
  | f + 1, x :: y :: r, h => by
    have h : splitB (x :: y :: r) [] [] (fun e o => match apartB f e with | true => apartB f o | false => false) = true := h
    rw [splitB_ok] at h
    rw [List.append_nil, List.append_nil] at h
    generalize hl : x :: y :: r = l at h ⊢
    cases he : apartB f ((l.filter fun x => x % 2 == 0).map (· / 2)).reverse with
    | false =>
      rw [he] at h
      cases h
    | true =>
      rw [he] at h
      refine nodup_split l ?_ ?_
      · exact (List.reverse_perm _).nodup_iff.mp (apartB_ok f _ he)
      · exact (List.reverse_perm _).nodup_iff.mp (apartB_ok f _ h)
theorem codesR_perm (a : Int) : ∀ (bs : List Int) (acc : List Nat), (codesR a bs acc).Perm (bs.map (fun b => codeN (pairH a b)) ++ acc)
  | [], acc => List.Perm.refl _
  | b :: r, acc => by
    unfold codesR
    rw [frcN_eq, List.map_cons, List.cons_append]
    exact (codesR_perm a r _).trans List.perm_middle
theorem codesA_perm (bs : List Int) : ∀ (as : List Int) (acc : List Nat), (codesA bs as acc).Perm (as.flatMap (fun a => bs.map fun b => codeN (pairH a b)) ++ acc)
  | [], acc => List.Perm.refl _
  | a :: r, acc => by
    unfold codesA
    rw [List.flatMap_cons]
    refine (codesA_perm bs r _).trans (((codesR_perm a bs acc).append_left _).trans ?_)
    rw [← List.append_assoc]
    exact List.Perm.append_right _ List.perm_append_comm
theorem flat_map_comp (f : Rw → Int) (g : Int → Int → Nat) (bs : List Rw) : ∀ as : List Rw, (as.map f).flatMap (fun a => (bs.map f).map fun b => g a b) = (as.flatMap fun a => bs.map fun b => (a, b)).map fun k => g (f k.1) (f k.2)
  | [] => rfl
  | a :: as => by
    rw [List.map_cons, List.flatMap_cons, List.flatMap_cons, List.map_append, flat_map_comp f g bs as, List.map_map, List.map_map]
    rfl
theorem inj_of_nodup {α β : Type} {f : α → β} : ∀ {l : List α}, (l.map f).Nodup → ∀ {x y : α}, x ∈ l → y ∈ l → f x = f y → x = y
  | [], _, _, _, hx, _, _ => by cases hx
  | a :: l, hn, x, y, hx, hy, e => by
    rw [List.map_cons, List.nodup_cons] at hn
    rcases List.mem_cons.mp hx with e1 | hx1
    · rcases List.mem_cons.mp hy with e2 | hy1
      · rw [e1, e2]
      · exact (hn.1 (List.mem_map.mpr ⟨y, hy1, by rw [← e, e1]⟩)).elim
    · rcases List.mem_cons.mp hy with e2 | hy1
      · exact (hn.1 (List.mem_map.mpr ⟨x, hx1, by rw [e, e2]⟩)).elim
      · exact inj_of_nodup hn.2 hx1 hy1 e
theorem keyH_apart {rows : List Rw} {lit : List Int} (he : rows.map rowH = lit) (hc : apartB 64 (codesA lit lit []) = true) {k l : K2} (h1 : k.1 ∈ rows) (h2 : k.2 ∈ rows) (h3 : l.1 ∈ rows) (h4 : l.2 ∈ rows) (e : keyH k = keyH l) : k = l := by
  subst he
  have n := (codesA_perm _ _ _).nodup_iff.mp (apartB_ok 64 _ hc)
  rw [List.append_nil, flat_map_comp rowH (fun a b => codeN (pairH a b)) rows rows] at n
  refine inj_of_nodup n (List.mem_flatMap.mpr ⟨k.1, h1, List.mem_map.mpr ⟨k.2, h2, rfl⟩⟩) (List.mem_flatMap.mpr ⟨l.1, h3, List.mem_map.mpr ⟨l.2, h4, rfl⟩⟩) ?_
  show codeN (keyH k) = codeN (keyH l)
  rw [e]
/-- a row of 1 to m sounds below s -/
def okR (s m : Nat) (r : Rw) : Prop := 1 ≤ r.length ∧ r.length ≤ m ∧ ∀ x ∈ r, 0 ≤ x ∧ x < (s : Int)
theorem mem_rowsN (s : Nat) : ∀ (n : Nat) (r : Rw), r.length = n → (∀ x ∈ r, 0 ≤ x ∧ x < (s : Int)) → r ∈ rowsN s n
  | 0, r, h, _ => by
    rw [List.length_eq_zero_iff.mp h]
    exact List.mem_singleton.mpr rfl
  | n + 1, [], h, _ => by cases h
  | n + 1, x :: r, h, hx => by
    obtain ⟨h0, h1⟩ := hx x List.mem_cons_self
    refine List.mem_flatMap.mpr ⟨x.toNat, List.mem_range.mpr (by omega), List.mem_map.mpr ⟨r, mem_rowsN s n r (Nat.succ.inj h) fun y hy => hx y (List.mem_cons_of_mem _ hy), ?_⟩⟩
    rw [show ((x.toNat : Nat) : Int) = x by omega]
theorem mem_rowsUp (s : Nat) : ∀ (m : Nat) (r : Rw), okR s m r → r ∈ rowsUp s m
  | 0, r, h => by
    have := h.1
    have := h.2.1
    omega
  | m + 1, r, h => by
    unfold rowsUp
    by_cases e : r.length = m + 1
    · exact List.mem_append_right _ (mem_rowsN s (m + 1) r e h.2.2)
    · exact List.mem_append_left _ (mem_rowsUp s m r ⟨h.1, by have := h.2.1; omega, h.2.2⟩)
/-- a key of a book of s sounds that looks at a ahead and at b behind -/
def okK (s a b : Nat) (k : K2) : Prop := okR s a k.1 ∧ okR s b k.2
theorem okR.mono {s s' m m' : Nat} {r : Rw} (h : okR s m r) (hs : s ≤ s') (hm : m ≤ m') : okR s' m' r :=
  ⟨h.1, Nat.le_trans h.2.1 hm, fun x hx => ⟨(h.2.2 x hx).1, by have := (h.2.2 x hx).2; omega⟩⟩
/-- the sizes that the drawn books have -/
def okS (s a b : Nat) : Prop := 1 ≤ s ∧ 1 ≤ a ∧ 1 ≤ b ∧ ((s ≤ 3 ∧ a ≤ 4 ∧ b ≤ 4) ∨ (s ≤ 8 ∧ a = 1 ∧ b = 1))
theorem hash_apart (w : World) {s a b : Nat} (hs : okS s a b) {k l : K2} (hk : okK s a b k) (hl : okK s a b l) (e : (nk k).hash w = (nk l).hash w) : k = l := by
  rw [hash_nk, hash_nk] at e
  obtain ⟨_, _, _, ⟨q1, q2, q3⟩ | ⟨q1, rfl, rfl⟩⟩ := hs
  · exact keyH_apart litA_eq checkA (mem_rowsUp 3 4 _ (hk.1.mono q1 q2)) (mem_rowsUp 3 4 _ (hk.2.mono q1 q3)) (mem_rowsUp 3 4 _ (hl.1.mono q1 q2)) (mem_rowsUp 3 4 _ (hl.2.mono q1 q3)) e
  · exact keyH_apart litB_eq checkB (mem_rowsUp 8 1 _ (hk.1.mono q1 (Nat.le_refl _))) (mem_rowsUp 8 1 _ (hk.2.mono q1 (Nat.le_refl _))) (mem_rowsUp 8 1 _ (hl.1.mono q1 (Nat.le_refl _))) (mem_rowsUp 8 1 _ (hl.2.mono q1 (Nat.le_refl _))) e
theorem hash_nodup (w : World) {s a b : Nat} (hs : okS s a b) : ∀ {kvs : List (K2 × K2)}, (kvs.map (·.1)).Nodup → (∀ p ∈ kvs, okK s a b p.1) → (kvs.map fun p => (nk p.1).hash w).Nodup
  | [], _, _ => List.nodup_nil
  | p :: r, hn, hk => by
    rw [List.map_cons, List.nodup_cons] at hn ⊢
    refine ⟨fun hm => hn.1 ?_, hash_nodup w hs hn.2 fun q hq => hk q (List.mem_cons_of_mem _ hq)⟩
    obtain ⟨q, hq, e⟩ := List.mem_map.mp hm
    have e2 := hash_apart w hs (hk q (List.mem_cons_of_mem _ hq)) (hk p List.mem_cons_self) e
    exact List.mem_map.mpr ⟨q, hq, e2⟩
end Nd

set_option Elab.async false
set_option linter.all false
set_option maxRecDepth 100000
set_option maxHeartbeats 4000000
/-! The text by places; each def as a datum. -/
namespace Seam
open PySem PySem.Spec PyProof.Rows L2 Nd
def top (i : Nat) : Stmt := PySem.Challenge.pw_heardseams_k20_whole_books_one_behind_an.main.body.getD i (.Pass ⟨0, 0, 0, 0⟩)
abbrev s_is_integer : Stmt := top 9
abbrev s_is_between : Stmt := top 10
abbrev s_is_index : Stmt := top 11
abbrev s_is_sounds : Stmt := top 16
abbrev s_is_side_pair : Stmt := top 17
abbrev s_is_table : Stmt := top 18
abbrev s_check_sizes : Stmt := top 19
abbrev s_Book__init : Stmt := inClass (top 20) 0
abbrev s_Book_keep : Stmt := inClass (top 20) 1
abbrev s_Book_sounds : Stmt := inClass (top 20) 2
abbrev s_Book_ahead : Stmt := inClass (top 20) 3
abbrev s_Book_behind : Stmt := inClass (top 20) 4
abbrev s_Book_table : Stmt := inClass (top 20) 5
abbrev s_Book_parts : Stmt := inClass (top 20) 7
abbrev s_Book__eq : Stmt := inClass (top 20) 8
abbrev s_RawBook__init : Stmt := inClass (top 21) 0
abbrev s_told : Stmt := top 22
abbrev s_one_behind_another : Stmt := top 23
abbrev s_Joinings__init : Stmt := inClass (top 26) 0
abbrev s_is_fair : Stmt := top 27
abbrev s_is_shape : Stmt := top 28
abbrev s_check_shape_for : Stmt := top 30
abbrev s_is_word : Stmt := top 34
abbrev s_check_words : Stmt := top 35
abbrev s_check_phrase : Stmt := top 36
abbrev s_joined_rows : Stmt := top 37
abbrev s_inner_first : Stmt := top 38
abbrev s_Sayer__init : Stmt := inClass (top 39) 0
abbrev s_Sayer_join : Stmt := inClass (top 39) 1
abbrev s_Sayer_say : Stmt := inClass (top 39) 2
abbrev s_said_row : Stmt := top 40
abbrev s_said : Stmt := top 41
abbrev s_check_row : Stmt := top 42
abbrev s_met : Stmt := top 43
abbrev s_law_dice : Stmt := top 45
abbrev s_law_draw : Stmt := top 46
abbrev s_law_shape : Stmt := top 47
abbrev s_law_side : Stmt := top 50
abbrev s_law_like : Stmt := top 51
abbrev s_law_rows : Stmt := top 52
abbrev s_law_great_book : Stmt := top 53
abbrev s_law_book : Stmt := top 54
abbrev s_law_made : Stmt := top 55
abbrev s_law_row : Stmt := top 56
abbrev s_law_words : Stmt := top 57
abbrev s_law_meet : Stmt := top 58
abbrev s_law_told : Stmt := top 59
abbrev s_law_both : Stmt := top 60
abbrev s_law_table : Stmt := top 61
abbrev s_law_second : Stmt := top 62
abbrev s_law : Stmt := top 63
/-- a def without defaults -/
abbrev FnP (K : PySem.W.Frag) (x qual : Str) (st : Stmt) (f : Addr) (fd : FuncData) : Prop := FunD K x qual (defArgs st) (defBody st) (defScope st) [] [] f fd
section
variable {P : Program} {w : World} {K : PySem.W.Frag} {mg : Str → Option Value} {base : Heap}
theorem FnP.fn {x qual : Str} {st : Stmt} {f : Addr} {fd : FuncData} (F : FnP K x qual st f fd) : Fun K x qual st f fd := by
  obtain ⟨⟨oc, od, dV, kV, doc, pm, an, cdv, ct, osl, h1, h2, h3, h4, _⟩, kp⟩ := F
  rcases h4 with ⟨_, rfl⟩ | ⟨e, _⟩
  · exact ⟨⟨oc, od, kV, doc, pm, an, cdv, ct, osl, h1, h2, h3⟩, kp⟩
  · exact absurd rfl e
end
end Seam

set_option Elab.async false
set_option linter.all false
set_option maxRecDepth 100000
set_option maxHeartbeats 4000000
namespace Seam
open PySem PySem.Spec PyProof.Rows L2 Nd
/-! ### a def that may be called by its name, a method, a class that is made by its __init__ -/
section
variable (P : Program) (w : World) (K : PySem.W.Frag) (mg : Str → Option Value) (base : Heap)
structure Cal (CX : CXT) (k : Nat) (x : Str) (ps : List Str) (sp : Sp) : Prop where
  ex : ∃ f fd, FnOk P w K mg base CX k f fd ps sp ∧ mg x = some (.ref f) ∧ PySem.W.keepIn K (.ref f) = true ∧ Binds K fd ps []
structure Mth (C : Addr) (k : Nat) (m : Str) (ps : List Str) (sp : Sp) : Prop where
  ex : ∃ f fd, FnOk P w K mg base CX0 k f fd ps sp ∧ Meth K C m f ∧ Binds K fd ps []
structure Mkr (C : Addr) (k : Nat) (x : Str) (ps : List Str) (sp : Sp) : Prop where
  ex : ∃ f fd, FnOk P w K mg base CX0 k f fd ps sp ∧ Mk K C f ∧ mg x = some (.ref C) ∧ Binds K fd ps []
/-- a module's int -/
def GInt (x : Str) (i : Int) : Prop := ∃ t, mg x = some (.int i t)
end
theorem iteD {c A B : Prop} [Decidable c] (hc : c) (h : A) : if decide c = true then A else B := by
  rw [decide_eq_true hc]
  exact iteT h
theorem iteDF {c A B : Prop} [Decidable c] (hc : ¬ c) (h : B) : if decide c = true then A else B := by
  rw [decide_eq_false hc]
  exact iteF h
theorem same_new {H : Hp} {p : Addr} {o : HO} (h : H p = none) : Same H (upd H p o) := fun b x e => by
  rw [upd_ne (ne_of_none e h)]
  exact e
theorem _root_.L2.Same.tk {H H' : Hp} (s : Same H H') : Tk H H' := fun _ _ h => s _ _ h
theorem _root_.L2.Same.upd {H H1 : Hp} {p : Addr} {o : HO} (s : Same H H1) (h : H1 p = none) : Same H (L2.upd H1 p o) := s.trans (same_new h)
section
variable {P : Program} {w : World} {K : PySem.W.Frag} {mg : Str → Option Value} {base : Heap}
def spInt : Sp := fun vs H Q _ => ∃ i : Int, vs = [.int i] ∧ Q (.bl true) H
theorem sc_is_integer : FnScope ["thing"] ["thing"] (defScope s_is_integer) := ⟨rfl, rfl, rfl, by decide +kernel, rfl, by decide +kernel, by decide +kernel⟩
theorem ok_is_integer {f : Addr} {fd : FuncData} (F : FnP K "is_integer" "is_integer" s_is_integer f fd) (mi : mg "isinstance" = none) (mint : mg "int" = none) (mb : mg "bool" = none) : FnOk P w K mg base CX0 1 f fd ["thing"] spInt := by
  refine F.fn.ok sc_is_integer (fun vs H Q E h => ?_) (fun cdv A outer s H vs Q E hr h => ?_)
  · obtain ⟨i, rfl, _⟩ := h
    rfl
  · obtain ⟨i, rfl, q⟩ := h
    refine ⟨_, pss_one (ps_ret (pe_and (pe_callB call_isi (by rfl) mi (by decide +kernel) (pa_cons (pv 0) (pa_cons (pe_bltn (v := .ty "int") (by rfl) mint boot_int rfl) pa_nil)))
      (pe_one (pe_not (pe_callB call_isi (by rfl) mi (by decide +kernel) (pa_cons (pv 0) (pa_cons (pe_bltn (v := .ty "bool") (by rfl) mb (by decide +kernel) rfl) pa_nil))))))), ?_⟩
    refine ⟨_, rfl, _, _, _, _, true, rfl, .ty "int", .base (.int i), kit_ty (a := "int") (b := "int") (by decide +kernel), true, rfl, iteT ?_⟩
    exact ⟨_, rfl, _, _, _, _, false, rfl, .ty "bool", .base (.int i), kit_ty (a := "int") (b := "bool") (by decide +kernel), false, rfl, q⟩
def spBetween : Sp := fun vs H Q _ => ∃ i l m : Int, vs = [.int i, .int l, .int m] ∧ l ≤ i ∧ i ≤ m ∧ Q (.bl true) H
theorem sc_is_between : FnScope ["thing", "least", "most"] ["thing", "least", "most"] (defScope s_is_between) := ⟨rfl, rfl, rfl, by decide +kernel, rfl, by decide +kernel, by decide +kernel⟩
theorem ok_is_between {f : Addr} {fd : FuncData} (F : FnP K "is_between" "is_between" s_is_between f fd) (c : Cal P w K mg base CX0 1 "is_integer" ["thing"] spInt) : FnOk P w K mg base CX0 2 f fd ["thing", "least", "most"] spBetween := by
  obtain ⟨fi, fdi, G, g, kp, b⟩ := c.ex
  refine F.fn.ok sc_is_between (fun vs H Q E h => ?_) (fun cdv A outer s H vs Q E hr h => ?_)
  · obtain ⟨i, l, m, rfl, _⟩ := h
    rfl
  · obtain ⟨i, l, m, rfl, h1, h2, q⟩ := h
    refine ⟨_, pss_one (ps_ret (pe_and (pe_call G hr (by rfl) g kp b .nil pass0 (pa_cons (pv 0) pa_nil)) (pe_one (pe_chain op_le op_le (pv 1) (pv 0) (pv 2))))), ?_⟩
    refine ⟨_, rfl, i, rfl, true, rfl, iteT ?_⟩
    refine ⟨_, rfl, _, rfl, _, _, rfl, rfl, _, rfl, iteD h1 ⟨_, rfl, _, _, rfl, rfl, ?_⟩⟩
    show Q (.bl (decide (i ≤ m))) H
    rw [decide_eq_true h2]
    exact q
def spIndex : Sp := fun vs H Q _ => ∃ i n : Int, vs = [.int i, .int n] ∧ 0 ≤ i ∧ i < n ∧ Q (.bl true) H
theorem sc_is_index : FnScope ["thing", "many"] ["thing", "many"] (defScope s_is_index) := ⟨rfl, rfl, rfl, by decide +kernel, rfl, by decide +kernel, by decide +kernel⟩
theorem ok_is_index {f : Addr} {fd : FuncData} (F : FnP K "is_index" "is_index" s_is_index f fd) (c : Cal P w K mg base CX0 2 "is_between" ["thing", "least", "most"] spBetween) : FnOk P w K mg base CX0 3 f fd ["thing", "many"] spIndex := by
  obtain ⟨fi, fdi, G, g, kp, b⟩ := c.ex
  refine F.fn.ok sc_is_index (fun vs H Q E h => ?_) (fun cdv A outer s H vs Q E hr h => ?_)
  · obtain ⟨i, n, rfl, _⟩ := h
    rfl
  · obtain ⟨i, n, rfl, h1, h2, q⟩ := h
    refine ⟨_, pss_one (ps_ret (pe_call G hr (by rfl) g kp b .nil pass0 (pa_cons (pv 0) (pa_cons pe_int (pa_cons (pe_op op_sub (pv 1) pe_int) pa_nil))))), ?_⟩
    exact ⟨_, rfl, _, rfl, _, _, rfl, rfl, i, 0, n - 1, rfl, h1, by omega, q⟩
/-- a row of l to m sounds below n -/
def spSounds : Sp := fun vs H Q _ => ∃ (p : Addr) (r : Rw) (n l m : Int), vs = [.ref p, .int n, .int l, .int m] ∧ Ro H p r ∧ l ≤ (r.length : Int) ∧ (r.length : Int) ≤ m ∧ m ≤ 4000 ∧ (∀ x ∈ r, 0 ≤ x ∧ x < n) ∧ ∀ H', Same H H' → Q (.bl true) H'
theorem sc_is_sounds : FnScope ["thing", "sounds", "least", "most", "sound"] ["thing", "sounds", "least", "most"] (defScope s_is_sounds) := ⟨rfl, rfl, rfl, by decide +kernel, rfl, by decide +kernel, by decide +kernel⟩
theorem all_true (n : Nat) : (List.replicate n true).all id = true := by
  rw [List.all_eq_true]
  intro x hx
  exact List.eq_of_mem_replicate hx
theorem ok_is_sounds {f : Addr} {fd : FuncData} (F : FnP K "is_sounds" "is_sounds" s_is_sounds f fd) (c : Cal P w K mg base CX0 3 "is_index" ["thing", "many"] spIndex)
    (mi : mg "isinstance" = none) (mt : mg "tuple" = none) (ml : mg "len" = none) (ma : mg "all" = none) : FnOk P w K mg base CX0 4 f fd ["thing", "sounds", "least", "most"] spSounds := by
  obtain ⟨fi, fdi, G, g, kp, b⟩ := c.ex
  refine F.fn.ok sc_is_sounds (fun vs H Q E h => ?_) (fun cdv A outer s H vs Q E hr h => ?_)
  · obtain ⟨p, r, n, l, m, rfl, _⟩ := h
    rfl
  · obtain ⟨p, r, n, l, m, rfl, hp, h1, h2, h4, h3, q⟩ := h
    have hz : r.length < sizeLine := Nat.lt_of_le_of_lt (show r.length ≤ 4000 by omega) (by decide)
    refine ⟨_, pss_cons (ps_if (PW.pt (pw_or (pt_not (pt_val (pe_callB call_isi (by rfl) mi (by decide +kernel) (pa_cons (pv 0) (pa_cons (pe_bltn (v := .ty "tuple") (by rfl) mt (by decide +kernel) rfl) pa_nil)))))
        (pw_or1 (pt_not (pt_chain op_le op_le (pv 2) (pe_callB call_len_seq (by rfl) ml PySem.boot_len (pa_cons (pv 0) pa_nil)) (pv 3)))))) (pss_one (ps_ret pe_bl)) pss_nil)
      (pss_one (ps_ret (pe_callB (cr_all rfl) (by rfl) ma (by decide +kernel) (pa_cons (pe_lc (own := [("sound", 4)]) (g := gName 4) (tt := tYes) rfl sc_is_sounds.nd (pi_tup (pv 0)) (blkOk_by (N := ["thing", "sounds", "least", "most", "sound"]) (sc := defScope s_is_sounds) (by decide +kernel))
        (fun _ _ _ _ _ => pg_name (i := 4) sc_is_sounds.nd rfl (Or.inl rfl)) (fun _ _ _ _ _ => pts_nil) (fun _ _ _ _ _ => pe_call G hr (by rfl) g kp b .nil pass0 (pa_cons (pv 4) (pa_cons (pv 1) pa_nil)))) pa_nil)))), ?_⟩
    refine ⟨_, rfl, _, _, _, _, true, rfl, .ty "tuple", .base (.tup hp), kit_ty (a := "tuple") (b := "tuple") (by decide +kernel), true, rfl, iteF ?_⟩
    refine ⟨_, rfl, _, rfl, p, _, rfl, .inr (SqT.of hp), _, _, rfl, rfl, _, rfl, iteD (by rw [List.length_map]; exact h1) ⟨_, rfl, _, _, rfl, rfl, _, rfl, ?_⟩⟩
    rw [List.length_map, decide_eq_true h2]
    refine iteF ?_
    refine ⟨_, rfl, p, rfl, ⟨_, SqT.of hp⟩, fun D hD => lc_tup (K := K) (a := p) (xs := r.map V.int) (fun i H' => Same H H' ∧ H' D = some (.lst ((List.replicate i true).map V.bl)))
      ⟨same_new hD, upd_same⟩ (fun i H' _ z => SqT.of (z.1 _ _ hp)) (fun i x H' hi z => ?_) (fun H' z => ?_)⟩
    · obtain ⟨s1, d1⟩ := z
      rw [List.getElem?_map] at hi
      obtain ⟨v, hv, rfl⟩ := Option.map_eq_some_iff.mp hi
      have hil : i < r.length := (List.getElem?_eq_some_iff.mp hv).1
      obtain ⟨g1, g2⟩ := h3 v (List.mem_of_getElem? hv)
      refine ⟨rfl, _, rfl, _, rfl, v, n, rfl, g1, g2, _, d1, by rw [List.length_map, List.length_replicate]; omega, ?_, ?_⟩
      · exact fun b o e => by rw [upd_ne (ne_of_none e hD)]; exact s1 _ _ e
      · rw [upd_same, List.replicate_succ', List.map_append]
        rfl
    · obtain ⟨s1, d1⟩ := z
      refine ⟨D, _, rfl, SqL.of d1, ?_⟩
      rw [all_true]
      exact q H' s1
end
end Seam

set_option Elab.async false
set_option linter.all false
set_option maxRecDepth 100000
set_option maxHeartbeats 4000000
namespace Seam
open PySem PySem.Spec PyProof.Rows L2 Nd
/-- a table whose entries are as a book of these sizes asks -/
def TabOk (s a b : Nat) (kvs : List (K2 × K2)) : Prop := ∀ p ∈ kvs, okK s a b p.1 ∧ okK s a b p.2 ∧ p.2.1.length = p.1.1.length ∧ p.2.2.length = p.1.2.length
section
variable {P : Program} {w : World} {K : PySem.W.Frag} {mg : Str → Option Value} {base : Heap} {X : Cx}
def spSidePair : Sp := fun vs H Q _ => ∃ (p : Addr) (k : K2) (s a b : Nat), vs = [.ref p, .int s, .int a, .int b] ∧ Pr H p k ∧ okK s a b k ∧ a ≤ 4 ∧ b ≤ 4 ∧ ∀ H', Same H H' → Q (.bl true) H'
theorem sc_is_side_pair : FnScope ["thing", "sounds", "ahead", "behind"] ["thing", "sounds", "ahead", "behind"] (defScope s_is_side_pair) := ⟨rfl, rfl, rfl, by decide +kernel, rfl, by decide +kernel, by decide +kernel⟩
theorem ok_is_side_pair {f : Addr} {fd : FuncData} (F : FnP K "is_side_pair" "is_side_pair" s_is_side_pair f fd) (c : Cal P w K mg base CX0 4 "is_sounds" ["thing", "sounds", "least", "most"] spSounds)
    (mi : mg "isinstance" = none) (mt : mg "tuple" = none) (ml : mg "len" = none) : FnOk P w K mg base CX0 5 f fd ["thing", "sounds", "ahead", "behind"] spSidePair := by
  obtain ⟨fi, fdi, G, g, kp, bn⟩ := c.ex
  refine F.fn.ok sc_is_side_pair (fun vs H Q E h => ?_) (fun cdv A outer s H vs Q E hr h => ?_)
  · obtain ⟨p, k, s, a, b, rfl, _⟩ := h
    rfl
  · obtain ⟨p, k, s, a, b, rfl, hp, hk, ha, hb, q⟩ := h
    obtain ⟨p1, p2, e0, e1, e2⟩ := hp
    refine ⟨_, pss_cons (ps_if (PW.pt (pw_or (pt_not (pt_val (pe_callB call_isi (by rfl) mi (by decide +kernel) (pa_cons (pv 0) (pa_cons (pe_bltn (v := .ty "tuple") (by rfl) mt (by decide +kernel) rfl) pa_nil)))))
        (pw_or1 (pt_cmpR op_ne (pe_callB call_len_seq (by rfl) ml PySem.boot_len (pa_cons (pv 0) pa_nil)) pe_int (nomark _))))) (pss_one (ps_ret pe_bl)) pss_nil)
      (pss_one (ps_ret (pe_and (pe_call G hr (by rfl) g kp bn .nil pass0 (pa_cons (pe_ix ix_tup (pv 0) pe_int (fun _ _ => rfl)) (pa_cons (pv 1) (pa_cons pe_int (pa_cons (pv 2) pa_nil)))))
        (pe_one (pe_call G hr (by rfl) g kp bn .nil pass0 (pa_cons (pe_ix ix_tup (pv 0) pe_int (fun _ _ => rfl)) (pa_cons (pv 1) (pa_cons pe_int (pa_cons (pv 3) pa_nil))))))))), ?_⟩
    refine ⟨_, rfl, _, _, _, _, true, rfl, .ty "tuple", .base (.tup e0), kit_ty (a := "tuple") (b := "tuple") (by decide +kernel), true, rfl, iteF ?_⟩
    refine ⟨_, rfl, p, _, rfl, .inr (SqT.of e0), rfl, false, rfl, iteF ?_⟩
    refine ⟨_, rfl, p, _, _, _, rfl, rfl, SqT.of e0, atI_nat (j := 0) rfl, _, rfl, _, rfl, p1, k.1, s, 1, a, rfl, e1, by have := hk.1.1; omega, by have := hk.1.2.1; omega, by omega, hk.1.2.2, fun H1 s1 => ⟨true, rfl, iteT ?_⟩⟩
    exact ⟨_, rfl, p, _, _, _, rfl, rfl, SqT.of (s1 _ _ e0), atI_nat (j := 1) rfl, _, rfl, _, rfl, p2, k.2, s, 1, b, rfl, s1 _ _ e2, by have := hk.2.1; omega, by have := hk.2.2.1; omega, by omega, hk.2.2.2, fun H2 s2 => q H2 (s1.trans s2)⟩
/-! ### rules whose reading names K, for comprehensions -/
def rLenS (K : PySem.W.Frag) : List V → Hp → VK → Prop := fun xs H Q => ∃ p ys, xs = [.ref p] ∧ (SqL K H p ys ∨ SqT K H p ys) ∧ Q (.int ys.length) H
/-! ### loops over the keys -/
theorem walk_keysN {P : Program} {w : World} {d : Addr} {od : Obj} {xs : List En} : Walk (ItK P w d od xs) xs.length (fun H => Lk P w H d od xs) (fun i H x H' => H' = H ∧ ∃ e, xs[i]? = some e ∧ x = .ref e.2.1) :=
  ⟨fun _ _ hi q => ⟨q, hi⟩, fun _ q => ⟨q, Nat.le_refl _⟩, fun _ _ _ _ _ _ y => y⟩
/-- lists of ints, != -/
def rNeLi : R2 := fun x y H Q => ∃ (a b : Addr) (ns ms : List Int), x = .ref a ∧ y = .ref b ∧ H a = some (.lst (ns.map V.int)) ∧ H b = some (.lst (ms.map V.int)) ∧ Q (.bl (!decide (ns = ms))) H
theorem op_neLi (hu : X.A.units + 64 < cLine) : OpR X (compareOp .NotEq) rNeLi := fun pins s σ H x y v u Q I rx ry ⟨a, b, ns, ms, e1, e2, ha, hb, q⟩ => by
  subst e1 e2
  refine op_neD hu pins s σ H _ _ v u Q I rx ry ⟨.list (ns.map .int), .list (ms.map .int), .lst (SqL.of ha) (dp_ints ns), .lst (SqL.of hb) (dp_ints ms), PySem.W.shaped_ints ns, PySem.W.shaped_ints ms, ?_⟩
  rw [PyData.eqv, eqv_ints]
  exact q
theorem same_lock {H H' : Hp} {d : Addr} {u : HO} {od : Obj} (hd : H d = some u) (s : Same (upd H d (.frz od u)) H') : H' d = some (.frz od u) ∧ Same H (upd H' d u) := by
  refine ⟨s _ _ upd_same, fun b o e => ?_⟩
  by_cases hb : b = d
  · subst hb
    rw [upd_same, ← hd, e]
  · rw [upd_ne hb]
    exact s _ _ (by rw [upd_ne hb]; exact e)
theorem tk_lock {H : Hp} {P : Program} {w : World} {d : Addr} {xs : List En} {od : Obj} (hd : H d = some (DO P w d xs)) : Tk H (upd H d (.frz od (DO P w d xs))) := fun b ys e => by
  rw [upd_ne (ne_of e hd (fun z => nomatch z))]
  exact e
def spTable (P : Program) (w : World) : Sp := fun vs H Q _ => ∃ (t : Addr) (kvs : List (K2 × K2)) (s a b : Nat), vs = [.ref t, .int s, .int a, .int b] ∧ TM P w H t kvs ∧ (kvs.map (·.1)).Nodup ∧ TabOk s a b kvs ∧ kvs.length ≤ 4000 ∧ a ≤ 4 ∧ b ≤ 4 ∧ ∀ H', Same H H' → Q (.bl true) H'
abbrev N_is_table : List Str := ["thing", "sounds", "ahead", "behind", "key", "side"]
theorem sc_is_table : FnScope N_is_table ["thing", "sounds", "ahead", "behind"] (defScope s_is_table) := ⟨rfl, rfl, rfl, by decide +kernel, rfl, by decide +kernel, by decide +kernel⟩
theorem dget_nodup : ∀ {kvs : List (K2 × K2)}, (kvs.map (·.1)).Nodup → ∀ p ∈ kvs, dget kvs p.1 = some p.2
  | [], _, p, hp => by cases hp
  | q :: r, hn, p, hp => by
    rw [List.map_cons, List.nodup_cons] at hn
    unfold dget
    rw [List.find?_cons]
    by_cases e : q.1 = p.1
    · rw [decide_eq_true e]
      rcases List.mem_cons.mp hp with h1 | h1
      · rw [h1]
        rfl
      · exact (hn.1 (List.mem_map.mpr ⟨p, h1, e.symm⟩)).elim
    · rw [decide_eq_false e]
      rcases List.mem_cons.mp hp with h1 | h1
      · exact (e (by rw [h1])).elim
      · exact dget_nodup hn.2 p h1
/-- the two lengths of what stands at a pair's place -/
theorem lens_turn {H0 H : Hp} {D p : Addr} {k : K2} (hp : Pr H0 p k) : True := True.intro
theorem ok_is_table {f : Addr} {fd : FuncData} (F : FnP K "is_table" "is_table" s_is_table f fd) (c : Cal P w K mg base CX0 5 "is_side_pair" ["thing", "sounds", "ahead", "behind"] spSidePair)
    (mi : mg "isinstance" = none) (md : mg "dict" = none) (ml : mg "len" = none) (gM : GInt mg "MOST_ENTRIES" 4000) : FnOk P w K mg base CX0 6 f fd ["thing", "sounds", "ahead", "behind"] (spTable P w) := by
  obtain ⟨fi, fdi, G, g, kp, bn⟩ := c.ex
  obtain ⟨tM, gM⟩ := gM
  refine F.fn.ok sc_is_table (fun vs H Q E h => ?_) (fun cdv A outer s H vs Q E hr h => ?_)
  · obtain ⟨t, kvs, s, a, b, rfl, _⟩ := h
    rfl
  · obtain ⟨t, kvs, s, a, b, rfl, ht, hnd, hok, hl, ha, hb, q⟩ := h
    have hu : (A.deeper (envOfC "is_table" (defScope s_is_table) _ f cdv)).units + 64 < cLine := hr.units
    refine ⟨_, pss_cons (ps_if (PW.pt (pw_or (pt_not (pt_val (pe_callB call_isN (by rfl) mi (by decide +kernel) (pa_cons (pv 0) (pa_cons (pe_bltn (v := .ty "dict") (by rfl) md (by decide +kernel) rfl) pa_nil)))))
        (pw_or1 (pt_cmpR op_gt (pe_callB call_lenN (by rfl) ml PySem.boot_len (pa_cons (pv 0) pa_nil)) (pe_glob (v := .int 4000) rfl gM ⟨_, rfl⟩) (nomark _))))) (pss_one (ps_ret pe_bl)) pss_nil)
      (pss_cons (ps_lock (ps_for PassesOwn.never rfl (pi_keysN (pv 0)) (pg_name (i := 4) sc_is_table.nd rfl (Or.inl rfl))
        (pss_cons (ps_if (PW.pt (pw_or (pt_not (pt_val (pe_call G hr (by rfl) g kp bn .nil pass0 (pa_cons (pv 4) (pa_cons (pv 1) (pa_cons (pv 2) (pa_cons (pv 3) pa_nil)))))))
            (pw_or1 (pt_not (pt_val (pe_call G hr (by rfl) g kp bn .nil pass0 (pa_cons (pe_ix (ix_nd hu) (pv 0) (pv 4) (fun _ _ => rfl)) (pa_cons (pv 1) (pa_cons (pv 2) (pa_cons (pv 3) pa_nil)))))))))) (pss_one (ps_ret pe_bl)) pss_nil)
        (pss_one (ps_if (pt_cmpR (op_neLi hu)
            (pe_lc (own := [("side", 5)]) (g := gName 5) (tt := tYes) rfl sc_is_table.nd (pi_tup (pv 4)) (blkOk_by (N := N_is_table) (sc := defScope s_is_table) (by decide +kernel))
              (fun _ _ _ _ _ => pg_name (i := 5) sc_is_table.nd rfl (Or.inl rfl)) (fun _ _ _ _ _ => pts_nil) (fun _ _ _ _ _ => pe_callB (r := rLenS K) call_len_seq (by rfl) ml PySem.boot_len (pa_cons (pv 5) pa_nil)))
            (pe_lc (own := [("side", 5)]) (g := gName 5) (tt := tYes) rfl sc_is_table.nd (pi_tup (pe_ix (ix_nd hu) (pv 0) (pv 4) (fun _ _ => rfl))) (blkOk_by (N := N_is_table) (sc := defScope s_is_table) (by decide +kernel))
              (fun _ _ _ _ _ => pg_name (i := 5) sc_is_table.nd rfl (Or.inl rfl)) (fun _ _ _ _ _ => pts_nil) (fun _ _ _ _ _ => pe_callB (r := rLenS K) call_len_seq (by rfl) ml PySem.boot_len (pa_cons (pv 5) pa_nil)))
            (nomark _)) (pss_one (ps_ret pe_bl)) pss_nil)))))
      (pss_one (ps_ret pe_bl))), ?_⟩
    refine ⟨_, rfl, t, kvs, rfl, ht.td, true, rfl, iteF ?_⟩
    refine ⟨_, rfl, t, kvs, rfl, ht.td, _, _, rfl, rfl, _, rfl, iteDF (by omega) ?_⟩
    obtain ⟨xs, hd, rel⟩ := id ht
    have hlen : kvs.length = xs.length := Paired.length rel
    refine ⟨t, _, hd, True.intro, fun od => ?_⟩
    have tk0 : Tk H (upd H t (.frz od (DO P w t xs))) := tk_lock hd
    refine ⟨_, rfl, t, od, xs, rfl, upd_same, for_it walk_keysN (fun i σ H' => ∃ x4 x5, σ = [some (.ref t), some (.int s), some (.int a), some (.int b), x4, x5] ∧ Same (upd H t (.frz od (DO P w t xs))) H')
      ⟨none, none, rfl, Same.refl _⟩ (fun i σ H' _ z => ?_) (fun i x σ H' H'' hi z y => ?_) (fun σ H' z => ?_)⟩
    · obtain ⟨_, _, _, sm⟩ := z
      exact sm _ _ upd_same
    · obtain ⟨x4, x5, rfl, sm⟩ := z
      obtain ⟨rfl, e, he, rfl⟩ := y
      have hi' : i < kvs.length := by omega
      obtain ⟨e', he', r1, r2, r3⟩ := paired_get rel (List.getElem?_eq_getElem hi')
      have ee : e' = e := Option.some.inj (he'.symm.trans he)
      subst ee
      obtain ⟨k1, k2, k3, k4⟩ := hok _ (List.getElem_mem hi')
      have tkH : Tk H H'' := tk0.trans sm.tk
      have tdH : ∀ {Hx : Hp}, Same H'' Hx → TD P w Hx t kvs := fun {Hx} sx => ⟨xs, .inr ⟨od, sx _ _ (sm _ _ upd_same)⟩, rel.tk (tkH.trans sx.tk)⟩
      have hget := dget_nodup hnd _ (List.getElem_mem hi')
      refine ⟨_, rfl, _, rfl, _, rfl, _, rfl, e'.2.1, _, s, a, b, rfl, r2.tk tkH, k1, ha, hb, fun H1 s1 => ⟨true, rfl, iteF ?_⟩⟩
      refine ⟨_, rfl, _, rfl, t, e'.2.1, kvs, _, _, rfl, rfl, tdH s1, r2.tk (tkH.trans s1.tk), hget, fun v1 hv1 => ⟨_, rfl, _, rfl, _, rfl, v1, _, s, a, b, rfl, hv1, k2, ha, hb, fun H2 s2 => ⟨true, rfl, iteF ?_⟩⟩⟩
      have s12 : Same H'' H2 := s1.trans s2
      obtain ⟨p1, p2, g0, g1, g2⟩ := r2.tk (tkH.trans s12.tk)
      refine ⟨_, rfl, e'.2.1, rfl, ⟨_, SqT.of g0⟩, fun D hD => lc_tup (K := K) (a := e'.2.1) (xs := [.ref p1, .ref p2]) (fun j H' => Same H2 H' ∧ H' D = some (.lst (([(kvs[i].1.1.length : Int), (kvs[i].1.2.length : Int)].take j).map V.int)))
        ⟨same_new hD, upd_same⟩ (fun j H' _ z => SqT.of (z.1 _ _ g0)) (fun j x H' hj z => ?_) (fun H3 z => ?_)⟩
      · obtain ⟨s3, d3⟩ := z
        match j, hj with
        | 0, hj =>
          cases hj
          exact ⟨rfl, _, rfl, p1, _, rfl, .inr (SqT.of (s3 _ _ g1)), _, d3, (by show 0 < sizeLine; decide), fun b o e => by rw [upd_ne (ne_of_none e hD)]; exact s3 _ _ e, by rw [upd_same, List.length_map]; rfl⟩
        | 1, hj =>
          cases hj
          exact ⟨rfl, _, rfl, p2, _, rfl, .inr (SqT.of (s3 _ _ g2)), _, d3, (by show 1 < sizeLine; decide), fun b o e => by rw [upd_ne (ne_of_none e hD)]; exact s3 _ _ e, by rw [upd_same, List.length_map]; rfl⟩
        | j + 2, hj => simp at hj
      · obtain ⟨s3, d3⟩ := z
        have s13 := s12.trans s3
        refine ⟨_, rfl, _, rfl, t, e'.2.1, kvs, _, _, rfl, rfl, tdH s13, r2.tk (tkH.trans s13.tk), hget, fun v2 hv2 => ?_⟩
        obtain ⟨q1, q2, f0, f1, f2⟩ := hv2
        refine ⟨v2, rfl, ⟨_, SqT.of f0⟩, fun D2 hD2 => lc_tup (K := K) (a := v2) (xs := [.ref q1, .ref q2]) (fun j H' => Same H3 H' ∧ H' D2 = some (.lst (([(kvs[i].2.1.length : Int), (kvs[i].2.2.length : Int)].take j).map V.int)))
          ⟨same_new hD2, upd_same⟩ (fun j H' _ z => SqT.of (z.1 _ _ f0)) (fun j x H' hj z => ?_) (fun H4 z => ?_)⟩
        · obtain ⟨s4, d4⟩ := z
          match j, hj with
          | 0, hj =>
            cases hj
            exact ⟨rfl, _, rfl, q1, _, rfl, .inr (SqT.of (s4 _ _ f1)), _, d4, (by show 0 < sizeLine; decide), fun b o e => by rw [upd_ne (ne_of_none e hD2)]; exact s4 _ _ e, by rw [upd_same, List.length_map]; rfl⟩
          | 1, hj =>
            cases hj
            exact ⟨rfl, _, rfl, q2, _, rfl, .inr (SqT.of (s4 _ _ f2)), _, d4, (by show 1 < sizeLine; decide), fun b o e => by rw [upd_ne (ne_of_none e hD2)]; exact s4 _ _ e, by rw [upd_same, List.length_map]; rfl⟩
          | j + 2, hj => simp at hj
        · obtain ⟨s4, d4⟩ := z
          refine ⟨D, D2, _, _, rfl, rfl, s4 _ _ d3, d4, _, rfl, iteNS (by rw [k3, k4] <;> rfl) ?_⟩
          exact ⟨_, _, rfl, sm.trans (s13.trans s4)⟩
    · obtain ⟨x4, x5, rfl, sm⟩ := z
      obtain ⟨z1, z2⟩ := same_lock hd sm
      exact ⟨z1, q _ z2⟩
end
end Seam

set_option Elab.async false
set_option linter.all false
set_option maxRecDepth 100000
set_option maxHeartbeats 4000000
namespace Seam
open PySem PySem.Spec PyProof.Rows L2 Nd
/-! ### a book's attributes -/
theorem n12 : ¬ (("kept_sounds" : Str) = "kept_ahead") := by decide +kernel
theorem n13 : ¬ (("kept_sounds" : Str) = "kept_behind") := by decide +kernel
theorem n14 : ¬ (("kept_sounds" : Str) = "kept_table") := by decide +kernel
theorem n23 : ¬ (("kept_ahead" : Str) = "kept_behind") := by decide +kernel
theorem n24 : ¬ (("kept_ahead" : Str) = "kept_table") := by decide +kernel
theorem n34 : ¬ (("kept_behind" : Str) = "kept_table") := by decide +kernel
def bf1 (s : Int) : List (Str × V) := putF "kept_sounds" (.int s) []
def bf2 (s a : Int) : List (Str × V) := putF "kept_ahead" (.int a) (bf1 s)
def bf3 (s a b : Int) : List (Str × V) := putF "kept_behind" (.int b) (bf2 s a)
def bf (s a b : Int) (t : Addr) : List (Str × V) := putF "kept_table" (.ref t) (bf3 s a b)
theorem bf_len1 (s : Int) : (bf1 s).length ≤ 1 := length_putF _ _ _
theorem bf_len2 (s a : Int) : (bf2 s a).length ≤ 2 := Nat.le_trans (length_putF _ _ _) (Nat.succ_le_succ (bf_len1 s))
theorem bf_len3 (s a b : Int) : (bf3 s a b).length ≤ 3 := Nat.le_trans (length_putF _ _ _) (Nat.succ_le_succ (bf_len2 s a))
section
variable (s a b : Int) (t : Addr)
theorem bf_s : (bf s a b t).lookup ("kept_sounds" : Str) = some (.int s) := by
  unfold bf bf3 bf2 bf1
  rw [lookup_putF, if_neg n14, lookup_putF, if_neg n13, lookup_putF, if_neg n12, lookup_putF, if_pos rfl]
theorem bf_a : (bf s a b t).lookup ("kept_ahead" : Str) = some (.int a) := by
  unfold bf bf3 bf2 bf1
  rw [lookup_putF, if_neg n24, lookup_putF, if_neg n23, lookup_putF, if_pos rfl]
theorem bf_b : (bf s a b t).lookup ("kept_behind" : Str) = some (.int b) := by
  unfold bf bf3 bf2 bf1
  rw [lookup_putF, if_neg n34, lookup_putF, if_pos rfl]
theorem bf_t : (bf s a b t).lookup ("kept_table" : Str) = some (.ref t) := by
  unfold bf bf3 bf2 bf1
  rw [lookup_putF, if_pos rfl]
theorem bf_no {m : Str} (h1 : ¬ m = "kept_sounds") (h2 : ¬ m = "kept_ahead") (h3 : ¬ m = "kept_behind") (h4 : ¬ m = "kept_table") : (bf s a b t).lookup m = none := by
  unfold bf bf3 bf2 bf1
  rw [lookup_putF, if_neg h4, lookup_putF, if_neg h3, lookup_putF, if_neg h2, lookup_putF, if_neg h1]
  rfl
end
/-- what is asked of a class of books -/
structure BkT (K : PySem.W.Frag) (C : Addr) : Prop where
  cl : Cls K C
  n1 : NoAttr K C "kept_sounds"
  n2 : NoAttr K C "kept_ahead"
  n3 : NoAttr K C "kept_behind"
  n4 : NoAttr K C "kept_table"
/-- a book at p -/
def Bk (P : Program) (w : World) (H : Hp) (p C : Addr) (s a b : Nat) (kvs : List (K2 × K2)) : Prop := ∃ dx t, H p = some (.ins C dx (bf s a b t)) ∧ TM P w H t kvs
theorem Bk.same {P : Program} {w : World} {H H' : Hp} {p C : Addr} {s a b : Nat} {kvs : List (K2 × K2)} (h : Bk P w H p C s a b kvs) (e : Same H H') : Bk P w H' p C s a b kvs :=
  let ⟨dx, t, h1, h2⟩ := h
  ⟨dx, t, e _ _ h1, h2.tk e.tk fun o => e _ o⟩
/-- the entries that change something -/
def filt (kvs : List (K2 × K2)) : List (K2 × K2) := kvs.filter fun p => !decide (p.1 = p.2)
theorem dput_new {kvs : List (K2 × K2)} {k v : K2} (h : k ∉ kvs.map (·.1)) : dput kvs k v = kvs ++ [(k, v)] := by
  unfold dput
  rw [if_neg]
  intro e
  obtain ⟨p, hp, e2⟩ := List.any_eq_true.mp e
  exact h (List.mem_map.mpr ⟨p, hp, of_decide_eq_true e2⟩)
theorem filt_succ {kvs : List (K2 × K2)} (hn : (kvs.map (·.1)).Nodup) {i : Nat} (hi : i < kvs.length) :
    filt (kvs.take (i + 1)) = if (kvs[i]).1 = (kvs[i]).2 then filt (kvs.take i) else dput (filt (kvs.take i)) (kvs[i]).1 (kvs[i]).2 := by
  have e : filt (kvs.take (i + 1)) = filt (kvs.take i) ++ filt [kvs[i]] := by
    rw [List.take_add_one, List.getElem?_eq_getElem hi]
    unfold filt
    rw [List.filter_append]
    rfl
  rw [e]
  by_cases h : (kvs[i]).1 = (kvs[i]).2
  · rw [if_pos h]
    unfold filt
    simp [h]
  · rw [if_neg h, dput_new]
    · unfold filt
      simp [h]
    · intro hm
      obtain ⟨p, hp, e2⟩ := List.mem_map.mp hm
      have hp1 : p ∈ kvs.take i := (List.mem_filter.mp hp).1
      obtain ⟨j, hj, rfl⟩ := List.mem_iff_getElem.mp hp1
      rw [List.length_take] at hj
      rw [List.getElem_take] at e2
      have hj2 : j < kvs.length := by omega
      have e3 : (kvs.map (·.1))[j]'(by rw [List.length_map]; exact hj2) = (kvs.map (·.1))[i]'(by rw [List.length_map]; exact hi) := by
        rw [List.getElem_map, List.getElem_map]
        exact e2
      have := (List.getElem_inj hn).mp e3
      omega
section
variable {P : Program} {w : World} {K : PySem.W.Frag} {mg : Str → Option Value} {base : Heap} {X : Cx}
def spSizes : Sp := fun vs H Q _ => ∃ s a b : Nat, vs = [.int s, .int a, .int b] ∧ 1 ≤ s ∧ s ≤ 8 ∧ 1 ≤ a ∧ a ≤ 4 ∧ 1 ≤ b ∧ b ≤ 4 ∧ Q .non H
theorem sc_check_sizes : FnScope ["sounds", "ahead", "behind"] ["sounds", "ahead", "behind"] (defScope s_check_sizes) := ⟨rfl, rfl, rfl, by decide +kernel, rfl, by decide +kernel, by decide +kernel⟩
theorem ok_check_sizes {f : Addr} {fd : FuncData} (F : FnP K "check_sizes" "check_sizes" s_check_sizes f fd) (c : Cal P w K mg base CX0 2 "is_between" ["thing", "least", "most"] spBetween)
    (g8 : GInt mg "MOST_SOUNDS" 8) (g4 : GInt mg "MOST_SIDE" 4) : FnOk P w K mg base CX0 3 f fd ["sounds", "ahead", "behind"] spSizes := by
  obtain ⟨fi, fdi, G, g, kp, bn⟩ := c.ex
  obtain ⟨t8, g8⟩ := g8
  obtain ⟨t4, g4⟩ := g4
  refine F.fn.ok sc_check_sizes (fun vs H Q E h => ?_) (fun cdv A outer s H vs Q E hr h => ?_)
  · obtain ⟨s, a, b, rfl, _⟩ := h
    rfl
  · obtain ⟨s, a, b, rfl, h1, h2, h3, h4, h5, h6, q⟩ := h
    refine ⟨_, pss_cons (ps_if (pt_not (pt_val (pe_call G hr (by rfl) g kp bn .nil pass0 (pa_cons (pv 0) (pa_cons pe_int (pa_cons (pe_glob (v := .int 8) rfl g8 ⟨_, rfl⟩) pa_nil)))))) (pss_one ps_never) pss_nil)
      (pss_cons (ps_if (pt_not (pt_val (pe_call G hr (by rfl) g kp bn .nil pass0 (pa_cons (pv 1) (pa_cons pe_int (pa_cons (pe_glob (v := .int 4) rfl g4 ⟨_, rfl⟩) pa_nil)))))) (pss_one ps_never) pss_nil)
      (pss_one (ps_if (pt_not (pt_val (pe_call G hr (by rfl) g kp bn .nil pass0 (pa_cons (pv 2) (pa_cons pe_int (pa_cons (pe_glob (v := .int 4) rfl g4 ⟨_, rfl⟩) pa_nil)))))) (pss_one ps_never) pss_nil))), ?_⟩
    refine ⟨_, rfl, s, 1, 8, rfl, by omega, by omega, true, rfl, iteF ?_⟩
    refine ⟨_, rfl, a, 1, 4, rfl, by omega, by omega, true, rfl, iteF ?_⟩
    exact ⟨_, rfl, b, 1, 4, rfl, by omega, by omega, true, rfl, iteF q⟩
theorem small1000' {n : Nat} (h : n ≤ 4000) : n < sizeLine := Nat.lt_of_le_of_lt h (by decide)
/-! ### keep -/
def spKeep (P : Program) (w : World) (C : Addr) : Sp := fun vs H Q _ => ∃ (p dx t : Addr) (s a b : Nat) (kvs : List (K2 × K2)), vs = [.ref p, .int s, .int a, .int b, .ref t] ∧ H p = some (.ins C dx []) ∧ TM P w H t kvs ∧ (kvs.map (·.1)).Nodup ∧ kvs.length ≤ 4000 ∧
  ∀ H', (∀ b o, H b = some o → b ≠ p → H' b = some o) → Bk P w H' p C s a b (filt kvs) → Q .non H'
abbrev N_keep : List Str := ["self", "sounds", "ahead", "behind", "table", "key", "told"]
theorem sc_keep : FnScope N_keep ["self", "sounds", "ahead", "behind", "table"] (defScope s_Book_keep) := ⟨rfl, rfl, rfl, by decide +kernel, rfl, by decide +kernel, by decide +kernel⟩
/-- the last store: the table without what changes nothing -/
theorem keep_last {C p dx t : Addr} {s a b : Nat} {kvs : List (K2 × K2)} {H1 : Hp} {Q : VK} (T : BkT K C) (hp1 : H1 p = some (.ins C dx (bf3 s a b))) (ht1 : TM P w H1 t kvs) (hn : (kvs.map (·.1)).Nodup) (hl : kvs.length ≤ 4000)
    (q : ∀ H', (∀ b o, H1 b = some o → b ≠ p → H' b = some o) → Bk P w H' p C s a b (filt kvs) → Q .non H') :
    sFld K (tVar 0) (tLockE (tDcN P w (iPairsN P w (tVar 4)) (gTup K 2 (gCons (gName 5) (gCons (gName 6) gNil))) (tTest (tOp rNePr (tVar 5) (tVar 6))) (tVar 5) (tVar 6) [5, 6])) "kept_table" { nx := fun _ H' => Q .non H', rt := Q }
      (L2.start N_keep [.ref p, .int s, .int a, .int b, .ref t]) H1 := by
  obtain ⟨xs, hd, rel⟩ := id ht1
  have npt : t ≠ p := ne_of hd hp1 (fun z => nomatch z)
  have hlen : kvs.length = xs.length := Paired.length rel
  refine ⟨t, _, hd, True.intro, fun od => ?_⟩
  have tkl : Tk H1 (upd H1 t (.frz od (DO P w t xs))) := tk_lock hd
  refine ⟨_, rfl, t, od, xs, rfl, upd_same, fun D HD nD tD bD => dc_pairs (P := P) (w := w) (fun i H' => Same (upd H1 t (.frz od (DO P w t xs))) H' ∧ TM P w H' D (filt (kvs.take i)))
    ⟨fun c o e => by rw [bD c (ne_of_none e nD)]; exact e, tD⟩ (fun i H' _ z => z.1 _ _ upd_same) (fun i x H' T' hx z nT => ?_) (fun H' z => ?_)⟩
  · obtain ⟨sm, tm⟩ := z
    have hi : i < kvs.length := by have := (List.getElem?_eq_some_iff.mp hx).1; omega
    obtain ⟨x', hx', r1, r2, r3⟩ := paired_get rel (List.getElem?_eq_getElem hi)
    have ex : x' = x := Option.some.inj (hx'.symm.trans hx)
    subst ex
    have sT : Same H' (upd H' T' (.tup [.ref x'.2.1, .ref x'.2.2])) := same_new nT
    have tkT : Tk H1 (upd H' T' (.tup [.ref x'.2.1, .ref x'.2.2])) := tkl.trans (sm.trans sT).tk
    have tmT : TM P w (upd H' T' (.tup [.ref x'.2.1, .ref x'.2.2])) D (filt (kvs.take i)) := tm.tk sT.tk fun o => sT _ o
    refine ⟨T', _, rfl, SqT.of upd_same, rfl, _, _, rfl, _, _, rfl, rfl, rfl, _, rfl, _, rfl, x'.2.1, x'.2.2, _, _, rfl, rfl, r2.tk tkT, r3.tk tkT, _, rfl, ?_⟩
    have fs := filt_succ hn hi
    by_cases e : (kvs[i]).1 = (kvs[i]).2
    · rw [decide_eq_true e]
      refine iteF ⟨sm.trans sT, ?_⟩
      rw [fs, if_pos e]
      exact tmT
    · rw [decide_eq_false e]
      refine iteT ⟨_, rfl, _, rfl, x'.2.1, x'.2.2, _, _, _, rfl, rfl, tmT, r2.tk tkT, r3.tk tkT, ?_, fun H6 t6 b6 => ⟨fun c o e6 => ?_, ?_⟩⟩
      · have h1 : (filt (kvs.take i)).length ≤ (kvs.take i).length := List.length_filter_le _ _
        rw [List.length_take] at h1
        exact small1000' (by omega)
      · have hc : c ≠ D := by
          intro ec
          subst ec
          by_cases hct : c = t
          · subst hct
            rw [upd_same] at nD
            cases nD
          · rw [nD] at e6
            cases e6
        rw [b6 c hc]
        exact (sm.trans sT) _ _ e6
      · rw [fs, if_neg e]
        exact t6
  · obtain ⟨sm, tm⟩ := z
    rw [← hlen, List.take_length] at tm
    obtain ⟨z1, z2⟩ := same_lock hd sm
    have nDt : D ≠ t := by
      intro e
      rw [e, upd_same] at nD
      cases nD
    have tm2 : TM P w (upd H' t (DO P w t xs)) D (filt kvs) := tm.tk (fun c ys e => by
      rw [upd_ne (ne_of e z1 (fun z => nomatch z))]
      exact e) fun o e => by
      rw [upd_ne nDt]
      exact e
    refine ⟨z1, _, rfl, p, C, dx, _, rfl, z2 _ _ hp1, T.cl, T.n4, Nat.lt_of_le_of_lt (bf_len3 s a b) (by decide), ?_⟩
    refine q _ (fun c o e hc => ?_) ⟨dx, D, upd_same, tm2.tk (fun c ys e => ?_) fun o e => ?_⟩
    · rw [upd_ne hc]
      exact z2 _ _ e
    · rw [upd_ne (ne_of e (z2 _ _ hp1) (fun z => nomatch z))]
      exact e
    · have nDp : D ≠ p := by
        intro e2
        rw [e2, upd_ne (fun z => npt z.symm), hp1] at nD
        cases nD
      rw [upd_ne nDp]
      exact e
theorem ok_keep {f C : Addr} {fd : FuncData} (F : FnP K "keep" "Book.keep" s_Book_keep f fd) (T : BkT K C) : FnOk P w K mg base CX0 1 f fd ["self", "sounds", "ahead", "behind", "table"] (spKeep P w C) := by
  refine F.fn.ok sc_keep (fun vs H Q E h => ?_) (fun cdv A outer s H vs Q E hr h => ?_)
  · obtain ⟨p, dx, t, s, a, b, kvs, rfl, _⟩ := h
    rfl
  · obtain ⟨p, dx, t, s, a, b, kvs, rfl, hp, ht, hn, hl, q⟩ := h
    have hu : (A.deeper (envOfC "Book.keep" (defScope s_Book_keep) _ f cdv)).units + 64 < cLine := hr.units
    refine ⟨_, pss_cons (ps_fld (pv 0) (pv 1) rfl) (pss_cons (ps_fld (pv 0) (pv 2) rfl) (pss_cons (ps_fld (pv 0) (pv 3) rfl)
      (pss_one (ps_fld (pv 0) (pe_lock (pe_dcN (own := [("key", 5), ("told", 6)]) (g := gTup K 2 (gCons (gName 5) (gCons (gName 6) gNil))) hu rfl sc_keep.nd (pi_pairsN (pv 4)) (blkOk_by (N := N_keep) (sc := defScope s_Book_keep) (by decide +kernel))
        (fun _ _ _ _ _ => pg_tup rfl (pgs_cons (pg_name (i := 5) sc_keep.nd rfl (Or.inl rfl)) (pgs_cons (pg_name (i := 6) sc_keep.nd rfl (Or.inl rfl)) pgs_nil)))
        (fun _ _ _ _ _ => pts_one (pt_cmpR (op_nePr hu) (pv 5) (pv 6) (nomark _))) (fun _ _ _ _ _ => pv 5) (fun _ _ _ _ _ => pv 6))) rfl)))), ?_⟩
    refine ⟨_, rfl, _, rfl, p, C, dx, _, rfl, hp, T.cl, T.n1, (by show 0 < 1000; decide), ?_⟩
    refine ⟨_, rfl, _, rfl, p, C, dx, _, rfl, upd_same, T.cl, T.n2, Nat.lt_of_le_of_lt (bf_len1 s) (by decide), ?_⟩
    refine ⟨_, rfl, _, rfl, p, C, dx, _, rfl, upd_same, T.cl, T.n3, Nat.lt_of_le_of_lt (bf_len2 s a) (by decide), ?_⟩
    rw [upd_upd, upd_upd]
    have npt : t ≠ p := by
      obtain ⟨xs, hd, _⟩ := ht
      exact ne_of hd hp (fun z => nomatch z)
    have hp1 : upd H p (.ins C dx (bf3 s a b)) p = some (.ins C dx (bf3 s a b)) := upd_same
    have tk1 : Tk H (upd H p (.ins C dx (bf3 s a b))) := fun c ys e => by
      rw [upd_ne (ne_of e hp (fun z => nomatch z))]
      exact e
    have ht1 : TM P w (upd H p (.ins C dx (bf3 s a b))) t kvs := ht.tk tk1 fun o e => by
      rw [upd_ne npt]
      exact e
    have keep1 : ∀ c o, H c = some o → c ≠ p → upd H p (.ins C dx (bf3 s a b)) c = some o := fun c o e hc => by
      rw [upd_ne hc]
      exact e
    exact keep_last T hp1 ht1 hn hl fun H' h1 h2 => q H' (fun c o e hc => h1 c o (keep1 c o e hc) hc) h2
end
end Seam

set_option Elab.async false
set_option linter.all false
set_option maxRecDepth 100000
set_option maxHeartbeats 4000000
namespace Seam
open PySem PySem.Spec PyProof.Rows L2 Nd
section
variable {P : Program} {w : World} {K : PySem.W.Frag} {mg : Str → Option Value} {base : Heap} {X : Cx}
/-! ### Book.__init__, RawBook.__init__ -/
abbrev ps5 : List Str := ["self", "sounds", "ahead", "behind", "table"]
theorem sc_rinit : FnScope ps5 ps5 (defScope s_RawBook__init) := ⟨rfl, rfl, rfl, by decide +kernel, rfl, by decide +kernel, by decide +kernel⟩
theorem ok_rinit {f C : Addr} {fd : FuncData} (F : FnP K "__init__" "RawBook.__init__" s_RawBook__init f fd) (T : BkT K C) (m : Mth P w K mg base C 1 "keep" ps5 (spKeep P w C)) : FnOk P w K mg base CX0 2 f fd ps5 (spKeep P w C) := by
  obtain ⟨fk, fdk, G, mk, bn⟩ := m.ex
  refine F.fn.ok sc_rinit (fun vs H Q E h => ?_) (fun cdv A outer s H vs Q E hr h => ?_)
  · obtain ⟨p, dx, t, s, a, b, kvs, rfl, _⟩ := h
    rfl
  · obtain ⟨p, dx, t, s, a, b, kvs, rfl, hp, ht, hn, hl, q⟩ := h
    refine ⟨_, pss_one (ps_expr (pe_meth (pv 0) T.cl mk G hr bn .nil pass0 (pa_cons (pv 1) (pa_cons (pv 2) (pa_cons (pv 3) (pa_cons (pv 4) pa_nil)))))), ?_⟩
    exact ⟨_, rfl, p, dx, _, rfl, hp, rfl, _, rfl, _, rfl, _, rfl, _, rfl, p, dx, t, s, a, b, kvs, rfl, hp, ht, hn, hl, q⟩
def spBook (P : Program) (w : World) (C : Addr) : Sp := fun vs H Q _ => ∃ (p dx t : Addr) (s a b : Nat) (kvs : List (K2 × K2)), vs = [.ref p, .int s, .int a, .int b, .ref t] ∧ H p = some (.ins C dx []) ∧ TM P w H t kvs ∧ (kvs.map (·.1)).Nodup ∧ kvs.length ≤ 4000 ∧
  TabOk s a b kvs ∧ (1 ≤ s ∧ s ≤ 8 ∧ 1 ≤ a ∧ a ≤ 4 ∧ 1 ≤ b ∧ b ≤ 4) ∧ ∀ H', (∀ b o, H b = some o → b ≠ p → H' b = some o) → Bk P w H' p C s a b (filt kvs) → Q .non H'
theorem sc_binit : FnScope ps5 ps5 (defScope s_Book__init) := ⟨rfl, rfl, rfl, by decide +kernel, rfl, by decide +kernel, by decide +kernel⟩
theorem ok_binit {f C : Addr} {fd : FuncData} (F : FnP K "__init__" "Book.__init__" s_Book__init f fd) (T : BkT K C) (m : Mth P w K mg base C 1 "keep" ps5 (spKeep P w C))
    (cs : Cal P w K mg base CX0 3 "check_sizes" ["sounds", "ahead", "behind"] spSizes) (ct : Cal P w K mg base CX0 6 "is_table" ["thing", "sounds", "ahead", "behind"] (spTable P w)) : FnOk P w K mg base CX0 7 f fd ps5 (spBook P w C) := by
  obtain ⟨fk, fdk, G, mk, bn⟩ := m.ex
  obtain ⟨f1, fd1, G1, g1, kp1, bn1⟩ := cs.ex
  obtain ⟨f2, fd2, G2, g2, kp2, bn2⟩ := ct.ex
  refine F.fn.ok sc_binit (fun vs H Q E h => ?_) (fun cdv A outer s H vs Q E hr h => ?_)
  · obtain ⟨p, dx, t, s, a, b, kvs, rfl, _⟩ := h
    rfl
  · obtain ⟨p, dx, t, s, a, b, kvs, rfl, hp, ht, hn, hl, hok, ⟨z1, z2, z3, z4, z5, z6⟩, q⟩ := h
    refine ⟨_, pss_cons (ps_expr (pe_call G1 (hr.mono (by decide)) (by rfl) g1 kp1 bn1 .nil pass0 (pa_cons (pv 1) (pa_cons (pv 2) (pa_cons (pv 3) pa_nil)))))
      (pss_cons (ps_if (pt_not (pt_val (pe_call G2 hr (by rfl) g2 kp2 bn2 .nil pass0 (pa_cons (pv 4) (pa_cons (pv 1) (pa_cons (pv 2) (pa_cons (pv 3) pa_nil))))))) (pss_one ps_never) pss_nil)
      (pss_one (ps_expr (pe_meth (pv 0) T.cl mk G (hr.mono (by decide)) bn .nil pass0 (pa_cons (pv 1) (pa_cons (pv 2) (pa_cons (pv 3) (pa_cons (pv 4) pa_nil)))))))), ?_⟩
    refine ⟨_, rfl, _, rfl, _, rfl, s, a, b, rfl, z1, z2, z3, z4, z5, z6, ?_⟩
    refine ⟨_, rfl, _, rfl, _, rfl, _, rfl, t, kvs, s, a, b, rfl, ht, hn, hok, hl, z4, z6, fun H1 s1 => ⟨true, rfl, iteF ?_⟩⟩
    exact ⟨_, rfl, p, dx, _, rfl, s1 _ _ hp, rfl, _, rfl, _, rfl, _, rfl, _, rfl, p, dx, t, s, a, b, kvs, rfl, s1 _ _ hp, ht.tk s1.tk fun o => s1 _ o, hn, hl, fun H2 k2 b2 => q H2 (fun c o e hc => k2 c o (s1 _ _ e) hc) b2⟩
/-! ### the small methods -/
def spGetI (P : Program) (w : World) (C : Addr) (g : Nat → Nat → Nat → Nat) : Sp := fun vs H Q _ => ∃ (p : Addr) (s a b : Nat) (kvs : List (K2 × K2)), vs = [.ref p] ∧ Bk P w H p C s a b kvs ∧ Q (.int (g s a b : Nat)) H
theorem sc_sounds : FnScope ["self"] ["self"] (defScope s_Book_sounds) := ⟨rfl, rfl, rfl, by decide +kernel, rfl, by decide +kernel, by decide +kernel⟩
theorem ok_sounds {f C : Addr} {fd : FuncData} (F : FnP K "sounds" "Book.sounds" s_Book_sounds f fd) (T : BkT K C) : FnOk P w K mg base CX0 1 f fd ["self"] (spGetI P w C fun s _ _ => s) := by
  refine F.fn.ok sc_sounds (fun vs H Q E h => ?_) (fun cdv A outer s H vs Q E hr h => ?_)
  · obtain ⟨p, s, a, b, kvs, rfl, _⟩ := h
    rfl
  · obtain ⟨p, s, a, b, kvs, rfl, ⟨dx, t, hp, ht⟩, q⟩ := h
    exact ⟨_, pss_one (ps_ret (pe_fld (pv 0) rfl)), _, rfl, p, C, dx, _, _, rfl, hp, T.cl, T.n1, bf_s _ _ _ _, q⟩
theorem sc_ahead : FnScope ["self"] ["self"] (defScope s_Book_ahead) := ⟨rfl, rfl, rfl, by decide +kernel, rfl, by decide +kernel, by decide +kernel⟩
theorem ok_ahead {f C : Addr} {fd : FuncData} (F : FnP K "ahead" "Book.ahead" s_Book_ahead f fd) (T : BkT K C) : FnOk P w K mg base CX0 1 f fd ["self"] (spGetI P w C fun _ a _ => a) := by
  refine F.fn.ok sc_ahead (fun vs H Q E h => ?_) (fun cdv A outer s H vs Q E hr h => ?_)
  · obtain ⟨p, s, a, b, kvs, rfl, _⟩ := h
    rfl
  · obtain ⟨p, s, a, b, kvs, rfl, ⟨dx, t, hp, ht⟩, q⟩ := h
    exact ⟨_, pss_one (ps_ret (pe_fld (pv 0) rfl)), _, rfl, p, C, dx, _, _, rfl, hp, T.cl, T.n2, bf_a _ _ _ _, q⟩
theorem sc_behind : FnScope ["self"] ["self"] (defScope s_Book_behind) := ⟨rfl, rfl, rfl, by decide +kernel, rfl, by decide +kernel, by decide +kernel⟩
theorem ok_behind {f C : Addr} {fd : FuncData} (F : FnP K "behind" "Book.behind" s_Book_behind f fd) (T : BkT K C) : FnOk P w K mg base CX0 1 f fd ["self"] (spGetI P w C fun _ _ b => b) := by
  refine F.fn.ok sc_behind (fun vs H Q E h => ?_) (fun cdv A outer s H vs Q E hr h => ?_)
  · obtain ⟨p, s, a, b, kvs, rfl, _⟩ := h
    rfl
  · obtain ⟨p, s, a, b, kvs, rfl, ⟨dx, t, hp, ht⟩, q⟩ := h
    exact ⟨_, pss_one (ps_ret (pe_fld (pv 0) rfl)), _, rfl, p, C, dx, _, _, rfl, hp, T.cl, T.n3, bf_b _ _ _ _, q⟩
def spGetT (P : Program) (w : World) (C : Addr) : Sp := fun vs H Q _ => ∃ (p : Addr) (s a b : Nat) (kvs : List (K2 × K2)), vs = [.ref p] ∧ Bk P w H p C s a b kvs ∧ (kvs.map fun p => (nk p.1).hash w).Nodup ∧ ∀ H' t, Same H H' → TM P w H' t kvs → Q (.ref t) H'
theorem sc_table : FnScope ["self"] ["self"] (defScope s_Book_table) := ⟨rfl, rfl, rfl, by decide +kernel, rfl, by decide +kernel, by decide +kernel⟩
theorem bt_same {H H' : Hp} {d : Addr} (h : H d = none) (b : Bt d H H') : Same H H' := fun c o e => by
  rw [b c (ne_of_none e h)]
  exact e
theorem ok_table {f C : Addr} {fd : FuncData} (F : FnP K "table" "Book.table" s_Book_table f fd) (T : BkT K C) (md : mg "dict" = none) : FnOk P w K mg base CX0 1 f fd ["self"] (spGetT P w C) := by
  refine F.fn.ok sc_table (fun vs H Q E h => ?_) (fun cdv A outer s H vs Q E hr h => ?_)
  · obtain ⟨p, s, a, b, kvs, rfl, _⟩ := h
    rfl
  · obtain ⟨p, s, a, b, kvs, rfl, ⟨dx, t, hp, ht⟩, hh, q⟩ := h
    have hu : (A.deeper (envOfC "Book.table" (defScope s_Book_table) _ f cdv)).units + 64 < cLine := hr.units
    refine ⟨_, pss_one (ps_ret (pe_callTy (call_dictN hu) (by rfl) md (by decide +kernel) (pa_cons (pe_fld (pv 0) rfl) pa_nil))), ?_⟩
    exact ⟨_, rfl, p, C, dx, _, _, rfl, hp, T.cl, T.n4, bf_t _ _ _ _, t, kvs, rfl, ht.td, hh, fun t' H' nt tt bt => q H' t' (bt_same nt bt) tt⟩
/-- the tuple of the parts -/
def spParts (P : Program) (w : World) (C : Addr) : Sp := fun vs H Q _ => ∃ (p : Addr) (s a b : Nat) (kvs : List (K2 × K2)), vs = [.ref p] ∧ Bk P w H p C s a b kvs ∧ ∀ H' r t, Same H H' → H' r = some (.tup [.int s, .int a, .int b, .ref t]) → TM P w H' t kvs → Q (.ref r) H'
theorem sc_parts : FnScope ["self"] ["self"] (defScope s_Book_parts) := ⟨rfl, rfl, rfl, by decide +kernel, rfl, by decide +kernel, by decide +kernel⟩
theorem ok_parts {f C : Addr} {fd : FuncData} (F : FnP K "parts" "Book.parts" s_Book_parts f fd) (T : BkT K C) : FnOk P w K mg base CX0 1 f fd ["self"] (spParts P w C) := by
  refine F.fn.ok sc_parts (fun vs H Q E h => ?_) (fun cdv A outer s H vs Q E hr h => ?_)
  · obtain ⟨p, s, a, b, kvs, rfl, _⟩ := h
    rfl
  · obtain ⟨p, s, a, b, kvs, rfl, ⟨dx, t, hp, ht⟩, q⟩ := h
    refine ⟨_, pss_one (ps_ret (pe_tup (pa_cons (pe_fld (pv 0) rfl) (pa_cons (pe_fld (pv 0) rfl) (pa_cons (pe_fld (pv 0) rfl) (pa_cons (pe_fld (pv 0) rfl) pa_nil)))))), ?_⟩
    exact ⟨_, rfl, p, C, dx, _, _, rfl, hp, T.cl, T.n1, bf_s _ _ _ _, _, rfl, p, C, dx, _, _, rfl, hp, T.cl, T.n2, bf_a _ _ _ _, _, rfl, p, C, dx, _, _, rfl, hp, T.cl, T.n3, bf_b _ _ _ _,
      _, rfl, p, C, dx, _, _, rfl, hp, T.cl, T.n4, bf_t _ _ _ _, (by show 4 ≤ sizeLine; decide), fun r hr => q _ r t (same_new hr) upd_same (ht.tk (same_new hr).tk fun o => same_new hr _ o)⟩
theorem room70 {k : Nat} {A : Around} (hr : Room k A) : A.units + 70 < cLine := by
  have := hr.un
  omega
/-! ### == of books -/
/-- what isinstance asks of a class of books -/
structure IsT (K : PySem.W.Frag) (C CB : Addr) : Prop where
  h1 : PySem.W.findIn K (.ref C) "__class__" = some (some (.builtin "object.__class__"))
  h2 : PySem.W.specialIn K (.builtin "object.__class__") "__get__" = some (some (.builtin "getset_descriptor.__get__"))
  h3 : PySem.W.takesIn K (.builtin "object.__class__") = some true
  h4 : PySem.W.mroIn K C (.type "object") = some true
  h5 : PySem.W.kitOne K (.ref C) (.ref CB) = some true
/-- the two books are the same: C1, C2 their classes -/
def BkEq (P : Program) (w : World) (C1 C2 : Addr) (p q : Addr) (H : Hp) : Prop := ∃ (s a b : Nat) (ks ls : List (K2 × K2)), Bk P w H p C1 s a b ks ∧ Bk P w H q C2 s a b ls ∧ Mq ks ls
theorem sc_eq : FnScope ["self", "other"] ["self", "other"] (defScope s_Book__eq) := ⟨rfl, rfl, rfl, by decide +kernel, rfl, by decide +kernel, by decide +kernel⟩
theorem ok_beq {f C1 C2 CB : Addr} {fd : FuncData} (F : FnP K "__eq__" "Book.__eq__" s_Book__eq f fd) (T1 : BkT K C1) (T2 : BkT K C2) (I2 : IsT K C2 CB) (mi : mg "isinstance" = none) (gB : mg "Book" = some (.ref CB))
    (m1 : Mth P w K mg base C1 1 "parts" ["self"] (spParts P w C1)) (m2 : Mth P w K mg base C2 1 "parts" ["self"] (spParts P w C2)) : FnOk P w K mg base CX0 2 f fd ["self", "other"] (spEq (BkEq P w C1 C2)) := by
  obtain ⟨f1, fd1, G1, k1, bn1⟩ := m1.ex
  obtain ⟨f2, fd2, G2, k2, bn2⟩ := m2.ex
  refine F.fn.ok sc_eq (fun vs H Q E h => ?_) (fun cdv A outer s H vs Q E hr h => ?_)
  · obtain ⟨p, q, rfl, _⟩ := h
    rfl
  · obtain ⟨p, q, rfl, ⟨s, a, b, ks, ls, h1, h2, hm⟩, fin⟩ := h
    refine ⟨_, pss_one (ps_ret (pe_and (pe_callB call_isi (by rfl) mi (by decide +kernel) (pa_cons (pv 1) (pa_cons (pe_glob (v := .ref CB) rfl gB rfl) pa_nil)))
      (pe_one (pe_cmpR (op_eqParts (room70 hr)) (pe_meth0 (pv 0) T1.cl k1 G1 hr bn1 .nil pass0) (pe_meth0 (pv 1) T2.cl k2 G2 hr bn2 .nil pass0) (nomark _))))), ?_⟩
    obtain ⟨dx, t, hp, ht⟩ := id h1
    obtain ⟨dy, u, hq, hu'⟩ := id h2
    refine ⟨_, rfl, _, _, _, _, true, rfl, .own CB, .base (.ins hq T2.cl I2.h1 I2.h2 I2.h3 I2.h4), I2.h5, true, rfl, iteT ?_⟩
    refine ⟨_, rfl, p, dx, _, rfl, hp, bf_no _ _ _ _ (by decide +kernel) (by decide +kernel) (by decide +kernel) (by decide +kernel), p, s, a, b, ks, rfl, h1, fun H1 r1 t1 s1 e1 tm1 => ?_⟩
    refine ⟨_, rfl, q, dy, _, rfl, s1 _ _ hq, bf_no _ _ _ _ (by decide +kernel) (by decide +kernel) (by decide +kernel) (by decide +kernel), q, s, a, b, ls, rfl, h2.same s1, fun H2 r2 t2 s2 e2 tm2 => ?_⟩
    exact ⟨r1, r2, s, a, b, t1, t2, ks, ls, rfl, rfl, s2 _ _ e1, e2, (tm1.tk s2.tk fun o => s2 _ o).td, tm2.td, hm, fin H2 (s1.trans s2)⟩
/-- == of two instances by the text's own __eq__, the right one's class no subclass of the left one's -/
theorem rcG_two {X : Cx} {n : Nat} {C1 C2 f : Addr} {fd : FuncData} {ps : List Str} {R : Addr → Addr → Hp → Prop} (F : FnOk X.prog X.w X.K X.mg X.base CX0 n f fd ps (spEq R))
    (hs : PySem.W.findIn X.K (.ref C1) "__eq__" = some (some (.ref f))) (hf : PySem.W.isFn X.K (.ref f) = true) (hb : Binds X.K fd ps []) (hn : PySem.W.notFirst X.K C1 (.ref C2) = true) :
    RcG X n (fun x y H => ∃ a b dx dy fs gs, x = .ref a ∧ y = .ref b ∧ H a = some (.ins C1 dx fs) ∧ H b = some (.ins C2 dy gs) ∧ R a b H) := by
  intro A pins s σ H x y u v sb I rx ry d
  obtain ⟨a, b, dx, dy, fs, gs, rfl, rfl, ha, hb', hr⟩ := d
  cases rx
  cases ry
  obtain ⟨mA, J, _⟩ := ins_get I.hok ha
  obtain ⟨mB, J', _⟩ := ins_get I.hok hb'
  obtain ⟨od, J, _⟩ := J.look
  obtain ⟨od', J', _⟩ := J'.look
  obtain ⟨m, hF⟩ := I.fr
  refine PySem.W.cmp_K (op := .Eq) (tb := .ref C2) sb.room.units0 hF I.ok.mod.kin J J'.type hn hs hf ?_
  have hsp : spEq R [.ref a, .ref b] H (fun v H' => v = .bl true ∧ Ext H H') E0 := ⟨a, b, rfl, hr, fun H' e => ⟨rfl, e⟩⟩
  have e0 : Env0 X.prog X.w X.K X.mg X.base A X.stack s H := by
    have e := I.env0
    exact ⟨by rw [sb.fr]; exact e.frames, e.mod, e.bs, e.bsz, e.funs, e.frf, e.hok, e.bare⟩
  have hl := F.len _ _ _ _ hsp
  have r2 : Vals [V.ref a, V.ref b] [Value.ref a, Value.ref b] := .cons rfl (.cons rfl .nil)
  refine wpAny_call (codeAny_mono (F.run A X.stack s H ⟨[.ref a, .ref b], []⟩ [.ref a, .ref b] [.ref a, .ref b] _ E0 sb.room e0 (by
    have := hb s [.ref a, .ref b] I.kIn (by simpa using hl)
    simpa using this) r2 hsp) fun r s' hq => ?_)
  cases r with
  | error e => exact False.elim hq
  | ok fl =>
    cases fl with
    | ret w =>
      obtain ⟨z, H', I', rz, ez, ex⟩ := I.after hq
      subst ez
      cases rz
      exact ⟨rfl, H', I', ex⟩
    | next => exact False.elim hq
    | brk => exact False.elim hq
    | cont => exact False.elim hq
end
end Seam

set_option Elab.async false
set_option linter.all false
set_option maxRecDepth 100000
set_option maxHeartbeats 4000000
namespace Seam
open PySem PySem.Spec PyProof.Rows L2 Nd
section
variable {X : Cx} {C : Addr} {bmB : List Value} {B newId initId : String}
/-- X(), X an own class of exceptions -/
theorem pmk_own0 {x : Str} {p pos : Pos} (F : ExcBaseFacts B newId initId bmB) (q : PySem.W.excIn X.K C bmB newId = true) (gC : X.mg x = some (.ref C)) (kC : PySem.W.keepIn X.K (.ref C) = true) (r : Raises X (.ref C)) (hg : Gl X x)
    (hdb : (x == ("__debug__" : Str)) = false := by decide) : PMk X (.Call (.Name x p) [] [] pos) (fun _ H Q => Q (.ref C) none H) := by
  intro pins s σ H Q I h
  refine wpAny_Call_Name_kw (ld_glob I hg gC ?_ hdb)
  refine PySem.W.callWith_K0 I.kIn kC ?_
  show wpAny _ _ (call (.ref C) []) _ _ _
  obtain ⟨bm, N, nm, qn, bs, hdct, sn, sub, ab, col, dd, k0, k1, k2, k3, k5, mN, hC, hN, hni, T⟩ := exc_obj I.kIn q
  refine wpAny_call_exc_subT F T hC hN hni (fun h' e hm => ?_) (Nat.zero_le _)
  exact mk_of I hm r h (I.hok.gone hm.new)
end
section
variable {P : Program} {w : World} {K : PySem.W.Frag} {mg : Str → Option Value} {base : Heap} {X : Cx}
/-- what a table says of a pair -/
def lk (kvs : List (K2 × K2)) (k : K2) : K2 := (dget kvs k).getD k
def spTold (P : Program) (w : World) (C : Addr) : Sp := fun vs H Q _ => ∃ (p q1 q2 : Addr) (s a b : Nat) (kvs : List (K2 × K2)) (k : K2), vs = [.ref p, .ref q1, .ref q2] ∧ Bk P w H p C s a b kvs ∧ Ro H q1 k.1 ∧ Ro H q2 k.2 ∧ ∀ H' q, Same H H' → Pr H' q (lk kvs k) → Q (.ref q) H'
theorem sc_told : FnScope ["book", "left", "right"] ["book", "left", "right"] (defScope s_told) := ⟨rfl, rfl, rfl, by decide +kernel, rfl, by decide +kernel, by decide +kernel⟩
theorem ok_told {f C : Addr} {fd : FuncData} (F : FnP K "told" "told" s_told f fd) (T : BkT K C) : FnOk P w K mg base CX0 1 f fd ["book", "left", "right"] (spTold P w C) := by
  refine F.fn.ok sc_told (fun vs H Q E h => ?_) (fun cdv A outer s H vs Q E hr h => ?_)
  · obtain ⟨p, q1, q2, s, a, b, kvs, k, rfl, _⟩ := h
    rfl
  · obtain ⟨p, q1, q2, s, a, b, kvs, k, rfl, ⟨dx, t, hp, ht⟩, h1, h2, q⟩ := h
    have hu : (A.deeper (envOfC "told" (defScope s_told) _ f cdv)).units + 64 < cLine := hr.units
    refine ⟨_, pss_one (ps_ret (pe_getN hu (pe_fld (pv 0) rfl) (pe_tup (pa_cons (pv 1) (pa_cons (pv 2) pa_nil))) (pe_tup (pa_cons (pv 1) (pa_cons (pv 2) pa_nil))) ⟨rfl, rfl, rfl, rfl⟩)), ?_⟩
    refine ⟨_, rfl, p, C, dx, _, _, rfl, hp, T.cl, T.n4, bf_t _ _ _ _, t, rfl, ⟨kvs, ht.td⟩, _, rfl, _, rfl, (by show 2 ≤ sizeLine; decide), fun r1 hr1 => ⟨_, rfl, _, rfl, (by show 2 ≤ sizeLine; decide), fun r2 hr2 => ?_⟩⟩
    have s1 : Same H (upd H r1 (.tup [.ref q1, .ref q2])) := same_new hr1
    have s2 : Same (upd H r1 (.tup [.ref q1, .ref q2])) (upd (upd H r1 (.tup [.ref q1, .ref q2])) r2 (.tup [.ref q1, .ref q2])) := same_new hr2
    have s3 := s1.trans s2
    refine ⟨r1, kvs, k, rfl, (ht.tk s3.tk fun o => s3 _ o).td, ⟨q1, q2, s2 _ _ upd_same, s3 _ _ h1, s3 _ _ h2⟩, fun e => ?_, fun z qz e hz => ?_⟩
    · refine q _ r2 s3 ?_
      unfold lk
      rw [e]
      exact ⟨q1, q2, upd_same, s3 _ _ h1, s3 _ _ h2⟩
    · refine q _ qz s3 ?_
      unfold lk
      rw [e]
      exact hz
/-! ### one book behind another -/
/-- all the entries that the walk over the keys lays -/
def layAll (ks ls acc : List (K2 × K2)) (keys : List K2) : List (K2 × K2) := keys.foldl (fun acc k => dput acc k (lk ls (lk ks k))) acc
def keysOf (ks ls : List (K2 × K2)) : List K2 := ks.map (·.1) ++ ls.map (·.1)
def comb (ks ls : List (K2 × K2)) : List (K2 × K2) := filt (layAll ks ls [] (keysOf ks ls))
theorem dput_keys {kvs : List (K2 × K2)} {k v : K2} : (dput kvs k v).map (·.1) = if (kvs.any fun p => decide (p.1 = k)) = true then kvs.map (·.1) else kvs.map (·.1) ++ [k] := by
  unfold dput
  by_cases e : (kvs.any fun p => decide (p.1 = k)) = true
  · rw [if_pos e, if_pos e, List.map_map]
    congr 1
    funext p
    show (if p.1 = k then (p.1, v) else p).1 = p.1
    split <;> rfl
  · rw [if_neg e, if_neg e, List.map_append]
    rfl
theorem dput_nodup {kvs : List (K2 × K2)} {k v : K2} (h : (kvs.map (·.1)).Nodup) : ((dput kvs k v).map (·.1)).Nodup := by
  rw [dput_keys]
  by_cases e : (kvs.any fun p => decide (p.1 = k)) = true
  · rw [if_pos e]
    exact h
  · rw [if_neg e, List.nodup_append]
    refine ⟨h, by simp, fun a ha b hb => ?_⟩
    rw [List.mem_singleton] at hb
    rintro rfl
    obtain ⟨x, hx, e2⟩ := List.mem_map.mp ha
    exact e (List.any_eq_true.mpr ⟨x, hx, decide_eq_true (e2.trans hb)⟩)
theorem dput_len (kvs : List (K2 × K2)) (k v : K2) : (dput kvs k v).length ≤ kvs.length + 1 := by
  unfold dput
  split
  · rw [List.length_map]
    omega
  · rw [List.length_append, List.length_singleton]
    exact Nat.le_refl _
theorem layAll_nodup (ks ls : List (K2 × K2)) : ∀ (keys : List K2) (acc : List (K2 × K2)), (acc.map (·.1)).Nodup → ((layAll ks ls acc keys).map (·.1)).Nodup
  | [], _, h => h
  | _ :: keys, _, h => layAll_nodup ks ls keys _ (dput_nodup h)
theorem layAll_len (ks ls : List (K2 × K2)) : ∀ (keys : List K2) (acc : List (K2 × K2)), (layAll ks ls acc keys).length ≤ acc.length + keys.length
  | [], _ => Nat.le_refl _
  | k :: keys, acc => by
    have h1 := layAll_len ks ls keys (dput acc k (lk ls (lk ks k)))
    have h2 := dput_len acc k (lk ls (lk ks k))
    rw [List.length_cons]
    exact Nat.le_trans h1 (by omega)
theorem layAll_snoc (ks ls : List (K2 × K2)) (acc : List (K2 × K2)) (keys : List K2) (k : K2) : layAll ks ls acc (keys ++ [k]) = dput (layAll ks ls acc keys) k (lk ls (lk ks k)) := by
  unfold layAll
  rw [List.foldl_append]
  rfl
/-- the places of the keys of both -/
theorem ks_keys {H : Hp} {ks ls : List (K2 × K2)} {as bs : List Addr} (r1 : Ks H ks as) (r2 : Ks H ls bs) : Paired (fun k a => Pr H a k) (keysOf ks ls) (as ++ bs) := by
  unfold keysOf
  induction r1 with
  | nil =>
    rw [List.map_nil, List.nil_append, List.nil_append]
    induction r2 with
    | nil => exact .nil
    | cons z _ ih => exact .cons z ih
  | cons z _ ih => exact .cons z ih
theorem ks_tk {H H' : Hp} {ks : List (K2 × K2)} {as : List Addr} (r : Ks H ks as) (t : Tk H H') : Ks H' ks as := Paired.mapP r fun _ _ z => z.tk t
/-- all but what stands at d -/
def But (d : Addr) (H H' : Hp) : Prop := ∀ b o, H b = some o → b ≠ d → H' b = some o
theorem But.tk {d : Addr} {H H' : Hp} {kvs : List (K2 × K2)} (h : But d H H') (t : TM P w H d kvs) : Tk H H' := fun b ys e => by
  obtain ⟨xs, hx, _⟩ := t
  exact h _ _ e (ne_of e hx (fun z => nomatch z))
theorem But.same {d : Addr} {H H' H'' : Hp} (h : But d H H') (s : Same H' H'') : But d H H'' := fun b o e n => s _ _ (h b o e n)
theorem But.bt {d : Addr} {H H' H'' : Hp} (h : But d H H') (s : Bt d H' H'') : But d H H'' := fun b o e n => by
  rw [s b n]
  exact h b o e n
theorem But.of_same {d : Addr} {H H' : Hp} (s : Same H H') : But d H H' := fun b o e _ => s b o e
theorem bt_tk {d : Addr} {H H' : Hp} {kvs : List (K2 × K2)} (t : TM P w H d kvs) (b : Bt d H H') : Tk H H' := fun c ys e => by
  obtain ⟨xs, hx, _⟩ := t
  rw [b c (ne_of e hx (fun z => nomatch z))]
  exact e
/-- a class of books that are made behind one another; E: for other sizes -/
def spOba (P : Program) (w : World) (C1 C2 CR CO : Addr) : Sp := fun vs H Q E => ∃ (p q : Addr) (s a b s2 a2 b2 : Nat) (ks ls : List (K2 × K2)), vs = [.ref p, .ref q] ∧ Bk P w H p C1 s a b ks ∧ Bk P w H q C2 s2 a2 b2 ls ∧ ks.length + ls.length ≤ 4000 ∧
  (¬ (s2 = s ∧ a2 = a ∧ b2 = b) → ∀ H', Same H H' → E (.ref CO) none H') ∧ ((s2 = s ∧ a2 = a ∧ b2 = b) → ∀ H' r, Same H H' → Bk P w H' r CR s a b (comb ks ls) → Q (.ref r) H')
/-- what is asked of the class of an exception that is raised -/
structure ExT (K : PySem.W.Frag) (mg : Str → Option Value) (x : Str) (C : Addr) : Prop where
  g : mg x = some (.ref C)
  x : PySem.W.excIn K C [.type "ValueError", .type "Exception", .type "BaseException", .type "object"] "ValueError.__new__" = true
  k : PySem.W.keepIn K (.ref C) = true
  b : PySem.W.subIn K (.ref C) (.type "BaseException") = some true
  t : PySem.W.typeIn K (.ref C) = some (.type "type")
abbrev N_oba : List Str := ["book", "other", "sizes", "table", "key", "left", "right"]
theorem sc_oba : FnScope N_oba ["book", "other"] (defScope s_one_behind_another) := ⟨rfl, rfl, rfl, by decide +kernel, rfl, by decide +kernel, by decide +kernel⟩
theorem sizes_eq {s a b s2 a2 b2 : Nat} : ([(s2 : Int), (a2 : Int), (b2 : Int)] = [(s : Int), (a : Int), (b : Int)]) ↔ (s2 = s ∧ a2 = a ∧ b2 = b) := by
  simp
  omega
/-- one turn: table[key] = told(other, *told(book, *key)) -/
theorem ok_oba {f C1 C2 CB CR CO : Addr} {fd : FuncData} (F : FnP K "one_behind_another" "one_behind_another" s_one_behind_another f fd) (T1 : BkT K C1) (T2 : BkT K C2) (I2 : IsT K C2 CB) (mi : mg "isinstance" = none) (ml : mg "list" = none) (gB : mg "Book" = some (.ref CB))
    (c1 : Cal P w K mg base CX0 1 "told" ["book", "left", "right"] (spTold P w C1)) (c2 : Cal P w K mg base CX0 1 "told" ["book", "left", "right"] (spTold P w C2)) (mR : Mkr P w K mg base CR 2 "RawBook" ps5 (spKeep P w CR)) (XO : ExT K mg "OtherBook" CO) :
    FnOk P w K mg base (L2.CX P w) 4 f fd ["book", "other"] (spOba P w C1 C2 CR CO) := by
  obtain ⟨f1, fd1, G1, g1, kp1, bn1⟩ := c1.ex
  obtain ⟨f2, fd2, G2, g2, kp2, bn2⟩ := c2.ex
  obtain ⟨f3, fd3, G3, M3, g3, bn3⟩ := mR.ex
  refine F.fn.okX sc_oba (fun vs H Q E h => ?_) (fun cdv A outer s H vs Q E hr h => ?_)
  · obtain ⟨p, q, s, a, b, s2, a2, b2, ks, ls, rfl, _⟩ := h
    rfl
  · obtain ⟨p, q, s, a, b, s2, a2, b2, ks, ls, rfl, hb1, hb2, hsz, he, hq⟩ := h
    have hu : (A.deeper (envOfC "one_behind_another" (defScope s_one_behind_another) _ f cdv)).units + 64 < cLine := hr.units
    refine ⟨_, pss_cons (ps_set (i := 2) sc_oba.nd rfl (Or.inl rfl) (pe_tup (pa_cons (pe_fld (pv 0) rfl) (pa_cons (pe_fld (pv 0) rfl) (pa_cons (pe_fld (pv 0) rfl) pa_nil)))))
      (pss_cons (ps_if (PW.pt (pw_or (pt_not (pt_val (pe_callB call_isi (by rfl) mi (by decide +kernel) (pa_cons (pv 1) (pa_cons (pe_glob (v := .ref CB) rfl gB rfl) pa_nil)))))
          (pw_or1 (pt_cmpR (op_neRo hu) (pe_tup (pa_cons (pe_fld (pv 1) rfl) (pa_cons (pe_fld (pv 1) rfl) (pa_cons (pe_fld (pv 1) rfl) pa_nil)))) (pv 2) (nomark _)))))
        (pss_one (ps_raise rfl (takes_of rfl rfl rfl rfl) (pmk_own0 PySem.F.excBase_ValueError XO.x XO.g XO.k (raises_own XO.b XO.t) rfl))) pss_nil)
      (PSs.nox (pss_cons (ps_set (i := 3) sc_oba.nd rfl (Or.inl rfl) pe_newN)
        (pss_cons (ps_for PassesOwn.never rfl (pi_list (pe_op op_cat (pe_callTy (call_listN rfl) (by rfl) ml (by decide +kernel) (pa_cons (pe_fld (pv 0) rfl) pa_nil)) (pe_callTy (call_listN rfl) (by rfl) ml (by decide +kernel) (pa_cons (pe_fld (pv 1) rfl) pa_nil))))
            (pg_name (i := 4) sc_oba.nd rfl (Or.inl rfl))
            (pss_cons (ps_asg (pe_call G1 (hr.mono (by decide)) (by rfl) g1 kp1 bn1 .nil pass0 (pa_cons (pv 0) (pa_cons (pe_ix ix_tup (pv 4) pe_int (fun _ _ => rfl)) (pa_cons (pe_ix ix_tup (pv 4) pe_int (fun _ _ => rfl)) pa_nil))))
                (pg_tup rfl (pgs_cons (pg_name (i := 5) sc_oba.nd rfl (Or.inl rfl)) (pgs_cons (pg_name (i := 6) sc_oba.nd rfl (Or.inl rfl)) pgs_nil))))
              (pss_one (ps_asg (pe_call G2 (hr.mono (by decide)) (by rfl) g2 kp2 bn2 .nil pass0 (pa_cons (pv 1) (pa_cons (pv 5) (pa_cons (pv 6) pa_nil)))) (pg_sub (pv 3) (pv 4) (set_nd hu))))))
          (pss_one (ps_ret (pe_make M3 G3 hr (by rfl) g3 bn3 .nil pass0 (pa_cons (pe_ix ix_tup (pv 2) pe_int (fun _ _ => rfl)) (pa_cons (pe_ix ix_tup (pv 2) pe_int (fun _ _ => rfl)) (pa_cons (pe_ix ix_tup (pv 2) pe_int (fun _ _ => rfl)) (pa_cons (pv 3) pa_nil))))))))))), ?_⟩
    obtain ⟨dx, t, hp, ht⟩ := id hb1
    obtain ⟨dy, u, hp2, ht2⟩ := id hb2
    refine ⟨_, rfl, p, C1, dx, _, _, rfl, hp, T1.cl, T1.n1, bf_s _ _ _ _, _, rfl, p, C1, dx, _, _, rfl, hp, T1.cl, T1.n2, bf_a _ _ _ _, _, rfl, p, C1, dx, _, _, rfl, hp, T1.cl, T1.n3, bf_b _ _ _ _, (by show 3 ≤ sizeLine; decide), fun z hz => ?_⟩
    have s1 : Same H (upd H z (.tup [.int s, .int a, .int b])) := same_new hz
    refine ⟨_, rfl, _, _, _, _, true, rfl, .own CB, .base (.ins (s1 _ _ hp2) T2.cl I2.h1 I2.h2 I2.h3 I2.h4), I2.h5, true, rfl, iteF ?_⟩
    refine ⟨_, rfl, q, C2, dy, _, _, rfl, s1 _ _ hp2, T2.cl, T2.n1, bf_s _ _ _ _, _, rfl, q, C2, dy, _, _, rfl, s1 _ _ hp2, T2.cl, T2.n2, bf_a _ _ _ _, _, rfl, q, C2, dy, _, _, rfl, s1 _ _ hp2, T2.cl, T2.n3, bf_b _ _ _ _, (by show 3 ≤ sizeLine; decide), fun z2 hz2 => ?_⟩
    have s2' := s1.trans (same_new (o := .tup [.int s2, .int a2, .int b2]) hz2)
    have ez : upd (upd H z (.tup [.int s, .int a, .int b])) z2 (.tup [.int s2, .int a2, .int b2]) z = some (.tup [.int s, .int a, .int b]) := same_new hz2 _ _ upd_same
    refine ⟨_, rfl, z2, z, [(s2 : Int), (a2 : Int), (b2 : Int)], [(s : Int), (a : Int), (b : Int)], rfl, rfl, upd_same, ez, _, rfl, ?_⟩
    by_cases hc' : ¬ (s2 = s ∧ a2 = a ∧ b2 = b)
    · rw [decide_eq_false (fun e => hc' (sizes_eq.mp e))]
      exact iteT (he hc' _ s2')
    have hc := Decidable.not_not.mp hc'
    rw [decide_eq_true (sizes_eq.mpr hc)]
    refine iteF ?_
    intro tb H3 nt tt bt
    have s3 : Same H H3 := s2'.trans (bt_same nt bt)
    have ez3 : H3 z = some (.tup [.int s, .int a, .int b]) := bt_same nt bt _ _ ez
    have b13 := hb1.same s3
    have b23 := hb2.same s3
    obtain ⟨_, t', hp3, ht3⟩ := id b13
    refine ⟨_, rfl, p, C1, _, _, _, rfl, hp3, T1.cl, T1.n4, bf_t _ _ _ _, _, ks, rfl, ht3.td, fun l1 as nl1 rk1 => ?_⟩
    have s4 : Same H3 (upd H3 l1 (.lst (as.map V.ref))) := same_new nl1
    have b24 := b23.same s4
    obtain ⟨_, u', hq4, hu4⟩ := id b24
    refine ⟨_, rfl, q, C2, _, _, _, rfl, hq4, T2.cl, T2.n4, bf_t _ _ _ _, _, ls, rfl, hu4.td, fun l2 bs nl2 rk2 => ?_⟩
    have s5 : Same H3 (upd (upd H3 l1 (.lst (as.map V.ref))) l2 (.lst (bs.map V.ref))) := s4.trans (same_new nl2)
    have la : ks.length = as.length := Paired.length rk1
    have lb : ls.length = bs.length := Paired.length rk2
    refine ⟨l1, l2, _, _, rfl, rfl, same_new nl2 _ _ upd_same, upd_same, ?_, fun l3 nl3 => ?_⟩
    · rw [List.length_map, List.length_map]
      exact Nat.le_of_lt (small1000' (by omega))
    rw [← List.map_append]
    have s6 : Same H3 (upd (upd (upd H3 l1 (.lst (as.map V.ref))) l2 (.lst (bs.map V.ref))) l3 (.lst ((as ++ bs).map V.ref))) := s5.trans (same_new nl3)
    have hl3 : upd (upd (upd H3 l1 (.lst (as.map V.ref))) l2 (.lst (bs.map V.ref))) l3 (.lst ((as ++ bs).map V.ref)) l3 = some (.lst ((as ++ bs).map V.ref)) := upd_same
    have rk : Paired (fun k a => Pr (upd (upd (upd H3 l1 (.lst (as.map V.ref))) l2 (.lst (bs.map V.ref))) l3 (.lst ((as ++ bs).map V.ref))) a k) (keysOf ks ls) (as ++ bs) :=
      ks_keys (ks_tk rk1 s6.tk) (ks_tk rk2 ((same_new nl2).trans (same_new nl3)).tk)
    have tb6 := tt.tk s6.tk fun o => s6 _ o
    have b16 := b13.same s6
    have b26 := b23.same s6
    have ez6 := s6 _ _ ez3
    have s36 : Same H (upd (upd (upd H3 l1 (.lst (as.map V.ref))) l2 (.lst (bs.map V.ref))) l3 (.lst ((as ++ bs).map V.ref))) := s3.trans s6
    have nH : ∀ b o, H b = some o → b ≠ tb := fun b o e => ne_of_none (s2' _ _ e) nt
    clear rk1 rk2
    generalize upd (upd (upd H3 l1 (.lst (as.map V.ref))) l2 (.lst (bs.map V.ref))) l3 (.lst ((as ++ bs).map V.ref)) = HL at *
    have hlk : (keysOf ks ls).length = (as ++ bs).length := Paired.length rk
    have nzt : ∀ {H' : Hp} {kv : List (K2 × K2)}, TM P w H' tb kv → ∀ b ys, H' b = some (.tup ys) → b ≠ tb := fun {H' kv} ⟨xs, hx, _⟩ b ys e => ne_of e hx (fun z => nomatch z)
    refine ⟨l3, rfl, ⟨_, SqL.of hl3⟩, for_list (K := K) (a := l3) (xs := (as ++ bs).map V.ref) (fun i σ H' => ∃ x4 x5 x6, σ = [some (.ref p), some (.ref q), some (.ref z), some (.ref tb), x4, x5, x6] ∧ But tb HL H' ∧ TM P w H' tb (layAll ks ls [] ((keysOf ks ls).take i)))
      ⟨none, none, none, rfl, fun _ _ e _ => e, tb6⟩ (fun i σ H' _ z => ?_) (fun i x σ H' hx z => ?_) (fun σ H' z => ?_)⟩
    · obtain ⟨_, _, _, _, bt', _⟩ := z
      have : l3 ≠ tb := by
        obtain ⟨_, hx, _⟩ := tb6
        exact ne_of hl3 hx (fun z => nomatch z)
      exact SqL.of (bt' _ _ hl3 this)
    · obtain ⟨x4, x5, x6, rfl, bt', tm'⟩ := z
      have hi : i < (keysOf ks ls).length := by
        have h1 := (List.getElem?_eq_some_iff.mp hx).1
        rw [List.length_map] at h1
        omega
      obtain ⟨ad, had, pra⟩ := paired_get rk (List.getElem?_eq_getElem hi)
      rw [List.getElem?_map, had] at hx
      cases hx
      have tk' : Tk HL H' := bt'.tk tb6
      have prk := pra.tk tk'
      obtain ⟨p1, p2, e0, e1, e2⟩ := id prk
      have sH : Same H H' := fun b o e => bt' _ _ (s36 _ _ e) (nH _ _ e)
      refine ⟨_, rfl, _, rfl, ad, _, _, _, rfl, rfl, SqT.of e0, atI_nat (j := 0) rfl, _, rfl, ad, _, _, _, rfl, rfl, SqT.of e0, atI_nat (j := 1) rfl, p, p1, p2, s, a, b, ks, _, rfl, hb1.same sH, e1, e2, fun H1 q1 t1 pr1 => ?_⟩
      obtain ⟨v1, v2, f0, f1, f2⟩ := id pr1
      refine ⟨q1, _, rfl, SqT.of f0, rfl, _, _, rfl, _, _, rfl, rfl, ?_⟩
      refine ⟨_, rfl, _, rfl, _, rfl, q, v1, v2, s2, a2, b2, ls, _, rfl, hb2.same (sH.trans t1), f1, f2, fun H2 q2 t2 pr2 => ?_⟩
      have tm2 := (tm'.tk t1.tk fun o => t1 _ o).tk t2.tk fun o => t2 _ o
      have ll := layAll_len ks ls ((keysOf ks ls).take i) []
      refine ⟨_, rfl, _, rfl, tb, ad, q2, _, _, _, rfl, rfl, rfl, tm2, (prk.tk t1.tk).tk t2.tk, pr2, ?_, fun H4 tm4 bt4 => ⟨_, _, _, rfl, ((bt'.same t1).same t2).bt bt4, ?_⟩⟩
      · refine small1000' (Nat.le_trans ll ?_)
        rw [List.length_take, List.length_nil]
        have : (keysOf ks ls).length = ks.length + ls.length := by
          unfold keysOf
          rw [List.length_append, List.length_map, List.length_map]
        omega
      · rw [List.take_add_one, List.getElem?_eq_getElem hi]
        show TM P w H4 tb (layAll ks ls [] (((keysOf ks ls).take i) ++ [(keysOf ks ls)[i]]))
        rw [layAll_snoc]
        exact tm4
    · obtain ⟨x4, x5, x6, rfl, bt', tm'⟩ := z
      rw [List.length_map, ← hlk, List.take_length] at tm'
      have sH : Same H H' := fun b o e => bt' _ _ (s36 _ _ e) (nH _ _ e)
      have ez' := bt'.tk tb6 _ _ ez6
      refine ⟨_, rfl, z, _, _, _, rfl, rfl, SqT.of ez', atI_nat (j := 0) rfl, _, rfl, z, _, _, _, rfl, rfl, SqT.of ez', atI_nat (j := 1) rfl, _, rfl, z, _, _, _, rfl, rfl, SqT.of ez', atI_nat (j := 2) rfl, _, rfl, fun x dx' nx ndx nex => ?_⟩
      have sx : Same H' (upd (upd H' dx' (.own x)) x (.ins CR dx' [])) := (same_new ndx).upd (by rw [upd_ne (Ne.symm nex)]; exact nx)
      refine ⟨x, dx', tb, s, a, b, _, rfl, upd_same, tm'.tk sx.tk fun o => sx _ o, layAll_nodup ks ls _ _ List.nodup_nil, ?_, fun H5 k5 b5 => ⟨rfl, hq hc H5 x (fun b o e => k5 _ _ (sx _ _ (sH _ _ e)) (ne_of_none (sH _ _ e) nx)) b5⟩⟩
      refine Nat.le_trans (layAll_len ks ls _ []) ?_
      have : (keysOf ks ls).length = ks.length + ls.length := by
        unfold keysOf
        rw [List.length_append, List.length_map, List.length_map]
      rw [List.length_nil]
      omega
end
end Seam

set_option Elab.async false
set_option linter.all false
set_option maxRecDepth 100000
set_option maxHeartbeats 4000000
namespace Seam
open PySem PySem.Spec PyProof.Rows L2 Nd
section
variable {P : Program} {w : World} {K : PySem.W.Frag} {mg : Str → Option Value} {base : Heap} {X : Cx}
theorem call_isEc {X : Cx} {a D : Addr} {oe : Obj} {cls : Value} {d : Option Addr} {pn : List (Addr × Obj)} (C : ExcC X.K D) (hz : Zc cls d oe) (hf : ∃ vs, oe.data = .fields vs) :
    CallR (X.suite a ((a, oe) :: pn)) (.builtin "isinstance") (fun xs H Q => cls = .ref D ∧ d = none ∧ rIsE X.K D a xs H Q) := fun pins s σ H xs us Q I r ⟨e1, e2, h⟩ => by
  subst e1 e2
  exact call_isE C hz hf pins s σ H xs us Q I r h
def spLTold (P : Program) (w : World) (C1 C2 CR : Addr) : Sp := fun vs H Q _ => ∃ (p q : Addr) (s a b s2 a2 b2 : Nat) (ks ls : List (K2 × K2)), vs = [.ref p, .ref q] ∧ Bk P w H p C1 s a b ks ∧ Bk P w H q C2 s2 a2 b2 ls ∧ ks.length + ls.length ≤ 4000 ∧
  (¬ (s2 = s ∧ a2 = a ∧ b2 = b) → ∀ H' r, Same H H' → H' r = some (.tup [.str "refused", .non]) → Q (.ref r) H') ∧
  ((s2 = s ∧ a2 = a ∧ b2 = b) → ∀ H' r x, Same H H' → H' r = some (.tup [.str "book", .ref x]) → Bk P w H' x CR s a b (comb ks ls) → Q (.ref r) H')
abbrev N_ltold : List Str := ["_law_one", "_law_other", "_law_told_here", "e"]
theorem sc_ltold : FnScope N_ltold ["_law_one", "_law_other"] (defScope s_law_told) := ⟨rfl, rfl, rfl, by decide +kernel, rfl, by decide +kernel, by decide +kernel⟩
structure LtT (K : PySem.W.Frag) (mg : Str → Option Value) (CO CS : Addr) : Prop where
  gO : mg "OtherBook" = some (.ref CO)
  gS : mg "SeamError" = some (.ref CS)
  em : PySem.W.exmOne K (.ref CO) (.ref CS) = some true
  ec : ExcC K CO
  k1 : PySem.W.kitOne K (.ref CO) (.ref CO) = some true
  k2 : PySem.W.kitOne K (.ref CO) (.type "ValueError") = some true
theorem ok_ltold {f C1 C2 CR CO CS : Addr} {fd : FuncData} (F : FnP K "_law_told" "_law_told" s_law_told f fd) (T : LtT K mg CO CS) (mi : mg "isinstance" = none) (mv : mg "ValueError" = none)
    (c : Cal P w K mg base (L2.CX P w) 4 "one_behind_another" ["book", "other"] (spOba P w C1 C2 CR CO)) : FnOk P w K mg base CX0 5 f fd ["_law_one", "_law_other"] (spLTold P w C1 C2 CR) := by
  obtain ⟨f1, fd1, G1, g1, kp1, bn1⟩ := c.ex
  refine F.fn.ok sc_ltold (fun vs H Q E h => ?_) (fun cdv A outer s H vs Q E hr h => ?_)
  · obtain ⟨p, q, s, a, b, s2, a2, b2, ks, ls, rfl, _⟩ := h
    rfl
  · obtain ⟨p, q, s, a, b, s2, a2, b2, ks, ls, rfl, hb1, hb2, hsz, he, hq⟩ := h
    refine ⟨_, pss_cons (ps_set (i := 2) sc_ltold.nd rfl (Or.inl rfl) (pe_tup (pa_cons pe_str (pa_cons pe_non pa_nil))))
      (pss_cons (ps_try_as (i := 3) rfl rfl sc_ltold.nd rfl rfl ⟨rfl, by decide, .inl T.gS⟩ takes0
          (fun W pn xe tk _ => pss_one (ps_set (i := 2) sc_ltold.nd rfl (Or.inl rfl) (pe_tup (pa_cons pe_str (pa_cons (pe_callS G1 hr (by rfl) g1 kp1 bn1 (fun σ => passAt tk σ) (pa_cons (pv 0) (pa_cons (pv 1) pa_nil))) pa_nil)))))
          (fun a oe cls d pn hz hf => pss_one (ps_if (PW.pt (pw_and (pt_val (pe_callB (call_isEc T.ec hz hf) (by rfl) mi (by decide +kernel) (pa_cons (pv 3) (pa_cons (pe_glob (v := .ref CO) rfl T.gO rfl) pa_nil))))
              (pw_and1 (pt_val (pe_callB (call_isEc T.ec hz hf) (by rfl) mi (by decide +kernel) (pa_cons (pv 3) (pa_cons (pe_bltn (v := .ty "ValueError") (by rfl) mv (by decide +kernel) rfl) pa_nil)))))))
            (pss_one (ps_set (i := 2) sc_ltold.nd rfl (Or.inl rfl) (pe_tup (pa_cons pe_str (pa_cons pe_non pa_nil))))) pss_nil)))
        (pss_one (ps_ret (pv 2)))), ?_⟩
    refine ⟨(by show 2 ≤ sizeLine; decide), fun z0 hz0 => ?_⟩
    have s0 : Same H (upd H z0 (.tup [.str "other", .non])) := same_new hz0
    refine ⟨_, rfl, _, rfl, p, q, s, a, b, s2, a2, b2, ks, ls, rfl, hb1.same s0, hb2.same s0, hsz, fun hc H1 s1 => ?_, fun hc H1 r s1 bk => ?_⟩
    · refine ⟨true, T.em, fun _ a ha => ?_, fun e => nomatch e⟩
      refine ⟨_, rfl, rfl, rfl, _, _, true, rfl, fun u hu => hu, T.k1, true, rfl, iteT ?_⟩
      refine ⟨_, rfl, rfl, rfl, _, _, true, rfl, fun u hu => hu, T.k2, true, rfl, iteT ?_⟩
      refine ⟨(by show 2 ≤ sizeLine; decide), fun z hz => ?_⟩
      exact ⟨_, rfl, he hc _ z ((s0.trans s1).trans (same_new hz)) upd_same⟩
    · refine ⟨(by show 2 ≤ sizeLine; decide), fun z hz => ?_⟩
      exact ⟨_, rfl, hq hc _ z r ((s0.trans s1).trans (same_new hz)) upd_same (bk.same (same_new hz))⟩
end
end Seam

set_option Elab.async false
set_option linter.all false
set_option maxRecDepth 100000
set_option maxHeartbeats 4000000
namespace Seam
open PySem PySem.Spec PyProof.Rows L2 Nd
section
variable {P : Program} {w : World} {K : PySem.W.Frag} {mg : Str → Option Value} {base : Heap} {X : Cx}
/-! ### rows: slices, + -/
def cutR (r : Rw) (lo hi : Option Int) : Rw := (r.drop (HT.sIx r.length 0 lo)).take (HT.sIx r.length r.length hi - HT.sIx r.length 0 lo)
theorem cutV_R (r : Rw) (lo hi : Option Int) : cutV (r.map V.int) lo hi = (cutR r lo hi).map V.int := by
  unfold cutV cutR
  rw [List.length_map, List.map_take, List.map_drop]
theorem cutR_all {r : Rw} {lo hi : Option Int} (h : HT.sIx r.length 0 lo = 0 ∧ HT.sIx r.length r.length hi = r.length) : cutR r lo hi = r := by
  unfold cutR
  rw [h.1, h.2, List.drop_zero, Nat.sub_zero, List.take_length]
def rSlR : V → Option Int → Option Int → Hp → VK → Prop := fun x lo hi H Q => ∃ a r, x = .ref a ∧ Ro H a r ∧ ∀ p H', Same H H' → Ro H' p (cutR r lo hi) → Q (.ref p) H'
theorem sl_row : SlR X rSlR := by
  intro pins s σ H x v vl vu lo hi sl Q I rx hs pl pu ⟨a, r, e, hr, q⟩
  refine sl_tupA pins s σ H x v vl vu lo hi sl Q I rx hs pl pu ⟨a, _, e, SqT.of hr, fun h => q a H (Same.refl H) ?_, fun h p hp => q p _ (same_new hp) ?_⟩
  · rw [List.length_map] at h
    rw [cutR_all h]
    exact hr
  · show upd H p (.tup (cutV (r.map V.int) lo hi)) p = some (.tup ((cutR r lo hi).map V.int))
    rw [upd_same, cutV_R]
def rCatR : R2 := fun x y H Q => ∃ a b r q, x = .ref a ∧ y = .ref b ∧ Ro H a r ∧ Ro H b q ∧ r.length + q.length ≤ 8000 ∧ ∀ p H', Same H H' → Ro H' p (r ++ q) → Q (.ref p) H'
theorem small8000 {n : Nat} (h : n ≤ 8000) : n ≤ sizeLine := Nat.le_trans h (by decide)
theorem op_catR : OpR X (binaryOp .Add) rCatR := by
  intro pins s σ H x y v u Q I rx ry ⟨a, b, r, q, e1, e2, hr, hq, hz, k⟩
  refine op_catA pins s σ H x y v u Q I rx ry ⟨a, b, _, _, e1, e2, SqT.of hr, SqT.of hq, by rw [List.length_map, List.length_map]; exact small8000 hz, fun h => k b H (Same.refl H) ?_, fun _ h => k a H (Same.refl H) ?_, fun _ _ p hp => k p _ (same_new hp) ?_⟩
  · rw [List.map_eq_nil_iff] at h
    subst h
    exact hq
  · rw [List.map_eq_nil_iff] at h
    subst h
    rw [List.append_nil]
    exact hr
  · show upd H p (.tup (r.map V.int ++ q.map V.int)) p = some (.tup ((r ++ q).map V.int))
    rw [upd_same, List.map_append]
theorem cut_last {r : Rw} {a : Nat} (h : 1 ≤ a) : cutR r (some (-(a : Int))) none = r.drop (r.length - a) := by
  unfold cutR
  have e : HT.sIx r.length 0 (some (-(a : Int))) = r.length - a := by
    show (if (-(a : Int)) < 0 then (-(a : Int) + (r.length : Int)).toNat else min (-(a : Int)).toNat r.length) = _
    rw [if_pos (by omega)]
    omega
  rw [e, HT.sIx_none, List.take_of_length_le]
  rw [List.length_drop]
  exact Nat.le_refl _
theorem cut_from {r : Rw} {k : Nat} : cutR r (some (k : Int)) none = r.drop k := by
  unfold cutR
  rw [HT.sIx_nat, HT.sIx_none, List.take_of_length_le (by rw [List.length_drop]; exact Nat.le_refl _)]
  by_cases h : k ≤ r.length
  · rw [Nat.min_eq_left h]
  · rw [Nat.min_eq_right (by omega), List.drop_of_length_le (Nat.le_refl _), List.drop_of_length_le (by omega)]
theorem cut_to {r : Rw} {k : Nat} : cutR r none (some (k : Int)) = r.take k := by
  unfold cutR
  rw [HT.sIx_nat, HT.sIx_none, List.drop_zero, Nat.sub_zero]
  by_cases h : k ≤ r.length
  · rw [Nat.min_eq_left h]
  · rw [Nat.min_eq_right (by omega), List.take_of_length_le (Nat.le_refl _), List.take_of_length_le (by omega)]
/-! ### rows that meet -/
def pmeet (kvs : List (K2 × K2)) (a b : Nat) (x y : Rw) : K2 :=
  let k := lk kvs (x.drop (x.length - a), y.take b)
  (x.take (x.length - (x.drop (x.length - a)).length) ++ k.1, k.2 ++ y.drop (y.take b).length)
/-- the new sides are as long as the old ones -/
def LenOk (kvs : List (K2 × K2)) : Prop := ∀ k, (lk kvs k).1.length = k.1.length ∧ (lk kvs k).2.length = k.2.length
theorem pmeet_len {kvs : List (K2 × K2)} (h : LenOk kvs) (a b : Nat) (x y : Rw) : (pmeet kvs a b x y).1.length = x.length ∧ (pmeet kvs a b x y).2.length = y.length := by
  obtain ⟨h1, h2⟩ := h (x.drop (x.length - a), y.take b)
  unfold pmeet
  dsimp only at h1 h2 ⊢
  rw [List.length_append, List.length_append, h1, h2]
  simp only [List.length_take, List.length_drop]
  omega
def spJoin (P : Program) (w : World) (C : Addr) : Sp := fun vs H Q _ => ∃ (p q1 q2 : Addr) (s a b : Nat) (kvs : List (K2 × K2)) (x y : Rw), vs = [.ref p, .ref q1, .ref q2] ∧ Bk P w H p C s a b kvs ∧ 1 ≤ a ∧ LenOk kvs ∧ Ro H q1 x ∧ Ro H q2 y ∧ x.length ≤ 4000 ∧ y.length ≤ 4000 ∧
  ∀ H' q, Same H H' → Pr H' q (pmeet kvs a b x y) → Q (.ref q) H'
abbrev N_join : List Str := ["book", "one", "other", "left", "right", "new_left", "new_right"]
theorem sc_join : FnScope N_join ["book", "one", "other"] (defScope s_joined_rows) := ⟨rfl, rfl, rfl, by decide +kernel, rfl, by decide +kernel, by decide +kernel⟩
theorem len_ro {H : Hp} {p : Addr} {r : Rw} (h : Ro H p r) : SqT K H p (r.map V.int) := SqT.of h
theorem ok_join {f C : Addr} {fd : FuncData} (F : FnP K "joined_rows" "joined_rows" s_joined_rows f fd) (T : BkT K C) (ml : mg "len" = none) (c : Cal P w K mg base CX0 1 "told" ["book", "left", "right"] (spTold P w C)) :
    FnOk P w K mg base CX0 2 f fd ["book", "one", "other"] (spJoin P w C) := by
  obtain ⟨f1, fd1, G, g, kp, bn⟩ := c.ex
  refine F.fn.ok sc_join (fun vs H Q E h => ?_) (fun cdv A outer s H vs Q E hr h => ?_)
  · obtain ⟨p, q1, q2, s, a, b, kvs, x, y, rfl, _⟩ := h
    rfl
  · obtain ⟨p, q1, q2, s, a, b, kvs, x, y, rfl, hb, ha, hlk, hx, hy, hxl, hyl, q⟩ := h
    refine ⟨_, pss_cons (ps_set (i := 3) sc_join.nd rfl (Or.inl rfl) (pe_slice sl_row (pv 1) (po_some (pe_un un_neg (pe_fld (pv 0) rfl))) po_none))
      (pss_cons (ps_set (i := 4) sc_join.nd rfl (Or.inl rfl) (pe_slice sl_row (pv 2) po_none (po_some (pe_fld (pv 0) rfl))))
      (pss_cons (ps_asg (pe_call G hr (by rfl) g kp bn .nil pass0 (pa_cons (pv 0) (pa_cons (pv 3) (pa_cons (pv 4) pa_nil)))) (pg_tup rfl (pgs_cons (pg_name (i := 5) sc_join.nd rfl (Or.inl rfl)) (pgs_cons (pg_name (i := 6) sc_join.nd rfl (Or.inl rfl)) pgs_nil))))
      (pss_one (ps_ret (pe_tup (pa_cons (pe_op op_catR (pe_slice sl_row (pv 1) po_none (po_some (pe_op op_sub (pe_callB call_len_seq (by rfl) ml PySem.boot_len (pa_cons (pv 1) pa_nil)) (pe_callB call_len_seq (by rfl) ml PySem.boot_len (pa_cons (pv 3) pa_nil))))) (pv 5))
        (pa_cons (pe_op op_catR (pv 6) (pe_slice sl_row (pv 2) (po_some (pe_callB call_len_seq (by rfl) ml PySem.boot_len (pa_cons (pv 4) pa_nil))) po_none)) pa_nil))))))), ?_⟩
    obtain ⟨dx, t, hp, ht⟩ := id hb
    refine ⟨_, rfl, _, rfl, p, C, dx, _, _, rfl, hp, T.cl, T.n2, bf_a _ _ _ _, _, rfl, _, rfl, q1, x, rfl, hx, fun r1 H1 s1 hr1 => ?_⟩
    rw [cut_last ha] at hr1
    refine ⟨_, rfl, _, rfl, p, C, dx, _, _, rfl, s1 _ _ hp, T.cl, T.n3, bf_b _ _ _ _, _, rfl, q2, y, rfl, s1 _ _ hy, fun r2 H2 s2 hr2 => ?_⟩
    rw [cut_to] at hr2
    refine ⟨_, rfl, _, rfl, _, rfl, p, r1, r2, s, a, b, kvs, (_, _), rfl, (hb.same s1).same s2, s2 _ _ hr1, hr2, fun H3 q3 s3 pr3 => ?_⟩
    obtain ⟨v1, v2, f0, f1, f2⟩ := id pr3
    refine ⟨q3, _, rfl, SqT.of f0, rfl, _, _, rfl, _, _, rfl, rfl, ?_⟩
    have s13 := (s1.trans s2).trans s3
    obtain ⟨l1, l2⟩ := hlk (x.drop (x.length - a), y.take b)
    refine ⟨_, rfl, _, rfl, q1, _, rfl, .inr (SqT.of (s13 _ _ hx)), _, rfl, r1, _, rfl, .inr (SqT.of ((s2.trans s3) _ _ hr1)), _, _, rfl, rfl, _, rfl, q1, x, rfl, s13 _ _ hx, fun r4 H4 s4 hr4 => ?_⟩
    have e4 : (((x.map V.int).length : Nat) : Int) - ((((x.drop (x.length - a)).map V.int).length : Nat) : Int) = ((x.length - (x.drop (x.length - a)).length : Nat) : Int) := by
      rw [List.length_map, List.length_map, List.length_drop]
      omega
    rw [e4, cut_to] at hr4
    refine ⟨_, rfl, r4, v1, _, _, rfl, rfl, hr4, s4 _ _ f1, ?_, fun r5 H5 s5 hr5 => ?_⟩
    · rw [l1]
      simp only [List.length_take, List.length_drop]
      omega
    have s15 := (s13.trans s4).trans s5
    refine ⟨_, rfl, _, rfl, _, rfl, r2, _, rfl, .inr (SqT.of (((s3.trans s4).trans s5) _ _ hr2)), _, rfl, q2, y, rfl, s15 _ _ hy, fun r6 H6 s6 hr6 => ?_⟩
    rw [cut_from, List.length_map] at hr6
    refine ⟨v2, r6, _, _, rfl, rfl, ((s4.trans s5).trans s6) _ _ f2, hr6, ?_, fun r7 H7 s7 hr7 => ⟨(by show 2 ≤ sizeLine; decide), fun r8 hr8 => ?_⟩⟩
    · rw [l2]
      simp only [List.length_take, List.length_drop]
      omega
    refine q _ r8 (((s15.trans s6).trans s7).trans (same_new hr8)) ⟨r5, r7, upd_same, ?_, ?_⟩
    · exact ((s6.trans s7).trans (same_new hr8)) _ _ hr5
    · exact same_new hr8 _ _ hr7
end
end Seam

set_option Elab.async false
set_option linter.all false
set_option maxRecDepth 100000
set_option maxHeartbeats 4000000
namespace Seam
open PySem PySem.Spec PyProof.Rows L2 Nd
section
variable {P : Program} {w : World} {K : PySem.W.Frag} {mg : Str → Option Value} {base : Heap} {X : Cx}
/-! ### check_row, met -/
def spCheckRow (P : Program) (w : World) (C : Addr) : Sp := fun vs H Q _ => ∃ (p q : Addr) (s a b : Nat) (kvs : List (K2 × K2)) (x : Rw), vs = [.ref p, .ref q] ∧ Bk P w H p C s a b kvs ∧ Ro H q x ∧ 1 ≤ x.length ∧ x.length ≤ 4000 ∧ (∀ i ∈ x, 0 ≤ i ∧ i < (s : Int)) ∧
  ∀ H', Same H H' → Q .non H'
theorem sc_check_row : FnScope ["book", "thing"] ["book", "thing"] (defScope s_check_row) := ⟨rfl, rfl, rfl, by decide +kernel, rfl, by decide +kernel, by decide +kernel⟩
theorem ok_check_row {f C : Addr} {fd : FuncData} (F : FnP K "check_row" "check_row" s_check_row f fd) (T : BkT K C) (c : Cal P w K mg base CX0 4 "is_sounds" ["thing", "sounds", "least", "most"] spSounds) (gM : GInt mg "MOST_ROW" 4000) :
    FnOk P w K mg base CX0 5 f fd ["book", "thing"] (spCheckRow P w C) := by
  obtain ⟨f1, fd1, G, g, kp, bn⟩ := c.ex
  obtain ⟨tM, gM⟩ := gM
  refine F.fn.ok sc_check_row (fun vs H Q E h => ?_) (fun cdv A outer s H vs Q E hr h => ?_)
  · obtain ⟨p, q, s, a, b, kvs, x, rfl, _⟩ := h
    rfl
  · obtain ⟨p, q, s, a, b, kvs, x, rfl, ⟨dx, t, hp, ht⟩, hx, h1, h2, h3, k⟩ := h
    refine ⟨_, pss_one (ps_if (pt_not (pt_val (pe_call G hr (by rfl) g kp bn .nil pass0 (pa_cons (pv 1) (pa_cons (pe_fld (pv 0) rfl) (pa_cons pe_int (pa_cons (pe_glob (v := .int 4000) rfl gM ⟨_, rfl⟩) pa_nil))))))) (pss_one ps_never) pss_nil), ?_⟩
    exact ⟨_, rfl, _, rfl, p, C, dx, _, _, rfl, hp, T.cl, T.n1, bf_s _ _ _ _, q, x, s, 1, 4000, rfl, hx, by omega, by omega, by omega, h3, fun H1 s1 => ⟨true, rfl, iteF (k H1 s1)⟩⟩
def spMet (P : Program) (w : World) (C : Addr) : Sp := fun vs H Q _ => ∃ (p q1 q2 : Addr) (s a b : Nat) (kvs : List (K2 × K2)) (x y : Rw), vs = [.ref p, .ref q1, .ref q2] ∧ Bk P w H p C s a b kvs ∧ 1 ≤ a ∧ LenOk kvs ∧ Ro H q1 x ∧ Ro H q2 y ∧ 1 ≤ x.length ∧ x.length ≤ 4000 ∧ 1 ≤ y.length ∧ y.length ≤ 4000 ∧
  (∀ i ∈ x, 0 ≤ i ∧ i < (s : Int)) ∧ (∀ i ∈ y, 0 ≤ i ∧ i < (s : Int)) ∧ ∀ H' q, Same H H' → Ro H' q ((pmeet kvs a b x y).1 ++ (pmeet kvs a b x y).2) → Q (.ref q) H'
abbrev N_met : List Str := ["book", "one", "other", "ahead", "behind"]
theorem sc_met : FnScope N_met ["book", "one", "other"] (defScope s_met) := ⟨rfl, rfl, rfl, by decide +kernel, rfl, by decide +kernel, by decide +kernel⟩
theorem ok_met {f C : Addr} {fd : FuncData} (F : FnP K "met" "met" s_met f fd) (cr : Cal P w K mg base CX0 5 "check_row" ["book", "thing"] (spCheckRow P w C)) (cj : Cal P w K mg base CX0 2 "joined_rows" ["book", "one", "other"] (spJoin P w C)) :
    FnOk P w K mg base CX0 6 f fd ["book", "one", "other"] (spMet P w C) := by
  obtain ⟨f1, fd1, G1, g1, kp1, bn1⟩ := cr.ex
  obtain ⟨f2, fd2, G2, g2, kp2, bn2⟩ := cj.ex
  refine F.fn.ok sc_met (fun vs H Q E h => ?_) (fun cdv A outer s H vs Q E hr h => ?_)
  · obtain ⟨p, q1, q2, s, a, b, kvs, x, y, rfl, _⟩ := h
    rfl
  · obtain ⟨p, q1, q2, s, a, b, kvs, x, y, rfl, hb, ha, hl, hx, hy, x1, x2, y1, y2, x3, y3, k⟩ := h
    refine ⟨_, pss_cons (ps_expr (pe_call G1 hr (by rfl) g1 kp1 bn1 .nil pass0 (pa_cons (pv 0) (pa_cons (pv 1) pa_nil))))
      (pss_cons (ps_expr (pe_call G1 hr (by rfl) g1 kp1 bn1 .nil pass0 (pa_cons (pv 0) (pa_cons (pv 2) pa_nil))))
      (pss_cons (ps_asg (pe_call G2 (hr.mono (by decide)) (by rfl) g2 kp2 bn2 .nil pass0 (pa_cons (pv 0) (pa_cons (pv 1) (pa_cons (pv 2) pa_nil)))) (pg_tup rfl (pgs_cons (pg_name (i := 3) sc_met.nd rfl (Or.inl rfl)) (pgs_cons (pg_name (i := 4) sc_met.nd rfl (Or.inl rfl)) pgs_nil))))
      (pss_one (ps_ret (pe_op op_catR (pv 3) (pv 4)))))), ?_⟩
    refine ⟨_, rfl, _, rfl, p, q1, s, a, b, kvs, x, rfl, hb, hx, x1, x2, x3, fun H1 s1 => ?_⟩
    refine ⟨_, rfl, _, rfl, p, q2, s, a, b, kvs, y, rfl, hb.same s1, s1 _ _ hy, y1, y2, y3, fun H2 s2 => ?_⟩
    have s12 := s1.trans s2
    refine ⟨_, rfl, _, rfl, _, rfl, p, q1, q2, s, a, b, kvs, x, y, rfl, hb.same s12, ha, hl, s12 _ _ hx, s12 _ _ hy, x2, y2, fun H3 q3 s3 pr => ?_⟩
    obtain ⟨v1, v2, f0, f1, f2⟩ := pr
    obtain ⟨l1, l2⟩ := pmeet_len hl a b x y
    refine ⟨q3, _, rfl, SqT.of f0, rfl, _, _, rfl, _, _, rfl, rfl, _, rfl, _, rfl, v1, v2, _, _, rfl, rfl, f1, f2, by omega, fun r H4 s4 hr4 => k _ r ((s12.trans s3).trans s4) hr4⟩
/-- d.get(k, k) of a pair k, in one word -/
def tGetL (P : Program) (w : World) (td ty tx : TE) : TE := fun σ H Q => td σ H fun o H1 => ∃ d, o = .ref d ∧ (∃ kvs, TD P w H1 d kvs) ∧ ty σ H1 fun y H2 => tx σ H2 fun x H3 => ∃ a b kvs k, y = .ref a ∧ x = .ref b ∧ TD P w H3 d kvs ∧ Pr H3 a k ∧ Pr H3 b k ∧
  ∀ q, Pr H3 q (lk kvs k) → Q (.ref q) H3
theorem pe_getL {o e f : Expr} {apos cpos : Pos} {td ty tx : TE} (hu : X.A.units + 64 < cLine) (ho : PE X o td) (he : PE X e ty) (hf : PE X f tx) (m : M2 X o "get" apos e f cpos) :
    PE X (.Call (.Attribute o "get" apos) [e, f] [] cpos) (tGetL X.prog X.w td ty tx) := by
  refine ⟨fun pins s σ H Q I h => ?_⟩
  refine wpAny_Call_method m.base m.few m.line PySem.F.plainAttrs_dict PySem.F.slot_dict_get PySem.F.type_dict_get (thn (ho.run pins s σ H _ I h) fun u s1 ⟨x, H1, I1, rx, d, ex, ⟨kvs, t⟩, q1⟩ => ?_)
  subst ex
  obtain rfl : u = Value.ref d := rx
  obtain ⟨t1, t2, _⟩ := td_is I1 t
  refine ⟨t1, t2, ?_⟩
  rw [m.trees]
  refine Calls.callWith_builtin rfl (Calls.evalArgs_plain (Calls.spliced_cons (thn (he.run pins s1 σ H1 _ I1 q1) fun iv s2 ⟨y, H2, I2, ry, q2⟩ =>
    Calls.spliced_cons (thn (hf.run pins s2 σ H2 _ I2 q2) fun fv s3 ⟨z, H3, I3, rz, q3⟩ => Calls.spliced_nil ?_))))
  obtain ⟨a, b, kvs', k, rfl, rfl, t3, hk, hb, q⟩ := q3
  cases ry
  obtain ⟨hsm, xs, hd, r, hl, hn, hx⟩ := td_heap I3.hok t3
  refine getOr_keyed (room_nk hu) (pr_key I3.hok hk) hsm ⟨_, hx, rfl⟩ ?_
  rw [valueAt_pairsH, cv_at]
  rcases rel_get r k with ⟨g1, g2⟩ | ⟨z', en, g1, g2, g3⟩
  · rw [g2]
    refine ⟨.ref b, H3, I3.tok _, rz, q b ?_⟩
    unfold lk
    rw [g1]
    exact hb
  · rw [g2]
    refine ⟨.ref en.2.2, H3, I3.tok _, rfl, q en.2.2 ?_⟩
    unfold lk
    rw [g1]
    exact g3
/-! ### the law's books: (sounds, ahead, behind, table) -/
def LB (P : Program) (w : World) (H : Hp) (p : Addr) (s a b : Nat) (kvs : List (K2 × K2)) : Prop := ∃ t, H p = some (.tup [.int s, .int a, .int b, .ref t]) ∧ TM P w H t kvs
theorem LB.same {H H' : Hp} {p : Addr} {s a b : Nat} {kvs : List (K2 × K2)} (h : LB P w H p s a b kvs) (e : Same H H') : LB P w H' p s a b kvs :=
  let ⟨t, h1, h2⟩ := h
  ⟨t, e _ _ h1, h2.tk e.tk fun o => e _ o⟩
def spLMeet (P : Program) (w : World) : Sp := fun vs H Q _ => ∃ (p q1 q2 : Addr) (s a b : Nat) (kvs : List (K2 × K2)) (x y : Rw), vs = [.ref p, .ref q1, .ref q2] ∧ LB P w H p s a b kvs ∧ LenOk kvs ∧ Ro H q1 x ∧ Ro H q2 y ∧ x.length ≤ 4000 ∧ y.length ≤ 4000 ∧
  ∀ H' q, Same H H' → Pr H' q (pmeet kvs a b x y) → Q (.ref q) H'
abbrev N_lmeet : List Str := ["_law_book_here", "_law_one", "_law_other", "_law_left", "_law_right", "_law_new_left", "_law_new_right"]
theorem sc_lmeet : FnScope N_lmeet ["_law_book_here", "_law_one", "_law_other"] (defScope s_law_meet) := ⟨rfl, rfl, rfl, by decide +kernel, rfl, by decide +kernel, by decide +kernel⟩
theorem ok_lmeet {f : Addr} {fd : FuncData} (F : FnP K "_law_meet" "_law_meet" s_law_meet f fd) (ml : mg "len" = none) (mm : mg "max" = none) : FnOk P w K mg base CX0 1 f fd ["_law_book_here", "_law_one", "_law_other"] (spLMeet P w) := by
  refine F.fn.ok sc_lmeet (fun vs H Q E h => ?_) (fun cdv A outer s H vs Q E hr h => ?_)
  · obtain ⟨p, q1, q2, s, a, b, kvs, x, y, rfl, _⟩ := h
    rfl
  · obtain ⟨p, q1, q2, s, a, b, kvs, x, y, rfl, hb, hlk, hx, hy, hxl, hyl, q⟩ := h
    have hu : (A.deeper (envOfC "_law_meet" (defScope s_law_meet) _ f cdv)).units + 64 < cLine := hr.units
    refine ⟨_, pss_cons (ps_set (i := 3) sc_lmeet.nd rfl (Or.inl rfl) (pe_slice sl_row (pv 1) (po_some (pe_callB (call_max2 rfl) (by rfl) mm (by decide +kernel) (pa_cons pe_int (pa_cons (pe_op op_sub (pe_callB call_len_seq (by rfl) ml PySem.boot_len (pa_cons (pv 1) pa_nil)) (pe_ix ix_tup (pv 0) pe_int (fun _ _ => rfl))) pa_nil)))) po_none))
      (pss_cons (ps_set (i := 4) sc_lmeet.nd rfl (Or.inl rfl) (pe_slice sl_row (pv 2) po_none (po_some (pe_ix ix_tup (pv 0) pe_int (fun _ _ => rfl)))))
      (pss_cons (ps_asg (pe_getL hu (pe_ix ix_tup (pv 0) pe_int (fun _ _ => rfl)) (pe_tup (pa_cons (pv 3) (pa_cons (pv 4) pa_nil))) (pe_tup (pa_cons (pv 3) (pa_cons (pv 4) pa_nil))) ⟨rfl, rfl, rfl, rfl⟩)
          (pg_tup rfl (pgs_cons (pg_name (i := 5) sc_lmeet.nd rfl (Or.inl rfl)) (pgs_cons (pg_name (i := 6) sc_lmeet.nd rfl (Or.inl rfl)) pgs_nil))))
      (pss_one (ps_ret (pe_tup (pa_cons (pe_op op_catR (pe_slice sl_row (pv 1) po_none (po_some (pe_op op_sub (pe_callB call_len_seq (by rfl) ml PySem.boot_len (pa_cons (pv 1) pa_nil)) (pe_callB call_len_seq (by rfl) ml PySem.boot_len (pa_cons (pv 3) pa_nil))))) (pv 5))
        (pa_cons (pe_op op_catR (pv 6) (pe_slice sl_row (pv 2) (po_some (pe_callB call_len_seq (by rfl) ml PySem.boot_len (pa_cons (pv 4) pa_nil))) po_none)) pa_nil))))))), ?_⟩
    obtain ⟨t, hp, ht⟩ := id hb
    refine ⟨_, rfl, _, rfl, q1, _, rfl, .inr (SqT.of hx), _, rfl, p, _, _, _, rfl, rfl, SqT.of hp, atI_nat (j := 1) rfl, _, _, rfl, rfl, _, _, rfl, _, rfl, q1, x, rfl, hx, fun r1 H1 s1 hr1 => ?_⟩
    have e1 : (if ((x.map V.int).length : Int) - (a : Int) > 0 then ((x.map V.int).length : Int) - (a : Int) else 0) = ((x.length - a : Nat) : Int) := by
      rw [List.length_map]
      split <;> omega
    rw [e1, cut_from] at hr1
    refine ⟨_, rfl, _, rfl, p, _, _, _, rfl, rfl, SqT.of (s1 _ _ hp), atI_nat (j := 2) rfl, _, rfl, q2, y, rfl, s1 _ _ hy, fun r2 H2 s2 hr2 => ?_⟩
    rw [cut_to] at hr2
    have s12 := s1.trans s2
    have tm2 := ht.tk s12.tk fun o => s12 _ o
    refine ⟨_, rfl, p, _, _, _, rfl, rfl, SqT.of (s12 _ _ hp), atI_nat (j := 3) rfl, t, rfl, ⟨kvs, tm2.td⟩, _, rfl, _, rfl, (by show 2 ≤ sizeLine; decide), fun z1 nz1 => ⟨_, rfl, _, rfl, (by show 2 ≤ sizeLine; decide), fun z2 nz2 => ?_⟩⟩
    have s3a : Same H2 (upd H2 z1 (.tup [.ref r1, .ref r2])) := same_new nz1
    have s3b : Same (upd H2 z1 (.tup [.ref r1, .ref r2])) (upd (upd H2 z1 (.tup [.ref r1, .ref r2])) z2 (.tup [.ref r1, .ref r2])) := same_new nz2
    have s3 := s3a.trans s3b
    have k1 : Pr (upd (upd H2 z1 (.tup [.ref r1, .ref r2])) z2 (.tup [.ref r1, .ref r2])) z1 (x.drop (x.length - a), y.take b) := ⟨r1, r2, s3b _ _ upd_same, s3 _ _ (s2 _ _ hr1), s3 _ _ hr2⟩
    have k2 : Pr (upd (upd H2 z1 (.tup [.ref r1, .ref r2])) z2 (.tup [.ref r1, .ref r2])) z2 (x.drop (x.length - a), y.take b) := ⟨r1, r2, upd_same, s3 _ _ (s2 _ _ hr1), s3 _ _ hr2⟩
    generalize upd (upd H2 z1 (.tup [.ref r1, .ref r2])) z2 (.tup [.ref r1, .ref r2]) = H3 at *
    have s13 := s12.trans s3
    refine ⟨z1, z2, kvs, _, rfl, rfl, (tm2.tk s3.tk fun o => s3 _ o).td, k1, k2, fun q3 pr3 => ?_⟩
    obtain ⟨v1, v2, f0, f1, f2⟩ := id pr3
    refine ⟨q3, _, rfl, SqT.of f0, rfl, _, _, rfl, _, _, rfl, rfl, ?_⟩
    obtain ⟨l1, l2⟩ := hlk (x.drop (x.length - a), y.take b)
    refine ⟨_, rfl, _, rfl, q1, _, rfl, .inr (SqT.of (s13 _ _ hx)), _, rfl, r1, _, rfl, .inr (SqT.of ((s2.trans s3) _ _ hr1)), _, _, rfl, rfl, _, rfl, q1, x, rfl, s13 _ _ hx, fun r4 H4 s4 hr4 => ?_⟩
    have e4 : (((x.map V.int).length : Nat) : Int) - ((((x.drop (x.length - a)).map V.int).length : Nat) : Int) = ((x.length - (x.drop (x.length - a)).length : Nat) : Int) := by
      rw [List.length_map, List.length_map, List.length_drop]
      omega
    rw [e4, cut_to] at hr4
    refine ⟨_, rfl, r4, v1, _, _, rfl, rfl, hr4, s4 _ _ f1, ?_, fun r5 H5 s5 hr5 => ?_⟩
    · rw [l1]
      simp only [List.length_take, List.length_drop]
      omega
    have s15 := (s13.trans s4).trans s5
    refine ⟨_, rfl, _, rfl, _, rfl, r2, _, rfl, .inr (SqT.of (((s3.trans s4).trans s5) _ _ hr2)), _, rfl, q2, y, rfl, s15 _ _ hy, fun r6 H6 s6 hr6 => ?_⟩
    rw [cut_from, List.length_map] at hr6
    refine ⟨v2, r6, _, _, rfl, rfl, ((s4.trans s5).trans s6) _ _ f2, hr6, ?_, fun r7 H7 s7 hr7 => ⟨(by show 2 ≤ sizeLine; decide), fun r8 hr8 => ?_⟩⟩
    · rw [l2]
      simp only [List.length_take, List.length_drop]
      omega
    refine q _ r8 (((s15.trans s6).trans s7).trans (same_new hr8)) ⟨r5, r7, upd_same, ?_, ?_⟩
    · exact ((s6.trans s7).trans (same_new hr8)) _ _ hr5
    · exact same_new hr8 _ _ hr7
/-! ### _law_both, _law_table, _law_made -/
def spLBoth (P : Program) (w : World) : Sp := fun vs H Q _ => ∃ (p q z : Addr) (s a b s2 a2 b2 : Nat) (ks ls : List (K2 × K2)) (k : K2), vs = [.ref p, .ref q, .ref z] ∧ LB P w H p s a b ks ∧ LB P w H q s2 a2 b2 ls ∧ Pr H z k ∧ ∀ u, Pr H u (lk ls (lk ks k)) → Q (.ref u) H
abbrev N_lboth : List Str := ["_law_one", "_law_other", "_law_pair", "_law_new"]
theorem sc_lboth : FnScope N_lboth ["_law_one", "_law_other", "_law_pair"] (defScope s_law_both) := ⟨rfl, rfl, rfl, by decide +kernel, rfl, by decide +kernel, by decide +kernel⟩
theorem ok_lboth {f : Addr} {fd : FuncData} (F : FnP K "_law_both" "_law_both" s_law_both f fd) : FnOk P w K mg base CX0 1 f fd ["_law_one", "_law_other", "_law_pair"] (spLBoth P w) := by
  refine F.fn.ok sc_lboth (fun vs H Q E h => ?_) (fun cdv A outer s H vs Q E hr h => ?_)
  · obtain ⟨p, q, z, s, a, b, s2, a2, b2, ks, ls, k, rfl, _⟩ := h
    rfl
  · obtain ⟨p, q, z, s, a, b, s2, a2, b2, ks, ls, k, rfl, ⟨t, hp, ht⟩, ⟨u, hq, hu2⟩, hz, fin⟩ := h
    have hu : (A.deeper (envOfC "_law_both" (defScope s_law_both) _ f cdv)).units + 64 < cLine := hr.units
    refine ⟨_, pss_cons (ps_set (i := 3) sc_lboth.nd rfl (Or.inl rfl) (pe_getL hu (pe_ix ix_tup (pv 0) pe_int (fun _ _ => rfl)) (pv 2) (pv 2) ⟨rfl, rfl, rfl, rfl⟩))
      (pss_one (ps_ret (pe_getL hu (pe_ix ix_tup (pv 1) pe_int (fun _ _ => rfl)) (pv 3) (pv 3) ⟨rfl, rfl, rfl, rfl⟩))), ?_⟩
    refine ⟨_, rfl, p, _, _, _, rfl, rfl, SqT.of hp, atI_nat (j := 3) rfl, t, rfl, ⟨ks, ht.td⟩, _, rfl, _, rfl, z, z, ks, k, rfl, rfl, ht.td, hz, hz, fun z2 hz2 => ?_⟩
    exact ⟨_, rfl, q, _, _, _, rfl, rfl, SqT.of hq, atI_nat (j := 3) rfl, u, rfl, ⟨ls, hu2.td⟩, _, rfl, _, rfl, z2, z2, ls, _, rfl, rfl, hu2.td, hz2, hz2, fun z3 hz3 => fin z3 hz3⟩
/-- the law's table -/
def lawAll (ks ls acc : List (K2 × K2)) (keys : List K2) : List (K2 × K2) := keys.foldl (fun acc k => if lk ls (lk ks k) = k then acc else dput acc k (lk ls (lk ks k))) acc
def lawTab (ks ls : List (K2 × K2)) : List (K2 × K2) := lawAll ks ls [] (keysOf ks ls)
theorem lawAll_snoc (ks ls : List (K2 × K2)) (acc : List (K2 × K2)) (keys : List K2) (k : K2) : lawAll ks ls acc (keys ++ [k]) = if lk ls (lk ks k) = k then lawAll ks ls acc keys else dput (lawAll ks ls acc keys) k (lk ls (lk ks k)) := by
  unfold lawAll
  rw [List.foldl_append]
  rfl
theorem lawAll_len (ks ls : List (K2 × K2)) : ∀ (keys : List K2) (acc : List (K2 × K2)), (lawAll ks ls acc keys).length ≤ acc.length + keys.length
  | [], _ => Nat.le_refl _
  | k :: keys, acc => by
    have h1 := lawAll_len ks ls keys (if lk ls (lk ks k) = k then acc else dput acc k (lk ls (lk ks k)))
    have h2 := dput_len acc k (lk ls (lk ks k))
    rw [List.length_cons]
    refine Nat.le_trans h1 ?_
    split <;> omega
theorem lawAll_nodup (ks ls : List (K2 × K2)) : ∀ (keys : List K2) (acc : List (K2 × K2)), (acc.map (·.1)).Nodup → ((lawAll ks ls acc keys).map (·.1)).Nodup
  | [], _, h => h
  | k :: keys, acc, h => by
    refine lawAll_nodup ks ls keys _ ?_
    dsimp only
    split
    · exact h
    · exact dput_nodup h
theorem keysOf_len (ks ls : List (K2 × K2)) : (keysOf ks ls).length = ks.length + ls.length := by
  unfold keysOf
  rw [List.length_append, List.length_map, List.length_map]
def spLTable (P : Program) (w : World) : Sp := fun vs H Q _ => ∃ (p q : Addr) (s a b s2 a2 b2 : Nat) (ks ls : List (K2 × K2)), vs = [.ref p, .ref q] ∧ LB P w H p s a b ks ∧ LB P w H q s2 a2 b2 ls ∧ ks.length + ls.length ≤ 4000 ∧
  ∀ H' t, Same H H' → TM P w H' t (lawTab ks ls) → Q (.ref t) H'
abbrev N_ltable : List Str := ["_law_one", "_law_other", "_law_found", "_law_pair"]
theorem sc_ltable : FnScope N_ltable ["_law_one", "_law_other"] (defScope s_law_table) := ⟨rfl, rfl, rfl, by decide +kernel, rfl, by decide +kernel, by decide +kernel⟩
theorem ok_ltable {f : Addr} {fd : FuncData} (F : FnP K "_law_table" "_law_table" s_law_table f fd) (ml : mg "list" = none) (c : Cal P w K mg base CX0 1 "_law_both" ["_law_one", "_law_other", "_law_pair"] (spLBoth P w)) :
    FnOk P w K mg base CX0 2 f fd ["_law_one", "_law_other"] (spLTable P w) := by
  obtain ⟨f1, fd1, G, g, kp, bn⟩ := c.ex
  refine F.fn.ok sc_ltable (fun vs H Q E h => ?_) (fun cdv A outer s H vs Q E hr h => ?_)
  · obtain ⟨p, q, s, a, b, s2, a2, b2, ks, ls, rfl, _⟩ := h
    rfl
  · obtain ⟨p, q, s, a, b, s2, a2, b2, ks, ls, rfl, hb1, hb2, hsz, fin⟩ := h
    have hu : (A.deeper (envOfC "_law_table" (defScope s_law_table) _ f cdv)).units + 64 < cLine := hr.units
    refine ⟨_, pss_cons (ps_set (i := 2) sc_ltable.nd rfl (Or.inl rfl) pe_newN)
      (pss_cons (ps_for PassesOwn.never rfl (pi_list (pe_op op_cat (pe_callTy (call_listN rfl) (by rfl) ml (by decide +kernel) (pa_cons (pe_ix ix_tup (pv 0) pe_int (fun _ _ => rfl)) pa_nil)) (pe_callTy (call_listN rfl) (by rfl) ml (by decide +kernel) (pa_cons (pe_ix ix_tup (pv 1) pe_int (fun _ _ => rfl)) pa_nil))))
          (pg_name (i := 3) sc_ltable.nd rfl (Or.inl rfl))
          (pss_one (ps_if (pt_cmpR (op_nePr hu) (pe_call G hr (by rfl) g kp bn .nil pass0 (pa_cons (pv 0) (pa_cons (pv 1) (pa_cons (pv 3) pa_nil)))) (pv 3) (nomark _))
            (pss_one (ps_asg (pe_call G hr (by rfl) g kp bn .nil pass0 (pa_cons (pv 0) (pa_cons (pv 1) (pa_cons (pv 3) pa_nil)))) (pg_sub (pv 2) (pv 3) (set_nd hu)))) pss_nil)))
        (pss_one (ps_ret (pv 2)))), ?_⟩
    intro tb H3 nt tt bt
    have s3 : Same H H3 := bt_same nt bt
    have nH : ∀ b o, H b = some o → b ≠ tb := fun b o e => ne_of_none e nt
    obtain ⟨t, hp, ht⟩ := hb1.same s3
    obtain ⟨u, hq, hu2⟩ := hb2.same s3
    refine ⟨_, rfl, p, _, _, _, rfl, rfl, SqT.of hp, atI_nat (j := 3) rfl, _, ks, rfl, ht.td, fun l1 as nl1 rk1 => ?_⟩
    have s4 : Same H3 (upd H3 l1 (.lst (as.map V.ref))) := same_new nl1
    refine ⟨_, rfl, q, _, _, _, rfl, rfl, SqT.of (s4 _ _ hq), atI_nat (j := 3) rfl, _, ls, rfl, (hu2.tk s4.tk fun o => s4 _ o).td, fun l2 bs nl2 rk2 => ?_⟩
    have s5 : Same H3 (upd (upd H3 l1 (.lst (as.map V.ref))) l2 (.lst (bs.map V.ref))) := s4.trans (same_new nl2)
    have la : ks.length = as.length := Paired.length rk1
    have lb : ls.length = bs.length := Paired.length rk2
    refine ⟨l1, l2, _, _, rfl, rfl, same_new nl2 _ _ upd_same, upd_same, ?_, fun l3 nl3 => ?_⟩
    · rw [List.length_map, List.length_map]
      exact Nat.le_of_lt (small1000' (by omega))
    rw [← List.map_append]
    have s6 : Same H3 (upd (upd (upd H3 l1 (.lst (as.map V.ref))) l2 (.lst (bs.map V.ref))) l3 (.lst ((as ++ bs).map V.ref))) := s5.trans (same_new nl3)
    have hl3 : upd (upd (upd H3 l1 (.lst (as.map V.ref))) l2 (.lst (bs.map V.ref))) l3 (.lst ((as ++ bs).map V.ref)) l3 = some (.lst ((as ++ bs).map V.ref)) := upd_same
    have rk : Paired (fun k a => Pr (upd (upd (upd H3 l1 (.lst (as.map V.ref))) l2 (.lst (bs.map V.ref))) l3 (.lst ((as ++ bs).map V.ref))) a k) (keysOf ks ls) (as ++ bs) :=
      ks_keys (ks_tk rk1 s6.tk) (ks_tk rk2 ((same_new nl2).trans (same_new nl3)).tk)
    have tb6 := tt.tk s6.tk fun o => s6 _ o
    have s36 : Same H (upd (upd (upd H3 l1 (.lst (as.map V.ref))) l2 (.lst (bs.map V.ref))) l3 (.lst ((as ++ bs).map V.ref))) := s3.trans s6
    clear rk1 rk2
    generalize upd (upd (upd H3 l1 (.lst (as.map V.ref))) l2 (.lst (bs.map V.ref))) l3 (.lst ((as ++ bs).map V.ref)) = HL at *
    have hlk : (keysOf ks ls).length = (as ++ bs).length := Paired.length rk
    refine ⟨l3, rfl, ⟨_, SqL.of hl3⟩, for_list (K := K) (a := l3) (xs := (as ++ bs).map V.ref) (fun i σ H' => ∃ x3, σ = [some (.ref p), some (.ref q), some (.ref tb), x3] ∧ But tb HL H' ∧ TM P w H' tb (lawAll ks ls [] ((keysOf ks ls).take i)))
      ⟨none, rfl, fun _ _ e _ => e, tb6⟩ (fun i σ H' _ z => ?_) (fun i x σ H' hx z => ?_) (fun σ H' z => ?_)⟩
    · obtain ⟨_, _, bt', _⟩ := z
      have : l3 ≠ tb := by
        obtain ⟨_, hx, _⟩ := tb6
        exact ne_of hl3 hx (fun z => nomatch z)
      exact SqL.of (bt' _ _ hl3 this)
    · obtain ⟨x3, rfl, bt', tm'⟩ := z
      have hi : i < (keysOf ks ls).length := by
        have h1 := (List.getElem?_eq_some_iff.mp hx).1
        rw [List.length_map] at h1
        omega
      obtain ⟨ad, had, pra⟩ := paired_get rk (List.getElem?_eq_getElem hi)
      rw [List.getElem?_map, had] at hx
      cases hx
      have prk := pra.tk (bt'.tk tb6)
      have sH : Same H H' := fun b o e => bt' _ _ (s36 _ _ e) (nH _ _ e)
      have step : lawAll ks ls [] ((keysOf ks ls).take (i + 1)) = if lk ls (lk ks (keysOf ks ls)[i]) = (keysOf ks ls)[i] then lawAll ks ls [] ((keysOf ks ls).take i) else dput (lawAll ks ls [] ((keysOf ks ls).take i)) (keysOf ks ls)[i] (lk ls (lk ks (keysOf ks ls)[i])) := by
        rw [List.take_add_one, List.getElem?_eq_getElem hi]
        exact lawAll_snoc ks ls [] _ _
      refine ⟨_, rfl, _, rfl, _, rfl, p, q, ad, s, a, b, s2, a2, b2, ks, ls, _, rfl, hb1.same sH, hb2.same sH, prk, fun u1 hu1 => ?_⟩
      refine ⟨_, rfl, u1, ad, _, _, rfl, rfl, hu1, prk, _, rfl, ?_⟩
      by_cases e : lk ls (lk ks (keysOf ks ls)[i]) = (keysOf ks ls)[i]
      · rw [decide_eq_true e]
        refine iteF ⟨_, rfl, bt', ?_⟩
        rw [step, if_pos e]
        exact tm'
      · rw [decide_eq_false e]
        refine iteT ⟨_, rfl, _, rfl, _, rfl, p, q, ad, s, a, b, s2, a2, b2, ks, ls, _, rfl, hb1.same sH, hb2.same sH, prk, fun u2 hu2' => ?_⟩
        have ll := lawAll_len ks ls ((keysOf ks ls).take i) []
        refine ⟨_, rfl, _, rfl, tb, ad, u2, _, _, _, rfl, rfl, rfl, tm', prk, hu2', ?_, fun H4 tm4 bt4 => ⟨_, rfl, bt'.bt bt4, ?_⟩⟩
        · refine small1000' (Nat.le_trans ll ?_)
          rw [List.length_take, List.length_nil, keysOf_len]
          omega
        · rw [step, if_neg e]
          exact tm4
    · obtain ⟨x3, rfl, bt', tm'⟩ := z
      rw [List.length_map, ← hlk, List.take_length] at tm'
      exact ⟨_, rfl, fin H' tb (fun b o e => bt' _ _ (s36 _ _ e) (nH _ _ e)) tm'⟩
def spLMade (P : Program) (w : World) (C : Addr) : Sp := fun vs H Q _ => ∃ (p : Addr) (s a b : Nat) (kvs : List (K2 × K2)), vs = [.ref p] ∧ LB P w H p s a b kvs ∧ (kvs.map (·.1)).Nodup ∧ kvs.length ≤ 4000 ∧ TabOk s a b kvs ∧ (1 ≤ s ∧ s ≤ 8 ∧ 1 ≤ a ∧ a ≤ 4 ∧ 1 ≤ b ∧ b ≤ 4) ∧
  ∀ H' r, Same H H' → Bk P w H' r C s a b (filt kvs) → Q (.ref r) H'
theorem sc_lmade : FnScope ["_law_book_here"] ["_law_book_here"] (defScope s_law_made) := ⟨rfl, rfl, rfl, by decide +kernel, rfl, by decide +kernel, by decide +kernel⟩
theorem ok_lmade {f C : Addr} {fd : FuncData} (F : FnP K "_law_made" "_law_made" s_law_made f fd) (m : Mkr P w K mg base C 7 "Book" ps5 (spBook P w C)) : FnOk P w K mg base CX0 9 f fd ["_law_book_here"] (spLMade P w C) := by
  obtain ⟨f3, fd3, G3, M3, g3, bn3⟩ := m.ex
  refine F.fn.ok sc_lmade (fun vs H Q E h => ?_) (fun cdv A outer s H vs Q E hr h => ?_)
  · obtain ⟨p, s, a, b, kvs, rfl, _⟩ := h
    rfl
  · obtain ⟨p, s, a, b, kvs, rfl, ⟨t, hp, ht⟩, hn, hl, hok, hs, fin⟩ := h
    refine ⟨_, pss_one (ps_ret (pe_make M3 G3 hr (by rfl) g3 bn3 .nil pass0 (pa_cons (pe_ix ix_tup (pv 0) pe_int (fun _ _ => rfl)) (pa_cons (pe_ix ix_tup (pv 0) pe_int (fun _ _ => rfl)) (pa_cons (pe_ix ix_tup (pv 0) pe_int (fun _ _ => rfl)) (pa_cons (pe_ix ix_tup (pv 0) pe_int (fun _ _ => rfl)) pa_nil)))))), ?_⟩
    refine ⟨_, rfl, p, _, _, _, rfl, rfl, SqT.of hp, atI_nat (j := 0) rfl, _, rfl, p, _, _, _, rfl, rfl, SqT.of hp, atI_nat (j := 1) rfl, _, rfl, p, _, _, _, rfl, rfl, SqT.of hp, atI_nat (j := 2) rfl, _, rfl, p, _, _, _, rfl, rfl, SqT.of hp, atI_nat (j := 3) rfl, fun x dx nx ndx nex => ?_⟩
    have sx : Same H (upd (upd H dx (.own x)) x (.ins C dx [])) := (same_new ndx).upd (by rw [upd_ne (Ne.symm nex)]; exact nx)
    exact ⟨x, dx, t, s, a, b, kvs, rfl, upd_same, ht.tk sx.tk fun o => sx _ o, hn, hl, hok, hs, fun H' k bk => ⟨rfl, fin H' x (fun c o e => k _ _ (sx _ _ e) (ne_of_none e nx)) bk⟩⟩
end
end Seam

set_option Elab.async false
set_option linter.all false
set_option maxRecDepth 100000
set_option maxHeartbeats 4000000
namespace Seam
open PySem PySem.Spec PyProof.Rows L2 Nd
theorem ps_imp {X : Cx} {st : Stmt} {t t' : TS} (h : PS X st t) (k : ∀ D σ H, t' D σ H → t D σ H) : PS X st t' := ⟨fun pins s σ H D I q => h.run pins s σ H D I (k D σ H q)⟩
theorem pss_imp {X : Cx} {st : List Stmt} {t t' : TS} (h : PSs X st t) (k : ∀ D σ H, t' D σ H → t D σ H) : PSs X st t' := ⟨fun pins s σ H D I q => h.run pins s σ H D I (k D σ H q)⟩
/-- the dice at d -/
def DiceAt (H : Hp) (d c : Addr) : Prop := ∃ (cells : List Int) (i : Nat) (v st n : Int), H d = some (.lst [.ref c, .int i, .int v, .int st, .int n]) ∧ H c = some (.lst (cells.map V.int)) ∧ c ≠ d ∧ (∀ x ∈ cells, 0 ≤ x) ∧ 0 ≤ v ∧ 0 ≤ st ∧ st < 2147483647
theorem _root_.Nd.Bt.refl (d : Addr) (H : Hp) : Bt d H H := fun _ _ => rfl
theorem _root_.Nd.Bt.trans {d : Addr} {H H' H'' : Hp} (a : Bt d H H') (b : Bt d H' H'') : Bt d H H'' := fun c hc => (b c hc).trans (a c hc)
theorem _root_.Nd.Bt.upd {d : Addr} {H : Hp} {o : HO} : Bt d H (L2.upd H d o) := fun c hc => upd_ne hc
theorem DiceAt.same {H H' : Hp} {d c : Addr} (h : DiceAt H d c) (s : Same H H') : DiceAt H' d c :=
  let ⟨cells, i, v, st, n, hd, hc, r⟩ := h
  ⟨cells, i, v, st, n, s _ _ hd, s _ _ hc, r⟩
theorem DiceAt.upd {H : Hp} {d c D : Addr} {o : HO} (h : DiceAt H d c) (h1 : D ≠ d) (h2 : D ≠ c) : DiceAt (L2.upd H D o) d c :=
  let ⟨cells, i, v, st, n, hd, hc, r⟩ := h
  ⟨cells, i, v, st, n, by rw [upd_ne h1.symm]; exact hd, by rw [upd_ne h2.symm]; exact hc, r⟩
theorem DiceAt.ne {H : Hp} {d c D : Addr} (h : DiceAt H d c) (e : H D = none) : D ≠ d ∧ D ≠ c :=
  let ⟨_, _, _, _, _, hd, hc, _⟩ := h
  ⟨(ne_of_none hd e).symm, (ne_of_none hc e).symm⟩
theorem But.refl (d : Addr) (H : Hp) : But d H H := fun _ _ e _ => e
theorem But.trans {d : Addr} {H H' H'' : Hp} (a : But d H H') (b : But d H' H'') : But d H H'' := fun c o e n => b c o (a c o e n) n
theorem _root_.Nd.Bt.but {d : Addr} {H H' : Hp} (b : Bt d H H') : But d H H' := fun c o e n => (b c n).trans e
/-- the dice's place holds a list -/
theorem DiceAt.tk {H H' : Hp} {d c : Addr} (h : DiceAt H d c) (b : But d H H') : Tk H H' :=
  let ⟨_, _, _, _, _, hd, _⟩ := h
  fun a _ e => b _ _ e (ne_of e hd (fun z => nomatch z))
section
variable {P : Program} {w : World} {K : PySem.W.Frag} {mg : Str → Option Value} {base : Heap} {X : Cx}
theorem cmul_l {i j : Int} (h0 : 0 ≤ i) (h1 : i < 4294967296) : CMul i j := .inl ⟨by show (-18446744073709551616 : Int) < i; omega, by show i < (18446744073709551616 : Int); omega⟩
theorem cmul_r {i j : Int} (h0 : 0 ≤ j) (h1 : j < 4294967296) : CMul i j := .inr ⟨by show (-18446744073709551616 : Int) < j; omega, by show j < (18446744073709551616 : Int); omega⟩
abbrev N_draw : List Str := ["_law_dice_here", "_law_sides", "_law_cell", "_law_digit", "_law_mixed"]
theorem sc_draw : FnScope N_draw ["_law_dice_here", "_law_sides"] (defScope s_law_draw) := ⟨rfl, rfl, rfl, by decide +kernel, rfl, by decide +kernel, by decide +kernel⟩
/-- a cell is taken -/
def tDr1 : TS := fun D σ H => ∃ (d c : Addr) (k : Int) (x2 x3 x4 : Option V), σ = [some (.ref d), some (.int k), x2, x3, x4] ∧ DiceAt H d c ∧ ∀ H' x2', Bt d H H' → DiceAt H' d c → D.nx [some (.ref d), some (.int k), x2', x3, x4] H'
def spDraw : Sp := fun vs H Q _ => ∃ (d c : Addr) (k : Int), vs = [.ref d, .int k] ∧ 0 < k ∧ k < 536870912 ∧ DiceAt H d c ∧ ∀ H' v, 0 ≤ v → v < k → Bt d H H' → DiceAt H' d c → Q (.int v) H'
theorem ok_draw {f : Addr} {fd : FuncData} (F : FnP K "_law_draw" "_law_draw" s_law_draw f fd) (ml : mg "len" = none) (mint : mg "int" = none) : FnOk P w K mg base CX0 1 f fd ["_law_dice_here", "_law_sides"] spDraw := by
  refine F.fn.ok sc_draw (fun vs H Q E h => ?_) (fun cdv A outer s H vs Q E hr h => ?_)
  · obtain ⟨d, c, k, rfl, _⟩ := h
    rfl
  · obtain ⟨d, c, k, rfl, k1, k2, hd, q⟩ := h
    refine ⟨_, pss_cons (ps_imp (t' := tDr1) (ps_if (PW.pt (pw_and (pt_cmpR op_eq (pe_ix ix_list (pv 0) pe_int (fun _ _ => rfl)) pe_int (nomark _)) (pw_and1 (pt_cmpR op_lt (pe_ix ix_list (pv 0) pe_int (fun _ _ => rfl)) (pe_callB call_len_seq (by rfl) ml PySem.boot_len (pa_cons (pe_ix ix_list (pv 0) pe_int (fun _ _ => rfl)) pa_nil)) (nomark _)))))
          (pss_cons (ps_set (i := 2) sc_draw.nd rfl (Or.inl rfl) (pe_ix ix_list (pe_ix ix_list (pv 0) pe_int (fun _ _ => rfl)) (pe_ix ix_list (pv 0) pe_int (fun _ _ => rfl)) (fun _ _ => rfl)))
          (pss_cons (ps_asg (pe_op op_add (pe_ix ix_list (pv 0) pe_int (fun _ _ => rfl)) pe_int) (pg_sub (pv 0) pe_int set_list))
          (pss_one (ps_if (pt_cmpR op_ge (pv 2) (pe_op op_pow pe_int pe_int) (nomark _))
            (pss_one (ps_asg (pv 2) (pg_sub (pv 0) pe_int set_list)))
            (pss_one (ps_asg (pe_op op_mod (pe_callTy call_int1 (by rfl) mint boot_int (pa_cons (pe_op op_add (pe_op op_add (pe_op op_mul (pe_ix ix_list (pv 0) pe_int (fun _ _ => rfl)) pe_int) (pe_op op_mul (pv 2) pe_int)) (pe_ix ix_list (pv 0) pe_int (fun _ _ => rfl))) pa_nil)) pe_int) (pg_sub (pv 0) pe_int set_list)))))))
          pss_nil) (fun D σ H hh => ?_))
      (pss_cons (ps_if (pt_cmpR op_gt (pe_ix ix_list (pv 0) pe_int (fun _ _ => rfl)) pe_int (nomark _))
          (pss_cons (ps_set (i := 3) sc_draw.nd rfl (Or.inl rfl) (pe_op op_mod (pe_callTy call_int1 (by rfl) mint boot_int (pa_cons (pe_ix ix_list (pv 0) pe_int (fun _ _ => rfl)) pa_nil)) (pv 1)))
          (pss_cons (ps_asg (pe_op op_fdiv (pe_callTy call_int1 (by rfl) mint boot_int (pa_cons (pe_ix ix_list (pv 0) pe_int (fun _ _ => rfl)) pa_nil)) (pv 1)) (pg_sub (pv 0) pe_int set_list))
          (pss_one (ps_ret (pv 3))))) pss_nil)
      (pss_cons (ps_asg (pe_op op_add (pe_ix ix_list (pv 0) pe_int (fun _ _ => rfl)) pe_int) (pg_sub (pv 0) pe_int set_list))
      (pss_cons (ps_asg (pe_op op_mod (pe_callTy call_int1 (by rfl) mint boot_int (pa_cons (pe_op op_add (pe_op op_add (pe_op op_mul (pe_ix ix_list (pv 0) pe_int (fun _ _ => rfl)) pe_int) (pe_op op_mul (pe_ix ix_list (pv 0) pe_int (fun _ _ => rfl)) pe_int)) pe_int) pa_nil)) pe_int) (pg_sub (pv 0) pe_int set_list))
      (pss_cons (ps_set (i := 4) sc_draw.nd rfl (Or.inl rfl) (pe_op op_mod (pe_callTy call_int1 (by rfl) mint boot_int (pa_cons (pe_op op_mul (pe_ix ix_list (pv 0) pe_int (fun _ _ => rfl)) (pe_op op_add (pe_op op_fdiv (pe_ix ix_list (pv 0) pe_int (fun _ _ => rfl)) pe_int) pe_int)) pa_nil)) pe_int))
      (pss_cons (ps_set (i := 4) sc_draw.nd rfl (Or.inl rfl) (pe_op op_mod (pe_callTy call_int1 (by rfl) mint boot_int (pa_cons (pe_op op_mul (pv 4) (pe_op op_add (pe_op op_fdiv (pv 4) pe_int) pe_int)) pa_nil)) pe_int))
      (pss_one (ps_ret (pe_op op_mod (pe_callTy call_int1 (by rfl) mint boot_int (pa_cons (pe_op op_fdiv (pv 4) pe_int) pa_nil)) (pv 1))))))))), ?_⟩
    · obtain ⟨d, c, k, x2, x3, x4, rfl, ⟨cells, i, v, st, n, hd, hc, hcd, h0, hv, hs1, hs2⟩, q⟩ := hh
      have dn : DiceAt H d c := ⟨cells, i, v, st, n, hd, hc, hcd, h0, hv, hs1, hs2⟩
      refine ⟨_, rfl, d, _, _, _, rfl, rfl, SqL.of hd, atI_nat (j := 2) rfl, rfl, _, rfl, ?_⟩
      by_cases hv0 : ¬ v = 0
      · rw [show decide (V.int v = V.int 0) = false from decide_eq_false (fun e => hv0 (V.int.inj e))]
        exact iteF (iteF (q H x2 (Bt.refl d H) dn))
      have hv1 := Decidable.not_not.mp hv0
      subst hv1
      rw [show decide (V.int 0 = V.int 0) = true from decide_eq_true rfl]
      refine iteT ⟨_, rfl, d, _, _, _, rfl, rfl, SqL.of hd, atI_nat (j := 1) rfl, _, rfl, d, _, _, _, rfl, rfl, SqL.of hd, atI_nat (j := 0) rfl, c, _, rfl, .inl (SqL.of hc), _, _, rfl, rfl, _, rfl, ?_⟩
      by_cases hi : ¬ i < cells.length
      · rw [decide_eq_false (by rw [List.length_map]; omega)]
        exact iteF (q H x2 (Bt.refl d H) dn)
      have hi' := Decidable.not_not.mp hi
      rw [decide_eq_true (by rw [List.length_map]; omega)]
      have hx0 : 0 ≤ cells[i] := h0 _ (List.getElem_mem hi')
      have hget : (cells.map V.int)[i]? = some (.int cells[i]) := by rw [List.getElem?_map, List.getElem?_eq_getElem hi']; rfl
      refine iteT ⟨_, rfl, d, _, _, _, rfl, rfl, SqL.of hd, atI_nat (j := 0) rfl, _, rfl, d, _, _, _, rfl, rfl, SqL.of hd, atI_nat (j := 1) rfl, c, _, _, _, rfl, rfl, SqL.of hc, atI_nat (j := i) hget, ?_⟩
      refine ⟨_, rfl, d, _, _, _, rfl, rfl, SqL.of hd, atI_nat (j := 1) rfl, _, _, rfl, rfl, _, rfl, d, _, _, _, rfl, rfl, hd, rfl, ?_⟩
      have hd1 : upd H d (.lst [.ref c, .int ((i : Int) + 1), .int 0, .int st, .int n]) d = some (.lst [.ref c, .int ((i : Int) + 1), .int 0, .int st, .int n]) := upd_same
      have hc1 : upd H d (.lst [.ref c, .int ((i : Int) + 1), .int 0, .int st, .int n]) c = some (.lst (cells.map V.int)) := by rw [upd_ne hcd]; exact hc
      refine ⟨_, rfl, _, _, rfl, rfl, ⟨by decide, by decide, by decide⟩, _, _, rfl, rfl, _, rfl, ?_⟩
      by_cases hge : (10 : Int) ^ (18 : Int).toNat ≤ cells[i]
      · rw [decide_eq_true hge]
        refine iteT ⟨_, rfl, _, rfl, d, _, _, _, rfl, rfl, hd1, rfl, q _ _ (Bt.upd.trans Bt.upd) ⟨cells, i + 1, cells[i], st, n, upd_same, ?_, hcd, h0, hx0, hs1, hs2⟩⟩
        rw [upd_ne hcd]
        exact hc1
      · rw [decide_eq_false hge]
        refine iteF ⟨_, rfl, d, _, _, _, rfl, rfl, SqL.of hd1, atI_nat (j := 3) rfl, _, _, rfl, rfl, cmul_r (by decide) (by decide), _, rfl, _, _, rfl, rfl, cmul_r (by decide) (by decide), _, _, rfl, rfl,
          _, rfl, d, _, _, _, rfl, rfl, SqL.of hd1, atI_nat (j := 1) rfl, _, _, rfl, rfl, .inl ⟨_, rfl, _, _, rfl, rfl, (by show (0 : Int) < 2147483647; decide), _, rfl, d, _, _, _, rfl, rfl, hd1, rfl,
          q _ _ (Bt.upd.trans Bt.upd) ⟨cells, i + 1, 0, _, n, upd_same, ?_, hcd, h0, hv, Int.emod_nonneg _ (by decide), Int.emod_lt_of_pos _ (by decide)⟩⟩⟩
        rw [upd_ne hcd]
        exact hc1
    · refine ⟨d, c, k, none, none, none, rfl, hd, fun H1 x2 b1 hd1 => ?_⟩
      obtain ⟨cells, i, v, st, n, hd, hc, hcd, h0, hv, hs1, hs2⟩ := hd1
      refine ⟨_, rfl, d, _, _, _, rfl, rfl, SqL.of hd, atI_nat (j := 2) rfl, _, _, rfl, rfl, _, rfl, ?_⟩
      by_cases hv0 : 0 < v
      · rw [decide_eq_true hv0]
        refine iteT ⟨_, rfl, d, _, _, _, rfl, rfl, SqL.of hd, atI_nat (j := 2) rfl, .inl ⟨_, rfl, _, rfl, _, _, rfl, rfl, k1, ?_⟩⟩
        refine ⟨_, rfl, d, _, _, _, rfl, rfl, SqL.of hd, atI_nat (j := 2) rfl, .inl ⟨_, rfl, _, rfl, _, _, rfl, rfl, ⟨k1, by show k < 1073741824; omega⟩, _, rfl, d, _, _, _, rfl, rfl, hd, rfl, _, rfl, ?_⟩⟩
        refine q _ _ (Int.emod_nonneg _ (by omega)) (Int.emod_lt_of_pos _ k1) (b1.trans Bt.upd) ⟨cells, i, v / k, st, n, upd_same, ?_, hcd, h0, Int.ediv_nonneg hv (by omega), hs1, hs2⟩
        rw [upd_ne hcd]
        exact hc
      · rw [decide_eq_false hv0]
        refine iteF ?_
        refine ⟨_, rfl, d, _, _, _, rfl, rfl, SqL.of hd, atI_nat (j := 4) rfl, _, _, rfl, rfl, _, rfl, d, _, _, _, rfl, rfl, hd, rfl, ?_⟩
        have hd1 : upd H1 d (.lst [.ref c, .int (i : Int), .int v, .int st, .int (n + 1)]) d = some (.lst [.ref c, .int (i : Int), .int v, .int st, .int (n + 1)]) := upd_same
        have hc1 : upd H1 d (.lst [.ref c, .int (i : Int), .int v, .int st, .int (n + 1)]) c = some (.lst (cells.map V.int)) := by rw [upd_ne hcd]; exact hc
        refine ⟨_, rfl, d, _, _, _, rfl, rfl, SqL.of hd1, atI_nat (j := 3) rfl, _, _, rfl, rfl, cmul_r (by decide) (by decide), _, rfl, d, _, _, _, rfl, rfl, SqL.of hd1, atI_nat (j := 4) rfl, _, _, rfl, rfl, cmul_r (by decide) (by decide), _, _, rfl, rfl, _, _, rfl, rfl,
          .inl ⟨_, rfl, _, _, rfl, rfl, (by show (0 : Int) < 2147483647; decide), _, rfl, d, _, _, _, rfl, rfl, hd1, rfl, ?_⟩⟩
        have a1 := Int.emod_nonneg (st * 48271 + (n + 1) * 7919 + 1) (b := 2147483647) (by decide)
        have a2 := Int.emod_lt_of_pos (st * 48271 + (n + 1) * 7919 + 1) (b := 2147483647) (by decide)
        have hd2 : upd (upd H1 d (.lst [.ref c, .int (i : Int), .int v, .int st, .int (n + 1)])) d (.lst [.ref c, .int (i : Int), .int v, .int ((st * 48271 + (n + 1) * 7919 + 1) % 2147483647), .int (n + 1)]) d = some (.lst [.ref c, .int (i : Int), .int v, .int ((st * 48271 + (n + 1) * 7919 + 1) % 2147483647), .int (n + 1)]) := upd_same
        have hc2 : upd (upd H1 d (.lst [.ref c, .int (i : Int), .int v, .int st, .int (n + 1)])) d (.lst [.ref c, .int (i : Int), .int v, .int ((st * 48271 + (n + 1) * 7919 + 1) % 2147483647), .int (n + 1)]) c = some (.lst (cells.map V.int)) := by rw [upd_ne hcd]; exact hc1
        refine ⟨_, rfl, d, _, _, _, rfl, rfl, SqL.of hd2, atI_nat (j := 3) rfl, _, rfl, d, _, _, _, rfl, rfl, SqL.of hd2, atI_nat (j := 3) rfl, _, _, rfl, rfl, ⟨by decide, by decide⟩, _, _, rfl, rfl, _, _, rfl, rfl, cmul_l a1 (by omega),
          .inl ⟨_, rfl, _, _, rfl, rfl, (by show (0 : Int) < 2147483399; decide), ?_⟩⟩
        have b1' := Int.emod_nonneg (((st * 48271 + (n + 1) * 7919 + 1) % 2147483647) * (((st * 48271 + (n + 1) * 7919 + 1) % 2147483647) / 1009 + 69623)) (b := 2147483399) (by decide)
        have b2' := Int.emod_lt_of_pos (((st * 48271 + (n + 1) * 7919 + 1) % 2147483647) * (((st * 48271 + (n + 1) * 7919 + 1) % 2147483647) / 1009 + 69623)) (b := 2147483399) (by decide)
        refine ⟨_, rfl, _, rfl, _, _, rfl, rfl, ⟨by decide, by decide⟩, _, _, rfl, rfl, _, _, rfl, rfl, cmul_l b1' (by omega), .inl ⟨_, rfl, _, _, rfl, rfl, (by show (0 : Int) < 2147483563; decide), ?_⟩⟩
        refine ⟨_, rfl, _, _, rfl, rfl, ⟨by decide, by decide⟩, .inl ⟨_, rfl, _, rfl, _, _, rfl, rfl, k1, ?_⟩⟩
        exact q _ _ (Int.emod_nonneg _ (by omega)) (Int.emod_lt_of_pos _ k1) ((b1.trans Bt.upd).trans Bt.upd) ⟨cells, i, v, ((st * 48271 + (n + 1) * 7919 + 1) % 2147483647), n + 1, hd2, hc2, hcd, h0, hv, a1, a2⟩
end
end Seam

set_option Elab.async false
set_option linter.all false
set_option maxRecDepth 100000
set_option maxHeartbeats 4000000
namespace Seam
open PySem PySem.Spec PyProof.Rows L2 Nd
section
variable {P : Program} {w : World} {K : PySem.W.Frag} {mg : Str → Option Value} {base : Heap} {X : Cx}
abbrev CDraw (P : Program) (w : World) (K : PySem.W.Frag) (mg : Str → Option Value) (base : Heap) : Prop := Cal P w K mg base CX0 1 "_law_draw" ["_law_dice_here", "_law_sides"] spDraw
/-- a row that grows at D while the dice at d are thrown -/
def RInv (d c D : Addr) (H : Hp) (s i : Nat) (H' : Hp) : Prop := But d H H' ∧ DiceAt H' d c ∧ ∃ r : Rw, r.length = i ∧ (∀ x ∈ r, 0 ≤ x ∧ x < (s : Int)) ∧ H' D = some (.lst (r.map V.int))
theorem RInv.start {d c D : Addr} {H : Hp} {s : Nat} (hd : DiceAt H d c) (hD : H D = none) : RInv d c D H s 0 (upd H D (.lst [])) :=
  ⟨But.of_same (same_new hD), hd.same (same_new hD), [], rfl, (fun _ h => by cases h), upd_same⟩
theorem RInv.step {d c D : Addr} {H H' H'' : Hp} {s i : Nat} {v : Int} (hd0 : DiceAt H d c) (hD : H D = none) (h : RInv d c D H s i H') (hi : i < 4000) (b : Bt d H' H'') (hd : DiceAt H'' d c) (h0 : 0 ≤ v) (h1 : v < (s : Int)) :
    ∃ acc, H'' D = some (.lst acc) ∧ acc.length < sizeLine ∧ RInv d c D H s (i + 1) (upd H'' D (.lst (acc ++ [.int v]))) := by
  obtain ⟨h1', h2, r, h3, h4, h5⟩ := h
  obtain ⟨n1, n2⟩ := hd0.ne hD
  refine ⟨r.map V.int, by rw [b D n1]; exact h5, by rw [List.length_map, h3]; exact small1000' (by omega), ?_, hd.upd n1 n2, r ++ [v], by rw [List.length_append, h3]; rfl, ?_, ?_⟩
  · intro a o e n
    rw [upd_ne (ne_of_none e hD)]
    exact (h1'.trans b.but) a o e n
  · intro x hx
    rcases List.mem_append.mp hx with hx | hx
    · exact h4 x hx
    · rw [List.mem_singleton] at hx
      subst hx
      exact ⟨h0, h1⟩
  · rw [upd_same, List.map_append]
    rfl
/-- a new row in the range -/
def spNewRow (len : Nat → Nat → Prop) : Sp := fun vs H Q _ => ∃ (d c : Addr) (s m : Nat), vs = [.ref d, .int s, .int m] ∧ 1 ≤ s ∧ s ≤ 8 ∧ 1 ≤ m ∧ m ≤ 9 ∧ DiceAt H d c ∧ ∀ H' p (r : Rw), But d H H' → DiceAt H' d c → Ro H' p r → (∀ x ∈ r, 0 ≤ x ∧ x < (s : Int)) → len m r.length → Q (.ref p) H'
abbrev ps_side : List Str := ["_law_dice_here", "_law_sounds", "_law_most"]
abbrev lenUp : Nat → Nat → Prop := fun m n => 1 ≤ n ∧ n ≤ m
abbrev N_side : List Str := ["_law_dice_here", "_law_sounds", "_law_most", "_law_many_here", "_law_k"]
theorem sc_side : FnScope N_side ps_side (defScope s_law_side) := ⟨rfl, rfl, rfl, by decide +kernel, rfl, by decide +kernel, by decide +kernel⟩
theorem ok_side {f : Addr} {fd : FuncData} (F : FnP K "_law_side" "_law_side" s_law_side f fd) (cd : CDraw P w K mg base) (mr : mg "range" = none) (mt : mg "tuple" = none) : FnOk P w K mg base CX0 2 f fd ps_side (spNewRow lenUp) := by
  obtain ⟨f1, fd1, G, g, kp, bn⟩ := cd.ex
  refine F.fn.ok sc_side (fun vs H Q E h => ?_) (fun cdv A outer s H vs Q E hr h => ?_)
  · obtain ⟨d, c, s, m, rfl, _⟩ := h
    rfl
  · obtain ⟨d, c, s, m, rfl, s1, s2, m1, m2, hd, q⟩ := h
    refine ⟨_, pss_cons (ps_set (i := 3) sc_side.nd rfl (Or.inl rfl) (pe_ix ix_list (pe_lst (pa_cons (pv 2) (pa_cons (pv 2) (pa_cons (pe_op op_add pe_int (pe_call G hr (by rfl) g kp bn .nil pass0 (pa_cons (pv 0) (pa_cons (pv 2) pa_nil)))) pa_nil)))) (pe_call G hr (by rfl) g kp bn .nil pass0 (pa_cons (pv 0) (pa_cons pe_int pa_nil))) (fun _ _ => rfl)))
      (pss_one (ps_ret (pe_callTy call_tuple_of (by rfl) mt (by decide +kernel) (pa_cons (pe_lc (own := [("_law_k", 4)]) (g := gName 4) (tt := tYes) rfl sc_side.nd (pi_range1 rfl mr (pa_cons (pv 3) pa_nil)) (blkOk_by (N := N_side) (sc := defScope s_law_side) (by decide +kernel))
        (fun _ _ _ _ _ => pg_name (i := 4) sc_side.nd rfl (Or.inl rfl)) (fun _ _ _ _ _ => pts_nil) (fun _ _ _ _ _ => pe_call G hr (by rfl) g kp bn .nil pass0 (pa_cons (pv 0) (pa_cons (pv 1) pa_nil)))) pa_nil)))), ?_⟩
    refine ⟨_, rfl, _, rfl, _, rfl, _, rfl, d, c, m, rfl, by omega, by omega, hd, fun H1 v1 a1 a2 b1 d1 => ⟨_, _, rfl, rfl, (by show 3 ≤ sizeLine; decide), fun l hl => ?_⟩⟩
    refine ⟨_, rfl, d, c, 3, rfl, by decide, by decide, d1.same (same_new hl), fun H2 v2 e1 e2 b2 d2 => ?_⟩
    have hl2 : H2 l = some (.lst [.int m, .int m, .int (1 + v1)]) := by
      rw [b2 l (d1.ne hl).1]
      exact upd_same
    have key : ∃ n : Nat, 1 ≤ n ∧ n ≤ m ∧ atI [V.int (m : Int), V.int (m : Int), V.int (1 + v1)] v2 = some (V.int (n : Int)) := by
      rcases (by omega : v2 = 0 ∨ v2 = 1 ∨ v2 = 2) with e | e | e
      · subst e
        exact ⟨m, m1, Nat.le_refl _, rfl⟩
      · subst e
        exact ⟨m, m1, Nat.le_refl _, rfl⟩
      · subst e
        refine ⟨(1 + v1).toNat, by omega, by omega, ?_⟩
        rw [Int.toNat_of_nonneg (by omega)]
        rfl
    obtain ⟨n, n1, n2, hn⟩ := key
    refine ⟨l, _, _, _, rfl, rfl, SqL.of hl2, hn, ?_⟩
    have b12 : But d H H2 := (b1.but.trans (But.of_same (same_new hl))).trans b2.but
    refine ⟨_, rfl, n, rfl, by omega, by omega, fun D hD => lc_range (lo := 0) (n := n) (fun i H' => RInv d c D H2 s i H') (RInv.start d2 hD) (fun i H' hi z => ?_) (fun H' z => ?_)⟩
    · exact ⟨rfl, _, rfl, _, rfl, d, c, s, rfl, by omega, by omega, z.2.1, fun H3 v3 f1 f2 b3 d3 => RInv.step d2 hD z (by omega) b3 d3 f1 f2⟩
    · obtain ⟨z1, z2, r, z3, z4, z5⟩ := z
      exact ⟨D, _, rfl, .inl ⟨SqL.of z5, fun l2 hl2 => q _ l2 r ((b12.trans z1).trans (But.of_same (same_new hl2))) (z2.same (same_new hl2)) upd_same z4 ⟨by omega, by omega⟩⟩⟩
abbrev N_lrow : List Str := ["_law_dice_here", "_law_sounds", "_law_most", "_law_k"]
theorem sc_lrow : FnScope N_lrow ps_side (defScope s_law_row) := ⟨rfl, rfl, rfl, by decide +kernel, rfl, by decide +kernel, by decide +kernel⟩
theorem ok_lrow {f : Addr} {fd : FuncData} (F : FnP K "_law_row" "_law_row" s_law_row f fd) (cd : CDraw P w K mg base) (mr : mg "range" = none) (mt : mg "tuple" = none) : FnOk P w K mg base CX0 2 f fd ps_side (spNewRow lenUp) := by
  obtain ⟨f1, fd1, G, g, kp, bn⟩ := cd.ex
  refine F.fn.ok sc_lrow (fun vs H Q E h => ?_) (fun cdv A outer s H vs Q E hr h => ?_)
  · obtain ⟨d, c, s, m, rfl, _⟩ := h
    rfl
  · obtain ⟨d, c, s, m, rfl, s1, s2, m1, m2, hd, q⟩ := h
    refine ⟨_, (pss_one (ps_ret (pe_callTy call_tuple_of (by rfl) mt (by decide +kernel) (pa_cons (pe_lc (own := [("_law_k", 3)]) (g := gName 3) (tt := tYes) rfl sc_lrow.nd (pi_range1 rfl mr (pa_cons (pe_op op_add pe_int (pe_call G hr (by rfl) g kp bn .nil pass0 (pa_cons (pv 0) (pa_cons (pv 2) pa_nil)))) pa_nil)) (blkOk_by (N := N_lrow) (sc := defScope s_law_row) (by decide +kernel))
        (fun _ _ _ _ _ => pg_name (i := 3) sc_lrow.nd rfl (Or.inl rfl)) (fun _ _ _ _ _ => pts_nil) (fun _ _ _ _ _ => pe_call G hr (by rfl) g kp bn .nil pass0 (pa_cons (pv 0) (pa_cons (pv 1) pa_nil)))) pa_nil)))), ?_⟩
    refine ⟨_, rfl, _, rfl, d, c, m, rfl, by omega, by omega, hd, fun H1 v1 a1 a2 b1 d1 => ⟨_, _, rfl, rfl, ?_⟩⟩
    obtain ⟨n, hn⟩ : ∃ n : Nat, (1 : Int) + v1 = (n : Int) := ⟨(1 + v1).toNat, by omega⟩
    show ∃ j : Int, [V.int (1 + v1)] = [V.int j] ∧ _
    rw [hn]
    refine ⟨n, rfl, by omega, by omega, fun D hD => lc_range (lo := 0) (n := n) (fun i H' => RInv d c D H1 s i H') (RInv.start d1 hD) (fun i H' hi z => ?_) (fun H' z => ?_)⟩
    · exact ⟨rfl, _, rfl, _, rfl, d, c, s, rfl, by omega, by omega, z.2.1, fun H3 v3 f1 f2 b3 d3 => RInv.step d1 hD z (by omega) b3 d3 f1 f2⟩
    · obtain ⟨z1, z2, r, z3, z4, z5⟩ := z
      exact ⟨D, _, rfl, .inl ⟨SqL.of z5, fun l2 hl2 => q _ l2 r ((b1.but.trans z1).trans (But.of_same (same_new hl2))) (z2.same (same_new hl2)) upd_same z4 ⟨by omega, by omega⟩⟩⟩
/-- a row like another -/
def spLike : Sp := fun vs H Q _ => ∃ (d c p : Addr) (s : Nat) (x : Rw), vs = [.ref d, .int s, .ref p] ∧ 1 ≤ s ∧ s ≤ 8 ∧ DiceAt H d c ∧ Ro H p x ∧ x.length ≤ 4000 ∧ (∀ i ∈ x, 0 ≤ i ∧ i < (s : Int)) ∧ ∀ H' p (r : Rw), But d H H' → DiceAt H' d c → Ro H' p r → (∀ x ∈ r, 0 ≤ x ∧ x < (s : Int)) → r.length = x.length → Q (.ref p) H'
abbrev ps_like : List Str := ["_law_dice_here", "_law_sounds", "_law_row_here"]
abbrev N_like : List Str := ["_law_dice_here", "_law_sounds", "_law_row_here", "_law_sound"]
theorem sc_like : FnScope N_like ps_like (defScope s_law_like) := ⟨rfl, rfl, rfl, by decide +kernel, rfl, by decide +kernel, by decide +kernel⟩
theorem ok_like {f : Addr} {fd : FuncData} (F : FnP K "_law_like" "_law_like" s_law_like f fd) (cd : CDraw P w K mg base) (mt : mg "tuple" = none) : FnOk P w K mg base CX0 2 f fd ps_like spLike := by
  obtain ⟨f1, fd1, G, g, kp, bn⟩ := cd.ex
  refine F.fn.ok sc_like (fun vs H Q E h => ?_) (fun cdv A outer s H vs Q E hr h => ?_)
  · obtain ⟨d, c, p, s, x, rfl, _⟩ := h
    rfl
  · obtain ⟨d, c, p, s, x, rfl, s1, s2, hd, hp, hl, hx, q⟩ := h
    refine ⟨_, (pss_one (ps_ret (pe_callTy call_tuple_of (by rfl) mt (by decide +kernel) (pa_cons (pe_lc (own := [("_law_sound", 3)]) (g := gName 3) (tt := tYes) rfl sc_like.nd (pi_tup (pv 2)) (blkOk_by (N := N_like) (sc := defScope s_law_like) (by decide +kernel))
        (fun _ _ _ _ _ => pg_name (i := 3) sc_like.nd rfl (Or.inl rfl)) (fun _ _ _ _ _ => pts_nil) (fun _ _ _ _ _ => pe_ifExp (pt_cmpR op_eq (pe_call G hr (by rfl) g kp bn .nil pass0 (pa_cons (pv 0) (pa_cons pe_int pa_nil))) pe_int (nomark _)) (pe_call G hr (by rfl) g kp bn .nil pass0 (pa_cons (pv 0) (pa_cons (pv 1) pa_nil))) (pv 3))) pa_nil)))), ?_⟩
    refine ⟨_, rfl, p, rfl, ⟨_, SqT.of hp⟩, fun D hD => lc_tup (K := K) (a := p) (xs := x.map V.int) (fun i H' => RInv d c D H s i H') (RInv.start hd hD) (fun i H' _ z => SqT.of (hd.tk z.1 _ _ hp)) (fun i y H' hi z => ?_) (fun H' z => ?_)⟩
    · rw [List.getElem?_map] at hi
      obtain ⟨v, hv, rfl⟩ := Option.map_eq_some_iff.mp hi
      have hil : i < x.length := (List.getElem?_eq_some_iff.mp hv).1
      obtain ⟨g1, g2⟩ := hx v (List.mem_of_getElem? hv)
      refine ⟨rfl, _, rfl, d, c, 2, rfl, by decide, by decide, z.2.1, fun H3 v3 f1 f2 b3 d3 => ⟨rfl, _, rfl, ?_⟩⟩
      by_cases e : v3 = 0
      · subst e
        rw [show decide (V.int 0 = V.int 0) = true from decide_eq_true rfl]
        refine iteT ⟨_, rfl, _, rfl, d, c, s, rfl, by omega, by omega, d3, fun H4 v4 f1 f2 b4 d4 => RInv.step hd hD z (by omega) (b3.trans b4) d4 f1 f2⟩
      · rw [show decide (V.int v3 = V.int 0) = false from decide_eq_false (fun z => e (V.int.inj z))]
        refine iteF ⟨_, rfl, RInv.step hd hD z (by omega) b3 d3 g1 g2⟩
    · obtain ⟨z1, z2, r, z3, z4, z5⟩ := z
      rw [List.length_map] at z3
      exact ⟨D, _, rfl, .inl ⟨SqL.of z5, fun l2 hl2 => q _ l2 r (z1.trans (But.of_same (same_new hl2))) (z2.same (same_new hl2)) upd_same z4 z3⟩⟩
/-! ### the dice made -/
def spDice (K : PySem.W.Frag) : Sp := fun vs H Q _ => ∃ (a : Addr) (ns : List Int), vs = [.ref a] ∧ SqL K H a (ns.map V.int) ∧ ∀ H' d c, Same H H' → DiceAt H' d c → Q (.ref d) H'
abbrev N_dice : List Str := ["_law_script", "_law_cell"]
theorem sc_dice : FnScope N_dice ["_law_script"] (defScope s_law_dice) := ⟨rfl, rfl, rfl, by decide +kernel, rfl, by decide +kernel, by decide +kernel⟩
theorem cut63 (ns : List Int) : cutV (ns.map V.int) none (some 63) = (ns.take 63).map V.int := by
  rw [cutV_R]
  congr 1
  exact cut_to (k := 63)
theorem ok_dice {f : Addr} {fd : FuncData} (F : FnP K "_law_dice" "_law_dice" s_law_dice f fd) (ma : mg "abs" = none) (mint : mg "int" = none) : FnOk P w K mg base CX0 1 f fd ["_law_script"] (spDice K) := by
  refine F.fn.ok sc_dice (fun vs H Q E h => ?_) (fun cdv A outer s H vs Q E hr h => ?_)
  · obtain ⟨a, ns, rfl, _⟩ := h
    rfl
  · obtain ⟨a, ns, rfl, ha, q⟩ := h
    refine ⟨_, pss_one (ps_ret (pe_lst (pa_cons (pe_lc (own := [("_law_cell", 1)]) (g := gName 1) (tt := tYes) rfl sc_dice.nd (pi_list (pe_slice sl_list (pv 0) po_none (po_some pe_int))) (blkOk_by (N := N_dice) (sc := defScope s_law_dice) (by decide +kernel))
        (fun _ _ _ _ _ => pg_name (i := 1) sc_dice.nd rfl (Or.inl rfl)) (fun _ _ _ _ _ => pts_nil) (fun _ _ _ _ _ => pe_callB call_abs (by rfl) ma (by decide +kernel) (pa_cons (pe_callTy call_int1 (by rfl) mint boot_int (pa_cons (pv 1) pa_nil)) pa_nil))) (pa_cons pe_int (pa_cons pe_int (pa_cons pe_int (pa_cons pe_int pa_nil))))))), ?_⟩
    refine ⟨_, rfl, _, rfl, a, _, rfl, ha, fun l hl => ?_⟩
    rw [cut63]
    have s1 : Same H (upd H l (.lst ((ns.take 63).map V.int))) := same_new hl
    have hl1 : upd H l (.lst ((ns.take 63).map V.int)) l = some (.lst ((ns.take 63).map V.int)) := upd_same
    generalize upd H l (.lst ((ns.take 63).map V.int)) = H1 at s1 hl1
    refine ⟨l, rfl, ⟨_, SqL.of hl1⟩, fun D hD => lc_list (K := K) (a := l) (xs := (ns.take 63).map V.int) (fun i H' => Same H1 H' ∧ ∃ cells : List Int, cells.length = i ∧ (∀ x ∈ cells, 0 ≤ x) ∧ H' D = some (.lst (cells.map V.int)))
      ⟨same_new hD, [], rfl, (fun _ h => by cases h), upd_same⟩ (fun i H' _ z => SqL.of (z.1 _ _ hl1)) (fun i y H' hi z => ?_) (fun H' z => ?_)⟩
    · obtain ⟨z1, cells, z2, z3, z4⟩ := z
      rw [List.getElem?_map] at hi
      obtain ⟨v, hv, rfl⟩ := Option.map_eq_some_iff.mp hi
      have hil : i < (ns.take 63).length := (List.getElem?_eq_some_iff.mp hv).1
      rw [List.length_take] at hil
      refine ⟨rfl, _, rfl, .inl ⟨v, rfl, v, rfl, _, z4, by rw [List.length_map, z2]; exact small1000' (by omega), ?_, cells ++ [if v < 0 then -v else v], by rw [List.length_append, z2]; rfl, ?_, ?_⟩⟩
      · intro b o e
        rw [upd_ne (ne_of_none e hD)]
        exact z1 _ _ e
      · intro x hx
        rcases List.mem_append.mp hx with hx | hx
        · exact z3 x hx
        · rw [List.mem_singleton] at hx
          subst hx
          split <;> omega
      · rw [upd_same, List.map_append]
        rfl
    · obtain ⟨z1, cells, z2, z3, z4⟩ := z
      refine ⟨(by show 5 ≤ sizeLine; decide), fun d hd => q _ d D ((s1.trans z1).trans (same_new hd)) ⟨cells, 0, 0, 1, 0, upd_same, ?_, ?_, z3, by decide, by decide, by decide⟩⟩
      · exact same_new hd _ _ z4
      · exact ne_of_none z4 hd
end
end Seam

set_option Elab.async false
set_option linter.all false
set_option maxRecDepth 100000
set_option maxHeartbeats 4000000
namespace Seam
open PySem PySem.Spec PyProof.Rows L2 Nd
section
variable {P : Program} {w : World} {K : PySem.W.Frag} {mg : Str → Option Value} {base : Heap} {X : Cx}
/-- rows at places -/
abbrev Rs (H : Hp) : List Rw → List Addr → Prop := Paired fun r a => Ro H a r
theorem Rs.tk {H H' : Hp} {ws : List Rw} {as : List Addr} (r : Rs H ws as) (t : Tk H H') : Rs H' ws as := Paired.mapP r fun _ _ z => Ro.tk z t
/-- rows s wide: l items at most m -/
def RwsOk (s l m : Nat) (ws : List Rw) : Prop := ∀ r ∈ ws, l ≤ r.length ∧ r.length ≤ m ∧ ∀ x ∈ r, 0 ≤ x ∧ x < (s : Int)
theorem RwsOk.snoc {s l m : Nat} {ws : List Rw} {r : Rw} (h : RwsOk s l m ws) (hr : l ≤ r.length ∧ r.length ≤ m ∧ ∀ x ∈ r, 0 ≤ x ∧ x < (s : Int)) : RwsOk s l m (ws ++ [r]) := fun x hx => by
  rcases List.mem_append.mp hx with hx | hx
  · exact h x hx
  · rw [List.mem_singleton] at hx
    subst hx
    exact hr
theorem RwsOk.app {s l m : Nat} {ws vs : List Rw} (h : RwsOk s l m ws) (h2 : RwsOk s l m vs) : RwsOk s l m (ws ++ vs) := fun x hx => by
  rcases List.mem_append.mp hx with hx | hx
  · exact h x hx
  · exact h2 x hx
theorem RwsOk.nil {s l m : Nat} : RwsOk s l m [] := fun x hx => by cases hx
def spWords : Sp := fun vs H Q _ => ∃ (d c : Addr) (s n : Nat), vs = [.ref d, .int s, .int n] ∧ 1 ≤ s ∧ s ≤ 8 ∧ 1 ≤ n ∧ n ≤ 40 ∧ DiceAt H d c ∧ ∀ H' p (ws : List Rw) (as : List Addr), But d H H' → DiceAt H' d c → H' p = some (.tup (as.map V.ref)) → Rs H' ws as → ws.length = n → RwsOk s 1 9 ws → Q (.ref p) H'
abbrev ps_words : List Str := ["_law_dice_here", "_law_sounds", "_law_many_here"]
abbrev N_words : List Str := ["_law_dice_here", "_law_sounds", "_law_many_here", "_law_most", "_law_k"]
theorem sc_words : FnScope N_words ps_words (defScope s_law_words) := ⟨rfl, rfl, rfl, by decide +kernel, rfl, by decide +kernel, by decide +kernel⟩
theorem atI_four {a b c d v : Int} (h0 : 0 ≤ v) (h1 : v < 4) {l : List V} (hl : l = [V.int a, V.int b, V.int c, V.int d]) : ∃ x, (x = a ∨ x = b ∨ x = c ∨ x = d) ∧ atI l v = some (V.int x) := by
  subst hl
  rcases (by omega : v = 0 ∨ v = 1 ∨ v = 2 ∨ v = 3) with e | e | e | e
  · subst e
    exact ⟨a, .inl rfl, rfl⟩
  · subst e
    exact ⟨b, .inr (.inl rfl), rfl⟩
  · subst e
    exact ⟨c, .inr (.inr (.inl rfl)), rfl⟩
  · subst e
    exact ⟨d, .inr (.inr (.inr rfl)), rfl⟩
theorem ok_words {f : Addr} {fd : FuncData} (F : FnP K "_law_words" "_law_words" s_law_words f fd) (cd : CDraw P w K mg base) (cr : Cal P w K mg base CX0 2 "_law_row" ps_side (spNewRow lenUp)) (mr : mg "range" = none) (mt : mg "tuple" = none) :
    FnOk P w K mg base CX0 3 f fd ps_words spWords := by
  obtain ⟨f1, fd1, G, g, kp, bn⟩ := cd.ex
  obtain ⟨f2, fd2, G2, g2, kp2, bn2⟩ := cr.ex
  refine F.fn.ok sc_words (fun vs H Q E h => ?_) (fun cdv A outer s H vs Q E hr h => ?_)
  · obtain ⟨d, c, s, n, rfl, _⟩ := h
    rfl
  · obtain ⟨d, c, s, n, rfl, s1, s2, n1, n2, hd, q⟩ := h
    refine ⟨_, pss_cons (ps_set (i := 3) sc_words.nd rfl (Or.inr rfl) (pe_ix ix_list (pe_lst (pa_cons pe_int (pa_cons pe_int (pa_cons pe_int (pa_cons pe_int pa_nil))))) (pe_call G (hr.mono (by decide)) (by rfl) g kp bn .nil pass0 (pa_cons (pv 0) (pa_cons pe_int pa_nil))) (fun _ _ => rfl)))
      (pss_one (ps_ret (pe_callTy call_tuple_of (by rfl) mt (by decide +kernel) (pa_cons (pe_lc (own := [("_law_k", 4)]) (g := gName 4) (tt := tYes) rfl sc_words.nd (pi_range1 rfl mr (pa_cons (pv 2) pa_nil)) (blkOk_by (N := N_words) (sc := defScope s_law_words) (by decide +kernel))
        (fun _ _ _ _ _ => pg_name (i := 4) sc_words.nd rfl (Or.inl rfl)) (fun _ _ _ _ _ => pts_nil) (fun _ _ _ _ _ => pe_call G2 hr (by rfl) g2 kp2 bn2 .nil pass0 (pa_cons (pv 0) (pa_cons (pv 1) (pa_cons (pv 3) pa_nil))))) pa_nil)))), ?_⟩
    refine ⟨(by show 4 ≤ sizeLine; decide), fun l hl => ?_⟩
    refine ⟨_, rfl, d, c, 4, rfl, by decide, by decide, hd.same (same_new hl), fun H1 v1 a1 a2 b1 d1 => ?_⟩
    have hl1 : H1 l = some (.lst [.int 2, .int 4, .int 4, .int 9]) := by
      rw [b1 l (hd.ne hl).1]
      exact upd_same
    obtain ⟨x, hx, hat⟩ := atI_four a1 a2 (rfl : [V.int 2, V.int 4, V.int 4, V.int 9] = _)
    refine ⟨l, _, _, _, rfl, rfl, SqL.of hl1, hat, ?_⟩
    obtain ⟨m, rfl⟩ : ∃ m : Nat, x = (m : Int) := ⟨x.toNat, by omega⟩
    have b0 : But d H H1 := (But.of_same (same_new hl)).trans b1.but
    refine ⟨_, rfl, n, rfl, by omega, by omega, fun D hD => lc_range (lo := 0) (n := n) (fun i H' => But d H1 H' ∧ DiceAt H' d c ∧ ∃ ws as, ws.length = i ∧ Rs H' ws as ∧ RwsOk s 1 9 ws ∧ H' D = some (.lst (as.map V.ref)))
      ⟨But.of_same (same_new hD), d1.same (same_new hD), [], [], rfl, .nil, RwsOk.nil, upd_same⟩ (fun i H' hi z => ?_) (fun H' z => ?_)⟩
    · obtain ⟨z1, z2, ws, as, z3, z4, z5, z6⟩ := z
      refine ⟨rfl, _, rfl, _, rfl, _, rfl, d, c, s, m, rfl, s1, s2, by omega, by omega, z2, fun H2 p r b2 d2 hp hr2 hlen => ?_⟩
      obtain ⟨e1, e2⟩ := d1.ne hD
      have hz : H2 D = some (.lst (as.map V.ref)) := b2 _ _ z6 e1
      refine ⟨_, hz, ?_, ?_, d2.upd e1 e2, ws ++ [r], as ++ [p], by rw [List.length_append, z3]; rfl, ?_, z5.snoc ⟨hlen.1, by omega, hr2⟩, ?_⟩
      · rw [List.length_map, ← Paired.length z4, z3]
        exact small1000' (by omega)
      · intro b o e nb
        rw [upd_ne (ne_of_none e hD)]
        exact (z1.trans b2) b o e nb
      · have t2 : Tk H2 (upd H2 D (.lst (as.map V.ref ++ [.ref p]))) := fun b ys e => by
          rw [upd_ne (ne_of e hz (fun z => nomatch z))]
          exact e
        exact Paired.snoc ((z4.tk (z2.tk b2)).tk t2) (Ro.tk hp t2)
      · rw [upd_same, List.map_append]
        rfl
    · obtain ⟨z1, z2, ws, as, z3, z4, z5, z6⟩ := z
      refine ⟨D, _, rfl, .inl ⟨SqL.of z6, fun l2 hl2 => q _ l2 ws as ((b0.trans z1).trans (But.of_same (same_new hl2))) (z2.same (same_new hl2)) upd_same (z4.tk (same_new hl2).tk) z3 z5⟩⟩
end
end Seam

set_option Elab.async false
set_option linter.all false
set_option maxRecDepth 100000
set_option maxHeartbeats 4000000
namespace Seam
open PySem PySem.Spec PyProof.Rows L2 Nd
section
variable {P : Program} {w : World} {K : PySem.W.Frag} {mg : Str → Option Value} {base : Heap} {X : Cx}
/-- a list of rows at l -/
def LRs (H : Hp) (l : Addr) (ws : List Rw) : Prop := ∃ as : List Addr, H l = some (.lst (as.map V.ref)) ∧ Rs H ws as
theorem LRs.but {H H' : Hp} {l L : Addr} {ws ls : List Rw} (h : LRs H l ws) (b : But L H H') (hL : LRs H L ls) (n : l ≠ L) : LRs H' l ws :=
  let ⟨as, h1, h2⟩ := h
  let ⟨_, g1, _⟩ := hL
  ⟨as, b _ _ h1 n, h2.tk fun c _ e => b _ _ e (ne_of e g1 (fun z => nomatch z))⟩
theorem LRs.same {H H' : Hp} {l : Addr} {ws : List Rw} (h : LRs H l ws) (s : Same H H') : LRs H' l ws :=
  let ⟨as, h1, h2⟩ := h
  ⟨as, s _ _ h1, h2.tk s.tk⟩
theorem rs_app {H : Hp} {ws vs : List Rw} {as bs : List Addr} (h : Rs H ws as) (g : Rs H vs bs) : Rs H (ws ++ vs) (as ++ bs) := by
  induction h with
  | nil => exact g
  | cons z _ ih => exact .cons z ih
def spRows : Sp := fun vs H Q _ => ∃ s m : Nat, vs = [.int s, .int m] ∧ 1 ≤ s ∧ s ≤ 2 ∧ m ≤ 2 ∧ ∀ H' l ws, Same H H' → LRs H' l ws → RwsOk s 1 m ws → ws.length ≤ 6 → Q (.ref l) H'
abbrev N_rows : List Str := ["_law_sounds", "_law_most", "_law_found", "_law_last", "_law_k", "_law_longer", "_law_row_here", "_law_sound"]
theorem sc_rows : FnScope N_rows ["_law_sounds", "_law_most"] (defScope s_law_rows) := ⟨rfl, rfl, rfl, by decide +kernel, rfl, by decide +kernel, by decide +kernel⟩
theorem two_pow2 {k : Nat} (h : k < 2) : 2 ^ (k + 1) ≤ 4 ∧ 2 ^ (k + 2) = 2 ^ (k + 1) + 2 ^ (k + 1) ∧ 2 ^ (k + 1) = 2 ^ k + 2 ^ k := by
  rcases (by omega : k = 0 ∨ k = 1) with e | e <;> subst e <;> decide
theorem ok_rows {f : Addr} {fd : FuncData} (F : FnP K "_law_rows" "_law_rows" s_law_rows f fd) (mr : mg "range" = none) : FnOk P w K mg base CX0 1 f fd ["_law_sounds", "_law_most"] spRows := by
  refine F.fn.ok sc_rows (fun vs H Q E h => ?_) (fun cdv A outer s H vs Q E hr h => ?_)
  · obtain ⟨s, m, rfl, _⟩ := h
    rfl
  · obtain ⟨s, m, rfl, s1, s2, m2, q⟩ := h
    refine ⟨_, pss_cons (ps_set (i := 2) sc_rows.nd rfl (Or.inl rfl) (pe_lst pa_nil)) (pss_cons (ps_set (i := 3) sc_rows.nd rfl (Or.inl rfl) (pe_lst (pa_cons (pe_tup pa_nil) pa_nil)))
      (pss_cons (ps_for PassesOwn.never rfl (pi_range1 rfl mr (pa_cons (pv 1) pa_nil)) (pg_name (i := 4) sc_rows.nd rfl (Or.inl rfl))
        (pss_cons (ps_set (i := 5) sc_rows.nd rfl (Or.inl rfl) (pe_lst pa_nil))
        (pss_cons (ps_for PassesOwn.never rfl (pi_list (pv 3)) (pg_name (i := 6) sc_rows.nd rfl (Or.inr rfl))
          (pss_one (ps_expr (pe_bm PySem.F.plainAttrs_list PySem.F.slot_list_extend PySem.F.type_list_extend mt_extend (pv 5) (pa_cons (pe_lc (own := [("_law_sound", 7)]) (g := gName 7) (tt := tYes) rfl sc_rows.nd (pi_range1 rfl mr (pa_cons (pv 0) pa_nil)) (blkOk_by (N := N_rows) (sc := defScope s_law_rows) (by decide +kernel))
            (fun _ _ _ _ _ => pg_name (i := 7) sc_rows.nd rfl (Or.inl rfl)) (fun _ _ _ _ _ => pts_nil) (fun _ _ _ _ _ => pe_op op_catR (pv 6) (pe_tup (pa_cons (pv 7) pa_nil)))) pa_nil)))))
        (pss_cons (ps_set (i := 2) sc_rows.nd rfl (Or.inl rfl) (pe_op op_cat (pv 2) (pv 5))) (pss_one (ps_set (i := 3) sc_rows.nd rfl (Or.inl rfl) (pv 5)))))))
      (pss_one (ps_ret (pv 2))))), ?_⟩
    refine ⟨(by show 0 ≤ sizeLine; decide), fun F0 nF => ⟨(by show 0 ≤ sizeLine; decide), fun t0 nt => ⟨(by show 1 ≤ sizeLine; decide), fun L0 nL => ?_⟩⟩⟩
    have z1 : Same H (upd H F0 (.lst [])) := same_new nF
    have z2 : Same (upd H F0 (.lst [])) (upd (upd H F0 (.lst [])) t0 (.tup [])) := same_new nt
    have z3 : Same (upd (upd H F0 (.lst [])) t0 (.tup [])) (upd (upd (upd H F0 (.lst [])) t0 (.tup [])) L0 (.lst [.ref t0])) := same_new nL
    have k1 : LRs (upd (upd (upd H F0 (.lst [])) t0 (.tup [])) L0 (.lst [.ref t0])) F0 [] := ⟨[], (z2.trans z3) _ _ upd_same, .nil⟩
    have k2 : LRs (upd (upd (upd H F0 (.lst [])) t0 (.tup [])) L0 (.lst [.ref t0])) L0 [[]] := ⟨[t0], upd_same, .cons (z3 _ _ upd_same) .nil⟩
    have z123 := (z1.trans z2).trans z3
    generalize upd (upd (upd H F0 (.lst [])) t0 (.tup [])) L0 (.lst [.ref t0]) = H1 at *
    refine ⟨_, rfl, m, rfl, by omega, by omega, for_range (lo := 0) (n := m) (fun k σ H' => ∃ F L x4 x5 x6 fs ls, σ = [some (.int s), some (.int m), some (.ref F), some (.ref L), x4, x5, x6, none] ∧ Same H H' ∧ LRs H' F fs ∧ LRs H' L ls ∧ RwsOk s 1 m fs ∧ RwsOk s k k ls ∧ ls.length ≤ 2 ^ k ∧ fs.length + 2 ≤ 2 ^ (k + 1))
      ⟨F0, L0, none, none, none, [], [[]], rfl, z123, k1, k2, RwsOk.nil, (fun r hr => by rw [List.mem_singleton] at hr; subst hr; exact ⟨Nat.le_refl _, Nat.le_refl _, fun _ h => by cases h⟩), by decide, by decide⟩ (fun k σ H2 hk z => ?_) (fun σ H2 z => ?_)⟩
    · obtain ⟨F, L, x4, x5, x6, fs, ls, rfl, sH, hF, hL, of, ol, ll, lf⟩ := z
      obtain ⟨p1, p2, p3⟩ := two_pow2 (show k < 2 by omega)
      refine ⟨(by show 0 ≤ sizeLine; decide), fun G nG => ?_⟩
      have y1 : Same H2 (upd H2 G (.lst [])) := same_new nG
      have hG : LRs (upd H2 G (.lst [])) G [] := ⟨[], upd_same, .nil⟩
      have hF1 := hF.same y1
      have hL1 := hL.same y1
      have nFG : F ≠ G := fun e => by
        obtain ⟨_, e1, _⟩ := hF
        rw [e, nG] at e1
        cases e1
      have nLG : L ≠ G := fun e => by
        obtain ⟨_, e1, _⟩ := hL
        rw [e, nG] at e1
        cases e1
      have nH : ∀ b o, H b = some o → b ≠ G := fun b o e => ne_of_none (sH _ _ e) nG
      have sH1 := sH.trans y1
      generalize upd H2 G (.lst []) = H3 at *
      obtain ⟨as, hLa, hLr⟩ := id hL1
      have lena : ls.length = as.length := Paired.length hLr
      refine ⟨_, rfl, L, rfl, ⟨_, SqL.of hLa⟩, for_list (K := K) (a := L) (xs := as.map V.ref) (fun j σ H' => ∃ x6 gs, σ = [some (.int s), some (.int m), some (.ref F), some (.ref L), some (.int (0 + (k : Int))), some (.ref G), x6, none] ∧ But G H3 H' ∧ LRs H' G gs ∧ RwsOk s (k + 1) (k + 1) gs ∧ gs.length = j * s)
        ⟨x6, [], rfl, But.refl _ _, hG, RwsOk.nil, by rw [Nat.zero_mul]; rfl⟩ (fun j σ H' _ z => ?_) (fun j y σ H4 hj z => ?_) (fun σ H4 z => ?_)⟩
      · obtain ⟨_, _, _, bG, _⟩ := z
        exact SqL.of (bG _ _ hLa nLG)
      · obtain ⟨x6', gs, rfl, bG, hg, og, lg⟩ := z
        have hjl : j < ls.length := by
          have h1 := (List.getElem?_eq_some_iff.mp hj).1
          rw [List.length_map] at h1
          omega
        obtain ⟨a, ha, hra⟩ := paired_get hLr (List.getElem?_eq_getElem hjl)
        rw [List.getElem?_map, ha] at hj
        cases hj
        have tk4 : Tk H3 H4 := fun b _ e => bG _ _ e (ne_of e hG.choose_spec.1 (fun z => nomatch z))
        have hra4 := hra.tk tk4
        obtain ⟨o1, o2, o3⟩ := ol _ (List.getElem_mem hjl)
        obtain ⟨bs, hgb, hgr⟩ := id hg
        have lenb : gs.length = bs.length := Paired.length hgr
        have gsz : gs.length ≤ 8 := by
          rw [lg]
          have : j * s ≤ 3 * 2 := Nat.mul_le_mul (by omega) s2
          omega
        refine ⟨_, rfl, .inl ⟨rfl, _, SqL.of hgb⟩, _, rfl, s, rfl, by omega, by omega, fun D hD => lc_range (lo := 0) (n := s) (fun i H' => Same H4 H' ∧ ∃ ds, LRs H' D ds ∧ RwsOk s (k + 1) (k + 1) ds ∧ ds.length = i)
          ⟨same_new hD, [], ⟨[], upd_same, .nil⟩, RwsOk.nil, rfl⟩ (fun i H5 hi z => ?_) (fun H5 z => ?_)⟩
        · obtain ⟨s5, ds, ⟨es, hds, hdr⟩, od, ld⟩ := z
          refine ⟨rfl, _, rfl, _, rfl, (by show 1 ≤ sizeLine; decide), fun p hp => ?_⟩
          have s6 := same_new (o := .tup [.int (0 + (i : Int))]) hp
          refine ⟨a, p, ls[j], [0 + (i : Int)], rfl, rfl, (hra4.tk s5.tk).tk s6.tk, upd_same, by show ls[j].length + 1 ≤ 8000; omega, fun p2 H6 s7 hr7 => ?_⟩
          have hD6 := (s6.trans s7) _ _ hds
          have lene : ds.length = es.length := Paired.length hdr
          refine ⟨_, hD6, by rw [List.length_map]; exact small1000' (by omega), ?_, ds ++ [ls[j] ++ [0 + (i : Int)]], ⟨es ++ [p2], ?_, ?_⟩, od.snoc ⟨?_, ?_, ?_⟩, by rw [List.length_append, ld]; rfl⟩
          · intro b o e
            rw [upd_ne (ne_of_none e hD)]
            exact (s6.trans s7) _ _ (s5 _ _ e)
          · rw [upd_same, List.map_append]
            rfl
          · have t6 : Tk H6 (upd H6 D (.lst (es.map V.ref ++ [.ref p2]))) := fun b ys e => by
              rw [upd_ne (ne_of e hD6 (fun z => nomatch z))]
              exact e
            exact Paired.snoc (hdr.tk ((s6.trans s7).tk.trans t6)) (Ro.tk hr7 t6)
          · rw [List.length_append, List.length_singleton]
            omega
          · rw [List.length_append, List.length_singleton]
            omega
          · intro x hx
            rcases List.mem_append.mp hx with hx | hx
            · exact o3 x hx
            · rw [List.mem_singleton] at hx
              subst hx
              omega
        · obtain ⟨s5, ds, ⟨es, hds, hdr⟩, od, ld⟩ := z
          have lene : ds.length = es.length := Paired.length hdr
          have hg5 := s5 _ _ hgb
          refine ⟨G, D, _, _, rfl, rfl, hg5, hds, ?_, ?_⟩
          · rw [List.length_map, List.length_map]
            exact Nat.le_of_lt (small1000' (by omega))
          · have t5 : Tk H5 (upd H5 G (.lst (bs.map V.ref ++ es.map V.ref))) := fun b ys e => by
              rw [upd_ne (ne_of e hg5 (fun z => nomatch z))]
              exact e
            refine ⟨_, gs ++ ds, rfl, ?_, ⟨bs ++ es, ?_, ?_⟩, og.app od, ?_⟩
            · intro b o e n
              rw [upd_ne n]
              exact s5 _ _ (bG _ _ e n)
            · rw [upd_same, List.map_append]
            · exact rs_app (hgr.tk (s5.tk.trans t5)) (hdr.tk t5)
            · rw [List.length_append, lg, ld, Nat.add_mul, Nat.one_mul]
      · obtain ⟨x6', gs, rfl, bG, hg, og, lg⟩ := z
        rw [List.length_map, ← lena] at lg
        have hF4 := hF1.but bG hG nFG
        obtain ⟨bs, hgb, hgr⟩ := id hg
        obtain ⟨cs, hcb, hcr⟩ := id hF4
        have lenb : gs.length = bs.length := Paired.length hgr
        have lenc : fs.length = cs.length := Paired.length hcr
        have gl : gs.length ≤ 2 ^ (k + 1) := by
          rw [lg, p3]
          have : ls.length * s ≤ 2 ^ k * 2 := Nat.mul_le_mul ll s2
          omega
        refine ⟨_, rfl, _, rfl, F, G, _, _, rfl, rfl, hcb, hgb, ?_, fun F2 nF2 => ?_⟩
        · rw [List.length_map, List.length_map]
          exact Nat.le_of_lt (small1000' (by omega))
        have s8 : Same H4 (upd H4 F2 (.lst (cs.map V.ref ++ bs.map V.ref))) := same_new nF2
        refine ⟨_, rfl, F2, G, _, _, _, fs ++ gs, gs, rfl, ?_, ⟨cs ++ bs, ?_, ?_⟩, hg.same s8, ?_, og, gl, ?_⟩
        · exact Same.trans (fun b o e => bG _ _ (sH1 _ _ e) (nH _ _ e)) s8
        · rw [upd_same, List.map_append]
        · exact rs_app (hcr.tk s8.tk) (hgr.tk s8.tk)
        · refine of.app fun r hr => ?_
          obtain ⟨g1, g2, g3⟩ := og r hr
          exact ⟨by omega, by omega, g3⟩
        · rw [List.length_append, p2]
          omega
    · obtain ⟨F, L, x4, x5, x6, fs, ls, rfl, sH, hF, hL, of, ol, ll, lf⟩ := z
      refine ⟨_, rfl, q H2 F fs sH hF of ?_⟩
      have : 2 ^ (m + 1) ≤ 2 ^ 3 := Nat.pow_le_pow_right (by decide) (by omega)
      omega
end
end Seam

set_option Elab.async false
set_option linter.all false
set_option maxRecDepth 100000
set_option maxHeartbeats 4000000
namespace Seam
open PySem PySem.Spec PyProof.Rows L2 Nd
theorem tabOk_put {s a b : Nat} {kvs : List (K2 × K2)} {k v : K2} (h : TabOk s a b kvs) (h1 : okK s a b k) (h2 : okK s a b v) (h3 : v.1.length = k.1.length) (h4 : v.2.length = k.2.length) : TabOk s a b (dput kvs k v) := fun p hp => by
  unfold dput at hp
  split at hp
  · obtain ⟨q, hq, rfl⟩ := List.mem_map.mp hp
    split
    · rename_i e
      subst e
      exact ⟨(h q hq).1, h2, h3, h4⟩
    · exact h q hq
  · rcases List.mem_append.mp hp with hp | hp
    · exact h p hp
    · rw [List.mem_singleton] at hp
      subst hp
      exact ⟨h1, h2, h3, h4⟩
section
variable {P : Program} {w : World} {K : PySem.W.Frag} {mg : Str → Option Value} {base : Heap} {X : Cx}
theorem TM.ne {H : Hp} {T d c : Addr} {kvs : List (K2 × K2)} (t : TM P w H T kvs) (h : DiceAt H d c) : T ≠ d ∧ T ≠ c :=
  let ⟨_, hx, _⟩ := t
  let ⟨_, _, _, _, _, hd, hc, _⟩ := h
  ⟨ne_of hx hd (fun z => nomatch z), ne_of hx hc (fun z => nomatch z)⟩
theorem TM.dice {H H' : Hp} {T d c : Addr} {kvs : List (K2 × K2)} (t : TM P w H T kvs) (h : DiceAt H d c) (b : But d H H') : TM P w H' T kvs := t.tk (h.tk b) fun o e => b _ o e (TM.ne t h).1
theorem DiceAt.bt {H H' : Hp} {T d c : Addr} {kvs : List (K2 × K2)} (h : DiceAt H d c) (t : TM P w H T kvs) (b : Bt T H H') : DiceAt H' d c :=
  let n := TM.ne t h
  let ⟨cells, i, v, st, k, hd, hc, r⟩ := h
  ⟨cells, i, v, st, k, (b d n.1.symm).trans hd, (b c n.2.symm).trans hc, r⟩
/-- a table that grows at T while the dice at d are thrown -/
structure TbI (P : Program) (w : World) (d c T : Addr) (s a b : Nat) (H0 H' : Hp) (n : Nat) : Prop where
  bu : ∀ x o, H0 x = some o → x ≠ d → x ≠ T → H' x = some o
  di : DiceAt H' d c
  tb : ∃ kvs, TM P w H' T kvs ∧ (kvs.map (·.1)).Nodup ∧ TabOk s a b kvs ∧ kvs.length ≤ n
theorem TbI.mono {d c T : Addr} {s a b : Nat} {H0 H' : Hp} {n m : Nat} (h : TbI P w d c T s a b H0 H' n) (l : n ≤ m) : TbI P w d c T s a b H0 H' m :=
  ⟨h.bu, h.di, let ⟨kvs, h1, h2, h3, h4⟩ := h.tb; ⟨kvs, h1, h2, h3, Nat.le_trans h4 l⟩⟩
theorem TbI.draw {d c T : Addr} {s a b : Nat} {H0 H' H'' : Hp} {n : Nat} (h : TbI P w d c T s a b H0 H' n) (hb : But d H' H'') (hd : DiceAt H'' d c) : TbI P w d c T s a b H0 H'' n :=
  ⟨fun x o e n1 n2 => hb _ _ (h.bu x o e n1 n2) n1, hd, let ⟨kvs, h1, h2, h3, h4⟩ := h.tb; ⟨kvs, TM.dice h1 h.di hb, h2, h3, h4⟩⟩
theorem TbI.same {d c T : Addr} {s a b : Nat} {H0 H' H'' : Hp} {n : Nat} (h : TbI P w d c T s a b H0 H' n) (hb : Same H' H'') : TbI P w d c T s a b H0 H'' n := h.draw (But.of_same hb) (h.di.same hb)
theorem TbI.tk {d c T : Addr} {s a b : Nat} {H0 H' : Hp} {n : Nat} (h : TbI P w d c T s a b H0 H' n) {kvs : List (K2 × K2)} (t : TM P w H0 T kvs) (hd : DiceAt H0 d c) : Tk H0 H' := fun x ys e =>
  let ⟨_, hx, _⟩ := t
  let ⟨_, _, _, _, _, hd, _⟩ := hd
  h.bu _ _ e (ne_of e hd (fun z => nomatch z)) (ne_of e hx (fun z => nomatch z))
theorem TbI.start {d c T : Addr} {s a b : Nat} {H : Hp} (hd : DiceAt H d c) (t : TM P w H T []) : TbI P w d c T s a b H H 0 := ⟨fun _ _ e _ _ => e, hd, [], t, List.nodup_nil, (fun _ h => by cases h), Nat.le_refl _⟩
/-- the store -/
theorem TbI.set {d c T : Addr} {s a b : Nat} {H0 H : Hp} {n : Nat} (h : TbI P w d c T s a b H0 H n) {ka va : Addr} {k v : K2} (hk : Pr H ka k) (hv : Pr H va v) (ok1 : okK s a b k) (ok2 : okK s a b v) (l1 : v.1.length = k.1.length) (l2 : v.2.length = k.2.length) (hn : n < 4000) {Q : Hp → Prop}
    (q : ∀ H', TbI P w d c T s a b H0 H' (n + 1) → Tk H H' → Q H') : rSetN P w (.ref T) (.ref ka) (.ref va) H Q := by
  obtain ⟨kvs, h1, h2, h3, h4⟩ := h.tb
  refine ⟨T, ka, va, kvs, k, v, rfl, rfl, rfl, h1, hk, hv, small1000' (by omega), fun H' t' b' => q H' ⟨fun x o e n1 n2 => ?_, h.di.bt h1 b', dput kvs k v, t', dput_nodup h2, tabOk_put h3 ok1 ok2 l1 l2, ?_⟩ (bt_tk h1 b')⟩
  · rw [b' x n2]
    exact h.bu x o e n1 n2
  · have := dput_len kvs k v
    omega
/-- a book that the law may draw -/
def GoodB (s a b : Nat) (kvs : List (K2 × K2)) : Prop := okS s a b ∧ TabOk s a b kvs ∧ (kvs.map (·.1)).Nodup ∧ kvs.length ≤ 64
def spLBook (P : Program) (w : World) : Sp := fun vs H Q _ => ∃ (d c : Addr), vs = [.ref d] ∧ DiceAt H d c ∧ ∀ H' p s a b kvs, But d H H' → DiceAt H' d c → LB P w H' p s a b kvs → GoodB s a b kvs → Q (.ref p) H'
theorem TbI.done {d c T : Addr} {s a b n : Nat} {H H1 H2 : Hp} (h : TbI P w d c T s a b H1 H2 n) (hb : But d H H1) (nT : H T = none) (hn : n ≤ 64) (hs : okS s a b) {Q : V → Hp → Prop}
    (q : ∀ H' p s a b kvs, But d H H' → DiceAt H' d c → LB P w H' p s a b kvs → GoodB s a b kvs → Q (.ref p) H') : ∀ p, H2 p = none → Q (.ref p) (L2.upd H2 p (.tup [.int s, .int a, .int b, .ref T])) := fun p hp => by
  obtain ⟨kvs, h1, h2, h3, h4⟩ := h.tb
  have sp : Same H2 (L2.upd H2 p (.tup [.int s, .int a, .int b, .ref T])) := same_new hp
  exact q _ p s a b kvs (fun x o e n1 => sp _ _ (h.bu x o (hb x o e n1) n1 (ne_of_none e nT))) (h.di.same sp) ⟨T, upd_same, h1.tk sp.tk fun o => sp _ o⟩ ⟨hs, h3, h2, by omega⟩
abbrev N_great : List Str := ["_law_dice_here", "_law_sounds", "_law_table_here", "_law_left", "_law_right"]
theorem sc_great : FnScope N_great ["_law_dice_here"] (defScope s_law_great_book) := ⟨rfl, rfl, rfl, by decide +kernel, rfl, by decide +kernel, by decide +kernel⟩
theorem okR_one {s : Nat} {x : Int} (h0 : 0 ≤ x) (h1 : x < (s : Int)) : okR s 1 [x] := ⟨Nat.le_refl _, Nat.le_refl _, fun y hy => by rw [List.mem_singleton] at hy; subst hy; exact ⟨h0, h1⟩⟩
theorem ok_great {f : Addr} {fd : FuncData} (F : FnP K "_law_great_book" "_law_great_book" s_law_great_book f fd) (cd : CDraw P w K mg base) (mr : mg "range" = none) : FnOk P w K mg base CX0 2 f fd ["_law_dice_here"] (spLBook P w) := by
  obtain ⟨f1, fd1, G, g, kp, bn⟩ := cd.ex
  refine F.fn.ok sc_great (fun vs H Q E h => ?_) (fun cdv A outer s H vs Q E hr h => ?_)
  · obtain ⟨d, c, rfl, _⟩ := h
    rfl
  · obtain ⟨d, c, rfl, hd, q⟩ := h
    have hu : (A.deeper (envOfC "_law_great_book" (defScope s_law_great_book) _ f cdv)).units + 64 < cLine := hr.units
    refine ⟨_, pss_cons (ps_set (i := 1) sc_great.nd rfl (Or.inl rfl) (pe_op op_add pe_int (pe_call G hr (by rfl) g kp bn .nil pass0 (pa_cons (pv 0) (pa_cons pe_int pa_nil)))))
      (pss_cons (ps_set (i := 2) sc_great.nd rfl (Or.inl rfl) pe_newN)
      (pss_cons (ps_for PassesOwn.never rfl (pi_range1 rfl mr (pa_cons (pv 1) pa_nil)) (pg_name (i := 3) sc_great.nd rfl (Or.inl rfl))
        (pss_one (ps_for PassesOwn.never rfl (pi_range1 rfl mr (pa_cons (pv 1) pa_nil)) (pg_name (i := 4) sc_great.nd rfl (Or.inl rfl))
          (pss_one (ps_if (pt_cmpR op_gt (pe_call G hr (by rfl) g kp bn .nil pass0 (pa_cons (pv 0) (pa_cons pe_int pa_nil))) pe_int (nomark _))
            (pss_one (ps_asg (pe_tup (pa_cons (pe_tup (pa_cons (pe_call G hr (by rfl) g kp bn .nil pass0 (pa_cons (pv 0) (pa_cons (pv 1) pa_nil))) pa_nil)) (pa_cons (pe_tup (pa_cons (pe_call G hr (by rfl) g kp bn .nil pass0 (pa_cons (pv 0) (pa_cons (pv 1) pa_nil))) pa_nil)) pa_nil)))
              (pg_sub (pv 2) (pe_tup (pa_cons (pe_tup (pa_cons (pv 3) pa_nil)) (pa_cons (pe_tup (pa_cons (pv 4) pa_nil)) pa_nil))) (set_nd hu)))) pss_nil)))))
      (pss_one (ps_ret (pe_tup (pa_cons (pv 1) (pa_cons pe_int (pa_cons pe_int (pa_cons (pv 2) pa_nil))))))))), ?_⟩
    refine ⟨_, rfl, d, c, 5, rfl, by decide, by decide, hd, fun H1 v1 a1 a2 b1 d1 => ⟨_, _, rfl, rfl, ?_⟩⟩
    obtain ⟨s, hs⟩ : ∃ s : Nat, (4 : Int) + v1 = (s : Int) := ⟨(4 + v1).toNat, by omega⟩
    intro T H2 nT tT bT
    have s2 : Same H1 H2 := bt_same nT bT
    have d2 := d1.same s2
    have t0 : TbI P w d c T s 1 1 H2 H2 0 := TbI.start d2 tT
    have nT0 : H T = none := by
      rcases e : H T with _ | o
      · rfl
      · have := b1.but T o e (d1.ne nT).1
        rw [nT] at this
        cases this
    have bb : But d H H2 := b1.but.trans (But.of_same s2)
    refine ⟨_, rfl, s, by rw [← hs], by omega, by omega, for_range (lo := 0) (n := s) (fun i σ H' => ∃ x3 x4, σ = [some (.ref d), some (.int (4 + v1)), some (.ref T), x3, x4] ∧ TbI P w d c T s 1 1 H2 H' (i * s)) ⟨none, none, rfl, by rw [Nat.zero_mul]; exact t0⟩ (fun i σ H3 hi z => ?_) (fun σ H3 z => ?_)⟩
    · obtain ⟨x3, x4, rfl, z⟩ := z
      refine ⟨_, rfl, s, by rw [← hs], by omega, by omega, for_range (lo := 0) (n := s) (fun j σ H' => ∃ x4, σ = [some (.ref d), some (.int (4 + v1)), some (.ref T), some (.int (0 + (i : Int))), x4] ∧ TbI P w d c T s 1 1 H2 H' (i * s + j)) ⟨x4, rfl, z⟩ (fun j σ H4 hj z => ?_) (fun σ H4 z => ?_)⟩
      · obtain ⟨x4, rfl, z⟩ := z
        have hij : i * s + j < 64 := by
          have h1 : i * s ≤ 7 * 8 := Nat.mul_le_mul (by omega) (by omega)
          omega
        refine ⟨_, rfl, d, c, 4, rfl, by decide, by decide, z.di, fun H5 v5 e1 e2 b5 d5 => ⟨_, _, rfl, rfl, _, rfl, ?_⟩⟩
        have z5 := z.draw b5.but d5
        by_cases hv : 0 < v5
        · rw [decide_eq_true hv]
          refine iteT ⟨_, rfl, _, rfl, d, c, 4 + v1, rfl, by omega, by omega, d5, fun H6 v6 f1 f2 b6 d6 => ⟨(by show 1 ≤ sizeLine; decide), fun p1 hp1 => ?_⟩⟩
          have z6 := (z5.draw b6.but d6).same (same_new (o := .tup [.int v6]) hp1)
          refine ⟨_, rfl, _, rfl, d, c, 4 + v1, rfl, by omega, by omega, z6.di, fun H7 v7 g1 g2 b7 d7 => ⟨(by show 1 ≤ sizeLine; decide), fun p2 hp2 => ⟨(by show 2 ≤ sizeLine; decide), fun p3 hp3 => ?_⟩⟩⟩
          have z7 := ((z6.draw b7.but d7).same (same_new (o := .tup [.int v7]) hp2)).same (same_new (o := .tup [.ref p1, .ref p2]) hp3)
          have y2 := same_new (o := .tup [.int v7]) hp2
          have y3 := same_new (o := .tup [.ref p1, .ref p2]) hp3
          have r1 : Ro _ p1 [v6] := Ro.tk (upd_same : upd H6 p1 (.tup [.int v6]) p1 = some (.tup [.int v6])) (((z6.di.tk b7.but).trans y2.tk).trans y3.tk)
          have r2 : Ro _ p2 [v7] := Ro.tk (upd_same : upd H7 p2 (.tup [.int v7]) p2 = some (.tup [.int v7])) y3.tk
          have r3 : Pr (upd (upd H7 p2 (.tup [.int v7])) p3 (.tup [.ref p1, .ref p2])) p3 ([v6], [v7]) := ⟨p1, p2, upd_same, r1, r2⟩
          refine ⟨_, rfl, _, rfl, (by show 1 ≤ sizeLine; decide), fun p4 hp4 => ⟨_, rfl, (by show 1 ≤ sizeLine; decide), fun p5 hp5 => ⟨(by show 2 ≤ sizeLine; decide), fun p6 hp6 => ?_⟩⟩⟩
          have y4 := same_new (o := .tup [.int (0 + (i : Int))]) hp4
          have y5 := same_new (o := .tup [.int (0 + (j : Int))]) hp5
          have y6 := same_new (o := .tup [.ref p4, .ref p5]) hp6
          have r6 : Pr _ p6 ([(0 + (i : Int))], [(0 + (j : Int))]) := ⟨p4, p5, upd_same, (y5.trans y6) _ _ upd_same, y6 _ _ upd_same⟩
          have z8 := ((z7.same y4).same y5).same y6
          refine z8.set r6 (r3.tk ((y4.trans y5).trans y6).tk) ⟨okR_one (by omega) (by omega), okR_one (by omega) (by omega)⟩ ⟨okR_one (by omega) (by omega), okR_one (by omega) (by omega)⟩ rfl rfl (by omega) fun H9 z9 _ => ⟨_, rfl, z9⟩
        · rw [decide_eq_false hv]
          exact iteF ⟨_, rfl, z5.mono (by omega)⟩
      · obtain ⟨x4, rfl, z⟩ := z
        exact ⟨_, _, rfl, by rw [Nat.add_mul, Nat.one_mul]; exact z⟩
    · obtain ⟨x3, x4, rfl, z⟩ := z
      have hss : s * s ≤ 64 := by
        have h1 : s * s ≤ 8 * 8 := Nat.mul_le_mul (by omega) (by omega)
        omega
      rw [hs]
      exact ⟨_, rfl, _, rfl, (by show 4 ≤ sizeLine; decide), z.done bb nT0 hss ⟨by omega, by decide, by decide, .inr ⟨by omega, rfl, rfl⟩⟩ q⟩
end
end Seam

set_option Elab.async false
set_option linter.all false
set_option maxRecDepth 100000
set_option maxHeartbeats 4000000
namespace Seam
open PySem PySem.Spec PyProof.Rows L2 Nd
section
variable {P : Program} {w : World} {K : PySem.W.Frag} {mg : Str → Option Value} {base : Heap} {X : Cx}
theorem LRs.ne_dice {H : Hp} {l d c : Addr} {ws : List Rw} (h : LRs H l ws) (hd : DiceAt H d c) : l ≠ d := fun e => by
  obtain ⟨as, h1, _⟩ := h
  obtain ⟨cells, i, v, st, n, hd, _⟩ := hd
  subst e
  rw [h1] at hd
  injection hd with hd
  injection hd with hd
  match as, hd with
  | [], hd => cases hd
  | [_], hd => cases hd
  | _ :: _ :: _, hd =>
    rw [List.map_cons, List.map_cons] at hd
    injection hd with _ hd
    injection hd with hd _
    cases hd
theorem refs_inj : ∀ {as bs : List Addr}, as.map V.ref = bs.map V.ref → as = bs
  | [], [], _ => rfl
  | [], _ :: _, h => by simp at h
  | _ :: _, [], h => by simp at h
  | a :: as, b :: bs, h => by
    rw [List.map_cons, List.map_cons] at h
    injection h with h1 h2
    injection h1 with h1
    rw [h1, refs_inj h2]
theorem TbI.onto {d c T : Addr} {s a b : Nat} {H0 HL H' : Hp} {m n : Nat} (h0 : TbI P w d c T s a b H0 HL m) (h : TbI P w d c T s a b HL H' n) : TbI P w d c T s a b H0 H' n :=
  ⟨fun x o e n1 n2 => h.bu _ _ (h0.bu x o e n1 n2) n1 n2, h.di, h.tb⟩
/-- the walk starts anew -/
theorem TbI.anew {d c T : Addr} {s a b : Nat} {H0 HL : Hp} {m : Nat} (h0 : TbI P w d c T s a b H0 HL m) : TbI P w d c T s a b HL HL m := ⟨fun _ _ e _ _ => e, h0.di, h0.tb⟩
theorem TbI.lrs {d c T l : Addr} {s a b : Nat} {H0 HL H' : Hp} {m n : Nat} {ws : List Rw} (h0 : TbI P w d c T s a b H0 HL m) (h : TbI P w d c T s a b HL H' n) (hl : LRs HL l ws) : LRs H' l ws := by
  obtain ⟨kvs, h1, _⟩ := h0.tb
  have n1 := hl.ne_dice h0.di
  obtain ⟨as, g1, g2⟩ := hl
  refine ⟨as, h.bu _ _ g1 n1 ?_, g2.tk (h.tk h1 h0.di)⟩
  obtain ⟨_, hx, _⟩ := h1
  exact ne_of g1 hx (fun z => nomatch z)
theorem TbI.tk' {d c T : Addr} {s a b : Nat} {H0 HL H' : Hp} {m n : Nat} (h0 : TbI P w d c T s a b H0 HL m) (h : TbI P w d c T s a b HL H' n) : Tk HL H' := by
  obtain ⟨kvs, h1, _⟩ := h0.tb
  exact h.tk h1 h0.di
theorem atI_eight {v : Int} (h0 : 0 ≤ v) (h1 : v < 8) : ∃ m : Nat, 1 ≤ m ∧ m ≤ 4 ∧ atI [V.int 1, V.int 2, V.int 2, V.int 3, V.int 1, V.int 2, V.int 3, V.int 4] v = some (V.int (m : Int)) := by
  rcases (by omega : v = 0 ∨ v = 1 ∨ v = 2 ∨ v = 3 ∨ v = 4 ∨ v = 5 ∨ v = 6 ∨ v = 7) with e | e | e | e | e | e | e | e <;> subst e
  · exact ⟨1, by decide, by decide, rfl⟩
  · exact ⟨2, by decide, by decide, rfl⟩
  · exact ⟨2, by decide, by decide, rfl⟩
  · exact ⟨3, by decide, by decide, rfl⟩
  · exact ⟨1, by decide, by decide, rfl⟩
  · exact ⟨2, by decide, by decide, rfl⟩
  · exact ⟨3, by decide, by decide, rfl⟩
  · exact ⟨4, by decide, by decide, rfl⟩
abbrev N_lbook : List Str := ["_law_dice_here", "_law_sounds", "_law_sides", "_law_ahead", "_law_behind", "_law_table_here", "_law_left", "_law_right", "_law_k"]
theorem sc_lbook : FnScope N_lbook ["_law_dice_here"] (defScope s_law_book) := ⟨rfl, rfl, rfl, by decide +kernel, rfl, by decide +kernel, by decide +kernel⟩
/-- the entries of all short rows -/
def tBk1 (P : Program) (w : World) : TS := fun D σ H => ∃ (d c sd T : Addr) (s a b : Nat) (H0 : Hp), σ = [some (.ref d), some (.int s), some (.ref sd), some (.int a), some (.int b), some (.ref T), none, none, none] ∧ 1 ≤ s ∧ s ≤ 3 ∧ 1 ≤ a ∧ a ≤ 4 ∧ 1 ≤ b ∧ b ≤ 4 ∧ TbI P w d c T s a b H0 H 0 ∧
  ∀ H' x6 x7, TbI P w d c T s a b H0 H' 36 → D.nx [some (.ref d), some (.int s), some (.ref sd), some (.int a), some (.int b), some (.ref T), x6, x7, none] H'
theorem ok_lbook {f : Addr} {fd : FuncData} (F : FnP K "_law_book" "_law_book" s_law_book f fd) (cd : CDraw P w K mg base) (cg : Cal P w K mg base CX0 2 "_law_great_book" ["_law_dice_here"] (spLBook P w))
    (cr : Cal P w K mg base CX0 1 "_law_rows" ["_law_sounds", "_law_most"] spRows) (cl : Cal P w K mg base CX0 2 "_law_like" ps_like spLike) (cs : Cal P w K mg base CX0 2 "_law_side" ps_side (spNewRow lenUp)) (mr : mg "range" = none) : FnOk P w K mg base CX0 3 f fd ["_law_dice_here"] (spLBook P w) := by
  obtain ⟨f1, fd1, G, g, kp, bn⟩ := cd.ex
  obtain ⟨f2, fd2, Gg, gg, kpg, bng⟩ := cg.ex
  obtain ⟨f3, fd3, Gr, gr, kpr, bnr⟩ := cr.ex
  obtain ⟨f4, fd4, Gl', gl, kpl, bnl⟩ := cl.ex
  obtain ⟨f5, fd5, Gs, gs, kps, bns⟩ := cs.ex
  refine F.fn.ok sc_lbook (fun vs H Q E h => ?_) (fun cdv A outer s H vs Q E hr h => ?_)
  · obtain ⟨d, c, rfl, _⟩ := h
    rfl
  · obtain ⟨d, c, rfl, hd, q⟩ := h
    have hu : (A.deeper (envOfC "_law_book" (defScope s_law_book) _ f cdv)).units + 64 < cLine := hr.units
    have hr1 := hr.mono (j := 1) (by decide)
    refine ⟨_, pss_cons (ps_if (pt_cmpR op_eq (pe_call G hr1 (by rfl) g kp bn .nil pass0 (pa_cons (pv 0) (pa_cons pe_int pa_nil))) pe_int (nomark _)) (pss_one (ps_ret (pe_call Gg hr (by rfl) gg kpg bng .nil pass0 (pa_cons (pv 0) pa_nil)))) pss_nil)
      (pss_cons (ps_set (i := 1) sc_lbook.nd rfl (Or.inl rfl) (pe_op op_add pe_int (pe_call G hr1 (by rfl) g kp bn .nil pass0 (pa_cons (pv 0) (pa_cons pe_int pa_nil)))))
      (pss_cons (ps_set (i := 2) sc_lbook.nd rfl (Or.inl rfl) (pe_lst (pa_cons pe_int (pa_cons pe_int (pa_cons pe_int (pa_cons pe_int (pa_cons pe_int (pa_cons pe_int (pa_cons pe_int (pa_cons pe_int pa_nil))))))))))
      (pss_cons (ps_set (i := 3) sc_lbook.nd rfl (Or.inl rfl) (pe_ix ix_list (pv 2) (pe_call G hr1 (by rfl) g kp bn .nil pass0 (pa_cons (pv 0) (pa_cons pe_int pa_nil))) (fun _ _ => rfl)))
      (pss_cons (ps_set (i := 4) sc_lbook.nd rfl (Or.inl rfl) (pe_ix ix_list (pv 2) (pe_call G hr1 (by rfl) g kp bn .nil pass0 (pa_cons (pv 0) (pa_cons pe_int pa_nil))) (fun _ _ => rfl)))
      (pss_cons (ps_set (i := 5) sc_lbook.nd rfl (Or.inl rfl) pe_newN)
      (pss_cons (ps_imp (t' := tBk1 P w) (ps_if (PW.pt (pw_and (pt_cmpR op_lt (pv 1) pe_int (nomark _)) (pw_and (pt_cmpR op_lt (pv 3) pe_int (nomark _)) (pw_and (pt_cmpR op_lt (pv 4) pe_int (nomark _)) (pw_and1 (pt_cmpR op_gt (pe_call G hr1 (by rfl) g kp bn .nil pass0 (pa_cons (pv 0) (pa_cons pe_int pa_nil))) pe_int (nomark _)))))))
          (pss_one (ps_for PassesOwn.never rfl (pi_list (pe_call Gr hr1 (by rfl) gr kpr bnr .nil pass0 (pa_cons (pv 1) (pa_cons (pv 3) pa_nil)))) (pg_name (i := 6) sc_lbook.nd rfl (Or.inl rfl))
            (pss_one (ps_for PassesOwn.never rfl (pi_list (pe_call Gr hr1 (by rfl) gr kpr bnr .nil pass0 (pa_cons (pv 1) (pa_cons (pv 4) pa_nil)))) (pg_name (i := 7) sc_lbook.nd rfl (Or.inl rfl))
              (pss_one (ps_asg (pe_tup (pa_cons (pe_call Gl' hr (by rfl) gl kpl bnl .nil pass0 (pa_cons (pv 0) (pa_cons (pv 1) (pa_cons (pv 6) pa_nil)))) (pa_cons (pe_call Gl' hr (by rfl) gl kpl bnl .nil pass0 (pa_cons (pv 0) (pa_cons (pv 1) (pa_cons (pv 7) pa_nil)))) pa_nil)))
                (pg_sub (pv 5) (pe_tup (pa_cons (pv 6) (pa_cons (pv 7) pa_nil))) (set_nd hu)))))))) pss_nil) (fun D σ H hh => ?_))
      (pss_cons (ps_for PassesOwn.never rfl (pi_range1 rfl mr (pa_cons (pe_ix ix_list (pe_lst (pa_cons pe_int (pa_cons pe_int (pa_cons pe_int (pa_cons pe_int pa_nil))))) (pe_call G hr1 (by rfl) g kp bn .nil pass0 (pa_cons (pv 0) (pa_cons pe_int pa_nil))) (fun _ _ => rfl)) pa_nil)) (pg_name (i := 8) sc_lbook.nd rfl (Or.inl rfl))
          (pss_cons (ps_set (i := 6) sc_lbook.nd rfl (Or.inl rfl) (pe_call Gs hr (by rfl) gs kps bns .nil pass0 (pa_cons (pv 0) (pa_cons (pv 1) (pa_cons (pv 3) pa_nil)))))
          (pss_cons (ps_set (i := 7) sc_lbook.nd rfl (Or.inl rfl) (pe_call Gs hr (by rfl) gs kps bns .nil pass0 (pa_cons (pv 0) (pa_cons (pv 1) (pa_cons (pv 4) pa_nil)))))
          (pss_one (ps_asg (pe_tup (pa_cons (pe_call Gl' hr (by rfl) gl kpl bnl .nil pass0 (pa_cons (pv 0) (pa_cons (pv 1) (pa_cons (pv 6) pa_nil)))) (pa_cons (pe_call Gl' hr (by rfl) gl kpl bnl .nil pass0 (pa_cons (pv 0) (pa_cons (pv 1) (pa_cons (pv 7) pa_nil)))) pa_nil)))
                (pg_sub (pv 5) (pe_tup (pa_cons (pv 6) (pa_cons (pv 7) pa_nil))) (set_nd hu)))))))
      (pss_one (ps_ret (pe_tup (pa_cons (pv 1) (pa_cons (pv 3) (pa_cons (pv 4) (pa_cons (pv 5) pa_nil)))))))))))))), ?_⟩
    · obtain ⟨d, c, sd, T, s, a, b, H0, rfl, s1, s3, a1, a4, b1, b4, z0, q⟩ := hh
      refine ⟨_, rfl, _, _, rfl, rfl, _, rfl, ?_⟩
      by_cases c1 : ¬ (s : Int) < 3
      · rw [decide_eq_false c1]
        exact iteF (iteF (q H none none (z0.mono (by decide))))
      rw [decide_eq_true (Decidable.not_not.mp c1)]
      refine iteT ⟨_, rfl, _, _, rfl, rfl, _, rfl, ?_⟩
      by_cases c2 : ¬ (a : Int) < 3
      · rw [decide_eq_false c2]
        exact iteF (iteF (q H none none (z0.mono (by decide))))
      rw [decide_eq_true (Decidable.not_not.mp c2)]
      refine iteT ⟨_, rfl, _, _, rfl, rfl, _, rfl, ?_⟩
      by_cases c3 : ¬ (b : Int) < 3
      · rw [decide_eq_false c3]
        exact iteF (iteF (q H none none (z0.mono (by decide))))
      rw [decide_eq_true (Decidable.not_not.mp c3)]
      refine iteT ⟨_, rfl, d, c, 3, rfl, by decide, by decide, z0.di, fun H1 v1 e1 e2 g1 d1 => ⟨_, _, rfl, rfl, _, rfl, ?_⟩⟩
      have z1 := z0.draw g1.but d1
      by_cases c4 : ¬ 0 < v1
      · rw [decide_eq_false c4]
        exact iteF (q H1 none none (z1.mono (by decide)))
      rw [decide_eq_true (Decidable.not_not.mp c4)]
      refine iteT ⟨_, rfl, _, rfl, s, a, rfl, s1, by omega, by omega, fun H2 l1 ws s2 hl1 ow lw => ?_⟩
      have z2 := z1.same s2
      obtain ⟨as, hla, hlr⟩ := id hl1
      have lena : ws.length = as.length := Paired.length hlr
      refine ⟨l1, rfl, ⟨_, SqL.of hla⟩, for_list (K := K) (a := l1) (xs := as.map V.ref) (fun i σ H' => ∃ x6 x7, σ = [some (.ref d), some (.int s), some (.ref sd), some (.int a), some (.int b), some (.ref T), x6, x7, none] ∧ TbI P w d c T s a b H2 H' (i * 6))
        ⟨none, none, rfl, by rw [Nat.zero_mul]; exact z2.anew⟩ (fun i σ H' _ z => ?_) (fun i y σ H3 hi z => ?_) (fun σ H3 z => ?_)⟩
      · obtain ⟨_, _, _, z⟩ := z
        obtain ⟨as', h1, h2⟩ := z2.lrs z hl1
        have e : as' = as := by
          obtain ⟨kvs, t1, _⟩ := z2.tb
          have n1 := hl1.ne_dice z2.di
          have := z.bu _ _ hla n1 (by obtain ⟨_, hx, _⟩ := t1; exact ne_of hla hx (fun z => nomatch z))
          rw [h1] at this
          injection this with this
          injection this with this
          exact refs_inj this
        rw [← e]
        exact SqL.of h1
      · obtain ⟨x6, x7, rfl, z⟩ := z
        have hi' : i < ws.length := by
          have h1 := (List.getElem?_eq_some_iff.mp hi).1
          rw [List.length_map] at h1
          omega
        obtain ⟨pl, hpl, hrl⟩ := paired_get hlr (List.getElem?_eq_getElem hi')
        rw [List.getElem?_map, hpl] at hi
        cases hi
        have hrl3 := hrl.tk (z2.tk' z)
        obtain ⟨o1, o2, o3⟩ := ow _ (List.getElem_mem hi')
        have okl : okR s a ws[i] := ⟨o1, o2, o3⟩
        refine ⟨_, rfl, _, rfl, s, b, rfl, s1, by omega, by omega, fun H4 l2 vs s4 hl2 ov lv => ?_⟩
        have z4 := z.same s4
        have z4' : TbI P w d c T s a b H2 H4 (i * 6) := z4
        have hrl4 := hrl3.tk s4.tk
        obtain ⟨bs, hlb, hlbr⟩ := id hl2
        have lenb : vs.length = bs.length := Paired.length hlbr
        refine ⟨l2, rfl, ⟨_, SqL.of hlb⟩, for_list (K := K) (a := l2) (xs := bs.map V.ref) (fun j σ H' => ∃ x7, σ = [some (.ref d), some (.int s), some (.ref sd), some (.int a), some (.int b), some (.ref T), some (.ref pl), x7, none] ∧ TbI P w d c T s a b H4 H' (i * 6 + j))
          ⟨x7, rfl, z4.anew⟩ (fun j σ H' _ z => ?_) (fun j y σ H5 hj z => ?_) (fun σ H5 z => ?_)⟩
        · obtain ⟨_, _, z⟩ := z
          obtain ⟨kvs, t1, _⟩ := z4.tb
          have n1 := hl2.ne_dice z4.di
          exact SqL.of (z.bu _ _ hlb n1 (by obtain ⟨_, hx, _⟩ := t1; exact ne_of hlb hx (fun z => nomatch z)))
        · obtain ⟨x7, rfl, z5⟩ := z
          have hj' : j < vs.length := by
            have h1 := (List.getElem?_eq_some_iff.mp hj).1
            rw [List.length_map] at h1
            omega
          obtain ⟨pr, hpr, hrr⟩ := paired_get hlbr (List.getElem?_eq_getElem hj')
          rw [List.getElem?_map, hpr] at hj
          cases hj
          have tk5 := z4.tk' z5
          have hrr5 := hrr.tk tk5
          have hrl5 := hrl4.tk tk5
          obtain ⟨o1', o2', o3'⟩ := ov _ (List.getElem_mem hj')
          have okr : okR s b vs[j] := ⟨o1', o2', o3'⟩
          refine ⟨_, rfl, _, rfl, _, rfl, d, c, pl, s, ws[i], rfl, by omega, by omega, z5.di, hrl5, by have := okl.2.1; omega, okl.2.2, fun Ha p1 r1 ba da hp1 in1 len1 => ?_⟩
          refine ⟨_, rfl, _, rfl, _, rfl, d, c, pr, s, vs[j], rfl, by omega, by omega, da, Ro.tk hrr5 (z5.di.tk ba), by have := okr.2.1; omega, okr.2.2, fun Hb p2 r2 bb db hp2 in2 len2 => ⟨(by show 2 ≤ sizeLine; decide), fun p3 hp3 => ?_⟩⟩
          have y3 := same_new (o := .tup [.ref p1, .ref p2]) hp3
          have q3 : Pr _ p3 (r1, r2) := ⟨p1, p2, upd_same, (Ro.tk hp1 (da.tk bb)).tk y3.tk, Ro.tk hp2 y3.tk⟩
          refine ⟨_, rfl, _, rfl, _, rfl, (by show 2 ≤ sizeLine; decide), fun p4 hp4 => ?_⟩
          have y4 := same_new (o := .tup [.ref pl, .ref pr]) hp4
          have tkz : Tk _ _ := (((z5.di.tk ba).trans (da.tk bb)).trans y3.tk).trans y4.tk
          have q4 : Pr _ p4 (ws[i], vs[j]) := ⟨pl, pr, upd_same, Ro.tk hrl5 tkz, Ro.tk hrr5 tkz⟩
          refine (((z5.draw ba da).draw bb db).same y3).same y4 |>.set q4 (q3.tk y4.tk) ⟨okl, okr⟩ ⟨⟨by rw [len1]; exact okl.1, by rw [len1]; exact okl.2.1, in1⟩, ⟨by rw [len2]; exact okr.1, by rw [len2]; exact okr.2.1, in2⟩⟩ len1 len2 (by omega) fun H9 z9 t9 => ?_
          exact ⟨_, rfl, z9⟩
        · obtain ⟨x7, rfl, z5⟩ := z
          rw [List.length_map, ← lenb] at z5
          exact ⟨_, _, rfl, (TbI.onto z4' z5).mono (by rw [Nat.add_mul]; omega)⟩
      · obtain ⟨x6, x7, rfl, z⟩ := z
        rw [List.length_map, ← lena] at z
        refine q H3 x6 x7 ((z2.onto z).mono ?_)
        have : ws.length * 6 ≤ 6 * 6 := Nat.mul_le_mul_right 6 lw
        omega
    · refine ⟨_, rfl, d, c, 10, rfl, by decide, by decide, hd, fun H1 v1 e1 e2 g1 d1 => ⟨rfl, _, rfl, ?_⟩⟩
      by_cases c1 : v1 = 0
      · subst c1
        rw [show decide (V.int 0 = V.int 0) = true from decide_eq_true rfl]
        exact iteT ⟨_, rfl, d, c, rfl, d1, fun H2 p s a b kvs g2 d2 hp hg => q H2 p s a b kvs (g1.but.trans g2) d2 hp hg⟩
      rw [show decide (V.int v1 = V.int 0) = false from decide_eq_false (fun z => c1 (V.int.inj z))]
      refine iteF ⟨_, rfl, d, c, 3, rfl, by decide, by decide, d1, fun H2 v2 e3 e4 g2 d2 => ⟨_, _, rfl, rfl, (by show 8 ≤ sizeLine; decide), fun sd hsd => ?_⟩⟩
      obtain ⟨s, hs⟩ : ∃ s : Nat, (1 : Int) + v2 = (s : Int) := ⟨(1 + v2).toNat, by omega⟩
      have y1 := same_new (o := .lst [V.int 1, V.int 2, V.int 2, V.int 3, V.int 1, V.int 2, V.int 3, V.int 4]) hsd
      have d3 := d2.same y1
      have n1 := (d2.ne hsd).1
      have hsd3 : upd H2 sd (.lst [V.int 1, V.int 2, V.int 2, V.int 3, V.int 1, V.int 2, V.int 3, V.int 4]) sd = some (.lst [V.int 1, V.int 2, V.int 2, V.int 3, V.int 1, V.int 2, V.int 3, V.int 4]) := upd_same
      have g3 : But d H (upd H2 sd (.lst [V.int 1, V.int 2, V.int 2, V.int 3, V.int 1, V.int 2, V.int 3, V.int 4])) := (g1.but.trans g2.but).trans (But.of_same y1)
      generalize upd H2 sd (.lst [V.int 1, V.int 2, V.int 2, V.int 3, V.int 1, V.int 2, V.int 3, V.int 4]) = H3 at *
      refine ⟨_, rfl, _, rfl, d, c, 8, rfl, by decide, by decide, d3, fun H4 v4 e5 e6 g4 d4 => ?_⟩
      have hsd4 := g4.but _ _ hsd3 n1
      obtain ⟨a, a1, a4, ha⟩ := atI_eight e5 e6
      refine ⟨sd, _, _, _, rfl, rfl, SqL.of hsd4, ha, ?_⟩
      refine ⟨_, rfl, _, rfl, d, c, 8, rfl, by decide, by decide, d4, fun H5 v5 e7 e8 g5 d5 => ?_⟩
      have hsd5 := g5.but _ _ hsd4 n1
      obtain ⟨b, b1, b4, hb⟩ := atI_eight e7 e8
      refine ⟨sd, _, _, _, rfl, rfl, SqL.of hsd5, hb, ?_⟩
      intro T H6 nT tT bT
      have s6 := bt_same nT bT
      have d6 := d5.same s6
      have g35 := (g3.trans g4.but).trans g5.but
      have nT0 : H T = none := by
        rcases e : H T with _ | o
        · rfl
        · have := g35 T o e (d5.ne nT).1
          rw [nT] at this
          cases this
      have bb0 : But d H H6 := g35.trans (But.of_same s6)
      have t0 : TbI P w d c T s a b H6 H6 0 := TbI.start d6 tT
      rw [show ((fun i j => V.int (i + j)) 1 v2) = V.int (s : Int) from congrArg V.int hs]
      refine ⟨d, c, sd, T, s, a, b, H6, rfl, by omega, by omega, a1, a4, b1, b4, t0, fun H7 x6 x7 z7 => ?_⟩
      refine ⟨(by show 4 ≤ sizeLine; decide), fun l hl => ?_⟩
      have z8 := z7.same (same_new (o := .lst [V.int 0, V.int 3, V.int 8, V.int 20]) hl)
      have hl8 : upd H7 l (.lst [V.int 0, V.int 3, V.int 8, V.int 20]) l = some (.lst [V.int 0, V.int 3, V.int 8, V.int 20]) := upd_same
      have nl := (z7.di.ne hl).1
      refine ⟨_, rfl, d, c, 4, rfl, by decide, by decide, z8.di, fun H9 v9 f1 f2 g9 d9 => ?_⟩
      have z9 := z8.draw g9.but d9
      obtain ⟨x, hx, hat⟩ := atI_four f1 f2 (rfl : [V.int 0, V.int 3, V.int 8, V.int 20] = _)
      refine ⟨l, _, _, _, rfl, rfl, SqL.of (g9.but _ _ hl8 nl), hat, ?_⟩
      obtain ⟨n, rfl⟩ : ∃ n : Nat, x = (n : Int) := ⟨x.toNat, by omega⟩
      refine ⟨n, rfl, by omega, by omega, for_range (lo := 0) (n := n) (fun i σ H' => ∃ x6 x7 x8, σ = [some (.ref d), some (.int s), some (.ref sd), some (.int a), some (.int b), some (.ref T), x6, x7, x8] ∧ TbI P w d c T s a b H6 H' (36 + i))
        ⟨x6, x7, none, rfl, z9⟩ (fun i σ HA hi z => ?_) (fun σ HA z => ?_)⟩
      · obtain ⟨x6, x7, x8, rfl, z⟩ := z
        refine ⟨_, rfl, _, rfl, _, rfl, d, c, s, a, rfl, by omega, by omega, a1, by omega, z.di, fun HB pl xl gB dB hpl inl lel => ?_⟩
        have zB := z.draw gB dB
        refine ⟨_, rfl, _, rfl, _, rfl, d, c, s, b, rfl, by omega, by omega, b1, by omega, dB, fun HC pr xr gC dC hpr inr ler => ?_⟩
        have zC := zB.draw gC dC
        have hpl' := Ro.tk hpl (dB.tk gC)
        have okl : okR s a xl := ⟨lel.1, lel.2, inl⟩
        have okr : okR s b xr := ⟨ler.1, ler.2, inr⟩
        refine ⟨_, rfl, _, rfl, _, rfl, d, c, pl, s, xl, rfl, by omega, by omega, zC.di, hpl', by have := okl.2.1; omega, okl.2.2, fun Ha p1 r1 ba da hp1 in1 len1 => ?_⟩
        refine ⟨_, rfl, _, rfl, _, rfl, d, c, pr, s, xr, rfl, by omega, by omega, da, Ro.tk hpr (zC.di.tk ba), by have := okr.2.1; omega, okr.2.2, fun Hb p2 r2 bb db hp2 in2 len2 => ⟨(by show 2 ≤ sizeLine; decide), fun p3 hp3 => ?_⟩⟩
        have y3 := same_new (o := .tup [.ref p1, .ref p2]) hp3
        have q3 : Pr _ p3 (r1, r2) := ⟨p1, p2, upd_same, (Ro.tk hp1 (da.tk bb)).tk y3.tk, Ro.tk hp2 y3.tk⟩
        refine ⟨_, rfl, _, rfl, _, rfl, (by show 2 ≤ sizeLine; decide), fun p4 hp4 => ?_⟩
        have y4 := same_new (o := .tup [.ref pl, .ref pr]) hp4
        have tkz : Tk _ _ := (((zC.di.tk ba).trans (da.tk bb)).trans y3.tk).trans y4.tk
        have q4 : Pr _ p4 (xl, xr) := ⟨pl, pr, upd_same, Ro.tk hpl' tkz, Ro.tk hpr tkz⟩
        refine (((zC.draw ba da).draw bb db).same y3).same y4 |>.set q4 (q3.tk y4.tk) ⟨okl, okr⟩ ⟨⟨by rw [len1]; exact okl.1, by rw [len1]; exact okl.2.1, in1⟩, ⟨by rw [len2]; exact okr.1, by rw [len2]; exact okr.2.1, in2⟩⟩ len1 len2 (by omega) fun H9 z9 t9 => ?_
        exact ⟨_, _, _, rfl, z9⟩
      · obtain ⟨x6, x7, x8, rfl, z⟩ := z
        exact ⟨_, rfl, _, rfl, _, rfl, _, rfl, (by show 4 ≤ sizeLine; decide), z.done bb0 nT0 (by omega) ⟨by omega, a1, b1, .inl ⟨by omega, a4, b4⟩⟩ q⟩
end
end Seam

set_option Elab.async false
set_option linter.all false
set_option maxRecDepth 100000
set_option maxHeartbeats 4000000
namespace Seam
open PySem PySem.Spec PyProof.Rows L2 Nd
section
variable {P : Program} {w : World} {K : PySem.W.Frag} {mg : Str → Option Value} {base : Heap} {X : Cx}
theorem LB.dice {H H' : Hp} {p d c : Addr} {s a b : Nat} {kvs : List (K2 × K2)} (h : LB P w H p s a b kvs) (hd : DiceAt H d c) (e : But d H H') : LB P w H' p s a b kvs :=
  let ⟨t, h1, h2⟩ := h
  ⟨t, hd.tk e _ _ h1, TM.dice h2 hd e⟩
theorem TbI.but {d c T : Addr} {s a b n : Nat} {H H' : Hp} (h : TbI P w d c T s a b H H' n) (nT : H T = none) : But d H H' := fun x o e n1 => h.bu x o e n1 (ne_of_none e nT)
theorem TbI.start2 {d c T : Addr} {s a b : Nat} {H H1 : Hp} (g : But d H H1) (hd : DiceAt H1 d c) (t : TM P w H1 T []) : TbI P w d c T s a b H H1 0 := ⟨fun _ _ e n1 _ => g _ _ e n1, hd, [], t, List.nodup_nil, (fun _ h => by cases h), Nat.le_refl _⟩
theorem TbI.done2 {d c T : Addr} {s a b n : Nat} {H H2 : Hp} (h : TbI P w d c T s a b H H2 n) (nT : H T = none) (hn : n ≤ 64) (hs : okS s a b) {Q : V → Hp → Prop}
    (q : ∀ H' p kvs, But d H H' → DiceAt H' d c → LB P w H' p s a b kvs → GoodB s a b kvs → Q (.ref p) H') : ∀ p, H2 p = none → Q (.ref p) (L2.upd H2 p (.tup [.int s, .int a, .int b, .ref T])) := fun p hp => by
  obtain ⟨kvs, h1, h2, h3, h4⟩ := h.tb
  have sp : Same H2 (L2.upd H2 p (.tup [.int s, .int a, .int b, .ref T])) := same_new hp
  exact q _ p kvs ((h.but nT).same sp) (h.di.same sp) ⟨T, upd_same, h1.tk sp.tk fun o => sp _ o⟩ ⟨hs, h3, h2, by omega⟩
theorem cutRefs (as : List Addr) (k : Nat) : cutV (as.map V.ref) none (some (k : Int)) = (as.take k).map V.ref := by
  unfold cutV
  rw [HT.sIx_nat, HT.sIx_none, List.drop_zero, Nat.sub_zero, List.length_map, List.map_take]
  by_cases h : k ≤ as.length
  · rw [Nat.min_eq_left h]
  · rw [Nat.min_eq_right (by omega), List.take_of_length_le (by rw [List.length_map]; exact Nat.le_refl _), List.take_of_length_le (by rw [List.length_map]; omega)]
theorem ks_prs {H : Hp} {ks : List (K2 × K2)} {as : List Addr} (r : Ks H ks as) : Prs H (ks.map (·.1)) as := by
  induction r with
  | nil => exact .nil
  | cons z _ ih => exact .cons z ih
theorem dget_mem {kvs : List (K2 × K2)} {k : K2} (h : k ∈ kvs.map (·.1)) : ∃ z, dget kvs k = some z ∧ (k, z) ∈ kvs := by
  induction kvs with
  | nil => cases h
  | cons p r ih =>
    unfold dget
    rw [List.find?_cons]
    by_cases e : p.1 = k
    · rw [decide_eq_true e]
      exact ⟨p.2, rfl, List.mem_cons.mpr (.inl (by rw [← e]))⟩
    · rw [decide_eq_false e]
      rw [List.map_cons] at h
      rcases List.mem_cons.mp h with h | h
      · exact (e h.symm).elim
      · obtain ⟨z, h1, h2⟩ := ih h
        exact ⟨z, h1, List.mem_cons.mpr (.inr h2)⟩
def spLSecond (P : Program) (w : World) : Sp := fun vs H Q _ => ∃ (d c p : Addr) (s a b : Nat) (ks : List (K2 × K2)), vs = [.ref d, .ref p] ∧ DiceAt H d c ∧ LB P w H p s a b ks ∧ GoodB s a b ks ∧ ∀ H' q ls, But d H H' → DiceAt H' d c → LB P w H' q s a b ls → GoodB s a b ls → Q (.ref q) H'
abbrev N_second : List Str := ["_law_dice_here", "_law_book_here", "_law_table_here", "_law_k", "_law_left", "_law_right", "_law_key"]
theorem sc_second : FnScope N_second ["_law_dice_here", "_law_book_here"] (defScope s_law_second) := ⟨rfl, rfl, rfl, by decide +kernel, rfl, by decide +kernel, by decide +kernel⟩
theorem okS_le {s a b : Nat} (h : okS s a b) : 1 ≤ s ∧ s ≤ 8 ∧ 1 ≤ a ∧ a ≤ 4 ∧ 1 ≤ b ∧ b ≤ 4 := by
  obtain ⟨h1, h2, h3, ⟨h4, h5, h6⟩ | ⟨h4, h5, h6⟩⟩ := h <;> omega
theorem ok_second {f : Addr} {fd : FuncData} (F : FnP K "_law_second" "_law_second" s_law_second f fd) (cd : CDraw P w K mg base)
    (cl : Cal P w K mg base CX0 2 "_law_like" ps_like spLike) (cs : Cal P w K mg base CX0 2 "_law_side" ps_side (spNewRow lenUp)) (mr : mg "range" = none) (mso : mg "sorted" = none) (mli : mg "list" = none) : FnOk P w K mg base CX0 3 f fd ["_law_dice_here", "_law_book_here"] (spLSecond P w) := by
  obtain ⟨f1, fd1, G, g, kp, bn⟩ := cd.ex
  obtain ⟨f4, fd4, Gl', gl, kpl, bnl⟩ := cl.ex
  obtain ⟨f5, fd5, Gs, gs, kps, bns⟩ := cs.ex
  refine F.fn.ok sc_second (fun vs H Q E h => ?_) (fun cdv A outer s H vs Q E hr h => ?_)
  · obtain ⟨d, c, p, s, a, b, ks, rfl, _⟩ := h
    rfl
  · obtain ⟨d, c, p, s, a, b, ks, rfl, hd, hb, hg, q⟩ := h
    have hu : (A.deeper (envOfC "_law_second" (defScope s_law_second) _ f cdv)).units + 64 < cLine := hr.units
    have hr1 := hr.mono (j := 1) (by decide)
    obtain ⟨s1, s8, a1, a4, b1, b4⟩ := okS_le hg.1
    refine ⟨_, pss_cons (ps_set (i := 2) sc_second.nd rfl (Or.inl rfl) pe_newN)
      (pss_cons (ps_for PassesOwn.never rfl (pi_range1 rfl mr (pa_cons (pe_call G hr1 (by rfl) g kp bn .nil pass0 (pa_cons (pv 0) (pa_cons pe_int pa_nil))) pa_nil)) (pg_name (i := 3) sc_second.nd rfl (Or.inl rfl))
          (pss_cons (ps_set (i := 4) sc_second.nd rfl (Or.inl rfl) (pe_call Gs hr (by rfl) gs kps bns .nil pass0 (pa_cons (pv 0) (pa_cons (pe_ix ix_tup (pv 1) pe_int (fun _ _ => rfl)) (pa_cons (pe_ix ix_tup (pv 1) pe_int (fun _ _ => rfl)) pa_nil)))))
          (pss_cons (ps_set (i := 5) sc_second.nd rfl (Or.inl rfl) (pe_call Gs hr (by rfl) gs kps bns .nil pass0 (pa_cons (pv 0) (pa_cons (pe_ix ix_tup (pv 1) pe_int (fun _ _ => rfl)) (pa_cons (pe_ix ix_tup (pv 1) pe_int (fun _ _ => rfl)) pa_nil)))))
          (pss_one (ps_asg (pe_tup (pa_cons (pe_call Gl' hr (by rfl) gl kpl bnl .nil pass0 (pa_cons (pv 0) (pa_cons (pe_ix ix_tup (pv 1) pe_int (fun _ _ => rfl)) (pa_cons (pv 4) pa_nil)))) (pa_cons (pe_call Gl' hr (by rfl) gl kpl bnl .nil pass0 (pa_cons (pv 0) (pa_cons (pe_ix ix_tup (pv 1) pe_int (fun _ _ => rfl)) (pa_cons (pv 5) pa_nil)))) pa_nil))) (pg_sub (pv 2) (pe_tup (pa_cons (pv 4) (pa_cons (pv 5) pa_nil))) (set_nd hu)))))))
      (pss_cons (ps_for PassesOwn.never rfl (pi_list (pe_slice sl_list (pe_callB (call_sortN hu) (by rfl) mso (by decide +kernel) (pa_cons (pe_callTy (call_listN rfl) (by rfl) mli (by decide +kernel) (pa_cons (pe_ix ix_tup (pv 1) pe_int (fun _ _ => rfl)) pa_nil)) pa_nil)) po_none (po_some (pe_call G hr1 (by rfl) g kp bn .nil pass0 (pa_cons (pv 0) (pa_cons pe_int pa_nil))))))
          (pg_name (i := 6) sc_second.nd rfl (Or.inl rfl))
          (pss_cons (ps_asg (pe_ix (ix_nd hu) (pe_ix ix_tup (pv 1) pe_int (fun _ _ => rfl)) (pv 6) (fun _ _ => rfl)) (pg_tup rfl (pgs_cons (pg_name (i := 4) sc_second.nd rfl (Or.inl rfl)) (pgs_cons (pg_name (i := 5) sc_second.nd rfl (Or.inl rfl)) pgs_nil))))
          (pss_one (ps_asg (pe_tup (pa_cons (pe_call Gl' hr (by rfl) gl kpl bnl .nil pass0 (pa_cons (pv 0) (pa_cons (pe_ix ix_tup (pv 1) pe_int (fun _ _ => rfl)) (pa_cons (pv 4) pa_nil)))) (pa_cons (pe_call Gl' hr (by rfl) gl kpl bnl .nil pass0 (pa_cons (pv 0) (pa_cons (pe_ix ix_tup (pv 1) pe_int (fun _ _ => rfl)) (pa_cons (pv 5) pa_nil)))) pa_nil))) (pg_sub (pv 2) (pe_tup (pa_cons (pv 4) (pa_cons (pv 5) pa_nil))) (set_nd hu))))))
      (pss_one (ps_ret (pe_tup (pa_cons (pe_ix ix_tup (pv 1) pe_int (fun _ _ => rfl)) (pa_cons (pe_ix ix_tup (pv 1) pe_int (fun _ _ => rfl)) (pa_cons (pe_ix ix_tup (pv 1) pe_int (fun _ _ => rfl)) (pa_cons (pv 2) pa_nil))))))))), ?_⟩
    intro T H1 nT tT bT
    have y1 := bt_same nT bT
    have d1 := hd.same y1
    have t0 : TbI P w d c T s a b H H1 0 := TbI.start2 (But.of_same y1) d1 tT
    refine ⟨_, rfl, d, c, 12, rfl, by decide, by decide, d1, fun H2 v2 e1 e2 g2 d2 => ?_⟩
    have t2 := t0.draw g2.but d2
    obtain ⟨n, rfl⟩ : ∃ n : Nat, v2 = (n : Int) := ⟨v2.toNat, by omega⟩
    refine ⟨n, rfl, by omega, by omega, for_range (lo := 0) (n := n) (fun i σ H' => ∃ x3 x4 x5, σ = [some (.ref d), some (.ref p), some (.ref T), x3, x4, x5, none] ∧ TbI P w d c T s a b H H' i)
        ⟨none, none, none, rfl, t2⟩ (fun i σ HA hi z => ?_) (fun σ HA z => ?_)⟩
    · obtain ⟨x3, x4, x5, rfl, z⟩ := z
      have kA := LB.dice hb hd (z.but nT)
      refine ⟨_, rfl, _, rfl, p, _, _, _, rfl, rfl, SqT.of kA.choose_spec.1, atI_nat (j := 0) rfl, _, rfl, p, _, _, _, rfl, rfl, SqT.of kA.choose_spec.1, atI_nat (j := 1) rfl, d, c, s, a, rfl, by omega, by omega, a1, by omega, z.di, fun HB pl xl gB dB hpl inl lel => ?_⟩
      have zB := z.draw gB dB
      have kB := LB.dice hb hd (zB.but nT)
      refine ⟨_, rfl, _, rfl, p, _, _, _, rfl, rfl, SqT.of kB.choose_spec.1, atI_nat (j := 0) rfl, _, rfl, p, _, _, _, rfl, rfl, SqT.of kB.choose_spec.1, atI_nat (j := 2) rfl, d, c, s, b, rfl, by omega, by omega, b1, by omega, dB, fun HC pr xr gC dC hpr inr ler => ?_⟩
      have zC := zB.draw gC dC
      have kC := LB.dice hb hd (zC.but nT)
      have hpl' := Ro.tk hpl (dB.tk gC)
      have okl : okR s a xl := ⟨lel.1, lel.2, inl⟩
      have okr : okR s b xr := ⟨ler.1, ler.2, inr⟩
      refine ⟨_, rfl, _, rfl, p, _, _, _, rfl, rfl, SqT.of kC.choose_spec.1, atI_nat (j := 0) rfl, _, rfl, d, c, pl, s, xl, rfl, by omega, by omega, zC.di, hpl', by have := okl.2.1; omega, okl.2.2, fun Ha p1 r1 ba da hp1 in1 len1 => ?_⟩
      have bkA := LB.dice kC zC.di ba
      refine ⟨_, rfl, _, rfl, p, _, _, _, rfl, rfl, SqT.of bkA.choose_spec.1, atI_nat (j := 0) rfl, _, rfl, d, c, pr, s, xr, rfl, by omega, by omega, da, Ro.tk hpr (zC.di.tk ba), by have := okr.2.1; omega, okr.2.2, fun Hb p2 r2 bb db hp2 in2 len2 => ⟨(by show 2 ≤ sizeLine; decide), fun p3 hp3 => ?_⟩⟩
      have y3 := same_new (o := .tup [.ref p1, .ref p2]) hp3
      have q3 : Pr _ p3 (r1, r2) := ⟨p1, p2, upd_same, (Ro.tk hp1 (da.tk bb)).tk y3.tk, Ro.tk hp2 y3.tk⟩
      refine ⟨_, rfl, _, rfl, _, rfl, (by show 2 ≤ sizeLine; decide), fun p4 hp4 => ?_⟩
      have y4 := same_new (o := .tup [.ref pl, .ref pr]) hp4
      have tkz : Tk _ _ := (((zC.di.tk ba).trans (da.tk bb)).trans y3.tk).trans y4.tk
      have q4 : Pr _ p4 (xl, xr) := ⟨pl, pr, upd_same, Ro.tk hpl' tkz, Ro.tk hpr tkz⟩
      refine (((zC.draw ba da).draw bb db).same y3).same y4 |>.set q4 (q3.tk y4.tk) ⟨okl, okr⟩ ⟨⟨by rw [len1]; exact okl.1, by rw [len1]; exact okl.2.1, in1⟩, ⟨by rw [len2]; exact okr.1, by rw [len2]; exact okr.2.1, in2⟩⟩ len1 len2 (by omega) fun H9 z9 t9 => ?_
      exact ⟨_, _, _, rfl, z9⟩
    · obtain ⟨x3, x4, x5, rfl, z⟩ := z
      obtain ⟨t, ht, htm⟩ := LB.dice hb hd (z.but nT)
      refine ⟨_, rfl, p, _, _, _, rfl, rfl, SqT.of ht, atI_nat (j := 3) rfl, t, ks, rfl, htm.td, fun l1 as nl1 rk1 => ?_⟩
      have y2 := same_new (o := .lst (as.map V.ref)) nl1
      refine ⟨l1, _, as, rfl, upd_same, (ks_prs rk1) |> fun r => Paired.mapP r fun _ _ z => z.tk y2.tk, fun l2 ks2 as2 nl2 perm prs => ?_⟩
      have y3 := same_new (o := .lst (as2.map V.ref)) nl2
      have z3 := (z.same y2).same y3
      have nd2 := (z3.di)
      have nl2' : l2 ≠ d := ((z.same y2).di.ne nl2).1
      have hl2 : upd (upd HA l1 (.lst (as.map V.ref))) l2 (.lst (as2.map V.ref)) l2 = some (.lst (as2.map V.ref)) := upd_same
      have prs3 := Paired.mapP prs fun _ _ z => Pr.tk z y3.tk
      refine ⟨_, rfl, d, c, 8, rfl, by decide, by decide, z3.di, fun HB vB f1 f2 gB dB => ?_⟩
      have zB := z3.draw gB.but dB
      have prsB := Paired.mapP prs3 fun _ _ z => Pr.tk z (z3.di.tk gB.but)
      obtain ⟨m, rfl⟩ : ∃ m : Nat, vB = (m : Int) := ⟨vB.toNat, by omega⟩
      refine ⟨_, rfl, l2, _, rfl, SqL.of (gB.but _ _ hl2 nl2'), fun l3 nl3 => ?_⟩
      rw [cutRefs]
      have y4 := same_new (o := .lst ((as2.take m).map V.ref)) nl3
      have hl3 : upd HB l3 (.lst ((as2.take m).map V.ref)) l3 = some (.lst ((as2.take m).map V.ref)) := upd_same
      have zC := zB.same y4
      have nl3' := (zB.di.ne nl3).1
      have prsC := Paired.mapP prsB fun _ _ z => Pr.tk z y4.tk
      generalize upd HB l3 (.lst ((as2.take m).map V.ref)) = HC at *
      have nl3T : l3 ≠ T := by
        obtain ⟨kvs, ⟨_, hx, _⟩, _⟩ := zC.tb
        exact ne_of hl3 hx (fun z => nomatch z)
      refine ⟨l3, rfl, ⟨_, SqL.of hl3⟩, for_list (K := K) (a := l3) (xs := (as2.take m).map V.ref) (fun i σ H' => ∃ x3 x4 x5 x6, σ = [some (.ref d), some (.ref p), some (.ref T), x3, x4, x5, x6] ∧ TbI P w d c T s a b HC H' (n + i))
        ⟨x3, x4, x5, none, rfl, zC.anew⟩ (fun i σ H' _ z => ?_) (fun i y σ H' hi z' => ?_) (fun σ H' z' => ?_)⟩
      · obtain ⟨_, _, _, _, _, z⟩ := z
        exact SqL.of (z.bu _ _ hl3 nl3' nl3T)
      · obtain ⟨x3, x4, x5, x6, rfl, z'⟩ := z'
        have hi1 : i < (as2.take m).length := by
          have h1 := (List.getElem?_eq_some_iff.mp hi).1
          rw [List.length_map] at h1
          exact h1
        have hi2 : i < as2.length := by
          rw [List.length_take] at hi1
          omega
        have lks : ks2.length = as2.length := Paired.length prsC
        obtain ⟨ak, hak, hrk⟩ := paired_get prsC (List.getElem?_eq_getElem (show i < ks2.length by omega))
        have eak : (as2.take m)[i]? = some ak := by
          rw [List.length_take] at hi1
          rw [List.getElem?_take_of_lt (by omega)]
          exact hak
        rw [List.getElem?_map, eak] at hi
        cases hi
        have zz := zC.onto z'
        have hrk' := Pr.tk hrk (zC.tk' z')
        have kk := LB.dice hb hd (zz.but nT)
        obtain ⟨t', ht', htm'⟩ := id kk
        have hm : ks2[i]'(by omega) ∈ ks.map (·.1) := perm.mem_iff.mp (List.getElem_mem _)
        obtain ⟨zv, hz1, hz2⟩ := dget_mem hm
        obtain ⟨k1, k2, k3, k4⟩ := hg.2.1 _ hz2
        refine ⟨_, rfl, p, _, _, _, rfl, rfl, SqT.of ht', atI_nat (j := 3) rfl, _, rfl, t', ak, ks, _, zv, rfl, rfl, htm'.td, hrk', hz1, fun qz hqz => ?_⟩
        obtain ⟨pl, pr, w0, w1, w2⟩ := hqz
        refine ⟨qz, _, rfl, SqT.of w0, rfl, _, _, rfl, _, _, rfl, rfl, ?_⟩
        have okl : okR s a zv.1 := k2.1
        have okr : okR s b zv.2 := k2.2
        have himi : i < 8 := by
          rw [List.length_take] at hi1
          omega
        refine ⟨_, rfl, _, rfl, p, _, _, _, rfl, rfl, SqT.of kk.choose_spec.1, atI_nat (j := 0) rfl, _, rfl, d, c, pl, s, zv.1, rfl, by omega, by omega, z'.di, w1, by have := okl.2.1; omega, okl.2.2, fun Ha p1 r1 ba da hp1 in1 len1 => ?_⟩
        have bkA := LB.dice kk z'.di ba
        refine ⟨_, rfl, _, rfl, p, _, _, _, rfl, rfl, SqT.of bkA.choose_spec.1, atI_nat (j := 0) rfl, _, rfl, d, c, pr, s, zv.2, rfl, by omega, by omega, da, Ro.tk w2 (z'.di.tk ba), by have := okr.2.1; omega, okr.2.2, fun Hb p2 r2 bb db hp2 in2 len2 => ⟨(by show 2 ≤ sizeLine; decide), fun p3 hp3 => ?_⟩⟩
        have y3 := same_new (o := .tup [.ref p1, .ref p2]) hp3
        have q3 : Pr _ p3 (r1, r2) := ⟨p1, p2, upd_same, (Ro.tk hp1 (da.tk bb)).tk y3.tk, Ro.tk hp2 y3.tk⟩
        refine ⟨_, rfl, _, rfl, _, rfl, (by show 2 ≤ sizeLine; decide), fun p4 hp4 => ?_⟩
        have y4 := same_new (o := .tup [.ref pl, .ref pr]) hp4
        have tkz : Tk _ _ := (((z'.di.tk ba).trans (da.tk bb)).trans y3.tk).trans y4.tk
        have q4 : Pr _ p4 (zv.1, zv.2) := ⟨pl, pr, upd_same, Ro.tk w1 tkz, Ro.tk w2 tkz⟩
        refine (((z'.draw ba da).draw bb db).same y3).same y4 |>.set q4 (q3.tk y4.tk) ⟨okl, okr⟩ ⟨⟨by rw [len1]; exact okl.1, by rw [len1]; exact okl.2.1, in1⟩, ⟨by rw [len2]; exact okr.1, by rw [len2]; exact okr.2.1, in2⟩⟩ len1 len2 (by omega) fun H9 z9 t9 => ?_
        exact ⟨_, _, _, _, rfl, z9⟩
      · obtain ⟨x3, x4, x5, x6, rfl, z'⟩ := z'
        rw [List.length_map, List.length_take] at z'
        have zz := zC.onto z'
        have kk := LB.dice hb hd (zz.but nT)
        refine ⟨_, rfl, p, _, _, _, rfl, rfl, SqT.of kk.choose_spec.1, atI_nat (j := 0) rfl, _, rfl, p, _, _, _, rfl, rfl, SqT.of kk.choose_spec.1, atI_nat (j := 1) rfl, _, rfl, p, _, _, _, rfl, rfl, SqT.of kk.choose_spec.1, atI_nat (j := 2) rfl, _, rfl, (by show 4 ≤ sizeLine; decide), zz.done2 nT (by omega) hg.1 q⟩
end
end Seam

set_option Elab.async false
set_option linter.all false
set_option maxRecDepth 100000
set_option maxHeartbeats 4000000
/-! zip(range, tuple) -/
namespace Rz
open PySem PySem.Spec PyProof.Rows L2
section
variable {prog : Program} {w : World} {A : Around} {E : Value → Shared → Prop} {s : Shared}
theorem rng_item {j : Addr} {x left step : Int} {Q : Value → Shared → Prop} (h0 : IsRangeIter s.heap j x left step) (hl : 0 < left)
    (q : ∀ h', IsRangeIter h' j (x + step) (left - 1) step → Heap.SameBut j s.heap h' → Q (.int x s.toks) { s with heap := h', toks := s.toks + 1 }) : wpAny (model prog w) A (Builtin.SmallTypes.nextOf (.ref j)) Q E s := by
  have ty : s.TypeIs (.ref j) "range_iterator" := ⟨_, h0, rfl⟩
  unfold Builtin.SmallTypes.nextOf
  exact wpAny_bind (wpAny_callSpecial?_slot (name := Str.ofString "__next__") ty F.slot_range_iterator_next (call_meets F.slot_range_iterator_next ty F.entry_range_iterator_next (F.args_range_iterator_next_1 _)
    (AutoRange.range_iterator___next___range_iterator_1 j x left step (by omega)) ⟨h0, wpAny_pure (q _ (Heap.get?_update_self _ (Heap.get?_update_self _ h0 rfl) rfl) ((Heap.SameBut.update ..).trans (Heap.SameBut.update ..)))⟩))
theorem rng_end {j : Addr} {x left step : Int} {Q : Value → Shared → Prop} (hh : A.handled = none) (h0 : IsRangeIter s.heap j x left step) (hl : left ≤ 0)
    (q : ∀ h' e, Heap.ExtBut j s.heap h' → (∃ o, h'.get? e = some o ∧ o.cls = .type "StopIteration") → E (.ref e) { s with heap := h' }) : wpAny (model prog w) A (Builtin.SmallTypes.nextOf (.ref j)) Q E s := by
  have ty : s.TypeIs (.ref j) "range_iterator" := ⟨_, h0, rfl⟩
  unfold Builtin.SmallTypes.nextOf
  refine wpAny_bind (wpAny_callSpecial?_slot (name := Str.ofString "__next__") ty F.slot_range_iterator_next (wpAny_call_entry F.slot_range_iterator_next ty F.entry_range_iterator_next ?_ (F.args_range_iterator_next_1 _)))
  show wpAny _ _ (field (.ref j) 0 >>= _) _ _ s
  refine wpAny_bind (wpAny_field h0 rfl (x := rawInt x) rfl ?_)
  show wpAny _ _ (field (.ref j) 1 >>= _) _ _ s
  refine wpAny_bind (wpAny_field h0 rfl (x := rawInt left) rfl ?_)
  show wpAny _ _ (field (.ref j) 2 >>= _) _ _ s
  refine wpAny_bind (wpAny_field h0 rfl (x := rawInt step) rfl ?_)
  show wpAny _ _ (if left ≤ 0 then _ else _) _ _ s
  rw [if_pos hl]
  refine wpAny_bind (wpAny_rule (wpAny_bind ?_))
  show wpAny _ _ (newExc (.type "StopIteration") [] >>= _) _ _ _
  refine wpAny_bind ?_
  simp only [newExc, newTuple]
  refine wpAny_bind (wpAny_newObj_type (wpAny_bind (m := firstArgMember _ _) (wpAny_of_eq (a := Value.none) (by first | rfl | (simp only [firstArgMember]; rfl)) (wpAny_newObj_type ?_ (by size_fits)))) (by size_fits))
  simp only [raiseNew]
  refine wpAny_bind (wpAny_handled ?_)
  first | rw [show A.in1.handled = none from hh] | rw [hh]
  exact wpAny_bind (wpAny_pure (wpAny_throw (q _ _ (((Heap.ExtBut.refl j s.heap).push _).push _) ⟨_, Heap.get?_push_size _ rfl, rfl⟩)))
end
theorem draws_rng {prog : Program} {w : World} {A : Around} (hh : A.handled = none) (j : Addr) (lo : Int) (n : Nat) :
    Draws prog w A j [j] n (fun i v => ∃ t, v = .int (lo + (i : Nat)) t) (fun i h => IsRangeIter h j (lo + (i : Nat)) ((n : Int) - (i : Nat)) 1) where
  live := fun _ _ st => ⟨_, st⟩
  frame := fun _ _ _ st hk => hk j (by simp) _ st
  item := fun i s Q E hi st q => rng_item st (by omega) fun h' st' sb => q _ h' _ ⟨_, rfl⟩ (by
    have e1 : lo + ((i + 1 : Nat) : Int) = lo + (i : Int) + 1 := by omega
    have e2 : (n : Int) - ((i + 1 : Nat) : Int) = (n : Int) - (i : Int) - 1 := by omega
    rw [e1, e2]
    exact st') sb
  done := fun s Q E st q => rng_end hh st (by omega) q
/-- a range's numbers beside a tuple's items, in new pairs -/
def ItRT (K : PySem.W.Frag) (lo : Int) (b : Addr) (zs : List V) : It :=
  ⟨fun i H => SqT K H b zs ∧ i < zs.length, fun i H v H' => ∃ T y, v = .ref T ∧ H T = none ∧ H' = upd H T (.tup [.int (lo + (i : Nat)), y]) ∧ zs[i]? = some y, fun i H => SqT K H b zs ∧ i = zs.length⟩
theorem turn_rt {P : Program} {w : World} {K : PySem.W.Frag} {elts : List Expr} {kk : Nat} {tpos : Pos} {lo : Int} {b z TI TO i1 i2 : Addr} {zs : List V} (S : ZipSep2 z TI TO i1 i2 [i1] [i2, b]) (hb : b ≠ i2) :
    Turn P w K (.Tuple elts kk tpos) (ItRT K lo b zs) [z, TI, TO, i1, i2] z (fun i h => IsZip h z TI TO .none ∧ IsTupOf2 h TI (.ref i1) (.ref i2) ∧ (∃ x y, IsTupOf2 h TO x y) ∧ IsRangeIter h i1 (lo + (i : Nat)) ((zs.length : Int) - (i : Nat)) 1 ∧ h.IsTupleIter i2 b i) where
  mem := by simp
  obj := fun i h st c hc => by
    obtain ⟨hz, hTI, ⟨x, y, hTO⟩, h1, ⟨o2, e2, _, d2⟩⟩ := st
    rcases (by simpa using hc : c = z ∨ c = TI ∨ c = TO ∨ c = i1 ∨ c = i2) with q | q | q | q | q <;> rw [q]
    · exact ⟨_, hz, fun v q => nomatch q⟩
    · exact ⟨_, hTI, fun v q => nomatch q⟩
    · exact ⟨_, hTO, fun v q => nomatch q⟩
    · exact ⟨_, h1, fun v q => nomatch (show Data.fields _ = Data.cell v from q)⟩
    · exact ⟨o2, e2, fun v q => by rw [d2] at q; cases q⟩
  keep := fun i h h' ⟨hz, hTI, ⟨x, y, hTO⟩, h1, h2⟩ k => ⟨k z (by simp) _ hz, k TI (by simp) _ hTI, ⟨x, y, k TO (by simp) _ hTO⟩, k i1 (by simp) _ h1, h2.at fun o q => k i2 (by simp) o q⟩
  item := by
    intro X eP ew eK hc i pins s σ H E I hf ⟨hz, hTI, ⟨x0, y0, hTO⟩, h1, h2⟩ ⟨hq, hi⟩
    subst eP ew eK
    obtain ⟨its, rv, pt, _⟩ := I.tuple hq
    have hlen : its.toArray.size = zs.length := by rw [List.size_toArray]; exact rv.length.symm
    have hh : X.A.in1.handled = none := I.ok.hd hc
    have hzl : z < s.heap.objs.size := Heap.lt_size hz
    have D1 := draws_rng (prog := X.prog) (w := X.w) hh i1 lo zs.length
    have D2 := Draws.tuple (prog := X.prog) (w := X.w) hh i2 b hb its.toArray
    refine wpAny_pyNext_zipD2_item S D1 D2 hz hTI hTO h1 ⟨h2, pt⟩ hi (by rw [hlen]; exact hi) fun x1 x2 h' tk p1 p2 z' TO' st1 st2 hT hsz hk => ⟨_, rfl, wpAny_letOwnedTupleGo_zip (s := { s with heap := h', toks := tk }) z' fun h'' z'' sb => ?_⟩
    have hy : zs[i]? = some zs[i] := List.getElem?_eq_getElem hi
    obtain ⟨u2, hu2, ru2⟩ := rv.get hy
    have e2 : x2 = u2 := by
      have p2' : its.toArray[i]? = some x2 := p2
      rw [List.getElem?_toArray, hu2] at p2'
      exact (Option.some.inj p2').symm
    subst e2
    obtain ⟨t1, rfl⟩ := p1
    have hT2 : h''.get? s.heap.objs.size = some { cls := .type "tuple", data := .seq #[.int (lo + (i : Nat)) t1, x2] } := (sb.2 _ (Nat.ne_of_gt hzl)).trans hT
    have new : ObjOk X.prog X.w (upd H s.heap.objs.size (.tup [.int (lo + (i : Nat)), zs[i]])) h'' s.heap.objs.size (.tup [.int (lo + (i : Nat)), zs[i]]) := ⟨by show 2 ≤ sizeLine; decide, [_, x2], .cons ⟨t1, rfl⟩ (.cons ru2 .nil), ⟨_, hT2, rfl, _, rfl⟩⟩
    have keepO : ∀ c o, c ∉ [z, TI, TO, i1, i2] → s.heap.get? c = some o → h''.get? c = some o := fun c o n e => by
      simp only [List.mem_cons, List.not_mem_nil, or_false, not_or] at n
      exact (sb.2 c n.1).trans (hk c o n.1 n.2.2.1 n.2.2.2.1 n.2.2.2.2 e)
    have I1 := I.turnedNew (t' := tk) (ch := [z, TI, TO, i1, i2]) (fun c o n e => keepO c o n e) hf (Nat.le_refl _) new
    refine ⟨.ref s.heap.objs.size, _, I1, rfl, ⟨_, zs[i], rfl, I.hok.fresh (Nat.le_refl _), rfl, hy⟩, ⟨z'', (sb.2 _ S.TIz).trans (hk _ _ S.TIz S.TITO S.TIi1 S.TIi2 hTI), ⟨_, x2, (sb.2 _ S.TOz).trans TO'⟩, ?_, ?_⟩, fun c hcm => ?_⟩
    · exact (sb.2 _ S.zi1.symm).trans st1
    · exact st2.1.at fun o q => (sb.2 _ S.zi2.symm).trans q
    · have hlt : c < s.heap.objs.size := by
        rcases (by simpa using hcm : c = z ∨ c = TI ∨ c = TO ∨ c = i1 ∨ c = i2) with q | q | q | q | q <;> rw [q]
        · exact hzl
        · exact Heap.lt_size hTI
        · exact Heap.lt_size hTO
        · exact Heap.lt_size h1
        · obtain ⟨_, e2, _⟩ := h2
          exact Heap.lt_size e2
      rw [upd_ne (Nat.ne_of_lt hlt)]
      exact (hf c hcm).1
  done := by
    intro X eP ew eK hc i pins s σ H E I hf ⟨hz, hTI, ⟨x0, y0, hTO⟩, h1, h2⟩ ⟨hq, hi⟩
    subst eP ew eK
    obtain ⟨its, rv, pt, _⟩ := I.tuple hq
    have hlen : its.toArray.size = zs.length := by rw [List.size_toArray]; exact rv.length.symm
    have hh : X.A.in1.handled = none := I.ok.hd hc
    have D1 := draws_rng (prog := X.prog) (w := X.w) hh i1 lo zs.length
    have D2 := Draws.tuple (prog := X.prog) (w := X.w) hh i2 b hb its.toArray
    refine wpAny_pyNext_zipD2_end S D1 D2 hz hTI hTO h1 ⟨h2, pt⟩ (by omega) (by omega) (.inl hi) fun h' tk hk => ⟨rfl, I.turnedL (t' := tk) (ch := [z, TI, TO, i1, i2]) (fun c o n e => ?_) hf⟩
    simp only [List.mem_cons, List.not_mem_nil, or_false, not_or] at n
    exact hk c o n.1 n.2.2.1 n.2.2.2.1 n.2.2.2.2 e
  self := fun A i s Q E st h => wpAny_pyIter_zip st.1 h
theorem begins_rng (r : Addr) (lo hi : Int) (t u v : Tok) (hs : Builtin.Range.small lo hi 1 = true) : Begins (.ref r) { cls := .type "range_iterator", data := .fields #[rawInt lo, rawInt (Builtin.Range.rangeSize lo hi 1), rawInt 1] } fun h => IsRange h r lo hi 1 t u v where
  iter := fun prog w A E s Q hr h => wpAny_pyIter_range hr hs h
  keeps := fun h h' x hk => hk r _ x
  free := rfl
def iZipRT (K : PySem.W.Frag) (ta : TA) : TI := fun σ H R => ta σ H fun vs H1 => ∃ (r b : Addr) (lo hi : Int) (zs : List V), vs = [.ref r, .ref b] ∧ H1 r = some (.rng lo hi) ∧ SqT K H1 b zs ∧ -(2 ^ 62) ≤ lo ∧ lo < 2 ^ 62 ∧ -(2 ^ 62) ≤ hi ∧ hi < 2 ^ 62 ∧ (zs.length : Int) = ((hi - lo).toNat : Int) ∧ R (ItRT K lo b zs) H1
theorem pi_zipRT {X : Cx} {e e2 : Expr} {ta : TA} {p pos tpos : Pos} {elts : List Expr} {kk : Nat} (hg : Gl X "zip") (hm : X.mg "zip" = none) (ha : PA X [e, e2] ta)
    (hs : starEach [e, e2] X.env = (false, eval e X.env) :: starEach [e2] X.env := by rfl) (hpl : (backTo pos (starEach [e2] X.env)).any (·.1) = false := by rfl) : PI X (.Tuple elts kk tpos) (.Call (.Name "zip" p) [e, e2] [] pos) (iZipRT X.K ta) := by
  refine ⟨fun pins s σ H R I h => Call_ (ld_blt I hg hm PyProof.Rows.boot_zip (PyProof.Rows.callWith_type1 (thn (ha.run pos pins s σ H _ I h) fun us s1 ⟨vs, H1, I1, r1, r, b, lo, hi, zs, ex, hr, hq, l1, l2, l3, l4, hl, q⟩ => ?_) hs hpl))⟩
  subst ex
  obtain ⟨u1, u2, rfl, ra, rb⟩ := vals2 r1
  cases ra
  cases rb
  obtain ⟨t, u, v, hro⟩ := (show ObjOk X.prog X.w H1 s1.heap r (.rng lo hi) from I1.hok r _ hr)
  obtain ⟨its, rv, pt, _⟩ := I1.tuple hq
  obtain ⟨o2, ho2, _⟩ := id pt
  have lb : b < s1.heap.objs.size := Heap.lt_size ho2
  have sep := zip_sep2 (N := s1.heap.objs.size) (fp1 := []) (fp2 := [b]) (fun x hx => by cases hx) (fun x hx => by rw [List.mem_singleton] at hx; rw [hx]; exact lb)
  refine zip_begins2 (begins_rng r lo hi t u v (small_one l1 l2 l3 l4)) (begins_tuple b its.toArray) hro (show s1.heap.IsTuple b its.toArray from pt) fun h' hz hTI hTO h1 h2 hsz hk => wpAny_pyIter_zip hz ?_
  have I2 : Inv X pins σ H1 { s1 with heap := h' } := I1.kept (t' := s1.toks) hk
  refine ⟨s1.heap.objs.size + 4, [s1.heap.objs.size + 4, s1.heap.objs.size + 2, s1.heap.objs.size + 3, s1.heap.objs.size, s1.heap.objs.size + 1], _, _, H1, rfl, I2, turn_rt sep (Nat.ne_of_lt (Nat.lt_succ_of_lt lb)), ⟨hz, hTI, ⟨_, _, hTO⟩, ?_, ⟨_, h2, rfl, rfl⟩⟩, fun c hcm => ?_, q⟩
  · show h'.get? _ = some _
    rw [h1, rangeSize_nat]
    have e0 : lo + ((0 : Nat) : Int) = lo := by omega
    have e1 : ((hi - lo).toNat : Int) = (zs.length : Int) - ((0 : Nat) : Int) := by omega
    rw [e0, e1]
  · have hle : s1.heap.objs.size ≤ c := by
      rcases (by simpa using hcm : c = s1.heap.objs.size + 4 ∨ c = s1.heap.objs.size + 2 ∨ c = s1.heap.objs.size + 3 ∨ c = s1.heap.objs.size ∨ c = s1.heap.objs.size + 1) with z | z | z | z | z <;> rw [z] <;> first | exact Nat.le_add_right _ _ | exact Nat.le_refl _
    exact I1.fpOk hle (I1.hok.fresh hle)
/-- a loop over them -/
theorem for_rt {K : PySem.W.Frag} {lo : Int} {b : Addr} {zs : List V} {g : TG} {tb : TS} {D : Ends} {σ : L2.St} {H : Hp} (Pv : Nat → L2.St → Hp → Prop) (h0 : Pv 0 σ H) (hq : ∀ i σ H, Pv i σ H → SqT K H b zs)
    (hs : ∀ (i : Nat) (y : V) (T : Addr) (σ : L2.St) (H : Hp), zs[i]? = some y → Pv i σ H → H T = none → g (.ref T) σ (upd H T (.tup [.int (lo + (i : Nat)), y])) fun σ2 H2 => tb { D with nx := Pv (i + 1), ct := Pv (i + 1), bk := D.nx } σ2 H2)
    (hd : ∀ σ H, Pv zs.length σ H → D.nx σ H) :
    ∃ W : Nat → Nat → L2.St → Hp → Prop, (∃ m, W 0 m σ H) ∧ ∀ i m σ H, W i m σ H →
      ((ItRT K lo b zs).stop i H ∧ D.nx σ H) ∨ ((ItRT K lo b zs).go i H ∧ ∃ N : L2.St → Hp → Prop, (∀ σ' H', N σ' H' → ∃ m', m' < m ∧ W (i + 1) m' σ' H') ∧ ∀ v H', (ItRT K lo b zs).yld i H v H' → g v σ H' fun σ2 H2 => tb { D with nx := N, ct := N, bk := D.nx } σ2 H2) := by
  refine ⟨fun i m σ H => m = zs.length - i ∧ i ≤ zs.length ∧ Pv i σ H, ⟨_, rfl, Nat.zero_le _, h0⟩, fun i m σ H ⟨em, hi, pv'⟩ => ?_⟩
  subst em
  by_cases hlt : i < zs.length
  · refine .inr ⟨⟨hq i σ H pv', hlt⟩, Pv (i + 1), fun σ' H' p' => ⟨zs.length - (i + 1), by omega, rfl, hlt, p'⟩, fun v H' ⟨T, y, ev, hT, eH, hy⟩ => ?_⟩
    subst ev eH
    exact hs i y T σ H hy pv' hT
  · have e : i = zs.length := by omega
    subst e
    exact .inl ⟨⟨hq _ σ H pv', rfl⟩, hd σ H pv'⟩
end Rz

set_option Elab.async false
set_option linter.all false
set_option maxRecDepth 100000
set_option maxHeartbeats 4000000
/-! shapes: what the walks of the small ones do, decided -/
namespace Seam
/-! ### how a shape is drawn -/
abbrev W3 := Nat × Nat × Nat
def shNext (s : List Nat × List W3) : List (List Nat × List W3) :=
  match s.2 with
  | [] => [s]
  | (f, l, d) :: r => if f < l then (List.range (l - f)).map fun c => (s.1.set (f + c) d, (f + c + 1, l, d + 1) :: (f, f + c, d + 1) :: r) else [(s.1, r)]
def shReach (n : Nat) : Nat → List (List Nat × List W3)
  | 0 => [(List.replicate n 0, [(0, n, 0)])]
  | i + 1 => (shReach n i).flatMap shNext
def shIn (n : Nat) (s : List Nat × List W3) : Bool := s.1.length == n && s.2.all (fun t => decide (t.2.1 ≤ n)) && decide (s.2.length ≤ 20)
theorem shReach_in : ∀ n, n ≤ 4 → ∀ i, i ≤ 2 * (n + 1) → (shReach n i).all (shIn n) = true := by decide +kernel
/-! ### Joinings -/
abbrev W4 := Nat × Nat × Nat × Option Nat
structure JS where
  fi : List (Option Nat)
  la : List (Option Nat)
  ab : List (Option Nat)
  st : List W4
  deriving DecidableEq
def seamsOf (sh : List Nat) (f n d : Nat) : List Nat := ((List.range n).map (f + ·)).filter fun i => decide (sh.getD i 0 ≤ d)
def jNext (sh : List Nat) (s : JS) : JS :=
  match s.st with
  | [] => s
  | (f, l, d, a) :: r => if f < l then let m := (seamsOf sh f (l - f) d).headD 0
    ⟨s.fi.set m (some f), s.la.set m (some l), s.ab.set m a, (m + 1, l, d + 1, some m) :: (f, m, d + 1, some m) :: r⟩ else ⟨s.fi, s.la, s.ab, r⟩
def jAt (sh : List Nat) : Nat → JS
  | 0 => ⟨List.replicate sh.length none, List.replicate sh.length none, List.replicate sh.length none, [(0, sh.length, 0, none)]⟩
  | k + 1 => jNext sh (jAt sh k)
def jIn (sh : List Nat) (s : JS) : Bool := s.fi.length == sh.length && s.la.length == sh.length && s.ab.length == sh.length && decide (s.st.length ≤ 20) &&
  match s.st with
  | [] => true
  | (f, l, d, _) :: _ => !decide (f < l) || (decide (l ≤ sh.length) && (seamsOf sh f (l - f) d == [(seamsOf sh f (l - f) d).headD 0]) && (sh.getD ((seamsOf sh f (l - f) d).headD 0) 0 == d) && decide ((seamsOf sh f (l - f) d).headD 0 < sh.length))
/-- first and last of each seam, all known -/
def jFi (sh : List Nat) : List Nat := (jAt sh (2 * sh.length + 1)).fi.map (·.getD 0)
def jLa (sh : List Nat) : List Nat := (jAt sh (2 * sh.length + 1)).la.map (·.getD 0)
def jOk (sh : List Nat) : Bool := ((List.range (2 * sh.length + 2)).all fun k => jIn sh (jAt sh k) && ((jAt sh k).st.isEmpty == decide (k = 2 * sh.length + 1))) &&
  ((jAt sh (2 * sh.length + 1)).fi == (jFi sh).map some) && ((jAt sh (2 * sh.length + 1)).la == (jLa sh).map some)
/-! ### inner_first -/
abbrev W2 := Nat × Nat
def candOf (fi la : List Nat) (f l n : Nat) : List Nat := ((List.range n).map (f + ·)).filter fun i => decide (fi.getD i 0 = f ∧ la.getD i 0 = l)
def iNext (fi la : List Nat) (s : List Nat × List W2) : List Nat × List W2 :=
  match s.2 with
  | [] => s
  | (f, l) :: r => if f < l then let m := (candOf fi la f l (l - f)).headD 0
    (s.1 ++ [m], (m + 1, l) :: (f, m) :: r) else (s.1, r)
def iAt (sh : List Nat) : Nat → List Nat × List W2
  | 0 => ([], [(0, sh.length)])
  | k + 1 => iNext (jFi sh) (jLa sh) (iAt sh k)
def iIn (sh : List Nat) (s : List Nat × List W2) : Bool := decide (s.1.length ≤ 20) && decide (s.2.length ≤ 20) &&
  match s.2 with
  | [] => true
  | (f, l) :: _ => !decide (f < l) || (decide (l ≤ sh.length) && !(candOf (jFi sh) (jLa sh) f l (l - f)).isEmpty)
def ordOf (sh : List Nat) : List Nat := (iAt sh (2 * sh.length + 1)).1.reverse
def iOk (sh : List Nat) : Bool := ((List.range (2 * sh.length + 2)).all fun k => iIn sh (iAt sh k) && ((iAt sh k).2.isEmpty == decide (k = 2 * sh.length + 1))) &&
  ((ordOf sh).all fun m => decide (m < sh.length) && decide ((jFi sh).getD m 0 ≤ m) && decide (m < (jLa sh).getD m 0) && decide ((jLa sh).getD m 0 ≤ sh.length))
def shOk (n : Nat) (sh : List Nat) : Bool := sh.length == n && jOk sh && iOk sh && sh.all (fun d => decide (d ≤ 100))
theorem shapes_ok : ∀ n, n ≤ 4 → ((shReach n (2 * (n + 1))).all fun s => shOk n s.1) = true := by decide +kernel
end Seam

set_option Elab.async false
set_option linter.all false
set_option maxRecDepth 100000
set_option maxHeartbeats 4000000
namespace Seam
open PySem PySem.Spec PyProof.Rows L2 Nd Rz
/-- numbers as ints -/
def il (l : List Nat) : Rw := l.map fun (k : Nat) => (k : Int)
theorem il_set (l : List Nat) (i v : Nat) : (il (l.set i v)).map V.int = ((il l).map V.int).set i (.int v) := by
  unfold il
  rw [List.map_set, List.map_set]
theorem il_len (l : List Nat) : (il l).length = l.length := by
  unfold il
  rw [List.length_map]
theorem rep_zero (n : Nat) : (List.replicate n [V.int 0]).flatten = (il (List.replicate n 0)).map V.int := by
  unfold il
  rw [List.map_replicate, List.map_replicate]
  induction n with
  | zero => rfl
  | succ n ih => rw [List.replicate_succ, List.flatten_cons, ih, List.replicate_succ]; rfl
theorem ixN_nat {n k : Nat} (h : k < n) : ixN n (k : Int) = some k := by
  unfold ixN
  rw [if_pos (by omega), if_pos (by omega), Int.toNat_natCast]
/-- a stack of triples: the list's last is the top -/
def St3 (H : Hp) (Wa : Addr) (wt : List W3) : Prop := ∃ as : List Addr, H Wa = some (.lst (as.reverse.map V.ref)) ∧ Paired (fun (t : W3) a => H a = some (.tup [.int t.1, .int t.2.1, .int t.2.2])) wt as
theorem St3.tk {H H' : Hp} {Wa : Addr} {wt : List W3} (h : St3 H Wa wt) (t : Tk H H') (e : ∀ o, H Wa = some o → H' Wa = some o) : St3 H' Wa wt :=
  let ⟨as, h1, h2⟩ := h
  ⟨as, e _ h1, Paired.mapP h2 fun _ _ z => t _ _ z⟩
structure ShI (d c : Addr) (H H' : Hp) (Fo Wa : Addr) (fo : List Nat) (wt : List W3) : Prop where
  bu : But d H H'
  di : DiceAt H' d c
  hF : H' Fo = some (.lst ((il fo).map V.int))
  hW : St3 H' Wa wt
  nF : H Fo = none
  nW : H Wa = none
  ne : Fo ≠ Wa
  Fd : Fo ≠ d ∧ Fo ≠ c
  Wd : Wa ≠ d ∧ Wa ≠ c
theorem ShI.draw {d c Fo Wa : Addr} {H H' H'' : Hp} {fo : List Nat} {wt : List W3} (h : ShI d c H H' Fo Wa fo wt) (b : But d H' H'') (hd : DiceAt H'' d c) : ShI d c H H'' Fo Wa fo wt :=
  ⟨h.bu.trans b, hd, b _ _ h.hF h.Fd.1, h.hW.tk (h.di.tk b) fun o e => b _ o e h.Wd.1, h.nF, h.nW, h.ne, h.Fd, h.Wd⟩
theorem ShI.same {d c Fo Wa : Addr} {H H' H'' : Hp} {fo : List Nat} {wt : List W3} (h : ShI d c H H' Fo Wa fo wt) (b : Same H' H'') : ShI d c H H'' Fo Wa fo wt := h.draw (But.of_same b) (h.di.same b)
section
variable {P : Program} {w : World} {K : PySem.W.Frag} {mg : Str → Option Value} {base : Heap} {X : Cx}
def spShape : Sp := fun vs H Q _ => ∃ (d c : Addr) (n : Nat), vs = [.ref d, .int ((n : Int) + 1)] ∧ n ≤ 4 ∧ DiceAt H d c ∧ ∀ H' p (sh : List Nat), But d H H' → DiceAt H' d c → Ro H' p (il sh) → shOk n sh = true → Q (.ref p) H'
abbrev N_shape : List Str := ["_law_dice_here", "_law_words_here", "_law_way", "_law_found", "_law_waiting", "_law_turn", "_law_first", "_law_last", "_law_depth", "_law_many_here", "_law_step", "_law_seam"]
theorem sc_shape : FnScope N_shape ["_law_dice_here", "_law_words_here"] (defScope s_law_shape) := ⟨rfl, rfl, rfl, by decide +kernel, rfl, by decide +kernel, by decide +kernel⟩
/-- if draw(4) == 0: step = draw(many) -/
def tSt : TS := fun D σ H => ∃ (d c : Addr) (m : Nat) (v : Int) (x1 x2 x3 x4 x5 x6 x7 x8 x11 : Option V), σ = [some (.ref d), x1, x2, x3, x4, x5, x6, x7, x8, some (.int m), some (.int v), x11] ∧ 0 ≤ v ∧ v < (m : Int) ∧ m ≤ 4 ∧ DiceAt H d c ∧
  ∀ H' v', 0 ≤ v' → v' < (m : Int) → But d H H' → DiceAt H' d c → D.nx [some (.ref d), x1, x2, x3, x4, x5, x6, x7, x8, some (.int m), some (.int v'), x11] H'
theorem shReach_step {n i : Nat} (hn : n ≤ 4) (hi : i < 2 * (n + 1)) {s t : List Nat × List W3} (h : s ∈ shReach n i) (ht : t ∈ shNext s) : t ∈ shReach n (i + 1) := List.mem_flatMap.mpr ⟨s, h, ht⟩
theorem shReach_ok {n i : Nat} (hn : n ≤ 4) (hi : i ≤ 2 * (n + 1)) {s : List Nat × List W3} (h : s ∈ shReach n i) : s.1.length = n ∧ (∀ t ∈ s.2, t.2.1 ≤ n) ∧ s.2.length ≤ 20 := by
  have := List.all_eq_true.mp (shReach_in n hn i hi) s h
  unfold shIn at this
  simp only [Bool.and_eq_true, beq_iff_eq, List.all_eq_true, decide_eq_true_eq] at this
  exact ⟨this.1.1, this.1.2, this.2⟩
theorem ok_shape {f : Addr} {fd : FuncData} (F : FnP K "_law_shape" "_law_shape" s_law_shape f fd) (cd : CDraw P w K mg base) (mr : mg "range" = none) (ml : mg "len" = none) (mm : mg "min" = none) (mt : mg "tuple" = none) :
    FnOk P w K mg base CX0 2 f fd ["_law_dice_here", "_law_words_here"] spShape := by
  obtain ⟨f1, fd1, G, g, kp, bn⟩ := cd.ex
  refine F.fn.ok sc_shape (fun vs H Q E h => ?_) (fun cdv A outer s H vs Q E hr h => ?_)
  · obtain ⟨d, c, n, rfl, _⟩ := h
    rfl
  · obtain ⟨d, c, n, rfl, hn, hd, q⟩ := h
    refine ⟨_, pss_cons (ps_set (i := 2) sc_shape.nd rfl (Or.inl rfl) (pe_call G hr (by rfl) g kp bn .nil pass0 (pa_cons (pv 0) (pa_cons pe_int pa_nil))))
      (pss_cons (ps_set (i := 3) sc_shape.nd rfl (Or.inl rfl) (pe_op op_rep (pe_lst (pa_cons pe_int pa_nil)) (pe_op op_sub (pv 1) pe_int)))
      (pss_cons (ps_set (i := 4) sc_shape.nd rfl (Or.inl rfl) (pe_lst (pa_cons (pe_tup (pa_cons pe_int (pa_cons (pe_op op_sub (pv 1) pe_int) (pa_cons pe_int pa_nil)))) pa_nil)))
      (pss_cons (ps_for PassesOwn.never rfl (pi_range1 rfl mr (pa_cons (pe_op op_mul pe_int (pv 1)) pa_nil)) (pg_name (i := 5) sc_shape.nd rfl (Or.inl rfl))
        (pss_one (ps_if (pt_cmpR op_gt (pe_callB call_len_seq (by rfl) ml PySem.boot_len (pa_cons (pv 4) pa_nil)) pe_int (nomark _))
          (pss_cons (ps_asg (pe_bm0 PySem.F.plainAttrs_list PySem.F.slot_list_pop PySem.F.type_list_pop mt_pop (pv 4)) (pg_tup rfl (pgs_cons (pg_name (i := 6) sc_shape.nd rfl (Or.inl rfl)) (pgs_cons (pg_name (i := 7) sc_shape.nd rfl (Or.inl rfl)) (pgs_cons (pg_name (i := 8) sc_shape.nd rfl (Or.inl rfl)) pgs_nil)))))
          (pss_one (ps_if (pt_cmpR op_lt (pv 6) (pv 7) (nomark _))
            (pss_cons (ps_set (i := 9) sc_shape.nd rfl (Or.inl rfl) (pe_op op_sub (pv 7) (pv 6)))
            (pss_cons (ps_set (i := 10) sc_shape.nd rfl (Or.inl rfl) (pe_ix ix_list (pe_lst (pa_cons (pe_call G hr (by rfl) g kp bn .nil pass0 (pa_cons (pv 0) (pa_cons (pv 9) pa_nil))) (pa_cons pe_int (pa_cons (pe_op op_sub (pv 9) pe_int) (pa_cons (pe_op op_fdiv (pv 9) pe_int)
              (pa_cons (pe_call G hr (by rfl) g kp bn .nil pass0 (pa_cons (pv 0) (pa_cons (pe_callB (call_min2 rfl) (by rfl) mm (by decide +kernel) (pa_cons (pv 9) (pa_cons pe_int pa_nil))) pa_nil))) pa_nil)))))) (pv 2) (fun _ _ => rfl)))
            (pss_cons (ps_imp (t' := tSt) (ps_if (pt_cmpR op_eq (pe_call G hr (by rfl) g kp bn .nil pass0 (pa_cons (pv 0) (pa_cons pe_int pa_nil))) pe_int (nomark _)) (pss_one (ps_set (i := 10) sc_shape.nd rfl (Or.inl rfl) (pe_call G hr (by rfl) g kp bn .nil pass0 (pa_cons (pv 0) (pa_cons (pv 9) pa_nil))))) pss_nil) (fun D σ H hh => ?_))
            (pss_cons (ps_set (i := 11) sc_shape.nd rfl (Or.inl rfl) (pe_op op_add (pv 6) (pv 10)))
            (pss_cons (ps_asg (pv 8) (pg_sub (pv 3) (pv 11) set_list))
            (pss_one (ps_set (i := 4) sc_shape.nd rfl (Or.inl rfl) (pe_op op_cat (pv 4) (pe_lst (pa_cons (pe_tup (pa_cons (pv 6) (pa_cons (pv 11) (pa_cons (pe_op op_add (pv 8) pe_int) pa_nil)))) (pa_cons (pe_tup (pa_cons (pe_op op_add (pv 11) pe_int) (pa_cons (pv 7) (pa_cons (pe_op op_add (pv 8) pe_int) pa_nil)))) pa_nil)))))))))))
            pss_nil))) pss_nil)))
      (pss_one (ps_ret (pe_callTy call_tuple_of (by rfl) mt (by decide +kernel) (pa_cons (pv 3) pa_nil))))))), ?_⟩
    · obtain ⟨d, c, m, v, x1, x2, x3, x4, x5, x6, x7, x8, x11, rfl, v0, v1, m4, hd, q⟩ := hh
      refine ⟨_, rfl, d, c, 4, rfl, by decide, by decide, hd, fun H1 v1' e1 e2 b1 d1 => ⟨rfl, _, rfl, ?_⟩⟩
      by_cases e : v1' = 0
      · subst e
        rw [show decide (V.int 0 = V.int 0) = true from decide_eq_true rfl]
        exact iteT ⟨_, rfl, _, rfl, d, c, m, rfl, by omega, by omega, d1, fun H2 v2 e3 e4 b2 d2 => q H2 v2 e3 e4 (b1.trans b2).but d2⟩
      · rw [show decide (V.int v1' = V.int 0) = false from decide_eq_false (fun z => e (V.int.inj z))]
        exact iteF (q H1 v v0 v1 b1.but d1)
    · refine ⟨_, rfl, d, c, 5, rfl, by decide, by decide, hd, fun H1 way w0 w1 b1 d1 => ?_⟩
      refine ⟨(by show 1 ≤ sizeLine; decide), fun l0 hl0 => ?_⟩
      have y0 := same_new (o := .lst [V.int 0]) hl0
      refine ⟨_, rfl, _, _, rfl, rfl, l0, (n : Int) + 1 - 1, [V.int 0], rfl, rfl, upd_same, by omega, by omega, ?_, fun Fo nF => ?_⟩
      · show 1 * ((n : Int) + 1 - 1).toNat ≤ sizeLine
        exact Nat.le_of_lt (small1000' (by omega))
      have en : ((n : Int) + 1 - 1).toNat = n := by omega
      rw [en, rep_zero]
      have yF := same_new (o := .lst ((il (List.replicate n 0)).map V.int)) nF
      have d3 := (d1.same y0).same yF
      have hF : upd (upd H1 l0 (.lst [V.int 0])) Fo (.lst ((il (List.replicate n 0)).map V.int)) Fo = some (.lst ((il (List.replicate n 0)).map V.int)) := upd_same
      have b3 := (b1.but.trans (But.of_same y0)).trans (But.of_same yF)
      have nF' := (d1.same y0).ne nF
      have nFH : H Fo = none := by
        rcases e : H Fo with _ | o
        · rfl
        · have := (b1.but.trans (But.of_same y0)) Fo o e nF'.1
          rw [nF] at this
          cases this
      generalize upd (upd H1 l0 (.lst [V.int 0])) Fo (.lst ((il (List.replicate n 0)).map V.int)) = H3 at *
      refine ⟨_, rfl, _, _, rfl, rfl, (by show 3 ≤ sizeLine; decide), fun t0 nt => ⟨(by show 1 ≤ sizeLine; decide), fun Wa nW => ?_⟩⟩
      have yt := same_new (o := .tup [V.int 0, V.int ((n : Int) + 1 - 1), V.int 0]) nt
      have yW := same_new (o := .lst [V.ref t0]) nW
      have dt := d3.same yt
      have nWd := dt.ne nW
      have hW : St3 (upd (upd H3 t0 (.tup [V.int 0, V.int ((n : Int) + 1 - 1), V.int 0])) Wa (.lst [V.ref t0])) Wa [(0, n, 0)] := by
        refine ⟨[t0], upd_same, .cons ?_ .nil⟩
        have e : ((n : Int) + 1 - 1) = (n : Int) := by omega
        have := yW _ _ (upd_same : upd H3 t0 (.tup [V.int 0, V.int ((n : Int) + 1 - 1), V.int 0]) t0 = _)
        rw [this, e]
        rfl
      have b4 := (b3.trans (But.of_same yt)).trans (But.of_same yW)
      have d4 := dt.same yW
      have hF4 := yW _ _ (yt _ _ hF)
      have nWH : H Wa = none := by
        rcases e : H Wa with _ | o
        · rfl
        · have := (b3.trans (But.of_same yt)) Wa o e nWd.1
          rw [nW] at this
          cases this
      have nFW : Fo ≠ Wa := ne_of_none (yt _ _ hF) nW
      have I0 : ShI d c H (upd (upd H3 t0 (.tup [V.int 0, V.int ((n : Int) + 1 - 1), V.int 0])) Wa (.lst [V.ref t0])) Fo Wa (List.replicate n 0) [(0, n, 0)] := ⟨b4, d4, hF4, hW, nFH, nWH, nFW, nF', nWd⟩
      generalize upd (upd H3 t0 (.tup [V.int 0, V.int ((n : Int) + 1 - 1), V.int 0])) Wa (.lst [V.ref t0]) = H4 at *
      have e2 : (2 : Int) * ((n : Int) + 1) = ((2 * (n + 1) : Nat) : Int) := by omega
      refine ⟨_, rfl, _, _, rfl, rfl, cmul_r (by omega) (by omega), 2 * ((n : Int) + 1), rfl, by omega, by omega, ?_⟩
      rw [show (2 * ((n : Int) + 1)).toNat = 2 * (n + 1) by omega]
      refine for_range (lo := 0) (n := 2 * (n + 1)) (fun i σ H' => ∃ Wa' fo wt x5 x6 x7 x8 x9 x10 x11, σ = [some (.ref d), some (.int ((n : Int) + 1)), some (.int way), some (.ref Fo), some (.ref Wa'), x5, x6, x7, x8, x9, x10, x11] ∧ ShI d c H H' Fo Wa' fo wt ∧ (fo, wt) ∈ shReach n i)
        ⟨Wa, _, _, none, none, none, none, none, none, none, rfl, I0, List.mem_singleton.mpr rfl⟩ (fun i σ H5 hi z => ?_) (fun σ H5 z => ?_)
      · obtain ⟨Wa', fo, wt, x5, x6, x7, x8, x9, x10, x11, rfl, I, hm⟩ := z
        obtain ⟨lf, lt, lw⟩ := shReach_ok hn (by omega) hm
        obtain ⟨as, hWa, hP⟩ := I.hW
        have lena : wt.length = as.length := Paired.length hP
        refine ⟨_, rfl, Wa', _, rfl, .inl (SqL.of hWa), _, _, rfl, rfl, _, rfl, ?_⟩
        match wt, as, hP, lt, lw, hm, I, hWa, lena with
        | [], [], _, _, _, hm, I, hWa, _ =>
          refine iteF ⟨Wa', fo, [], _, _, _, _, _, _, _, rfl, I, shReach_step hn hi hm (List.mem_singleton.mpr rfl)⟩
        | (f, l, dp) :: r, a :: as, .cons ha hr, lt, lw, hm, I, hWa, lena =>
          rw [decide_eq_true (by rw [List.length_map, List.length_reverse, List.length_cons]; omega)]
          have rv : ((a :: as).reverse.map V.ref) = as.reverse.map V.ref ++ [V.ref a] := by rw [List.reverse_cons, List.map_append]; rfl
          rw [rv] at hWa
          refine iteT ⟨_, rfl, .inl ⟨rfl, _, SqL.of hWa⟩, Wa', _, V.ref a, rfl, rfl, hWa, ?_, ?_⟩
          · rw [List.length_append, List.length_singleton, Nat.add_sub_cancel, List.getElem?_append_right (Nat.le_refl _), Nat.sub_self]
            rfl
          rw [List.dropLast_concat]
          have bW : Bt Wa' H5 (upd H5 Wa' (.lst (as.reverse.map V.ref))) := Bt.upd
          have tW : Tk H5 (upd H5 Wa' (.lst (as.reverse.map V.ref))) := fun x ys e => by
            rw [upd_ne (ne_of e hWa (fun z => nomatch z))]
            exact e
          have I2 : ShI d c H (upd H5 Wa' (.lst (as.reverse.map V.ref))) Fo Wa' fo r := by
            refine ⟨fun x o e n1 => ?_, I.di.upd I.Wd.1 I.Wd.2, ?_, ⟨as, upd_same, Paired.mapP hr fun _ _ z => tW _ _ z⟩, I.nF, I.nW, I.ne, I.Fd, I.Wd⟩
            · rw [upd_ne (ne_of_none e I.nW)]
              exact I.bu x o e n1
            · rw [upd_ne I.ne]
              exact I.hF
          have ha2 := tW _ _ ha
          generalize upd H5 Wa' (.lst (as.reverse.map V.ref)) = H6 at *
          refine ⟨a, _, rfl, SqT.of ha2, rfl, _, _, rfl, _, _, rfl, _, _, rfl, rfl, ?_⟩
          refine ⟨_, rfl, _, rfl, _, _, rfl, rfl, _, rfl, ?_⟩
          by_cases hfl : ¬ f < l
          · rw [show decide ((f : Int) < (l : Int)) = false from decide_eq_false (by omega)]
            refine iteF ⟨Wa', fo, r, _, _, _, _, _, _, _, rfl, I2, shReach_step hn hi hm ?_⟩
            show (fo, r) ∈ (if f < l then _ else [(fo, r)])
            rw [if_neg hfl]
            exact List.mem_singleton.mpr rfl
          have hfl' : f < l := Decidable.not_not.mp hfl
          rw [show decide ((f : Int) < (l : Int)) = true from decide_eq_true (by omega)]
          have hln : l ≤ n := lt _ List.mem_cons_self
          obtain ⟨m, hm1⟩ : ∃ m : Nat, l - f = m := ⟨_, rfl⟩
          refine iteT ⟨_, rfl, _, rfl, _, _, rfl, rfl, ?_⟩
          rw [show ((fun i j => V.int (i - j)) (l : Int) (f : Int)) = V.int (m : Int) from congrArg V.int (by omega)]
          refine ⟨_, rfl, _, rfl, d, c, m, rfl, by omega, by omega, I2.di, fun H7 v7 a0 a1 b7 d7 => ?_⟩
          have I3 := I2.draw b7.but d7
          refine ⟨_, rfl, _, _, rfl, rfl, _, rfl, _, _, rfl, rfl, ⟨by decide, by decide⟩, _, rfl, _, rfl, _, _, rfl, d, c, _, rfl, by split <;> omega, by split <;> omega, d7, fun H8 v8 c0 c1 b8 d8 => ⟨(by show 5 ≤ sizeLine; decide), fun lp hlp => ?_⟩⟩
          have I4 := (I3.draw b8.but d8).same (same_new (o := .lst [V.int v7, V.int 0, V.int ((m : Int) - 1), V.int ((m : Int) / 2), V.int v8]) hlp)
          have hlp4 : upd H8 lp (.lst [V.int v7, V.int 0, V.int ((m : Int) - 1), V.int ((m : Int) / 2), V.int v8]) lp = some (.lst [V.int v7, V.int 0, V.int ((m : Int) - 1), V.int ((m : Int) / 2), V.int v8]) := upd_same
          have key : ∃ st : Int, 0 ≤ st ∧ st < (m : Int) ∧ atI [V.int v7, V.int 0, V.int ((m : Int) - 1), V.int ((m : Int) / 2), V.int v8] way = some (V.int st) := by
            have c1' : v8 < (m : Int) := by
              split at c1 <;> omega
            rcases (by omega : way = 0 ∨ way = 1 ∨ way = 2 ∨ way = 3 ∨ way = 4) with e | e | e | e | e <;> subst e
            · exact ⟨_, a0, a1, rfl⟩
            · exact ⟨0, by omega, by omega, rfl⟩
            · exact ⟨_, by omega, by omega, rfl⟩
            · exact ⟨_, by omega, by omega, rfl⟩
            · exact ⟨_, c0, c1', rfl⟩
          obtain ⟨st, s0, s1, hst⟩ := key
          refine ⟨_, rfl, lp, _, _, _, rfl, rfl, SqL.of hlp4, hst, ?_⟩
          refine ⟨d, c, m, st, _, _, _, _, _, _, _, _, _, rfl, s0, s1, by omega, I4.di, fun H9 st' s0' s1' b9 d9 => ?_⟩
          have I5 := I4.draw b9 d9
          obtain ⟨k, rfl⟩ : ∃ k : Nat, st' = (k : Int) := ⟨st'.toNat, by omega⟩
          refine ⟨_, rfl, _, rfl, _, _, rfl, rfl, ?_⟩
          rw [show ((fun i j => V.int (i + j)) (f : Int) (k : Int)) = V.int ((f + k : Nat) : Int) from congrArg V.int (by omega)]
          refine ⟨_, rfl, _, rfl, _, rfl, Fo, _, _, f + k, rfl, rfl, I5.hF, ?_, ?_⟩
          · rw [List.length_map, il_len]
            exact ixN_nat (by have lf' : fo.length = n := lf; omega)
          rw [← il_set]
          have tF : Tk H9 (upd H9 Fo (.lst ((il (fo.set (f + k) dp)).map V.int))) := fun x ys e => by
            rw [upd_ne (ne_of e I5.hF (fun z => nomatch z))]
            exact e
          have I6 : ShI d c H (upd H9 Fo (.lst ((il (fo.set (f + k) dp)).map V.int))) Fo Wa' (fo.set (f + k) dp) r := by
            refine ⟨fun x o e n1 => ?_, I5.di.upd I5.Fd.1 I5.Fd.2, upd_same, I5.hW.tk tF fun o e => ?_, I5.nF, I5.nW, I5.ne, I5.Fd, I5.Wd⟩
            · rw [upd_ne (ne_of_none e I5.nF)]
              exact I5.bu x o e n1
            · rw [upd_ne I5.ne.symm]
              exact e
          generalize upd H9 Fo (.lst ((il (fo.set (f + k) dp)).map V.int)) = HA at *
          refine ⟨_, rfl, _, rfl, _, rfl, _, rfl, _, _, rfl, rfl, (by show 3 ≤ sizeLine; decide), fun p1 hp1 => ⟨_, rfl, _, _, rfl, rfl, _, rfl, _, rfl, _, _, rfl, rfl, (by show 3 ≤ sizeLine; decide), fun p2 hp2 => ⟨(by show 2 ≤ sizeLine; decide), fun l2 hl2 => ?_⟩⟩⟩
          have y1 := same_new (o := .tup [V.int f, V.int ((f + k : Nat) : Int), V.int ((dp : Int) + 1)]) hp1
          have y2 := same_new (o := .tup [V.int (((f + k : Nat) : Int) + 1), V.int l, V.int ((dp : Int) + 1)]) hp2
          have y3 := same_new (o := .lst [V.ref p1, V.ref p2]) hl2
          have I7 := ((I6.same y1).same y2).same y3
          have t1 := (y2.trans y3) _ _ (upd_same : upd HA p1 (.tup [V.int f, V.int ((f + k : Nat) : Int), V.int ((dp : Int) + 1)]) p1 = _)
          have t2 := y3 _ _ (upd_same : upd (upd HA p1 (.tup [V.int f, V.int ((f + k : Nat) : Int), V.int ((dp : Int) + 1)])) p2 (.tup [V.int (((f + k : Nat) : Int) + 1), V.int l, V.int ((dp : Int) + 1)]) p2 = _)
          have hl2' : upd (upd (upd HA p1 (.tup [V.int f, V.int ((f + k : Nat) : Int), V.int ((dp : Int) + 1)])) p2 (.tup [V.int (((f + k : Nat) : Int) + 1), V.int l, V.int ((dp : Int) + 1)])) l2 (.lst [V.ref p1, V.ref p2]) l2 = some (.lst [V.ref p1, V.ref p2]) := upd_same
          generalize upd (upd (upd HA p1 (.tup [V.int f, V.int ((f + k : Nat) : Int), V.int ((dp : Int) + 1)])) p2 (.tup [V.int (((f + k : Nat) : Int) + 1), V.int l, V.int ((dp : Int) + 1)])) l2 (.lst [V.ref p1, V.ref p2]) = HB at *
          obtain ⟨as7, hW7, hP7⟩ := I7.hW
          have len7 : r.length = as7.length := Paired.length hP7
          have lw' : r.length + 1 ≤ 20 := lw
          refine ⟨Wa', l2, _, _, rfl, rfl, hW7, hl2', ?_, fun Wn hWn => ?_⟩
          · rw [List.length_map, List.length_reverse]
            exact Nat.le_of_lt (small1000' (by show as7.length + 2 ≤ 4000; omega))
          have nWn := I7.di.ne hWn
          have y4 := same_new (o := .lst (as7.reverse.map V.ref ++ [V.ref p1, V.ref p2])) hWn
          have I8 := I7.same y4
          refine ⟨Wn, fo.set (f + k) dp, (f + k + 1, l, dp + 1) :: (f, f + k, dp + 1) :: r, _, _, _, _, _, _, _, rfl, ⟨I8.bu, I8.di, I8.hF, ⟨p2 :: p1 :: as7, ?_, .cons ?_ (.cons ?_ (Paired.mapP hP7 fun _ _ z => y4 _ _ z))⟩, I8.nF, ?_, ne_of_none I7.hF hWn, I8.Fd, nWn⟩, shReach_step hn hi hm ?_⟩
          · rw [upd_same, List.reverse_cons, List.reverse_cons, List.append_assoc, List.map_append]
            rfl
          · rw [y4 _ _ t2]
            show some (HO.tup [V.int (((f + k : Nat) : Int) + 1), V.int l, V.int ((dp : Int) + 1)]) = some (HO.tup [V.int ((f + k + 1 : Nat) : Int), V.int l, V.int ((dp + 1 : Nat) : Int)])
            rw [Int.natCast_succ, Int.natCast_succ]
          · rw [y4 _ _ t1]
            show some (HO.tup [V.int f, V.int ((f + k : Nat) : Int), V.int ((dp : Int) + 1)]) = some (HO.tup [V.int f, V.int ((f + k : Nat) : Int), V.int ((dp + 1 : Nat) : Int)])
            rw [Int.natCast_succ]
          · rcases e : H Wn with _ | o
            · rfl
            · have := I7.bu Wn o e nWn.1
              rw [hWn] at this
              cases this
          · show _ ∈ (if f < l then _ else [(fo, r)])
            rw [if_pos hfl']
            exact List.mem_map.mpr ⟨k, List.mem_range.mpr (by omega), rfl⟩
      · obtain ⟨Wa', fo, wt, x5, x6, x7, x8, x9, x10, x11, rfl, I, hm⟩ := z
        have hok := List.all_eq_true.mp (shapes_ok n hn) _ hm
        exact ⟨_, rfl, Fo, _, rfl, .inl ⟨SqL.of I.hF, fun p hp => q _ p fo (I.bu.trans (But.of_same (same_new hp))) (I.di.same (same_new hp)) upd_same hok⟩⟩
end
end Seam

set_option Elab.async false
set_option linter.all false
set_option maxRecDepth 100000
set_option maxHeartbeats 4000000
namespace Seam
open PySem PySem.Spec PyProof.Rows L2 Nd Rz
/-! ### Joinings: its attributes -/
theorem m12 : ¬ (("first" : Str) = "last") := by decide +kernel
theorem m13 : ¬ (("first" : Str) = "above") := by decide +kernel
theorem m14 : ¬ (("first" : Str) = "fair") := by decide +kernel
theorem m23 : ¬ (("last" : Str) = "above") := by decide +kernel
theorem m24 : ¬ (("last" : Str) = "fair") := by decide +kernel
theorem m34 : ¬ (("above" : Str) = "fair") := by decide +kernel
def jf1 (F : Addr) : List (Str × V) := putF "first" (.ref F) []
def jf2 (F L : Addr) : List (Str × V) := putF "last" (.ref L) (jf1 F)
def jf3 (F L A : Addr) : List (Str × V) := putF "above" (.ref A) (jf2 F L)
def jf (F L A : Addr) : List (Str × V) := putF "fair" (.bl true) (jf3 F L A)
theorem jf_len1 (F : Addr) : (jf1 F).length ≤ 1 := length_putF _ _ _
theorem jf_len2 (F L : Addr) : (jf2 F L).length ≤ 2 := Nat.le_trans (length_putF _ _ _) (Nat.succ_le_succ (jf_len1 F))
theorem jf_len3 (F L A : Addr) : (jf3 F L A).length ≤ 3 := Nat.le_trans (length_putF _ _ _) (Nat.succ_le_succ (jf_len2 F L))
section
variable (F L A : Addr)
theorem jf_first : (jf F L A).lookup ("first" : Str) = some (.ref F) := by
  unfold jf jf3 jf2 jf1
  rw [lookup_putF, if_neg m14, lookup_putF, if_neg m13, lookup_putF, if_neg m12, lookup_putF, if_pos rfl]
theorem jf_last : (jf F L A).lookup ("last" : Str) = some (.ref L) := by
  unfold jf jf3 jf2 jf1
  rw [lookup_putF, if_neg m24, lookup_putF, if_neg m23, lookup_putF, if_pos rfl]
theorem jf_above : (jf F L A).lookup ("above" : Str) = some (.ref A) := by
  unfold jf jf3 jf2 jf1
  rw [lookup_putF, if_neg m34, lookup_putF, if_pos rfl]
theorem jf_fair : (jf F L A).lookup ("fair" : Str) = some (.bl true) := by
  unfold jf
  rw [lookup_putF, if_pos rfl]
end
structure JnT (K : PySem.W.Frag) (C : Addr) : Prop where
  cl : Cls K C
  n1 : NoAttr K C "first"
  n2 : NoAttr K C "last"
  n3 : NoAttr K C "above"
  n4 : NoAttr K C "fair"
def ov : Option Nat → V
  | none => .non
  | some k => .int (k : Nat)
theorem rep_non (n : Nat) : (List.replicate n [V.non]).flatten = (List.replicate n (none : Option Nat)).map ov := by
  rw [List.map_replicate]
  induction n with
  | zero => rfl
  | succ n ih => rw [List.replicate_succ, List.flatten_cons, ih, List.replicate_succ]; rfl
theorem ov_set (l : List (Option Nat)) (i : Nat) (v : Option Nat) : (l.set i v).map ov = (l.map ov).set i (ov v) := by rw [List.map_set]
theorem ov_some (l : List Nat) : (l.map some).map ov = (il l).map V.int := by
  unfold il
  rw [List.map_map, List.map_map]
  rfl
def St4 (H : Hp) (Wa : Addr) (wt : List W4) : Prop := ∃ as : List Addr, H Wa = some (.lst (as.reverse.map V.ref)) ∧ Paired (fun (t : W4) a => H a = some (.tup [.int t.1, .int t.2.1, .int t.2.2.1, ov t.2.2.2])) wt as
/-- what the seams' comprehension has found -/
theorem seams_succ (sh : List Nat) (f i d : Nat) : seamsOf sh f (i + 1) d = if sh.getD (f + i) 0 ≤ d then seamsOf sh f i d ++ [f + i] else seamsOf sh f i d := by
  unfold seamsOf
  rw [List.range_succ, List.map_append, List.filter_append]
  by_cases h : sh.getD (f + i) 0 ≤ d
  · rw [if_pos h]
    show _ ++ List.filter (fun j => decide (sh.getD j 0 ≤ d)) [f + i] = _
    rw [List.filter_cons_of_pos (p := fun j => decide (sh.getD j 0 ≤ d)) (decide_eq_true h)]
    rfl
  · rw [if_neg h]
    show _ ++ List.filter (fun j => decide (sh.getD j 0 ≤ d)) [f + i] = _
    rw [List.filter_cons_of_neg (p := fun j => decide (sh.getD j 0 ≤ d)) (fun e => h (of_decide_eq_true e))]
    exact List.append_nil _
theorem seams_len (sh : List Nat) (f i d : Nat) : (seamsOf sh f i d).length ≤ i := by
  unfold seamsOf
  refine Nat.le_trans (List.length_filter_le _ _) ?_
  rw [List.length_map, List.length_range]
  exact Nat.le_refl _
/-- the walk of Joinings at a state -/
structure JI (p C dx F L A Wa : Addr) (H H' : Hp) (s : JS) : Prop where
  bu : ∀ b o, H b = some o → b ≠ p → H' b = some o
  hp : H' p = some (.ins C dx (jf F L A))
  hF : H' F = some (.lst (s.fi.map ov))
  hL : H' L = some (.lst (s.la.map ov))
  hA : H' A = some (.lst (s.ab.map ov))
  hW : St4 H' Wa s.st
  nF : H F = none
  nL : H L = none
  nA : H A = none
  nW : H Wa = none
  FL : F ≠ L
  FA : F ≠ A
  FW : F ≠ Wa
  LA : L ≠ A
  LW : L ≠ Wa
  AW : A ≠ Wa
section
variable {p C dx F L A Wa : Addr} {H H' H'' : Hp} {s : JS}
theorem St4.tk {wt : List W4} (h : St4 H' Wa wt) (t : Tk H' H'') (e : ∀ o, H' Wa = some o → H'' Wa = some o) : St4 H'' Wa wt :=
  let ⟨as, h1, h2⟩ := h
  ⟨as, e _ h1, Paired.mapP h2 fun _ _ z => t _ _ z⟩
theorem JI.same (h : JI p C dx F L A Wa H H' s) (e : Same H' H'') : JI p C dx F L A Wa H H'' s :=
  ⟨fun b o x n => e _ _ (h.bu b o x n), e _ _ h.hp, e _ _ h.hF, e _ _ h.hL, e _ _ h.hA, h.hW.tk e.tk fun o => e _ o, h.nF, h.nL, h.nA, h.nW, h.FL, h.FA, h.FW, h.LA, h.LW, h.AW⟩
theorem tk_lst {a : Addr} {xs ys : List V} (h : H' a = some (.lst xs)) : Tk H' (upd H' a (.lst ys)) := fun x zs e => by
  rw [upd_ne (ne_of e h (fun z => nomatch z))]
  exact e
theorem ne_ins {a : Addr} {xs : List V} {fs : List (Str × V)} (h : H' a = some (.lst xs)) (g : H' p = some (.ins C dx fs)) : p ≠ a := ne_of g h (fun z => nomatch z)
theorem JI.setF (h : JI p C dx F L A Wa H H' s) (fi : List (Option Nat)) : JI p C dx F L A Wa H (upd H' F (.lst (fi.map ov))) { s with fi := fi } := by
  refine ⟨fun b o x n => ?_, ?_, upd_same, ?_, ?_, h.hW.tk (tk_lst h.hF) fun o e => ?_, h.nF, h.nL, h.nA, h.nW, h.FL, h.FA, h.FW, h.LA, h.LW, h.AW⟩
  · rw [upd_ne (ne_of_none x h.nF)]
    exact h.bu b o x n
  · rw [upd_ne (ne_ins h.hF h.hp)]
    exact h.hp
  · rw [upd_ne h.FL.symm]
    exact h.hL
  · rw [upd_ne h.FA.symm]
    exact h.hA
  · rw [upd_ne h.FW.symm]
    exact e
theorem JI.setL (h : JI p C dx F L A Wa H H' s) (la : List (Option Nat)) : JI p C dx F L A Wa H (upd H' L (.lst (la.map ov))) { s with la := la } := by
  refine ⟨fun b o x n => ?_, ?_, ?_, upd_same, ?_, h.hW.tk (tk_lst h.hL) fun o e => ?_, h.nF, h.nL, h.nA, h.nW, h.FL, h.FA, h.FW, h.LA, h.LW, h.AW⟩
  · rw [upd_ne (ne_of_none x h.nL)]
    exact h.bu b o x n
  · rw [upd_ne (ne_ins h.hL h.hp)]
    exact h.hp
  · rw [upd_ne h.FL]
    exact h.hF
  · rw [upd_ne h.LA.symm]
    exact h.hA
  · rw [upd_ne h.LW.symm]
    exact e
theorem JI.setA (h : JI p C dx F L A Wa H H' s) (ab : List (Option Nat)) : JI p C dx F L A Wa H (upd H' A (.lst (ab.map ov))) { s with ab := ab } := by
  refine ⟨fun b o x n => ?_, ?_, ?_, ?_, upd_same, h.hW.tk (tk_lst h.hA) fun o e => ?_, h.nF, h.nL, h.nA, h.nW, h.FL, h.FA, h.FW, h.LA, h.LW, h.AW⟩
  · rw [upd_ne (ne_of_none x h.nA)]
    exact h.bu b o x n
  · rw [upd_ne (ne_ins h.hA h.hp)]
    exact h.hp
  · rw [upd_ne h.FA]
    exact h.hF
  · rw [upd_ne h.LA]
    exact h.hL
  · rw [upd_ne h.AW.symm]
    exact e
theorem JI.setW (h : JI p C dx F L A Wa H H' s) {as : List Addr} {st : List W4} (hs : Paired (fun (t : W4) a => H' a = some (.tup [.int t.1, .int t.2.1, .int t.2.2.1, ov t.2.2.2])) st as) : JI p C dx F L A Wa H (upd H' Wa (.lst (as.reverse.map V.ref))) { s with st := st } := by
  obtain ⟨bs, hb, _⟩ := id h.hW
  refine ⟨fun b o x n => ?_, ?_, ?_, ?_, ?_, ⟨as, upd_same, Paired.mapP hs fun _ _ z => tk_lst hb _ _ z⟩, h.nF, h.nL, h.nA, h.nW, h.FL, h.FA, h.FW, h.LA, h.LW, h.AW⟩
  · rw [upd_ne (ne_of_none x h.nW)]
    exact h.bu b o x n
  · rw [upd_ne (ne_ins hb h.hp)]
    exact h.hp
  · rw [upd_ne h.FW]
    exact h.hF
  · rw [upd_ne h.LW]
    exact h.hL
  · rw [upd_ne h.AW]
    exact h.hA
end
/-! ### what is decided of a shape -/
theorem sh_parts {n : Nat} {sh : List Nat} (h : shOk n sh = true) : sh.length = n ∧ jOk sh = true ∧ iOk sh = true ∧ ∀ d ∈ sh, d ≤ 100 := by
  unfold shOk at h
  simp only [Bool.and_eq_true, beq_iff_eq, List.all_eq_true, decide_eq_true_eq] at h
  exact ⟨h.1.1.1, h.1.1.2, h.1.2, h.2⟩
theorem j_parts {sh : List Nat} (h : jOk sh = true) {k : Nat} (hk : k ≤ 2 * sh.length + 1) : jIn sh (jAt sh k) = true ∧ ((jAt sh k).st.isEmpty = decide (k = 2 * sh.length + 1)) := by
  unfold jOk at h
  simp only [Bool.and_eq_true, List.all_eq_true, List.mem_range, beq_iff_eq] at h
  exact h.1.1 k (by omega)
theorem j_fin {sh : List Nat} (h : jOk sh = true) : (jAt sh (2 * sh.length + 1)).fi = (jFi sh).map some ∧ (jAt sh (2 * sh.length + 1)).la = (jLa sh).map some := by
  unfold jOk at h
  simp only [Bool.and_eq_true, List.all_eq_true, List.mem_range, beq_iff_eq] at h
  exact ⟨h.1.2, h.2⟩
theorem j_turn {sh : List Nat} {s : JS} {f l d : Nat} {a : Option Nat} {r : List W4} (h : jIn sh s = true) (e : s.st = (f, l, d, a) :: r) : s.fi.length = sh.length ∧ s.la.length = sh.length ∧ s.ab.length = sh.length ∧ r.length ≤ 19 ∧
    (f < l → l ≤ sh.length ∧ ∃ m, seamsOf sh f (l - f) d = [m] ∧ sh.getD m 0 = d ∧ m < sh.length) := by
  unfold jIn at h
  rw [e] at h
  simp only [Bool.and_eq_true, beq_iff_eq, decide_eq_true_eq, Bool.or_eq_true, Bool.not_eq_true', decide_eq_false_iff_not, List.length_cons] at h
  obtain ⟨⟨⟨⟨h1, h2⟩, h3⟩, h4⟩, h5⟩ := h
  refine ⟨h1, h2, h3, by omega, fun hfl => ?_⟩
  rcases h5 with h5 | h5
  · exact (h5 hfl).elim
  · exact ⟨h5.1.1.1, _, h5.1.1.2, h5.1.2, h5.2⟩
theorem j_step {sh : List Nat} {s : JS} {f l d m : Nat} {a : Option Nat} {r : List W4} (e : s.st = (f, l, d, a) :: r) (hfl : f < l) (hm : seamsOf sh f (l - f) d = [m]) :
    jNext sh s = ⟨s.fi.set m (some f), s.la.set m (some l), s.ab.set m a, (m + 1, l, d + 1, some m) :: (f, m, d + 1, some m) :: r⟩ := by
  unfold jNext
  rw [e]
  dsimp only
  rw [if_pos hfl, hm]
  rfl
theorem j_skip {sh : List Nat} {s : JS} {f l d : Nat} {a : Option Nat} {r : List W4} (e : s.st = (f, l, d, a) :: r) (hfl : ¬ f < l) : jNext sh s = ⟨s.fi, s.la, s.ab, r⟩ := by
  unfold jNext
  rw [e]
  dsimp only
  rw [if_neg hfl]
end Seam

set_option Elab.async false
set_option linter.all false
set_option maxRecDepth 100000
set_option maxHeartbeats 4000000
namespace Seam
open PySem PySem.Spec PyProof.Rows L2 Nd Rz
section
variable {P : Program} {w : World} {K : PySem.W.Frag} {mg : Str → Option Value} {base : Heap} {X : Cx}
/-- made joinings of a shape -/
def JInst (H : Hp) (p C : Addr) (sh : List Nat) : Prop := ∃ dx F L A, H p = some (.ins C dx (jf F L A)) ∧ H F = some (.lst ((il (jFi sh)).map V.int)) ∧ H L = some (.lst ((il (jLa sh)).map V.int))
theorem JInst.same {H H' : Hp} {p C : Addr} {sh : List Nat} (h : JInst H p C sh) (e : Same H H') : JInst H' p C sh :=
  let ⟨dx, F, L, A, h1, h2, h3⟩ := h
  ⟨dx, F, L, A, e _ _ h1, e _ _ h2, e _ _ h3⟩
/-- .. with new lists -/
def JNew (H H' : Hp) (p C : Addr) (sh : List Nat) : Prop := ∃ dx F L A, H' p = some (.ins C dx (jf F L A)) ∧ H' F = some (.lst ((il (jFi sh)).map V.int)) ∧ H' L = some (.lst ((il (jLa sh)).map V.int)) ∧ H F = none ∧ H L = none
def spJn (C : Addr) : Sp := fun vs H Q _ => ∃ (p dx q : Addr) (n : Nat) (sh : List Nat), vs = [.ref p, .ref q] ∧ H p = some (.ins C dx []) ∧ Ro H q (il sh) ∧ n ≤ 4 ∧ shOk n sh = true ∧
  ∀ H', (∀ b o, H b = some o → b ≠ p → H' b = some o) → JNew H H' p C sh → Q .non H'
abbrev N_jn : List Str := ["self", "shape", "waiting", "first", "last", "depth", "above", "seam", "seams"]
theorem sc_jn : FnScope N_jn ["self", "shape"] (defScope s_Joinings__init) := ⟨rfl, rfl, rfl, by decide +kernel, rfl, by decide +kernel, by decide +kernel⟩
theorem getD_get {l : List Nat} {i : Nat} (h : i < l.length) : ((il l).map V.int)[i]? = some (.int (l.getD i 0 : Nat)) := by
  unfold il
  rw [List.map_map, List.getElem?_map, List.getElem?_eq_getElem h, List.getD_eq_getElem?_getD, List.getElem?_eq_getElem h]
  rfl
/-- a field of a new instance takes a new list -/
theorem stage {H H' : Hp} {p C dx l F : Addr} {fs : List (Str × V)} {o1 : HO} {ys : List V} (fs' : List (Str × V)) (b : But p H H') (hp : H' p = some (.ins C dx fs)) (nl : H' l = none) (nF : upd H' l o1 F = none) :
    But p H (upd (upd (upd H' l o1) F (.lst ys)) p (.ins C dx fs')) ∧ upd (upd (upd H' l o1) F (.lst ys)) p (.ins C dx fs') p = some (.ins C dx fs') ∧ upd (upd (upd H' l o1) F (.lst ys)) p (.ins C dx fs') F = some (.lst ys) ∧
    (∀ a xs, H' a = some (.lst xs) → upd (upd (upd H' l o1) F (.lst ys)) p (.ins C dx fs') a = some (.lst xs)) ∧ H F = none ∧ (∀ a xs, H' a = some (.lst xs) → a ≠ F) := by
  have s1 : Same H' (upd H' l o1) := same_new nl
  have s2 : Same (upd H' l o1) (upd (upd H' l o1) F (.lst ys)) := same_new nF
  have nFp : F ≠ p := (ne_of_none (s1 _ _ hp) nF).symm
  refine ⟨fun x o e n => ?_, upd_same, ?_, fun a xs e => ?_, ?_, fun a xs e => ne_of_none (s1 _ _ e) nF⟩
  · rw [upd_ne n]
    exact s2 _ _ (s1 _ _ (b x o e n))
  · rw [upd_ne nFp]
    exact upd_same
  · rw [upd_ne (ne_of e hp (fun z => nomatch z))]
    exact s2 _ _ (s1 _ _ e)
  · rcases e : H F with _ | o
    · rfl
    · have := s1 _ _ (b F o e nFp)
      rw [nF] at this
      cases this
theorem but_tup {p C dx q : Addr} {H H' : Hp} {xs : List V} {fs : List (Str × V)} (b : But p H H') (hp : H p = some (.ins C dx fs)) (hq : H q = some (.tup xs)) : H' q = some (.tup xs) := b _ _ hq (ne_of hq hp (fun z => nomatch z))
theorem ok_jn {f C : Addr} {fd : FuncData} (F : FnP K "__init__" "Joinings.__init__" s_Joinings__init f fd) (T : JnT K C) (ml : mg "len" = none) (mr : mg "range" = none) : FnOk P w K mg base CX0 1 f fd ["self", "shape"] (spJn C) := by
  refine F.fn.ok sc_jn (fun vs H Q E h => ?_) (fun cdv Ar outer s H vs Q E hr h => ?_)
  · obtain ⟨p, dx, q, n, sh, rfl, _⟩ := h
    rfl
  · obtain ⟨p, dx, q, n, sh, rfl, hp, hq, hn, hsh, fin⟩ := h
    obtain ⟨lsh, jok, iok, dep⟩ := sh_parts hsh
    refine ⟨_, pss_cons (ps_fld (pv 0) (pe_op op_rep (pe_lst (pa_cons pe_non pa_nil)) (pe_callB call_len_seq (by rfl) ml PySem.boot_len (pa_cons (pv 1) pa_nil))) rfl)
      (pss_cons (ps_fld (pv 0) (pe_op op_rep (pe_lst (pa_cons pe_non pa_nil)) (pe_callB call_len_seq (by rfl) ml PySem.boot_len (pa_cons (pv 1) pa_nil))) rfl)
      (pss_cons (ps_fld (pv 0) (pe_op op_rep (pe_lst (pa_cons pe_non pa_nil)) (pe_callB call_len_seq (by rfl) ml PySem.boot_len (pa_cons (pv 1) pa_nil))) rfl)
      (pss_cons (ps_fld (pv 0) pe_bl rfl)
      (pss_cons (ps_set (i := 2) sc_jn.nd rfl (Or.inl rfl) (pe_lst (pa_cons (pe_tup (pa_cons pe_int (pa_cons (pe_callB call_len_seq (by rfl) ml PySem.boot_len (pa_cons (pv 1) pa_nil)) (pa_cons pe_int (pa_cons pe_non pa_nil))))) pa_nil)))
      (pss_one (ps_while PassesOwn.never (PW.pt (pw_and (pt_cmpR op_gt (pe_callB call_len_seq (by rfl) ml PySem.boot_len (pa_cons (pv 2) pa_nil)) pe_int (nomark _)) (pw_and1 (pt_val (pe_fld (pv 0) rfl)))))
        (pss_cons (ps_asg (pe_bm0 PySem.F.plainAttrs_list PySem.F.slot_list_pop PySem.F.type_list_pop mt_pop (pv 2)) (pg_tup rfl (pgs_cons (pg_name (i := 3) sc_jn.nd rfl (Or.inl rfl)) (pgs_cons (pg_name (i := 4) sc_jn.nd rfl (Or.inl rfl)) (pgs_cons (pg_name (i := 5) sc_jn.nd rfl (Or.inr rfl)) (pgs_cons (pg_name (i := 6) sc_jn.nd rfl (Or.inl rfl)) pgs_nil))))))
        (pss_one (ps_if (pt_cmpR op_lt (pv 3) (pv 4) (nomark _))
          (pss_cons (ps_setLc (i := 8) (own := [("seam", 7)]) (g := gName 7) rfl sc_jn.nd rfl rfl (sw_true rfl rfl rfl (by decide +kernel)) (pi_range2 rfl mr (pa_cons (pv 3) (pa_cons (pv 4) pa_nil))) (blkOk_by (N := N_jn) (sc := defScope s_Joinings__init) (by decide +kernel))
            (fun _ _ _ _ _ => pg_name (i := 7) sc_jn.nd rfl (Or.inl rfl)) (fun _ _ _ _ _ => pts_one (pt_cmpR op_le (pe_ix (r := rIxT K) ix_tup (pv 1) (pv 7) (fun _ _ => rfl)) (pv 5) (nomark _))) (fun _ _ _ _ _ => pv 7))
          (pss_one (ps_if (PW.pt (pw_or (pt_cmpR op_ne (pe_callB call_len_seq (by rfl) ml PySem.boot_len (pa_cons (pv 8) pa_nil)) pe_int (nomark _)) (pw_or1 (pt_cmpR op_ne (pe_ix ix_tup (pv 1) (pe_ix ix_list (pv 8) pe_int (fun _ _ => rfl)) (fun _ _ => rfl)) (pv 5) (nomark _))))) (pss_one ps_never)
            (pss_cons (ps_set (i := 7) sc_jn.nd rfl (Or.inl rfl) (pe_ix ix_list (pv 8) pe_int (fun _ _ => rfl)))
            (pss_cons (ps_asg (pv 3) (pg_sub (pe_fld (pv 0) rfl) (pv 7) set_list))
            (pss_cons (ps_asg (pv 4) (pg_sub (pe_fld (pv 0) rfl) (pv 7) set_list))
            (pss_cons (ps_asg (pv 6) (pg_sub (pe_fld (pv 0) rfl) (pv 7) set_list))
            (pss_cons (ps_expr (pe_bm PySem.F.plainAttrs_list PySem.F.slot_list_append PySem.F.type_list_append mt_append (pv 2) (pa_cons (pe_tup (pa_cons (pv 3) (pa_cons (pv 7) (pa_cons (pe_op op_add (pv 5) pe_int) (pa_cons (pv 7) pa_nil))))) pa_nil)))
            (pss_one (ps_expr (pe_bm PySem.F.plainAttrs_list PySem.F.slot_list_append PySem.F.type_list_append mt_append (pv 2) (pa_cons (pe_tup (pa_cons (pe_op op_add (pv 7) pe_int) (pa_cons (pv 4) (pa_cons (pe_op op_add (pv 5) pe_int) (pa_cons (pv 7) pa_nil))))) pa_nil)))))))))))) pss_nil))))))))), ?_⟩
    have ek : (((il sh).map V.int).length : Int) = (sh.length : Int) := by rw [List.length_map, il_len]
    have es : ((((il sh).map V.int).length : Nat) : Int).toNat = sh.length := by rw [List.length_map, il_len, Int.toNat_natCast]
    have zk : [V.non].length * ((((il sh).map V.int).length : Nat) : Int).toNat ≤ sizeLine := by
      rw [es]
      show 1 * sh.length ≤ sizeLine
      exact Nat.le_of_lt (small1000' (by omega))
    refine ⟨(by show 1 ≤ sizeLine; decide), fun l1 nl1 => ?_⟩
    refine ⟨_, rfl, q, _, rfl, .inr (SqT.of (same_new nl1 _ _ hq)), l1, _, [V.non], rfl, rfl, upd_same, by omega, by omega, zk, fun F nF => ?_⟩
    rw [es, rep_non]
    refine ⟨_, rfl, p, C, dx, _, rfl, same_new nF _ _ (same_new nl1 _ _ hp), T.cl, T.n1, (by show 0 < 1000; decide), ?_⟩
    obtain ⟨b1, p1, hF1, k1, nFH, -⟩ := stage (ys := (List.replicate sh.length (none : Option Nat)).map ov) (jf1 F) (But.refl p H) hp nl1 nF
    show (tSeq _ _ : TS) _ _ (upd (upd (upd H l1 (.lst [V.non])) F (.lst ((List.replicate sh.length (none : Option Nat)).map ov))) p (.ins C dx (jf1 F)))
    generalize upd (upd (upd H l1 (.lst [V.non])) F (.lst ((List.replicate sh.length (none : Option Nat)).map ov))) p (.ins C dx (jf1 F)) = H1 at *
    have hq1 := but_tup b1 hp hq
    refine ⟨(by show 1 ≤ sizeLine; decide), fun l2 nl2 => ?_⟩
    refine ⟨_, rfl, q, _, rfl, .inr (SqT.of (same_new nl2 _ _ hq1)), l2, _, [V.non], rfl, rfl, upd_same, by omega, by omega, zk, fun L nL => ?_⟩
    rw [es, rep_non]
    refine ⟨_, rfl, p, C, dx, _, rfl, same_new nL _ _ (same_new nl2 _ _ p1), T.cl, T.n2, Nat.lt_of_le_of_lt (jf_len1 F) (by decide), ?_⟩
    obtain ⟨b2, p2, hL2, k2, nLH, ne2⟩ := stage (ys := (List.replicate sh.length (none : Option Nat)).map ov) (jf2 F L) b1 p1 nl2 nL
    have hF2 := k2 _ _ hF1
    have FL := ne2 _ _ hF1
    show (tSeq _ _ : TS) _ _ (upd (upd (upd H1 l2 (.lst [V.non])) L (.lst ((List.replicate sh.length (none : Option Nat)).map ov))) p (.ins C dx (jf2 F L)))
    generalize upd (upd (upd H1 l2 (.lst [V.non])) L (.lst ((List.replicate sh.length (none : Option Nat)).map ov))) p (.ins C dx (jf2 F L)) = H2 at *
    have hq2 := but_tup b2 hp hq
    refine ⟨(by show 1 ≤ sizeLine; decide), fun l3 nl3 => ?_⟩
    refine ⟨_, rfl, q, _, rfl, .inr (SqT.of (same_new nl3 _ _ hq2)), l3, _, [V.non], rfl, rfl, upd_same, by omega, by omega, zk, fun A nA => ?_⟩
    rw [es, rep_non]
    refine ⟨_, rfl, p, C, dx, _, rfl, same_new nA _ _ (same_new nl3 _ _ p2), T.cl, T.n3, Nat.lt_of_le_of_lt (jf_len2 F L) (by decide), ?_⟩
    obtain ⟨b3, p3, hA3, k3, nAH, ne3⟩ := stage (ys := (List.replicate sh.length (none : Option Nat)).map ov) (jf3 F L A) b2 p2 nl3 nA
    have hF3 := k3 _ _ hF2
    have hL3 := k3 _ _ hL2
    have FA := ne3 _ _ hF2
    have LA := ne3 _ _ hL2
    show (tSeq _ _ : TS) _ _ (upd (upd (upd H2 l3 (.lst [V.non])) A (.lst ((List.replicate sh.length (none : Option Nat)).map ov))) p (.ins C dx (jf3 F L A)))
    generalize upd (upd (upd H2 l3 (.lst [V.non])) A (.lst ((List.replicate sh.length (none : Option Nat)).map ov))) p (.ins C dx (jf3 F L A)) = H3 at *
    refine ⟨_, rfl, p, C, dx, _, rfl, p3, T.cl, T.n4, Nat.lt_of_le_of_lt (jf_len3 F L A) (by decide), ?_⟩
    have kk : ∀ a xs, H3 a = some (.lst xs) → upd H3 p (.ins C dx (jf F L A)) a = some (.lst xs) := fun a xs e => by
      rw [upd_ne (ne_of e p3 (fun z => nomatch z))]
      exact e
    have b4 : But p H (upd H3 p (.ins C dx (jf F L A))) := fun x o e n => by
      rw [upd_ne n]
      exact b3 x o e n
    have p4 : upd H3 p (.ins C dx (jf F L A)) p = some (.ins C dx (jf F L A)) := upd_same
    have hF4 := kk _ _ hF3
    have hL4 := kk _ _ hL3
    have hA4 := kk _ _ hA3
    show (tSeq _ _ : TS) _ _ (upd H3 p (.ins C dx (jf F L A)))
    generalize upd H3 p (.ins C dx (jf F L A)) = H4 at *
    have hq4 := but_tup b4 hp hq
    refine ⟨_, rfl, q, _, rfl, .inr (SqT.of hq4), (by show 4 ≤ sizeLine; decide), fun t0 nt => ⟨(by show 1 ≤ sizeLine; decide), fun Wa nW => ?_⟩⟩
    have yt := same_new (o := .tup [V.int 0, V.int (((il sh).map V.int).length : Nat), V.int 0, V.non]) nt
    have yW := same_new (o := .lst [V.ref t0]) nW
    have nWH : H Wa = none := by
      rcases e : H Wa with _ | o
      · rfl
      · by_cases n : Wa = p
        · subst n
          have := yt _ _ p4
          rw [nW] at this
          cases this
        · have := yt _ _ (b4 Wa o e n)
          rw [nW] at this
          cases this
    have I0 : JI p C dx F L A Wa H (upd (upd H4 t0 (.tup [V.int 0, V.int (((il sh).map V.int).length : Nat), V.int 0, V.non])) Wa (.lst [V.ref t0])) (jAt sh 0) := by
      refine ⟨fun x o e n => yW _ _ (yt _ _ (b4 x o e n)), yW _ _ (yt _ _ p4), yW _ _ (yt _ _ hF4), yW _ _ (yt _ _ hL4), yW _ _ (yt _ _ hA4), ⟨[t0], upd_same, .cons ?_ .nil⟩, nFH, nLH, nAH, nWH, FL, FA, ne_of_none (yt _ _ hF4) nW, LA, ne_of_none (yt _ _ hL4) nW, ne_of_none (yt _ _ hA4) nW⟩
      rw [yW _ _ (upd_same : upd H4 t0 (.tup [V.int 0, V.int (((il sh).map V.int).length : Nat), V.int 0, V.non]) t0 = _), ek]
      rfl
    generalize upd (upd H4 t0 (.tup [V.int 0, V.int (((il sh).map V.int).length : Nat), V.int 0, V.non])) Wa (.lst [V.ref t0]) = H5 at *
    refine ⟨fun m σ H' => ∃ k x3 x4 x5 x6 x7 x8, m + k = 2 * sh.length + 1 ∧ σ = [some (.ref p), some (.ref q), some (.ref Wa), x3, x4, x5, x6, x7, x8] ∧ JI p C dx F L A Wa H H' (jAt sh k), ⟨2 * sh.length + 1, 0, none, none, none, none, none, none, rfl, rfl, I0⟩, fun m σ H6 z => ?_⟩
    obtain ⟨k, x3, x4, x5, x6, x7, x8, hk, rfl, I⟩ := z
    obtain ⟨g1, g2⟩ := j_parts jok (k := k) (by omega)
    obtain ⟨as, hWa, hP⟩ := id I.hW
    refine ⟨_, rfl, Wa, _, rfl, .inl (SqL.of hWa), _, _, rfl, rfl, _, rfl, ?_⟩
    rcases hst : (jAt sh k).st with _ | ⟨⟨f, l, d, a⟩, r⟩
    · rw [hst] at hP g2
      cases hP
      have hk2 : k = 2 * sh.length + 1 := of_decide_eq_true g2.symm
      subst hk2
      obtain ⟨f1, f2⟩ := j_fin jok
      refine iteF (iteF (fin H6 I.bu ⟨dx, F, L, A, I.hp, ?_, ?_, I.nF, I.nL⟩))
      · rw [I.hF, f1, ov_some]
      · rw [I.hL, f2, ov_some]
    rw [hst] at hP g2
    have hk2 : ¬ k = 2 * sh.length + 1 := of_decide_eq_false g2.symm
    cases hP with
    | @cons _ a' _ as ha hr =>
    rw [show decide ((0 : Int) < (((a' :: as).reverse.map V.ref).length : Int)) = true from decide_eq_true (by rw [List.length_map, List.length_reverse, List.length_cons]; omega)]
    refine iteT ⟨_, rfl, p, C, dx, _, _, rfl, I.hp, T.cl, T.n4, jf_fair _ _ _, true, rfl, iteT ⟨fun σ' H' => ∃ x3 x4 x5 x6 x7 x8, σ' = [some (.ref p), some (.ref q), some (.ref Wa), x3, x4, x5, x6, x7, x8] ∧ JI p C dx F L A Wa H H' (jAt sh (k + 1)),
      fun σ' H' z => ⟨m - 1, by omega, k + 1, let ⟨x3, x4, x5, x6, x7, x8, z⟩ := z; ⟨x3, x4, x5, x6, x7, x8, by omega, z⟩⟩, ?_⟩⟩
    obtain ⟨lf, ll, la, lr, gt⟩ := j_turn g1 hst
    have rv : ((a' :: as).reverse.map V.ref) = as.reverse.map V.ref ++ [V.ref a'] := by rw [List.reverse_cons, List.map_append]; rfl
    rw [rv] at hWa
    refine ⟨_, rfl, .inl ⟨rfl, _, SqL.of hWa⟩, Wa, _, V.ref a', rfl, rfl, hWa, ?_, ?_⟩
    · rw [List.length_append, List.length_singleton, Nat.add_sub_cancel, List.getElem?_append_right (Nat.le_refl _), Nat.sub_self]
      rfl
    rw [List.dropLast_concat]
    have I2 := I.setW hr
    have ha2 := tk_lst (ys := as.reverse.map V.ref) hWa _ _ ha
    have hW2 : upd H6 Wa (.lst (as.reverse.map V.ref)) Wa = some (.lst (as.reverse.map V.ref)) := upd_same
    have hr2 := Paired.mapP hr fun _ _ z => tk_lst (ys := as.reverse.map V.ref) hWa _ _ z
    generalize upd H6 Wa (.lst (as.reverse.map V.ref)) = H7 at *
    refine ⟨a', _, rfl, SqT.of ha2, rfl, _, _, rfl, _, _, rfl, _, _, rfl, _, _, rfl, rfl, ?_⟩
    refine ⟨_, rfl, _, rfl, _, _, rfl, rfl, _, rfl, ?_⟩
    by_cases hfl : ¬ f < l
    · rw [show decide ((f : Int) < (l : Int)) = false from decide_eq_false (by omega)]
      refine iteF ⟨_, _, _, _, _, _, rfl, ?_⟩
      show JI p C dx F L A Wa H H7 (jNext sh (jAt sh k))
      rw [j_skip hst hfl]
      exact I2
    have hfl' : f < l := Decidable.not_not.mp hfl
    rw [show decide ((f : Int) < (l : Int)) = true from decide_eq_true (by omega)]
    obtain ⟨hl, sm, hsm, hmd, hml⟩ := gt hfl'
    have en : ((l : Int) - (f : Int)).toNat = l - f := by omega
    have hq7 := but_tup (show But p H H7 from I2.bu) hp hq
    refine iteT ⟨_, rfl, _, rfl, f, l, rfl, ⟨by omega, by omega, by omega, by omega⟩, fun D hD => lc_range (lo := f) (n := ((l : Int) - (f : Int)).toNat) (fun i H' => Same H7 H' ∧ H' D = some (.lst ((il (seamsOf sh f i d)).map V.int)))
      ⟨same_new hD, upd_same⟩ (fun i H' hi z => ?_) (fun H8 z => ?_)⟩
    · obtain ⟨z1, z2⟩ := z
      have hat : atI ((il sh).map V.int) ((f : Int) + (i : Int)) = some (.int (sh.getD (f + i) 0 : Nat)) := by
        rw [← Int.natCast_add]
        exact atI_nat (j := f + i) (getD_get (by omega))
      refine ⟨rfl, _, rfl, _, rfl, q, _, _, _, rfl, rfl, SqT.of (z1 _ _ hq7), hat, _, rfl, _, _, rfl, rfl, _, rfl, ?_⟩
      have ss := seams_succ sh f i d
      by_cases c : sh.getD (f + i) 0 ≤ d
      · rw [if_pos c] at ss
        rw [show decide (((sh.getD (f + i) 0 : Nat) : Int) ≤ (d : Int)) = true from decide_eq_true (by omega)]
        refine iteT ⟨_, rfl, _, z2, ?_, fun b o e => ?_, ?_⟩
        · rw [List.length_map, il_len]
          have := seams_len sh f i d
          exact small1000' (by omega)
        · rw [upd_ne (ne_of_none e hD)]
          exact z1 _ _ e
        · rw [upd_same, ss]
          unfold il
          rw [List.map_append, List.map_append]
          rfl
      · rw [if_neg c] at ss
        rw [show decide (((sh.getD (f + i) 0 : Nat) : Int) ≤ (d : Int)) = false from decide_eq_false (by omega)]
        refine iteF ⟨z1, ?_⟩
        rw [ss]
        exact z2
    obtain ⟨s8, hD8⟩ := z
    rw [en, hsm] at hD8
    have I3 := I2.same s8
    have hq8 := s8 _ _ hq7
    have hW3 := s8 _ _ hW2
    have hr3 := Paired.mapP hr2 fun _ _ z => s8 _ _ z
    refine ⟨_, rfl, D, _, rfl, .inl (SqL.of hD8), rfl, false, rfl, iteF ?_⟩
    refine ⟨_, rfl, _, rfl, D, _, _, _, rfl, rfl, SqL.of hD8, atI_nat (j := 0) rfl, q, _, _, _, rfl, rfl, SqT.of hq8, atI_nat (j := sm) (getD_get hml), _, rfl, rfl, _, rfl, ?_⟩
    rw [hmd, show decide (V.int ((d : Nat) : Int) = V.int ((d : Nat) : Int)) = true from decide_eq_true rfl]
    refine iteF ?_
    refine ⟨_, rfl, D, _, _, _, rfl, rfl, SqL.of hD8, atI_nat (j := 0) rfl, ?_⟩
    refine ⟨_, rfl, _, rfl, p, C, dx, _, _, rfl, I3.hp, T.cl, T.n1, jf_first _ _ _, _, rfl, F, _, _, sm, rfl, rfl, I3.hF, ixN_nat (by rw [List.length_map]; show sm < (jAt sh k).fi.length; omega), ?_⟩
    rw [show (((jAt sh k).fi.map ov).set sm (.int (f : Nat))) = (((jAt sh k).fi.set sm (some f)).map ov) from (ov_set _ _ (some f)).symm]
    have I4 := I3.setF ((jAt sh k).fi.set sm (some f))
    have hW4 : upd H8 F (.lst (((jAt sh k).fi.set sm (some f)).map ov)) Wa = some (.lst (as.reverse.map V.ref)) := by rw [upd_ne I3.FW.symm]; exact hW3
    have hr4 := Paired.mapP hr3 fun _ _ z => tk_lst (ys := ((jAt sh k).fi.set sm (some f)).map ov) I3.hF _ _ z
    show (tSeq _ _ : TS) _ _ (upd H8 F (.lst (((jAt sh k).fi.set sm (some f)).map ov)))
    generalize upd H8 F (.lst (((jAt sh k).fi.set sm (some f)).map ov)) = H9 at *
    refine ⟨_, rfl, _, rfl, p, C, dx, _, _, rfl, I4.hp, T.cl, T.n2, jf_last _ _ _, _, rfl, L, _, _, sm, rfl, rfl, I4.hL, ixN_nat (by rw [List.length_map]; show sm < (jAt sh k).la.length; omega), ?_⟩
    rw [show (((jAt sh k).la.map ov).set sm (.int (l : Nat))) = (((jAt sh k).la.set sm (some l)).map ov) from (ov_set _ _ (some l)).symm]
    have I5 := I4.setL ((jAt sh k).la.set sm (some l))
    have hW5 : upd H9 L (.lst (((jAt sh k).la.set sm (some l)).map ov)) Wa = some (.lst (as.reverse.map V.ref)) := by rw [upd_ne I4.LW.symm]; exact hW4
    have hr5 := Paired.mapP hr4 fun _ _ z => tk_lst (ys := ((jAt sh k).la.set sm (some l)).map ov) I4.hL _ _ z
    show (tSeq _ _ : TS) _ _ (upd H9 L (.lst (((jAt sh k).la.set sm (some l)).map ov)))
    generalize upd H9 L (.lst (((jAt sh k).la.set sm (some l)).map ov)) = HA at *
    refine ⟨_, rfl, _, rfl, p, C, dx, _, _, rfl, I5.hp, T.cl, T.n3, jf_above _ _ _, _, rfl, A, _, _, sm, rfl, rfl, I5.hA, ixN_nat (by rw [List.length_map]; show sm < (jAt sh k).ab.length; omega), ?_⟩
    rw [show (((jAt sh k).ab.map ov).set sm (ov a)) = (((jAt sh k).ab.set sm a).map ov) from (ov_set _ _ a).symm]
    have I6 := I5.setA ((jAt sh k).ab.set sm a)
    have hW6 : upd HA A (.lst (((jAt sh k).ab.set sm a).map ov)) Wa = some (.lst (as.reverse.map V.ref)) := by rw [upd_ne I5.AW.symm]; exact hW5
    have hr6 := Paired.mapP hr5 fun _ _ z => tk_lst (ys := ((jAt sh k).ab.set sm a).map ov) I5.hA _ _ z
    show (tSeq _ _ : TS) _ _ (upd HA A (.lst (((jAt sh k).ab.set sm a).map ov)))
    generalize upd HA A (.lst (((jAt sh k).ab.set sm a).map ov)) = HB at *
    have lenr : r.length = as.length := Paired.length hr
    refine ⟨_, rfl, .inl ⟨rfl, _, SqL.of hW6⟩, _, rfl, _, rfl, _, rfl, _, _, rfl, rfl, _, rfl, (by show 4 ≤ sizeLine; decide), fun t1 ht1 => ?_⟩
    have y1 := same_new (o := .tup [V.int f, V.int sm, V.int ((d : Int) + 1), V.int sm]) ht1
    have v1 : upd HB t1 (.tup [V.int f, V.int sm, V.int ((d : Int) + 1), V.int sm]) t1 = some (.tup [V.int f, V.int sm, V.int ((d + 1 : Nat) : Int), ov (some sm)]) := by
      rw [upd_same, Int.natCast_succ]
      rfl
    have I7 := I6.same y1
    have hW7 := y1 _ _ hW6
    have hr7 := Paired.mapP hr6 fun _ _ z => y1 _ _ z
    refine ⟨Wa, _, _, rfl, rfl, hW7, ?_, ?_⟩
    · rw [List.length_map, List.length_reverse]
      exact small1000' (by omega)
    rw [show (as.reverse.map V.ref ++ [V.ref t1]) = ((t1 :: as).reverse.map V.ref) by rw [List.reverse_cons, List.map_append]; rfl]
    have I8 := I7.setW (as := t1 :: as) (st := (f, sm, d + 1, some sm) :: r) (.cons v1 hr7)
    have hW8 : upd (upd HB t1 (.tup [V.int f, V.int sm, V.int ((d : Int) + 1), V.int sm])) Wa (.lst ((t1 :: as).reverse.map V.ref)) Wa = some (.lst ((t1 :: as).reverse.map V.ref)) := upd_same
    have hr8 := Paired.mapP (show Paired (fun (t : W4) a => upd HB t1 (.tup [V.int f, V.int sm, V.int ((d : Int) + 1), V.int sm]) a = some (.tup [.int t.1, .int t.2.1, .int t.2.2.1, ov t.2.2.2])) ((f, sm, d + 1, some sm) :: r) (t1 :: as) from .cons v1 hr7) fun _ _ z => tk_lst (ys := (t1 :: as).reverse.map V.ref) hW7 _ _ z
    generalize upd (upd HB t1 (.tup [V.int f, V.int sm, V.int ((d : Int) + 1), V.int sm])) Wa (.lst ((t1 :: as).reverse.map V.ref)) = HC at *
    refine ⟨_, rfl, .inl ⟨rfl, _, SqL.of hW8⟩, _, rfl, _, _, rfl, rfl, _, rfl, _, rfl, _, _, rfl, rfl, _, rfl, (by show 4 ≤ sizeLine; decide), fun t2 ht2 => ?_⟩
    have y2 := same_new (o := .tup [V.int ((sm : Int) + 1), V.int l, V.int ((d : Int) + 1), V.int sm]) ht2
    have v2 : upd HC t2 (.tup [V.int ((sm : Int) + 1), V.int l, V.int ((d : Int) + 1), V.int sm]) t2 = some (.tup [V.int ((sm + 1 : Nat) : Int), V.int l, V.int ((d + 1 : Nat) : Int), ov (some sm)]) := by
      rw [upd_same, Int.natCast_succ, Int.natCast_succ]
      rfl
    have I9 := I8.same y2
    have hW9 := y2 _ _ hW8
    have hr9 := Paired.mapP hr8 fun _ _ z => y2 _ _ z
    refine ⟨Wa, _, _, rfl, rfl, hW9, ?_, ?_⟩
    · rw [List.length_map, List.length_reverse, List.length_cons]
      exact small1000' (by omega)
    rw [show ((t1 :: as).reverse.map V.ref ++ [V.ref t2]) = ((t2 :: t1 :: as).reverse.map V.ref) by rw [List.reverse_cons (a := t2), List.map_append]; rfl]
    refine ⟨_, _, _, _, _, _, rfl, ?_⟩
    show JI p C dx F L A Wa H _ (jNext sh (jAt sh k))
    rw [j_step hst hfl' hsm]
    exact I9.setW (as := t2 :: t1 :: as) (st := (sm + 1, l, d + 1, some sm) :: (f, sm, d + 1, some sm) :: r) (.cons v2 hr9)
end
end Seam

set_option Elab.async false
set_option linter.all false
set_option maxRecDepth 100000
set_option maxHeartbeats 4000000
namespace Seam
open PySem PySem.Spec PyProof.Rows L2 Nd Rz
section
variable {P : Program} {w : World} {K : PySem.W.Frag} {mg : Str → Option Value} {base : Heap} {X : Cx}
/-- of a good shape -/
def spFair : Sp := fun vs H Q _ => ∃ (q : Addr) (n : Nat) (sh : List Nat), vs = [.ref q] ∧ Ro H q (il sh) ∧ n ≤ 4 ∧ shOk n sh = true ∧ ∀ H', Same H H' → Q (.bl true) H'
theorem made_same {H H' : Hp} {x dx C : Addr} (nx : H x = none) (ndx : H dx = none) (nex : dx ≠ x) (b : ∀ b o, upd (upd H dx (.own x)) x (.ins C dx []) b = some o → b ≠ x → H' b = some o) : Same H H' := fun c o e => by
  have sx : Same H (upd (upd H dx (.own x)) x (.ins C dx [])) := (same_new ndx).upd (by rw [upd_ne (Ne.symm nex)]; exact nx)
  exact b _ _ (sx _ _ e) (ne_of_none e nx)
theorem sc_fair : FnScope ["thing", "depth"] ["thing"] (defScope s_is_fair) := ⟨rfl, rfl, rfl, by decide +kernel, rfl, by decide +kernel, by decide +kernel⟩
theorem ok_fair {f C : Addr} {fd : FuncData} (F : FnP K "is_fair" "is_fair" s_is_fair f fd) (T : JnT K C) (mk : Mkr P w K mg base C 1 "Joinings" ["self", "shape"] (spJn C)) (ci : Cal P w K mg base CX0 1 "is_integer" ["thing"] spInt)
    (mi : mg "isinstance" = none) (mt : mg "tuple" = none) (ma : mg "all" = none) : FnOk P w K mg base CX0 3 f fd ["thing"] spFair := by
  obtain ⟨f1, fd1, G1, M1, g1, bn1⟩ := mk.ex
  obtain ⟨f2, fd2, G2, g2, kp2, bn2⟩ := ci.ex
  refine F.fn.ok sc_fair (fun vs H Q E h => ?_) (fun cdv Ar outer s H vs Q E hr h => ?_)
  · obtain ⟨q, n, sh, rfl, _⟩ := h
    rfl
  · obtain ⟨q, n, sh, rfl, hq, hn, hsh, fin⟩ := h
    obtain ⟨lsh, _, _, _⟩ := sh_parts hsh
    refine ⟨_, pss_cons (ps_if (PW.pt (pw_or (pt_not (pt_val (pe_callB call_isi (by rfl) mi (by decide +kernel) (pa_cons (pv 0) (pa_cons (pe_bltn (v := .ty "tuple") (by rfl) mt (by decide +kernel) rfl) pa_nil)))))
        (pw_or1 (pt_not (pt_val (pe_callB (cr_all rfl) (by rfl) ma (by decide +kernel) (pa_cons (pe_lc (own := [("depth", 1)]) (g := gName 1) (tt := tYes) rfl sc_fair.nd (pi_tup (pv 0)) (blkOk_by (N := ["thing", "depth"]) (sc := defScope s_is_fair) (by decide +kernel))
          (fun _ _ _ _ _ => pg_name (i := 1) sc_fair.nd rfl (Or.inl rfl)) (fun _ _ _ _ _ => pts_nil) (fun _ _ _ _ _ => pe_and (pe_call G2 (hr.mono (by decide)) (by rfl) g2 kp2 bn2 .nil pass0 (pa_cons (pv 1) pa_nil)) (pe_one (pe_cmpR op_ge (pv 1) pe_int (nomark _))))) pa_nil)))))))
        (pss_one (ps_ret pe_bl)) pss_nil)
      (pss_one (ps_ret (pe_fld (pe_make M1 G1 hr (by rfl) g1 bn1 .nil pass0 (pa_cons (pv 0) pa_nil)) rfl))), ?_⟩
    refine ⟨_, rfl, _, _, _, _, true, rfl, .ty "tuple", .base (.tup hq), kit_ty (a := "tuple") (b := "tuple") (by decide +kernel), true, rfl, iteF ?_⟩
    refine ⟨_, rfl, q, rfl, ⟨_, SqT.of hq⟩, fun D hD => lc_tup (K := K) (a := q) (xs := (il sh).map V.int) (fun i H' => Same H H' ∧ H' D = some (.lst ((List.replicate i true).map V.bl)))
      ⟨same_new hD, upd_same⟩ (fun i H' _ z => SqT.of (z.1 _ _ hq)) (fun i x H' hi z => ?_) (fun H' z => ?_)⟩
    · obtain ⟨z1, z2⟩ := z
      have hil : i < sh.length := by
        have h1 := (List.getElem?_eq_some_iff.mp hi).1
        rw [List.length_map, il_len] at h1
        exact h1
      rw [getD_get hil] at hi
      cases hi
      refine ⟨rfl, _, rfl, _, rfl, true, rfl, iteT ⟨_, rfl, _, _, rfl, rfl, ?_⟩⟩
      rw [show ((fun i j => V.bl (decide (j ≤ i))) ((sh.getD i 0 : Nat) : Int) (0 : Int)) = V.bl true from congrArg V.bl (decide_eq_true (by omega))]
      refine ⟨_, z2, by rw [List.length_map, List.length_replicate]; exact small1000' (by omega), fun b o e => ?_, ?_⟩
      · rw [upd_ne (ne_of_none e hD)]
        exact z1 _ _ e
      · rw [upd_same, List.replicate_succ', List.map_append]
        rfl
    · obtain ⟨z1, z2⟩ := z
      refine ⟨D, _, rfl, SqL.of z2, ?_⟩
      rw [all_true]
      refine ⟨true, rfl, iteF ?_⟩
      refine ⟨_, rfl, fun x dx nx ndx nex => ?_⟩
      have sx : Same H' (upd (upd H' dx (.own x)) x (.ins C dx [])) := (same_new ndx).upd (by rw [upd_ne (Ne.symm nex)]; exact nx)
      refine ⟨x, dx, q, n, sh, rfl, upd_same, sx _ _ (z1 _ _ hq), hn, hsh, fun H2 b2 j2 => ⟨rfl, ?_⟩⟩
      obtain ⟨dx', F', L', A', j3, _⟩ := j2
      exact ⟨x, C, dx', _, _, rfl, j3, T.cl, T.n4, jf_fair _ _ _, fin H2 (z1.trans (made_same nx ndx nex b2))⟩
theorem sc_isshape : FnScope ["thing"] ["thing"] (defScope s_is_shape) := ⟨rfl, rfl, rfl, by decide +kernel, rfl, by decide +kernel, by decide +kernel⟩
theorem ok_isshape {f : Addr} {fd : FuncData} (F : FnP K "is_shape" "is_shape" s_is_shape f fd) (c : Cal P w K mg base CX0 3 "is_fair" ["thing"] spFair)
    (mi : mg "isinstance" = none) (mt : mg "tuple" = none) (ml : mg "len" = none) (gM : GInt mg "MOST_WORDS" 40) : FnOk P w K mg base CX0 4 f fd ["thing"] spFair := by
  obtain ⟨f1, fd1, G1, g1, kp1, bn1⟩ := c.ex
  obtain ⟨tM, gM⟩ := gM
  refine F.fn.ok sc_isshape (fun vs H Q E h => ?_) (fun cdv Ar outer s H vs Q E hr h => ?_)
  · obtain ⟨q, n, sh, rfl, _⟩ := h
    rfl
  · obtain ⟨q, n, sh, rfl, hq, hn, hsh, fin⟩ := h
    obtain ⟨lsh, _, _, _⟩ := sh_parts hsh
    refine ⟨_, pss_one (ps_ret (pe_and (pe_callB call_isi (by rfl) mi (by decide +kernel) (pa_cons (pv 0) (pa_cons (pe_bltn (v := .ty "tuple") (by rfl) mt (by decide +kernel) rfl) pa_nil)))
      (pe_and (pe_cmpR op_lt (pe_callB call_len_seq (by rfl) ml PySem.boot_len (pa_cons (pv 0) pa_nil)) (pe_glob (v := .int 40) rfl gM ⟨_, rfl⟩) (nomark _)) (pe_one (pe_call G1 hr (by rfl) g1 kp1 bn1 .nil pass0 (pa_cons (pv 0) pa_nil)))))), ?_⟩
    refine ⟨_, rfl, _, _, _, _, true, rfl, .ty "tuple", .base (.tup hq), kit_ty (a := "tuple") (b := "tuple") (by decide +kernel), true, rfl, iteT ?_⟩
    refine ⟨_, rfl, q, _, rfl, .inr (SqT.of hq), _, _, rfl, rfl, _, rfl, ?_⟩
    rw [decide_eq_true (by rw [List.length_map, il_len]; omega)]
    exact iteT ⟨_, rfl, q, n, sh, rfl, hq, hn, hsh, fin⟩
def spShapeFor : Sp := fun vs H Q _ => ∃ (q : Addr) (n : Nat) (sh : List Nat), vs = [.int ((n : Int) + 1), .ref q] ∧ Ro H q (il sh) ∧ n ≤ 4 ∧ shOk n sh = true ∧ ∀ H', Same H H' → Q .non H'
theorem sc_shapefor : FnScope ["words", "thing"] ["words", "thing"] (defScope s_check_shape_for) := ⟨rfl, rfl, rfl, by decide +kernel, rfl, by decide +kernel, by decide +kernel⟩
theorem ok_shapefor {f : Addr} {fd : FuncData} (F : FnP K "check_shape_for" "check_shape_for" s_check_shape_for f fd) (c : Cal P w K mg base CX0 4 "is_shape" ["thing"] spFair) (ml : mg "len" = none) : FnOk P w K mg base CX0 5 f fd ["words", "thing"] spShapeFor := by
  obtain ⟨f1, fd1, G1, g1, kp1, bn1⟩ := c.ex
  refine F.fn.ok sc_shapefor (fun vs H Q E h => ?_) (fun cdv Ar outer s H vs Q E hr h => ?_)
  · obtain ⟨q, n, sh, rfl, _⟩ := h
    rfl
  · obtain ⟨q, n, sh, rfl, hq, hn, hsh, fin⟩ := h
    obtain ⟨lsh, _, _, _⟩ := sh_parts hsh
    refine ⟨_, pss_one (ps_if (PW.pt (pw_or (pt_not (pt_val (pe_call G1 hr (by rfl) g1 kp1 bn1 .nil pass0 (pa_cons (pv 1) pa_nil))))
      (pw_or1 (pt_cmpR op_ne (pe_op op_add (pe_callB call_len_seq (by rfl) ml PySem.boot_len (pa_cons (pv 1) pa_nil)) pe_int) (pv 0) (nomark _))))) (pss_one ps_never) pss_nil), ?_⟩
    refine ⟨_, rfl, q, n, sh, rfl, hq, hn, hsh, fun H1 s1 => ⟨true, rfl, iteF ?_⟩⟩
    refine ⟨_, rfl, q, _, rfl, .inr (SqT.of (s1 _ _ hq)), _, _, rfl, rfl, _, rfl, rfl, _, rfl, ?_⟩
    have e : (((il sh).map V.int).length : Int) + 1 = (n : Int) + 1 := by rw [List.length_map, il_len, lsh]
    show if (!decide (V.int ((((il sh).map V.int).length : Int) + 1) = V.int ((n : Int) + 1))) = true then _ else _
    rw [e, decide_eq_true rfl]
    exact iteF (fin H1 s1)
/-! ### inner_first -/
theorem i_parts {sh : List Nat} (h : iOk sh = true) {k : Nat} (hk : k ≤ 2 * sh.length + 1) : iIn sh (iAt sh k) = true ∧ ((iAt sh k).2.isEmpty = decide (k = 2 * sh.length + 1)) := by
  unfold iOk at h
  simp only [Bool.and_eq_true, List.all_eq_true, List.mem_range, beq_iff_eq] at h
  exact h.1 k (by omega)
theorem i_turn {sh : List Nat} {s : List Nat × List W2} {f l : Nat} {r : List W2} (h : iIn sh s = true) (e : s.2 = (f, l) :: r) : s.1.length ≤ 20 ∧ r.length ≤ 19 ∧ (f < l → l ≤ sh.length ∧ ∃ m t, candOf (jFi sh) (jLa sh) f l (l - f) = m :: t) := by
  unfold iIn at h
  rw [e] at h
  simp only [Bool.and_eq_true, decide_eq_true_eq, Bool.or_eq_true, Bool.not_eq_true', decide_eq_false_iff_not, List.length_cons] at h
  obtain ⟨⟨h1, h2⟩, h3⟩ := h
  refine ⟨h1, by omega, fun hfl => ?_⟩
  rcases h3 with h3 | ⟨h3, h4⟩
  · exact (h3 hfl).elim
  · refine ⟨h3, ?_⟩
    rcases e : candOf (jFi sh) (jLa sh) f l (l - f) with _ | ⟨m, t⟩
    · rw [e] at h4
      cases h4
    · exact ⟨m, t, rfl⟩
theorem i_step {sh : List Nat} {s : List Nat × List W2} {f l m : Nat} {t : List Nat} {r : List W2} (e : s.2 = (f, l) :: r) (hfl : f < l) (hm : candOf (jFi sh) (jLa sh) f l (l - f) = m :: t) :
    iNext (jFi sh) (jLa sh) s = (s.1 ++ [m], (m + 1, l) :: (f, m) :: r) := by
  unfold iNext
  rw [e]
  dsimp only
  rw [if_pos hfl, hm]
  rfl
theorem i_skip {sh : List Nat} {s : List Nat × List W2} {f l : Nat} {r : List W2} (e : s.2 = (f, l) :: r) (hfl : ¬ f < l) : iNext (jFi sh) (jLa sh) s = (s.1, r) := by
  unfold iNext
  rw [e]
  dsimp only
  rw [if_neg hfl]
theorem cand_succ (fi la : List Nat) (f l i : Nat) : candOf fi la f l (i + 1) = if fi.getD (f + i) 0 = f ∧ la.getD (f + i) 0 = l then candOf fi la f l i ++ [f + i] else candOf fi la f l i := by
  unfold candOf
  rw [List.range_succ, List.map_append, List.filter_append]
  by_cases h : fi.getD (f + i) 0 = f ∧ la.getD (f + i) 0 = l
  · rw [if_pos h]
    show _ ++ List.filter (fun j => decide (fi.getD j 0 = f ∧ la.getD j 0 = l)) [f + i] = _
    rw [List.filter_cons_of_pos (p := fun j => decide (fi.getD j 0 = f ∧ la.getD j 0 = l)) (decide_eq_true h)]
    rfl
  · rw [if_neg h]
    show _ ++ List.filter (fun j => decide (fi.getD j 0 = f ∧ la.getD j 0 = l)) [f + i] = _
    rw [List.filter_cons_of_neg (p := fun j => decide (fi.getD j 0 = f ∧ la.getD j 0 = l)) (fun e => h (of_decide_eq_true e))]
    exact List.append_nil _
theorem cand_len (fi la : List Nat) (f l i : Nat) : (candOf fi la f l i).length ≤ i := by
  unfold candOf
  refine Nat.le_trans (List.length_filter_le _ _) ?_
  rw [List.length_map, List.length_range]
  exact Nat.le_refl _
theorem jLen {sh : List Nat} (h : jOk sh = true) : (jFi sh).length = sh.length ∧ (jLa sh).length = sh.length := by
  have h1 := (j_parts h (k := 2 * sh.length + 1) (Nat.le_refl _)).1
  unfold jIn at h1
  simp only [Bool.and_eq_true, beq_iff_eq] at h1
  unfold jFi jLa
  rw [List.length_map, List.length_map]
  exact ⟨h1.1.1.1.1, h1.1.1.1.2⟩
def St2 (H : Hp) (Wa : Addr) (wt : List W2) : Prop := ∃ as : List Addr, H Wa = some (.lst (as.reverse.map V.ref)) ∧ Paired (fun (t : W2) a => H a = some (.tup [.int t.1, .int t.2])) wt as
/-- the walk at a state: found at Fo, waiting at Wa -/
structure II (Fo Wa : Addr) (H H' : Hp) (s : List Nat × List W2) : Prop where
  bu : Same H H'
  hF : H' Fo = some (.lst ((il s.1).map V.int))
  hW : St2 H' Wa s.2
  nF : H Fo = none
  nW : H Wa = none
  ne : Fo ≠ Wa
section
variable {Fo Wa : Addr} {H H' H'' : Hp} {s : List Nat × List W2}
theorem II.same (h : II Fo Wa H H' s) (e : Same H' H'') : II Fo Wa H H'' s :=
  ⟨h.bu.trans e, e _ _ h.hF, let ⟨as, h1, h2⟩ := h.hW; ⟨as, e _ _ h1, Paired.mapP h2 fun _ _ z => e _ _ z⟩, h.nF, h.nW, h.ne⟩
theorem II.setF (h : II Fo Wa H H' s) (l : List Nat) : II Fo Wa H (upd H' Fo (.lst ((il l).map V.int))) (l, s.2) := by
  refine ⟨fun b o e => ?_, upd_same, ?_, h.nF, h.nW, h.ne⟩
  · rw [upd_ne (ne_of_none e h.nF)]
    exact h.bu b o e
  · obtain ⟨as, h1, h2⟩ := h.hW
    refine ⟨as, ?_, Paired.mapP h2 fun _ _ z => tk_lst h.hF _ _ z⟩
    rw [upd_ne h.ne.symm]
    exact h1
theorem II.setW (h : II Fo Wa H H' s) {as : List Addr} {st : List W2} (hs : Paired (fun (t : W2) a => H' a = some (.tup [.int t.1, .int t.2])) st as) : II Fo Wa H (upd H' Wa (.lst (as.reverse.map V.ref))) (s.1, st) := by
  obtain ⟨bs, hb, _⟩ := id h.hW
  refine ⟨fun b o e => ?_, ?_, ⟨as, upd_same, Paired.mapP hs fun _ _ z => tk_lst hb _ _ z⟩, h.nF, h.nW, h.ne⟩
  · rw [upd_ne (ne_of_none e h.nW)]
    exact h.bu b o e
  · rw [upd_ne h.ne]
    exact h.hF
end
theorem none_back {H H' : Hp} {p : Addr} (s : Same H H') (h : H' p = none) : H p = none := by
  rcases e : H p with _ | o
  · rfl
  · rw [s _ _ e] at h
    cases h
def spInner : Sp := fun vs H Q _ => ∃ (q : Addr) (n : Nat) (sh : List Nat), vs = [.ref q] ∧ Ro H q (il sh) ∧ n ≤ 4 ∧ shOk n sh = true ∧ ∀ H' p, Same H H' → H p = none → H' p = some (.lst ((il (ordOf sh)).map V.int)) → Q (.ref p) H'
abbrev N_inner : List Str := ["shape", "joinings", "found", "waiting", "first", "last", "seam", "one"]
theorem sc_inner : FnScope N_inner ["shape"] (defScope s_inner_first) := ⟨rfl, rfl, rfl, by decide +kernel, rfl, by decide +kernel, by decide +kernel⟩
theorem ok_inner {f C : Addr} {fd : FuncData} (F : FnP K "inner_first" "inner_first" s_inner_first f fd) (T : JnT K C) (mk : Mkr P w K mg base C 1 "Joinings" ["self", "shape"] (spJn C)) (ml : mg "len" = none) (mr : mg "range" = none) : FnOk P w K mg base CX0 3 f fd ["shape"] spInner := by
  obtain ⟨f1, fd1, G1, M1, g1, bn1⟩ := mk.ex
  refine F.fn.ok sc_inner (fun vs H Q E h => ?_) (fun cdv Ar outer s H vs Q E hr h => ?_)
  · obtain ⟨q, n, sh, rfl, _⟩ := h
    rfl
  · obtain ⟨q, n, sh, rfl, hq, hn, hsh, fin⟩ := h
    obtain ⟨lsh, jok, iok, _⟩ := sh_parts hsh
    have hu : (Ar.deeper (envOfC "inner_first" (defScope s_inner_first) _ f cdv)).units + 64 < cLine := hr.units
    refine ⟨_, pss_cons (ps_set (i := 1) sc_inner.nd rfl (Or.inr rfl) (pe_make M1 G1 hr (by rfl) g1 bn1 .nil pass0 (pa_cons (pv 0) pa_nil)))
      (pss_cons (ps_set (i := 2) sc_inner.nd rfl (Or.inl rfl) (pe_lst pa_nil))
      (pss_cons (ps_set (i := 3) sc_inner.nd rfl (Or.inl rfl) (pe_lst (pa_cons (pe_tup (pa_cons pe_int (pa_cons (pe_callB call_len_seq (by rfl) ml PySem.boot_len (pa_cons (pv 0) pa_nil)) pa_nil))) pa_nil)))
      (pss_cons (ps_while PassesOwn.never (pt_cmpR op_gt (pe_callB call_len_seq (by rfl) ml PySem.boot_len (pa_cons (pv 3) pa_nil)) pe_int (nomark _))
        (pss_cons (ps_asg (pe_bm0 PySem.F.plainAttrs_list PySem.F.slot_list_pop PySem.F.type_list_pop mt_pop (pv 3)) (pg_tup rfl (pgs_cons (pg_name (i := 4) sc_inner.nd rfl (Or.inr rfl)) (pgs_cons (pg_name (i := 5) sc_inner.nd rfl (Or.inr rfl)) pgs_nil))))
        (pss_one (ps_if (pt_cmpR op_lt (pv 4) (pv 5) (nomark _))
          (pss_cons (ps_set (i := 6) sc_inner.nd rfl (Or.inl rfl) (pe_ix ix_list (pe_lc (own := [("one", 7)]) (g := gName 7) (tt := tTest (tOp rEqRo (tTup (tCons (tOp (rIxL K) (tFld K (tVar 1) "first") (tVar 7)) (tCons (tOp (rIxL K) (tFld K (tVar 1) "last") (tVar 7)) tNil))) (tTup (tCons (tVar 4) (tCons (tVar 5) tNil)))))
              rfl sc_inner.nd (pi_range2 rfl mr (pa_cons (pv 4) (pa_cons (pv 5) pa_nil))) (blkOk_by (N := N_inner) (sc := defScope s_inner_first) (by decide +kernel))
              (fun _ _ _ _ _ => pg_name (i := 7) sc_inner.nd rfl (Or.inl rfl)) (fun _ _ _ _ _ => pts_one (pt_cmpR (op_eqRo hu) (pe_tup (pa_cons (pe_ix ix_list (pe_fld (pv 1) rfl) (pv 7) (fun _ _ => rfl)) (pa_cons (pe_ix ix_list (pe_fld (pv 1) rfl) (pv 7) (fun _ _ => rfl)) pa_nil))) (pe_tup (pa_cons (pv 4) (pa_cons (pv 5) pa_nil))) (nomark _))) (fun _ _ _ _ _ => pv 7)) pe_int (fun _ _ => rfl)))
          (pss_cons (ps_expr (pe_bm PySem.F.plainAttrs_list PySem.F.slot_list_append PySem.F.type_list_append mt_append (pv 2) (pa_cons (pv 6) pa_nil)))
          (pss_cons (ps_expr (pe_bm PySem.F.plainAttrs_list PySem.F.slot_list_append PySem.F.type_list_append mt_append (pv 3) (pa_cons (pe_tup (pa_cons (pv 4) (pa_cons (pv 6) pa_nil))) pa_nil)))
          (pss_one (ps_expr (pe_bm PySem.F.plainAttrs_list PySem.F.slot_list_append PySem.F.type_list_append mt_append (pv 3) (pa_cons (pe_tup (pa_cons (pe_op op_add (pv 6) pe_int) (pa_cons (pv 5) pa_nil))) pa_nil))))))) pss_nil))))
      (pss_one (ps_ret (pe_revL (pv 2))))))), ?_⟩
    refine ⟨_, rfl, fun x dx nx ndx nex => ?_⟩
    have sx : Same H (upd (upd H dx (.own x)) x (.ins C dx [])) := (same_new ndx).upd (by rw [upd_ne (Ne.symm nex)]; exact nx)
    refine ⟨x, dx, q, n, sh, rfl, upd_same, sx _ _ hq, hn, hsh, fun H1 b1 j1 => ⟨rfl, ?_⟩⟩
    have s1 : Same H H1 := made_same nx ndx nex b1
    obtain ⟨dx', F, L, A, p1, hF, hL, _, _⟩ := j1
    have hq1 := s1 _ _ hq
    obtain ⟨lF, lL⟩ := jLen jok
    refine ⟨(by show 0 ≤ sizeLine; decide), fun Fo nF => ?_⟩
    have yF := same_new (o := .lst []) nF
    refine ⟨_, rfl, q, _, rfl, .inr (SqT.of (yF _ _ hq1)), (by show 2 ≤ sizeLine; decide), fun t0 nt => ⟨(by show 1 ≤ sizeLine; decide), fun Wa nW => ?_⟩⟩
    have yt := same_new (o := .tup [V.int 0, V.int (((il sh).map V.int).length : Nat)]) nt
    have yW := same_new (o := .lst [V.ref t0]) nW
    have nWH : H1 Wa = none := by
      rcases e : H1 Wa with _ | o
      · rfl
      · have := yt _ _ (yF _ _ e)
        rw [nW] at this
        cases this
    have hF0 : upd H1 Fo (.lst []) Fo = some (.lst []) := upd_same
    have I0 : II Fo Wa H1 (upd (upd (upd H1 Fo (.lst [])) t0 (.tup [V.int 0, V.int (((il sh).map V.int).length : Nat)])) Wa (.lst [V.ref t0])) (iAt sh 0) := by
      refine ⟨(yF.trans yt).trans yW, yW _ _ (yt _ _ hF0), ⟨[t0], upd_same, .cons ?_ .nil⟩, nF, nWH, ne_of_none (yt _ _ hF0) nW⟩
      rw [yW _ _ (upd_same : upd (upd H1 Fo (.lst [])) t0 (.tup [V.int 0, V.int (((il sh).map V.int).length : Nat)]) t0 = _), List.length_map, il_len]
      rfl
    generalize upd (upd (upd H1 Fo (.lst [])) t0 (.tup [V.int 0, V.int (((il sh).map V.int).length : Nat)])) Wa (.lst [V.ref t0]) = H5 at *
    refine ⟨fun m σ H' => ∃ k x4 x5 x6, m + k = 2 * sh.length + 1 ∧ σ = [some (.ref q), some (.ref x), some (.ref Fo), some (.ref Wa), x4, x5, x6, none] ∧ II Fo Wa H1 H' (iAt sh k), ⟨2 * sh.length + 1, 0, none, none, none, rfl, rfl, I0⟩, fun m σ H6 z => ?_⟩
    obtain ⟨k, x4, x5, x6, hk, rfl, I⟩ := z
    obtain ⟨g1, g2⟩ := i_parts iok (k := k) (by omega)
    obtain ⟨as, hWa, hP⟩ := id I.hW
    refine ⟨_, rfl, Wa, _, rfl, .inl (SqL.of hWa), _, _, rfl, rfl, _, rfl, ?_⟩
    rcases hst : (iAt sh k).2 with _ | ⟨⟨f, l⟩, r⟩
    · rw [hst] at hP g2
      cases hP
      have hk2 : k = 2 * sh.length + 1 := of_decide_eq_true g2.symm
      subst hk2
      refine iteF ⟨_, rfl, Fo, _, rfl, SqL.of I.hF, fun p hp => fin _ p ((s1.trans I.bu).trans (same_new hp)) (none_back (s1.trans I.bu) hp) ?_⟩
      rw [upd_same]
      unfold ordOf il
      rw [List.map_reverse, List.map_reverse]
    rw [hst] at hP g2
    have hk2 : ¬ k = 2 * sh.length + 1 := of_decide_eq_false g2.symm
    cases hP with
    | @cons _ a' _ as ha hr =>
    rw [show decide ((0 : Int) < (((a' :: as).reverse.map V.ref).length : Int)) = true from decide_eq_true (by rw [List.length_map, List.length_reverse, List.length_cons]; omega)]
    refine iteT ⟨fun σ' H' => ∃ x4 x5 x6, σ' = [some (.ref q), some (.ref x), some (.ref Fo), some (.ref Wa), x4, x5, x6, none] ∧ II Fo Wa H1 H' (iAt sh (k + 1)),
      fun σ' H' z => ⟨m - 1, by omega, k + 1, let ⟨x4, x5, x6, z⟩ := z; ⟨x4, x5, x6, by omega, z⟩⟩, ?_⟩
    obtain ⟨lf, lr, gt⟩ := i_turn g1 hst
    have lenr : r.length = as.length := Paired.length hr
    have rv : ((a' :: as).reverse.map V.ref) = as.reverse.map V.ref ++ [V.ref a'] := by rw [List.reverse_cons, List.map_append]; rfl
    rw [rv] at hWa
    refine ⟨_, rfl, .inl ⟨rfl, _, SqL.of hWa⟩, Wa, _, V.ref a', rfl, rfl, hWa, ?_, ?_⟩
    · rw [List.length_append, List.length_singleton, Nat.add_sub_cancel, List.getElem?_append_right (Nat.le_refl _), Nat.sub_self]
      rfl
    rw [List.dropLast_concat]
    have I2 := I.setW hr
    have ha2 := tk_lst (ys := as.reverse.map V.ref) hWa _ _ ha
    have hW2 : upd H6 Wa (.lst (as.reverse.map V.ref)) Wa = some (.lst (as.reverse.map V.ref)) := upd_same
    have hr2 := Paired.mapP hr fun _ _ z => tk_lst (ys := as.reverse.map V.ref) hWa _ _ z
    generalize upd H6 Wa (.lst (as.reverse.map V.ref)) = H7 at *
    refine ⟨a', _, rfl, SqT.of ha2, rfl, _, _, rfl, _, _, rfl, rfl, ?_⟩
    refine ⟨_, rfl, _, rfl, _, _, rfl, rfl, _, rfl, ?_⟩
    by_cases hfl : ¬ f < l
    · rw [show decide ((f : Int) < (l : Int)) = false from decide_eq_false (by omega)]
      refine iteF ⟨_, _, _, rfl, ?_⟩
      show II Fo Wa H1 H7 (iNext (jFi sh) (jLa sh) (iAt sh k))
      rw [i_skip hst hfl]
      exact I2
    have hfl' : f < l := Decidable.not_not.mp hfl
    rw [show decide ((f : Int) < (l : Int)) = true from decide_eq_true (by omega)]
    obtain ⟨hl, sm, tl, hsm⟩ := gt hfl'
    have en : ((l : Int) - (f : Int)).toNat = l - f := by omega
    have p7 := I2.bu _ _ p1
    have hF7 := I2.bu _ _ hF
    have hL7 := I2.bu _ _ hL
    refine iteT ⟨_, rfl, _, rfl, f, l, rfl, ⟨by omega, by omega, by omega, by omega⟩, fun D hD => lc_range (lo := f) (n := ((l : Int) - (f : Int)).toNat) (fun i H' => Same H7 H' ∧ H' D = some (.lst ((il (candOf (jFi sh) (jLa sh) f l i)).map V.int)))
      ⟨same_new hD, upd_same⟩ (fun i H' hi z => ?_) (fun H8 z => ?_)⟩
    · obtain ⟨z1, z2⟩ := z
      have hat1 : atI ((il (jFi sh)).map V.int) ((f : Int) + (i : Int)) = some (.int ((jFi sh).getD (f + i) 0 : Nat)) := by
        rw [← Int.natCast_add]
        exact atI_nat (j := f + i) (getD_get (by omega))
      have hat2 : atI ((il (jLa sh)).map V.int) ((f : Int) + (i : Int)) = some (.int ((jLa sh).getD (f + i) 0 : Nat)) := by
        rw [← Int.natCast_add]
        exact atI_nat (j := f + i) (getD_get (by omega))
      refine ⟨rfl, _, rfl, x, C, dx', _, _, rfl, z1 _ _ p7, T.cl, T.n1, jf_first _ _ _, _, rfl, F, _, _, _, rfl, rfl, SqL.of (z1 _ _ hF7), hat1, _, rfl, x, C, dx', _, _, rfl, z1 _ _ p7, T.cl, T.n2, jf_last _ _ _, _, rfl, L, _, _, _, rfl, rfl, SqL.of (z1 _ _ hL7), hat2,
        (by show 2 ≤ sizeLine; decide), fun t1 ht1 => ⟨_, rfl, _, rfl, (by show 2 ≤ sizeLine; decide), fun t2 ht2 => ?_⟩⟩
      have y1 := same_new (o := .tup [V.int ((jFi sh).getD (f + i) 0 : Nat), V.int ((jLa sh).getD (f + i) 0 : Nat)]) ht1
      have y2 := same_new (o := .tup [V.int f, V.int l]) ht2
      have zz := (z1.trans y1).trans y2
      have zD := y2 _ _ (y1 _ _ z2)
      refine ⟨t1, t2, [(((jFi sh).getD (f + i) 0 : Nat) : Int), (((jLa sh).getD (f + i) 0 : Nat) : Int)], [(f : Int), (l : Int)], rfl, rfl, y2 _ _ upd_same, upd_same, _, rfl, ?_⟩
      have ss := cand_succ (jFi sh) (jLa sh) f l i
      by_cases c : (jFi sh).getD (f + i) 0 = f ∧ (jLa sh).getD (f + i) 0 = l
      · rw [if_pos c] at ss
        rw [decide_eq_true (by rw [c.1, c.2])]
        refine iteT ⟨_, rfl, _, zD, ?_, fun b o e => ?_, ?_⟩
        · rw [List.length_map, il_len]
          have := cand_len (jFi sh) (jLa sh) f l i
          exact small1000' (by omega)
        · rw [upd_ne (ne_of_none e hD)]
          exact zz _ _ e
        · rw [upd_same, ss]
          unfold il
          rw [List.map_append, List.map_append]
          rfl
      · rw [if_neg c] at ss
        rw [decide_eq_false (fun e => c (by
          injection e with e1 e2
          injection e2 with e2 _
          exact ⟨Int.ofNat.inj e1, Int.ofNat.inj e2⟩))]
        refine iteF ⟨zz, ?_⟩
        rw [ss]
        exact zD
    obtain ⟨s8, hD8⟩ := z
    rw [en, hsm] at hD8
    have I3 := I2.same s8
    have hW3 := s8 _ _ hW2
    have hr3 := Paired.mapP hr2 fun _ _ z => s8 _ _ z
    refine ⟨D, _, _, _, rfl, rfl, SqL.of hD8, atI_nat (j := 0) rfl, ?_⟩
    refine ⟨_, rfl, .inl ⟨rfl, _, SqL.of I3.hF⟩, _, rfl, Fo, _, _, rfl, rfl, I3.hF, ?_, ?_⟩
    · rw [List.length_map, il_len]
      exact small1000' (by show (iAt sh k).1.length ≤ 4000; omega)
    rw [show ((il (iAt sh k).1).map V.int ++ [V.int (sm : Nat)]) = (il ((iAt sh k).1 ++ [sm])).map V.int by unfold il; rw [List.map_append, List.map_append]; rfl]
    have I4 := I3.setF ((iAt sh k).1 ++ [sm])
    have hW4 : upd H8 Fo (.lst ((il ((iAt sh k).1 ++ [sm])).map V.int)) Wa = some (.lst (as.reverse.map V.ref)) := by rw [upd_ne I3.ne.symm]; exact hW3
    have hr4 := Paired.mapP hr3 fun _ _ z => tk_lst (ys := (il ((iAt sh k).1 ++ [sm])).map V.int) I3.hF _ _ z
    generalize upd H8 Fo (.lst ((il ((iAt sh k).1 ++ [sm])).map V.int)) = HB at *
    refine ⟨_, rfl, .inl ⟨rfl, _, SqL.of hW4⟩, _, rfl, _, rfl, (by show 2 ≤ sizeLine; decide), fun t1 ht1 => ?_⟩
    have y1 := same_new (o := .tup [V.int f, V.int sm]) ht1
    have v1 : upd HB t1 (.tup [V.int f, V.int sm]) t1 = some (.tup [V.int f, V.int sm]) := upd_same
    have I7 := I4.same y1
    have hW7 := y1 _ _ hW4
    have hr7 := Paired.mapP hr4 fun _ _ z => y1 _ _ z
    refine ⟨Wa, _, _, rfl, rfl, hW7, ?_, ?_⟩
    · rw [List.length_map, List.length_reverse]
      exact small1000' (by omega)
    rw [show (as.reverse.map V.ref ++ [V.ref t1]) = ((t1 :: as).reverse.map V.ref) by rw [List.reverse_cons, List.map_append]; rfl]
    have pr8 : Paired (fun (t : W2) a => upd HB t1 (.tup [V.int f, V.int sm]) a = some (.tup [.int t.1, .int t.2])) ((f, sm) :: r) (t1 :: as) := .cons v1 hr7
    have I8 := I7.setW pr8
    have hW8 : upd (upd HB t1 (.tup [V.int f, V.int sm])) Wa (.lst ((t1 :: as).reverse.map V.ref)) Wa = some (.lst ((t1 :: as).reverse.map V.ref)) := upd_same
    have hr8 := Paired.mapP pr8 fun _ _ z => tk_lst (ys := (t1 :: as).reverse.map V.ref) hW7 _ _ z
    generalize upd (upd HB t1 (.tup [V.int f, V.int sm])) Wa (.lst ((t1 :: as).reverse.map V.ref)) = HC at *
    refine ⟨_, rfl, .inl ⟨rfl, _, SqL.of hW8⟩, _, rfl, _, _, rfl, rfl, _, rfl, (by show 2 ≤ sizeLine; decide), fun t2 ht2 => ?_⟩
    have y2 := same_new (o := .tup [V.int ((sm : Int) + 1), V.int l]) ht2
    have v2 : upd HC t2 (.tup [V.int ((sm : Int) + 1), V.int l]) t2 = some (.tup [V.int ((sm + 1 : Nat) : Int), V.int l]) := by
      rw [upd_same, Int.natCast_succ]
    have I9 := I8.same y2
    have hW9 := y2 _ _ hW8
    have hr9 := Paired.mapP hr8 fun _ _ z => y2 _ _ z
    refine ⟨Wa, _, _, rfl, rfl, hW9, ?_, ?_⟩
    · rw [List.length_map, List.length_reverse, List.length_cons]
      exact small1000' (by omega)
    rw [show ((t1 :: as).reverse.map V.ref ++ [V.ref t2]) = ((t2 :: t1 :: as).reverse.map V.ref) by rw [List.reverse_cons (a := t2), List.map_append]; rfl]
    refine ⟨_, _, _, rfl, ?_⟩
    show II Fo Wa H1 _ (iNext (jFi sh) (jLa sh) (iAt sh k))
    rw [i_step hst hfl' hsm]
    exact I9.setW (as := t2 :: t1 :: as) (st := (sm + 1, l) :: (f, sm) :: r) (.cons v2 hr9)
end
end Seam

set_option Elab.async false
set_option linter.all false
set_option maxRecDepth 100000
set_option maxHeartbeats 4000000
namespace Seam
open PySem PySem.Spec PyProof.Rows L2 Nd Rz
/-! ### words -/
/-- words at a place -/
def Wd (H : Hp) (q : Addr) (ws : List Rw) : Prop := ∃ as : List Addr, H q = some (.tup (as.map V.ref)) ∧ Rs H ws as
theorem Wd.same {H H' : Hp} {q : Addr} {ws : List Rw} (h : Wd H q ws) (s : Same H H') : Wd H' q ws := let ⟨as, h1, h2⟩ := h; ⟨as, s _ _ h1, h2.tk s.tk⟩
theorem Wd.tk {H H' : Hp} {q : Addr} {ws : List Rw} (h : Wd H q ws) (s : Tk H H') : Wd H' q ws := let ⟨as, h1, h2⟩ := h; ⟨as, s _ _ h1, h2.tk s⟩
section
variable {P : Program} {w : World} {K : PySem.W.Frag} {mg : Str → Option Value} {base : Heap} {X : Cx}
def spWord : Sp := fun vs H Q _ => ∃ (q : Addr) (s : Nat) (r : Rw), vs = [.ref q, .int s] ∧ Ro H q r ∧ 1 ≤ r.length ∧ r.length ≤ 200 ∧ (∀ x ∈ r, 0 ≤ x ∧ x < (s : Int)) ∧ ∀ H', Same H H' → Q (.bl true) H'
theorem sc_word : FnScope ["thing", "sounds"] ["thing", "sounds"] (defScope s_is_word) := ⟨rfl, rfl, rfl, by decide +kernel, rfl, by decide +kernel, by decide +kernel⟩
theorem ok_word {f : Addr} {fd : FuncData} (F : FnP K "is_word" "is_word" s_is_word f fd) (c : Cal P w K mg base CX0 4 "is_sounds" ["thing", "sounds", "least", "most"] spSounds) (gM : GInt mg "MOST_WORD" 200) : FnOk P w K mg base CX0 5 f fd ["thing", "sounds"] spWord := by
  obtain ⟨f1, fd1, G, g, kp, bn⟩ := c.ex
  obtain ⟨tM, gM⟩ := gM
  refine F.fn.ok sc_word (fun vs H Q E h => ?_) (fun cdv A outer s H vs Q E hr h => ?_)
  · obtain ⟨q, s, r, rfl, _⟩ := h
    rfl
  · obtain ⟨q, s, r, rfl, hr0, h1, h2, h3, k⟩ := h
    refine ⟨_, pss_one (ps_ret (pe_call G hr (by rfl) g kp bn .nil pass0 (pa_cons (pv 0) (pa_cons (pv 1) (pa_cons pe_int (pa_cons (pe_glob (v := .int 200) rfl gM ⟨_, rfl⟩) pa_nil)))))), ?_⟩
    exact ⟨_, rfl, _, rfl, q, r, s, 1, 200, rfl, hr0, by omega, by omega, by omega, h3, k⟩
def spWordsOk : Sp := fun vs H Q _ => ∃ (q : Addr) (s : Nat) (ws : List Rw), vs = [.int s, .ref q] ∧ Wd H q ws ∧ 1 ≤ ws.length ∧ ws.length ≤ 40 ∧ RwsOk s 1 9 ws ∧ ∀ H', Same H H' → Q .non H'
abbrev N_cw : List Str := ["sounds", "thing", "word"]
theorem sc_cw : FnScope N_cw ["sounds", "thing"] (defScope s_check_words) := ⟨rfl, rfl, rfl, by decide +kernel, rfl, by decide +kernel, by decide +kernel⟩
theorem ok_cw {f : Addr} {fd : FuncData} (F : FnP K "check_words" "check_words" s_check_words f fd) (c : Cal P w K mg base CX0 5 "is_word" ["thing", "sounds"] spWord) (gM : GInt mg "MOST_WORDS" 40)
    (mi : mg "isinstance" = none) (mt : mg "tuple" = none) (ml : mg "len" = none) (ma : mg "all" = none) : FnOk P w K mg base CX0 6 f fd ["sounds", "thing"] spWordsOk := by
  obtain ⟨f1, fd1, G, g, kp, bn⟩ := c.ex
  obtain ⟨tM, gM⟩ := gM
  refine F.fn.ok sc_cw (fun vs H Q E h => ?_) (fun cdv A outer s H vs Q E hr h => ?_)
  · obtain ⟨q, s, ws, rfl, _⟩ := h
    rfl
  · obtain ⟨q, s, ws, rfl, ⟨as, hq, hrs⟩, h1, h2, h3, k⟩ := h
    have la : ws.length = as.length := Paired.length hrs
    refine ⟨_, pss_cons (ps_if (PW.pt (pw_or (pt_not (pt_val (pe_callB call_isi (by rfl) mi (by decide +kernel) (pa_cons (pv 1) (pa_cons (pe_bltn (v := .ty "tuple") (by rfl) mt (by decide +kernel) rfl) pa_nil)))))
        (pw_or1 (pt_not (pt_chain op_le op_le pe_int (pe_callB call_len_seq (by rfl) ml PySem.boot_len (pa_cons (pv 1) pa_nil)) (pe_glob (v := .int 40) rfl gM ⟨_, rfl⟩)))))) (pss_one ps_never) pss_nil)
      (pss_one (ps_if (pt_not (pt_val (pe_callB (cr_all rfl) (by rfl) ma (by decide +kernel) (pa_cons (pe_lc (own := [("word", 2)]) (g := gName 2) (tt := tYes) rfl sc_cw.nd (pi_tup (pv 1)) (blkOk_by (N := N_cw) (sc := defScope s_check_words) (by decide +kernel))
        (fun _ _ _ _ _ => pg_name (i := 2) sc_cw.nd rfl (Or.inl rfl)) (fun _ _ _ _ _ => pts_nil) (fun _ _ _ _ _ => pe_call G hr (by rfl) g kp bn .nil pass0 (pa_cons (pv 2) (pa_cons (pv 0) pa_nil)))) pa_nil)))) (pss_one ps_never) pss_nil)), ?_⟩
    refine ⟨_, rfl, _, _, _, _, true, rfl, .ty "tuple", .base (.tup hq), kit_ty (a := "tuple") (b := "tuple") (by decide +kernel), true, rfl, iteF ?_⟩
    refine ⟨_, rfl, q, _, rfl, .inr (SqT.of hq), _, _, rfl, rfl, _, rfl, iteD (by rw [List.length_map]; omega) ⟨_, _, rfl, rfl, _, rfl, ?_⟩⟩
    rw [decide_eq_true (by rw [List.length_map]; omega)]
    refine iteF ?_
    refine ⟨_, rfl, q, rfl, ⟨_, SqT.of hq⟩, fun D hD => lc_tup (K := K) (a := q) (xs := as.map V.ref) (fun i H' => Same H H' ∧ H' D = some (.lst ((List.replicate i true).map V.bl)))
      ⟨same_new hD, upd_same⟩ (fun i H' _ z => SqT.of (z.1 _ _ hq)) (fun i x H' hi z => ?_) (fun H' z => ?_)⟩
    · obtain ⟨z1, z2⟩ := z
      have hil : i < ws.length := by
        have h1 := (List.getElem?_eq_some_iff.mp hi).1
        rw [List.length_map] at h1
        omega
      obtain ⟨ad, had, hro⟩ := paired_get hrs (List.getElem?_eq_getElem hil)
      rw [List.getElem?_map, had] at hi
      cases hi
      obtain ⟨o1, o2, o3⟩ := h3 _ (List.getElem_mem hil)
      refine ⟨rfl, _, rfl, _, rfl, ad, s, _, rfl, z1 _ _ hro, o1, by omega, o3, fun H2 s2 => ?_⟩
      refine ⟨_, s2 _ _ z2, by rw [List.length_map, List.length_replicate]; exact small1000' (by omega), fun b o e => ?_, ?_⟩
      · rw [upd_ne (ne_of_none e hD)]
        exact s2 _ _ (z1 _ _ e)
      · rw [upd_same, List.replicate_succ', List.map_append]
        rfl
    · obtain ⟨z1, z2⟩ := z
      refine ⟨D, _, rfl, SqL.of z2, ?_⟩
      rw [all_true]
      exact ⟨true, rfl, iteF (k H' z1)⟩
def spPhrase (P : Program) (w : World) (C : Addr) : Sp := fun vs H Q _ => ∃ (p q r : Addr) (s a b n : Nat) (kvs : List (K2 × K2)) (ws : List Rw) (sh : List Nat), vs = [.ref p, .ref q, .ref r] ∧ Bk P w H p C s a b kvs ∧ Wd H q ws ∧ ws.length = n + 1 ∧ RwsOk s 1 9 ws ∧ Ro H r (il sh) ∧ n ≤ 4 ∧ shOk n sh = true ∧
  ∀ H', Same H H' → Q .non H'
theorem sc_phrase : FnScope ["book", "words", "shape"] ["book", "words", "shape"] (defScope s_check_phrase) := ⟨rfl, rfl, rfl, by decide +kernel, rfl, by decide +kernel, by decide +kernel⟩
theorem ok_phrase {f C : Addr} {fd : FuncData} (F : FnP K "check_phrase" "check_phrase" s_check_phrase f fd) (T : BkT K C) (c1 : Cal P w K mg base CX0 6 "check_words" ["sounds", "thing"] spWordsOk) (c2 : Cal P w K mg base CX0 5 "check_shape_for" ["words", "thing"] spShapeFor) (ml : mg "len" = none) :
    FnOk P w K mg base CX0 7 f fd ["book", "words", "shape"] (spPhrase P w C) := by
  obtain ⟨f1, fd1, G1, g1, kp1, bn1⟩ := c1.ex
  obtain ⟨f2, fd2, G2, g2, kp2, bn2⟩ := c2.ex
  refine F.fn.ok sc_phrase (fun vs H Q E h => ?_) (fun cdv A outer s H vs Q E hr h => ?_)
  · obtain ⟨p, q, r, s, a, b, n, kvs, ws, sh, rfl, _⟩ := h
    rfl
  · obtain ⟨p, q, r, s, a, b, n, kvs, ws, sh, rfl, ⟨dx, t, hp, ht⟩, hw, lw, hrs, hsh, hn, hok, k⟩ := h
    refine ⟨_, pss_cons (ps_expr (pe_call G1 hr (by rfl) g1 kp1 bn1 .nil pass0 (pa_cons (pe_fld (pv 0) rfl) (pa_cons (pv 1) pa_nil))))
      (pss_one (ps_expr (pe_call G2 (hr.mono (by decide)) (by rfl) g2 kp2 bn2 .nil pass0 (pa_cons (pe_callB call_len_seq (by rfl) ml PySem.boot_len (pa_cons (pv 1) pa_nil)) (pa_cons (pv 2) pa_nil))))), ?_⟩
    refine ⟨_, rfl, p, C, dx, _, _, rfl, hp, T.cl, T.n1, bf_s _ _ _ _, _, rfl, q, s, ws, rfl, hw, by omega, by omega, hrs, fun H1 s1 => ?_⟩
    obtain ⟨as, hq, hras⟩ := hw
    have la : ws.length = as.length := Paired.length hras
    refine ⟨_, rfl, q, _, rfl, .inr (SqT.of (s1 _ _ hq)), _, rfl, r, n, sh, ?_, s1 _ _ hsh, hn, hok, fun H2 s2 => k H2 (s1.trans s2)⟩
    have e : (((as.map V.ref).length : Nat) : Int) = (n : Int) + 1 := by rw [List.length_map]; omega
    show [V.int (((as.map V.ref).length : Nat) : Int), V.ref r] = _
    rw [e]
end
/-! ### the mirror of Sayer -/
def stAt (ws : List Rw) (i : Nat) : Nat := (ws.take i).flatten.length
theorem stAt_succ {ws : List Rw} {i : Nat} (h : i < ws.length) : stAt ws (i + 1) = stAt ws i + ws[i].length := by
  unfold stAt
  rw [List.take_add_one, List.getElem?_eq_getElem h, List.flatten_append, List.length_append]
  simp
theorem stAt_mono {ws : List Rw} {i j : Nat} (h : i ≤ j) : stAt ws i ≤ stAt ws j := by
  unfold stAt
  have e : ws.take j = ws.take i ++ (ws.take j).drop i := by
    conv => lhs; rw [← List.take_append_drop i (ws.take j)]
    rw [List.take_take, Nat.min_eq_left h]
  rw [e, List.flatten_append, List.length_append]
  omega
theorem stAt_all (ws : List Rw) : stAt ws ws.length = ws.flatten.length := by
  unfold stAt
  rw [List.take_length]
theorem flat_len {s : Nat} : ∀ {ws : List Rw}, RwsOk s 1 9 ws → ws.flatten.length ≤ 9 * ws.length
  | [], _ => Nat.le_refl _
  | r :: ws, h => by
    have h1 := (h r List.mem_cons_self).2.1
    have h2 := flat_len (ws := ws) fun x hx => h x (List.mem_cons_of_mem _ hx)
    rw [List.flatten_cons, List.length_append, List.length_cons]
    omega
def starts (ws : List Rw) (k : Nat) : List Nat := (List.range k).map (stAt ws)
/-- the bounds that a join looks at -/
def jBeg (a first middle : Nat) : Nat := max first (middle - a)
def jEnd (b middle last : Nat) : Nat := min last (middle + b)
def jKey (row : Rw) (b m e : Nat) : K2 := ((row.drop b).take (m - b), (row.drop m).take (e - m))
def jNew (lkf : K2 → K2) (row : Rw) (b m e : Nat) : Rw := (lkf (jKey row b m e)).1 ++ (lkf (jKey row b m e)).2
/-- i places are laid -/
def jPart (new row : Rw) (b i : Nat) : Rw := row.take b ++ new.take i ++ row.drop (b + i)
def jRow (lkf : K2 → K2) (a b first middle last : Nat) (row : Rw) : Rw :=
  jPart (jNew lkf row (jBeg a first middle) middle (jEnd b middle last)) row (jBeg a first middle) (jEnd b middle last - jBeg a first middle)
def sayRow (lkf : K2 → K2) (a b : Nat) (ws : List Rw) (sh : List Nat) (row : Rw) (ms : List Nat) : Rw :=
  ms.foldl (fun row m => jRow lkf a b (stAt ws ((jFi sh).getD m 0)) (stAt ws (m + 1)) (stAt ws ((jLa sh).getD m 0 + 1)) row) row
theorem jPart_len {new row : Rw} {b i : Nat} (h1 : b + i ≤ row.length) (h2 : i ≤ new.length) : (jPart new row b i).length = row.length := by
  unfold jPart
  rw [List.length_append, List.length_append, List.length_take, List.length_take, List.length_drop]
  omega
theorem jPart_get {new row : Rw} {b i : Nat} (h1 : b + i < row.length) (h2 : i ≤ new.length) : (jPart new row b i)[b + i]? = some (row[b + i]) := by
  unfold jPart
  rw [List.getElem?_append_right (by rw [List.length_append, List.length_take, List.length_take]; omega), List.getElem?_drop, List.length_append, List.length_take, List.length_take]
  rw [show b + i + (b + i - (min b row.length + min i new.length)) = b + i by omega]
  exact List.getElem?_eq_getElem h1
theorem jPart_set {new row : Rw} {b i : Nat} (h1 : b + i < row.length) (h2 : i < new.length) : (jPart new row b i).set (b + i) new[i] = jPart new row b (i + 1) := by
  unfold jPart
  have e1 : (row.take b ++ new.take i).length = b + i := by
    rw [List.length_append, List.length_take, List.length_take]
    omega
  rw [List.set_append_right _ _ (by rw [e1]; exact Nat.le_refl _), e1, Nat.sub_self, List.drop_eq_getElem_cons h1, List.set_cons_zero, List.take_add_one, List.getElem?_eq_getElem h2, Option.toList_some, ← List.append_assoc, List.append_assoc _ [new[i]]]
  rfl
end Seam

set_option Elab.async false
set_option linter.all false
set_option maxRecDepth 100000
set_option maxHeartbeats 4000000
namespace Seam
open PySem PySem.Spec PyProof.Rows L2 Nd Rz
/-! ### Sayer: its attributes -/
theorem q01 : ¬ (("book" : Str) = "row") := by decide +kernel
theorem q02 : ¬ (("book" : Str) = "starts") := by decide +kernel
theorem q03 : ¬ (("book" : Str) = "joinings") := by decide +kernel
theorem q04 : ¬ (("book" : Str) = "order") := by decide +kernel
theorem q05 : ¬ (("book" : Str) = "changed") := by decide +kernel
theorem q06 : ¬ (("book" : Str) = "looked") := by decide +kernel
theorem q12 : ¬ (("row" : Str) = "starts") := by decide +kernel
theorem q13 : ¬ (("row" : Str) = "joinings") := by decide +kernel
theorem q14 : ¬ (("row" : Str) = "order") := by decide +kernel
theorem q15 : ¬ (("row" : Str) = "changed") := by decide +kernel
theorem q16 : ¬ (("row" : Str) = "looked") := by decide +kernel
theorem q23 : ¬ (("starts" : Str) = "joinings") := by decide +kernel
theorem q24 : ¬ (("starts" : Str) = "order") := by decide +kernel
theorem q25 : ¬ (("starts" : Str) = "changed") := by decide +kernel
theorem q26 : ¬ (("starts" : Str) = "looked") := by decide +kernel
theorem q34 : ¬ (("joinings" : Str) = "order") := by decide +kernel
theorem q35 : ¬ (("joinings" : Str) = "changed") := by decide +kernel
theorem q36 : ¬ (("joinings" : Str) = "looked") := by decide +kernel
theorem q45 : ¬ (("order" : Str) = "changed") := by decide +kernel
theorem q46 : ¬ (("order" : Str) = "looked") := by decide +kernel
theorem q56 : ¬ (("changed" : Str) = "looked") := by decide +kernel
def sf1 (B : Addr) : List (Str × V) := putF "book" (.ref B) []
def sf2 (B R : Addr) : List (Str × V) := putF "row" (.ref R) (sf1 B)
def sf3 (B R S : Addr) : List (Str × V) := putF "starts" (.ref S) (sf2 B R)
def sf4 (B R S J : Addr) : List (Str × V) := putF "joinings" (.ref J) (sf3 B R S)
def sf5 (B R S J O : Addr) : List (Str × V) := putF "order" (.ref O) (sf4 B R S J)
def sf6 (B R S J O Ch : Addr) : List (Str × V) := putF "changed" (.ref Ch) (sf5 B R S J O)
def sf7 (B R S J O Ch Lo : Addr) : List (Str × V) := putF "looked" (.ref Lo) (sf6 B R S J O Ch)
theorem sf_len1 (B : Addr) : (sf1 B).length ≤ 1 := length_putF _ _ _
theorem sf_len2 (B R : Addr) : (sf2 B R).length ≤ 2 := Nat.le_trans (length_putF _ _ _) (Nat.succ_le_succ (sf_len1 B))
theorem sf_len3 (B R S : Addr) : (sf3 B R S).length ≤ 3 := Nat.le_trans (length_putF _ _ _) (Nat.succ_le_succ (sf_len2 B R))
theorem sf_len4 (B R S J : Addr) : (sf4 B R S J).length ≤ 4 := Nat.le_trans (length_putF _ _ _) (Nat.succ_le_succ (sf_len3 B R S))
theorem sf_len5 (B R S J O : Addr) : (sf5 B R S J O).length ≤ 5 := Nat.le_trans (length_putF _ _ _) (Nat.succ_le_succ (sf_len4 B R S J))
theorem sf_len6 (B R S J O Ch : Addr) : (sf6 B R S J O Ch).length ≤ 6 := Nat.le_trans (length_putF _ _ _) (Nat.succ_le_succ (sf_len5 B R S J O))
theorem s3_R (B R S : Addr) : (sf3 B R S).lookup ("row" : Str) = some (.ref R) := by
  unfold sf3 sf2
  rw [lookup_putF, if_neg q12, lookup_putF, if_pos rfl]
theorem s3_S (B R S : Addr) : (sf3 B R S).lookup ("starts" : Str) = some (.ref S) := by
  unfold sf3
  rw [lookup_putF, if_pos rfl]
theorem s7_B (B R S J O Ch Lo : Addr) : (sf7 B R S J O Ch Lo).lookup ("book" : Str) = some (.ref B) := by
  unfold sf7 sf6 sf5 sf4 sf3 sf2 sf1
  rw [lookup_putF, if_neg q06, lookup_putF, if_neg q05, lookup_putF, if_neg q04, lookup_putF, if_neg q03, lookup_putF, if_neg q02, lookup_putF, if_neg q01, lookup_putF, if_pos rfl]
theorem s7_R (B R S J O Ch Lo : Addr) : (sf7 B R S J O Ch Lo).lookup ("row" : Str) = some (.ref R) := by
  unfold sf7 sf6 sf5 sf4 sf3 sf2
  rw [lookup_putF, if_neg q16, lookup_putF, if_neg q15, lookup_putF, if_neg q14, lookup_putF, if_neg q13, lookup_putF, if_neg q12, lookup_putF, if_pos rfl]
theorem s7_S (B R S J O Ch Lo : Addr) : (sf7 B R S J O Ch Lo).lookup ("starts" : Str) = some (.ref S) := by
  unfold sf7 sf6 sf5 sf4 sf3
  rw [lookup_putF, if_neg q26, lookup_putF, if_neg q25, lookup_putF, if_neg q24, lookup_putF, if_neg q23, lookup_putF, if_pos rfl]
theorem s7_J (B R S J O Ch Lo : Addr) : (sf7 B R S J O Ch Lo).lookup ("joinings" : Str) = some (.ref J) := by
  unfold sf7 sf6 sf5 sf4
  rw [lookup_putF, if_neg q36, lookup_putF, if_neg q35, lookup_putF, if_neg q34, lookup_putF, if_pos rfl]
theorem s7_O (B R S J O Ch Lo : Addr) : (sf7 B R S J O Ch Lo).lookup ("order" : Str) = some (.ref O) := by
  unfold sf7 sf6 sf5
  rw [lookup_putF, if_neg q46, lookup_putF, if_neg q45, lookup_putF, if_pos rfl]
theorem s7_Ch (B R S J O Ch Lo : Addr) : (sf7 B R S J O Ch Lo).lookup ("changed" : Str) = some (.ref Ch) := by
  unfold sf7 sf6
  rw [lookup_putF, if_neg q56, lookup_putF, if_pos rfl]
theorem s7_Lo (B R S J O Ch Lo : Addr) : (sf7 B R S J O Ch Lo).lookup ("looked" : Str) = some (.ref Lo) := by
  unfold sf7
  rw [lookup_putF, if_pos rfl]
structure SyT (K : PySem.W.Frag) (C : Addr) : Prop where
  cl : Cls K C
  nB : NoAttr K C "book"
  nR : NoAttr K C "row"
  nS : NoAttr K C "starts"
  nJ : NoAttr K C "joinings"
  nO : NoAttr K C "order"
  nC : NoAttr K C "changed"
  nK : NoAttr K C "looked"
/-- the places and data of a sayer -/
structure SD where
  (p dx CS CJ CB B R S J O Ch Lo F L A dxj : Addr)
  (s a b : Nat)
  kvs : List (K2 × K2)
  ws : List Rw
  sh : List Nat
structure SI (P : Program) (w : World) (D : SD) (H0 H' : Hp) (row : Rw) (cn : Nat) : Prop where
  bu : Same H0 H'
  hp : H' D.p = some (.ins D.CS D.dx (sf7 D.B D.R D.S D.J D.O D.Ch D.Lo))
  hR : H' D.R = some (.lst (row.map V.int))
  hS : H' D.S = some (.lst ((il (starts D.ws (D.ws.length + 1))).map V.int))
  hJ : H' D.J = some (.ins D.CJ D.dxj (jf D.F D.L D.A))
  hF : H' D.F = some (.lst ((il (jFi D.sh)).map V.int))
  hL : H' D.L = some (.lst ((il (jLa D.sh)).map V.int))
  hO : H' D.O = some (.lst ((il (ordOf D.sh)).map V.int))
  hC : ∃ cs, H' D.Ch = some (.lst cs) ∧ cs.length ≤ cn
  hK : ∃ kvs : List (Key × V), H' D.Lo = some (.dK kvs) ∧ kvs.length ≤ cn
  hB : Bk P w H' D.B D.CB D.s D.a D.b D.kvs
  nR : H0 D.R = none
  nC : H0 D.Ch = none
  nK : H0 D.Lo = none
  RS : D.R ≠ D.S
  RF : D.R ≠ D.F
  RL : D.R ≠ D.L
  RO : D.R ≠ D.O
  RC : D.R ≠ D.Ch
  CS : D.Ch ≠ D.S
  CF : D.Ch ≠ D.F
  CL : D.Ch ≠ D.L
  CO : D.Ch ≠ D.O
section
variable {P : Program} {w : World} {D : SD} {H0 H H' : Hp} {row : Rw} {cn : Nat}
theorem SI.same (h : SI P w D H0 H row cn) (e : Same H H') : SI P w D H0 H' row cn :=
  ⟨h.bu.trans e, e _ _ h.hp, e _ _ h.hR, e _ _ h.hS, e _ _ h.hJ, e _ _ h.hF, e _ _ h.hL, e _ _ h.hO, let ⟨cs, h1, h2⟩ := h.hC; ⟨cs, e _ _ h1, h2⟩, let ⟨cs, h1, h2⟩ := h.hK; ⟨cs, e _ _ h1, h2⟩, h.hB.same e, h.nR, h.nC, h.nK, h.RS, h.RF, h.RL, h.RO, h.RC, h.CS, h.CF, h.CL, h.CO⟩
theorem SI.mono {m : Nat} (h : SI P w D H0 H row cn) (e : cn ≤ m) : SI P w D H0 H row m :=
  ⟨h.bu, h.hp, h.hR, h.hS, h.hJ, h.hF, h.hL, h.hO, let ⟨cs, h1, h2⟩ := h.hC; ⟨cs, h1, Nat.le_trans h2 e⟩, let ⟨cs, h1, h2⟩ := h.hK; ⟨cs, h1, Nat.le_trans h2 e⟩, h.hB, h.nR, h.nC, h.nK, h.RS, h.RF, h.RL, h.RO, h.RC, h.CS, h.CF, h.CL, h.CO⟩
/-- a book survives a store to a list or to a dict of ints -/
theorem Bk.st {p C X : Addr} {s a b : Nat} {kvs : List (K2 × K2)} {o o' : HO} (h : Bk P w H p C s a b kvs) (hX : H X = some o) (n1 : ∀ C dx fs, HO.ins C dx fs ≠ o) (n2 : ∀ ys, HO.tup ys ≠ o) (n3 : ∀ t xs, DO P w t xs ≠ o) : Bk P w (upd H X o') p C s a b kvs := by
  obtain ⟨dx, t, h1, h2⟩ := h
  obtain ⟨xs, h3, h4⟩ := h2
  have tk : Tk H (upd H X o') := fun x ys e => by
    rw [upd_ne (ne_of e hX (n2 ys))]
    exact e
  refine ⟨dx, t, ?_, xs, ?_, h4.tk tk⟩
  · rw [upd_ne (ne_of h1 hX (n1 _ _ _))]
    exact h1
  · rw [upd_ne (ne_of h3 hX (n3 _ _))]
    exact h3
theorem Bk.lst {p C X : Addr} {s a b : Nat} {kvs : List (K2 × K2)} {xs : List V} {o' : HO} (h : Bk P w H p C s a b kvs) (hX : H X = some (.lst xs)) : Bk P w (upd H X o') p C s a b kvs := h.st hX (fun _ _ _ z => nomatch z) (fun _ z => nomatch z) (fun _ _ z => nomatch z)
theorem Bk.dk {p C X : Addr} {s a b : Nat} {kvs : List (K2 × K2)} {xs : List (Key × V)} {o' : HO} (h : Bk P w H p C s a b kvs) (hX : H X = some (.dK xs)) : Bk P w (upd H X o') p C s a b kvs := h.st hX (fun _ _ _ z => nomatch z) (fun _ z => nomatch z) (fun _ _ z => nomatch z)
theorem SI.setR (h : SI P w D H0 H row cn) (r : Rw) : SI P w D H0 (upd H D.R (.lst (r.map V.int))) r cn := by
  obtain ⟨cs, hC, lC⟩ := h.hC
  obtain ⟨ks, hK, lK⟩ := h.hK
  refine ⟨fun b o e => ?_, ?_, upd_same, ?_, ?_, ?_, ?_, ?_, ⟨cs, ?_, lC⟩, ⟨ks, ?_, lK⟩, h.hB.lst h.hR, h.nR, h.nC, h.nK, h.RS, h.RF, h.RL, h.RO, h.RC, h.CS, h.CF, h.CL, h.CO⟩
  · rw [upd_ne (ne_of_none e h.nR)]
    exact h.bu b o e
  · rw [upd_ne (ne_of h.hp h.hR (fun z => nomatch z))]
    exact h.hp
  · rw [upd_ne h.RS.symm]
    exact h.hS
  · rw [upd_ne (ne_of h.hJ h.hR (fun z => nomatch z))]
    exact h.hJ
  · rw [upd_ne h.RF.symm]
    exact h.hF
  · rw [upd_ne h.RL.symm]
    exact h.hL
  · rw [upd_ne h.RO.symm]
    exact h.hO
  · rw [upd_ne h.RC.symm]
    exact hC
  · rw [upd_ne (ne_of hK h.hR (fun z => nomatch z))]
    exact hK
theorem SI.setC (h : SI P w D H0 H row cn) {cs : List V} (lC : cs.length ≤ cn) : SI P w D H0 (upd H D.Ch (.lst cs)) row cn := by
  obtain ⟨cs', hC, lC'⟩ := h.hC
  obtain ⟨ks, hK, lK⟩ := h.hK
  refine ⟨fun b o e => ?_, ?_, ?_, ?_, ?_, ?_, ?_, ?_, ⟨cs, upd_same, lC⟩, ⟨ks, ?_, lK⟩, h.hB.lst hC, h.nR, h.nC, h.nK, h.RS, h.RF, h.RL, h.RO, h.RC, h.CS, h.CF, h.CL, h.CO⟩
  · rw [upd_ne (ne_of_none e h.nC)]
    exact h.bu b o e
  · rw [upd_ne (ne_of h.hp hC (fun z => nomatch z))]
    exact h.hp
  · rw [upd_ne h.RC]
    exact h.hR
  · rw [upd_ne h.CS.symm]
    exact h.hS
  · rw [upd_ne (ne_of h.hJ hC (fun z => nomatch z))]
    exact h.hJ
  · rw [upd_ne h.CF.symm]
    exact h.hF
  · rw [upd_ne h.CL.symm]
    exact h.hL
  · rw [upd_ne h.CO.symm]
    exact h.hO
  · rw [upd_ne (ne_of hK hC (fun z => nomatch z))]
    exact hK
theorem SI.setK (h : SI P w D H0 H row cn) {ks : List (Key × V)} (lK : ks.length ≤ cn) : SI P w D H0 (upd H D.Lo (.dK ks)) row cn := by
  obtain ⟨cs, hC, lC⟩ := h.hC
  obtain ⟨ks', hK, lK'⟩ := h.hK
  have kl : ∀ {x : Addr} {xs : List V}, H x = some (.lst xs) → upd H D.Lo (.dK ks) x = some (.lst xs) := fun {x xs} e => by
    rw [upd_ne (ne_of e hK (fun z => nomatch z))]
    exact e
  refine ⟨fun b o e => ?_, ?_, kl h.hR, kl h.hS, ?_, kl h.hF, kl h.hL, kl h.hO, ⟨cs, kl hC, lC⟩, ⟨ks, upd_same, lK⟩, h.hB.dk hK, h.nR, h.nC, h.nK, h.RS, h.RF, h.RL, h.RO, h.RC, h.CS, h.CF, h.CL, h.CO⟩
  · rw [upd_ne (ne_of_none e h.nK)]
    exact h.bu b o e
  · rw [upd_ne (ne_of h.hp hK (fun z => nomatch z))]
    exact h.hp
  · rw [upd_ne (ne_of h.hJ hK (fun z => nomatch z))]
    exact h.hJ
end
theorem putK_len {κ : Type} [DecidableEq κ] (kvs : List (κ × V)) (k : κ) (v : V) : (putK kvs k v).length ≤ kvs.length + 1 := by
  unfold putK
  split
  · rw [List.length_map]
    omega
  · rw [List.length_append, List.length_singleton]
    exact Nat.le_refl _
theorem starts_getD {ws : List Rw} {k i : Nat} (h : i < k) : (starts ws k).getD i 0 = stAt ws i := by
  unfold starts
  rw [List.getD_eq_getElem?_getD, List.getElem?_map, List.getElem?_range h]
  rfl
theorem starts_len (ws : List Rw) (k : Nat) : (starts ws k).length = k := by
  unfold starts
  rw [List.length_map, List.length_range]
theorem starts_succ (ws : List Rw) (k : Nat) : starts ws (k + 1) = starts ws k ++ [stAt ws k] := by
  unfold starts
  rw [List.range_succ, List.map_append]
  rfl
end Seam

set_option Elab.async false
set_option linter.all false
set_option maxRecDepth 100000
set_option maxHeartbeats 4000000
namespace Seam
open PySem PySem.Spec PyProof.Rows L2 Nd Rz
section
variable {P : Program} {w : World} {K : PySem.W.Frag} {mg : Str → Option Value} {base : Heap} {X : Cx}
theorem cut_both {r : Rw} {b m : Nat} (h1 : b ≤ m) (h2 : m ≤ r.length) : cutV (r.map V.int) (some (b : Int)) (some (m : Int)) = ((r.drop b).take (m - b)).map V.int := by
  rw [cutV_R]
  unfold cutR
  rw [HT.sIx_nat, HT.sIx_nat, Nat.min_eq_left h2, Nat.min_eq_left (Nat.le_trans h1 h2)]
/-- one seam is joined -/
def spJoinS (P : Program) (w : World) (CS CJ CB : Addr) : Sp := fun vs H Q _ => ∃ (D : SD) (H0 : Hp) (row : Rw) (cn m : Nat), vs = [.ref D.p, .int m] ∧ D.CS = CS ∧ D.CJ = CJ ∧ D.CB = CB ∧ SI P w D H0 H row cn ∧ cn ≤ 2000 ∧ LenOk D.kvs ∧
  row.length = D.ws.flatten.length ∧ row.length ≤ 50 ∧ m < D.sh.length ∧ D.ws.length = D.sh.length + 1 ∧ (jFi D.sh).length = D.sh.length ∧ (jLa D.sh).length = D.sh.length ∧ (jFi D.sh).getD m 0 ≤ m ∧ m < (jLa D.sh).getD m 0 ∧ (jLa D.sh).getD m 0 ≤ D.sh.length ∧
  ∀ H', SI P w D H0 H' (sayRow (lk D.kvs) D.a D.b D.ws D.sh row [m]) (cn + 100) → (sayRow (lk D.kvs) D.a D.b D.ws D.sh row [m]).length = row.length → Q .non H'
abbrev N_js : List Str := ["self", "seam", "first", "middle", "last", "begin", "end", "new_left", "new_right", "place", "new"]
theorem sc_js : FnScope N_js ["self", "seam"] (defScope s_Sayer_join) := ⟨rfl, rfl, rfl, by decide +kernel, rfl, by decide +kernel, by decide +kernel⟩
/-- if self.row[place] != new: changed.append(..) -/
def tCh (P : Program) (w : World) (CS : Addr) : TS := fun D σ H => ∃ (d : SD) (H0 : Hp) (row : Rw) (cn j : Nat) (v x m : Int) (zt : Addr) (zv : List V) (x2 x3 x4 x5 x6 x7 x8 : Option V), σ = [some (.ref d.p), some (.int m), x2, x3, x4, x5, x6, x7, x8, some (.int (j : Nat)), some (.int v)] ∧ d.CS = CS ∧ SI P w d H0 H row cn ∧ cn ≤ 3000 ∧ row[j]? = some x ∧ H zt = some (.tup zv) ∧
  ∀ H', SI P w d H0 H' row (cn + 1) → H' zt = some (.tup zv) → D.nx [some (.ref d.p), some (.int m), x2, x3, x4, x5, x6, x7, x8, some (.int (j : Nat)), some (.int v)] H'
theorem ok_js {f CS CJ CB : Addr} {fd : FuncData} (F : FnP K "join" "Sayer.join" s_Sayer_join f fd) (TS' : SyT K CS) (TJ : JnT K CJ) (TB : BkT K CB) (ct : Cal P w K mg base CX0 1 "told" ["book", "left", "right"] (spTold P w CB))
    (mmx : mg "max" = none) (mmn : mg "min" = none) (mtu : mg "tuple" = none) (mz : mg "zip" = none) (mr : mg "range" = none) : FnOk P w K mg base CX0 2 f fd ["self", "seam"] (spJoinS P w CS CJ CB) := by
  obtain ⟨f1, fd1, G, g, kp, bn⟩ := ct.ex
  refine F.fn.ok sc_js (fun vs H Q E h => ?_) (fun cdv Ar outer s H vs Q E hr h => ?_)
  · obtain ⟨D, H0, row, cn, m, rfl, _⟩ := h
    rfl
  · obtain ⟨D, H0, row, cn, m, rfl, rfl, rfl, rfl, I, hcn, hlk, hrl, hr100, hm, hws, lF, lL, g1, g2, g3, fin⟩ := h
    have hu : (Ar.deeper (envOfC "Sayer.join" (defScope s_Sayer_join) _ f cdv)).units + 64 < cLine := hr.units
    have hu1 := Nat.lt_of_le_of_lt (Nat.add_le_add_left (show 1 ≤ 64 by decide) _) hu
    refine ⟨_, pss_cons (ps_set (i := 2) sc_js.nd rfl (Or.inl rfl) (pe_ix ix_list (pe_fld (pv 0) rfl) (pe_ix ix_list (pe_fld (pe_fld (pv 0) rfl) rfl) (pv 1) (fun _ _ => rfl)) (fun _ _ => rfl)))
      (pss_cons (ps_set (i := 3) sc_js.nd rfl (Or.inl rfl) (pe_ix ix_list (pe_fld (pv 0) rfl) (pe_op op_add (pv 1) pe_int) (fun _ _ => rfl)))
      (pss_cons (ps_set (i := 4) sc_js.nd rfl (Or.inl rfl) (pe_ix ix_list (pe_fld (pv 0) rfl) (pe_op op_add (pe_ix ix_list (pe_fld (pe_fld (pv 0) rfl) rfl) (pv 1) (fun _ _ => rfl)) pe_int) (fun _ _ => rfl)))
      (pss_cons (ps_set (i := 5) sc_js.nd rfl (Or.inl rfl) (pe_callB (call_max2 rfl) (by rfl) mmx (by decide +kernel) (pa_cons (pv 2) (pa_cons (pe_op op_sub (pv 3) (pe_fld (pe_fld (pv 0) rfl) rfl)) pa_nil))))
      (pss_cons (ps_set (i := 6) sc_js.nd rfl (Or.inl rfl) (pe_callB (call_min2 rfl) (by rfl) mmn (by decide +kernel) (pa_cons (pv 4) (pa_cons (pe_op op_add (pv 3) (pe_fld (pe_fld (pv 0) rfl) rfl)) pa_nil))))
      (pss_cons (ps_asg (pe_call G hr (by rfl) g kp bn .nil pass0 (pa_cons (pe_fld (pv 0) rfl) (pa_cons (pe_callTy call_tuple_of (by rfl) mtu (by decide +kernel) (pa_cons (pe_slice sl_list (pe_fld (pv 0) rfl) (po_some (pv 5)) (po_some (pv 3))) pa_nil))
          (pa_cons (pe_callTy call_tuple_of (by rfl) mtu (by decide +kernel) (pa_cons (pe_slice sl_list (pe_fld (pv 0) rfl) (po_some (pv 3)) (po_some (pv 6))) pa_nil)) pa_nil))))
          (pg_tup rfl (pgs_cons (pg_name (i := 7) sc_js.nd rfl (Or.inl rfl)) (pgs_cons (pg_name (i := 8) sc_js.nd rfl (Or.inl rfl)) pgs_nil))))
      (pss_one (ps_for PassesOwn.never rfl (pi_zipRT (by rfl) mz (pa_cons (pe_callTy cr_range2 (by rfl) mr (by decide +kernel) (pa_cons (pv 5) (pa_cons (pv 6) pa_nil))) (pa_cons (pe_op op_catR (pv 7) (pv 8)) pa_nil)))
          (pg_tup rfl (pgs_cons (pg_name (i := 9) sc_js.nd rfl (Or.inl rfl)) (pgs_cons (pg_name (i := 10) sc_js.nd rfl (Or.inl rfl)) pgs_nil)))
          (pss_cons (ps_dput hu1 (pe_fld (pv 0) rfl) (pv 9) pe_bl rfl)
          (pss_cons (ps_imp (t' := tCh P w D.CS) (ps_if (pt_cmpR op_ne (pe_ix ix_list (pe_fld (pv 0) rfl) (pv 9) (fun _ _ => rfl)) (pv 10) (nomark _))
              (pss_one (ps_expr (pe_bm PySem.F.plainAttrs_list PySem.F.slot_list_append PySem.F.type_list_append mt_append (pe_fld (pv 0) rfl) (pa_cons (pe_tup (pa_cons (pv 1) (pa_cons (pv 9) (pa_cons (pe_ix ix_list (pe_fld (pv 0) rfl) (pv 9) (fun _ _ => rfl)) (pa_cons (pv 10) pa_nil))))) pa_nil)))) pss_nil) (fun D' σ H' hh => ?_))
          (pss_one (ps_asg (pv 10) (pg_sub (pe_fld (pv 0) rfl) (pv 9) set_list)))))))))))), ?_⟩
    · obtain ⟨d, H0', row', cn', j, v, x, m', zt, zv, x2, x3, x4, x5, x6, x7, x8, rfl, ecs, I', hcn', hx, hzt, q⟩ := hh
      have hx' : (row'.map V.int)[j]? = some (.int x) := by rw [List.getElem?_map, hx]; rfl
      have hp' := I'.hp
      rw [ecs] at hp'
      refine ⟨_, rfl, d.p, _, d.dx, _, _, rfl, hp', TS'.cl, TS'.nR, s7_R _ _ _ _ _ _ _, _, rfl, d.R, _, _, _, rfl, rfl, SqL.of I'.hR, atI_nat (j := j) hx', _, rfl, rfl, _, rfl, ?_⟩
      by_cases e : x = v
      · rw [show decide (V.int x = V.int v) = true from decide_eq_true (congrArg V.int e)]
        exact iteF (q H' (I'.mono (Nat.le_succ _)) hzt)
      · rw [show decide (V.int x = V.int v) = false from decide_eq_false (fun z => e (V.int.inj z))]
        obtain ⟨cs, hC, lC⟩ := I'.hC
        refine iteT ⟨_, rfl, d.p, _, d.dx, _, _, rfl, hp', TS'.cl, TS'.nC, s7_Ch _ _ _ _ _ _ _, .inl ⟨rfl, _, SqL.of hC⟩, _, rfl, _, rfl, _, rfl, d.p, _, d.dx, _, _, rfl, hp', TS'.cl, TS'.nR, s7_R _ _ _ _ _ _ _, _, rfl, d.R, _, _, _, rfl, rfl, SqL.of I'.hR, atI_nat (j := j) hx', _, rfl, (by show 4 ≤ sizeLine; decide), fun t nt => ?_⟩
        have y := same_new (o := .tup [V.int m', V.int (j : Nat), V.int x, V.int v]) nt
        have hC2 := y _ _ hC
        refine ⟨d.Ch, _, _, rfl, rfl, hC2, small1000' (by omega), q _ (((I'.same y).mono (Nat.le_succ _)).setC ?_) ?_⟩
        · rw [List.length_append, List.length_singleton]
          omega
        · rw [upd_ne (ne_of (y _ _ hzt) hC2 (fun z => nomatch z))]
          exact y _ _ hzt
    · obtain ⟨dxb, tb, hb0, _⟩ := id I.hB
      have hSat : ∀ i, i ≤ D.ws.length → ((il (starts D.ws (D.ws.length + 1))).map V.int)[i]? = some (.int (stAt D.ws i : Nat)) := fun i hi => by
        rw [getD_get (by rw [starts_len]; omega), starts_getD (by omega)]
      have lall := stAt_all D.ws
      have mo1 := stAt_mono (ws := D.ws) (show (jFi D.sh).getD m 0 ≤ m + 1 by omega)
      have mo2 := stAt_mono (ws := D.ws) (show m + 1 ≤ (jLa D.sh).getD m 0 + 1 by omega)
      have mo3 := stAt_mono (ws := D.ws) (show (jLa D.sh).getD m 0 + 1 ≤ D.ws.length by omega)
      refine ⟨_, rfl, D.p, _, D.dx, _, _, rfl, I.hp, TS'.cl, TS'.nS, s7_S _ _ _ _ _ _ _, _, rfl, D.p, _, D.dx, _, _, rfl, I.hp, TS'.cl, TS'.nJ, s7_J _ _ _ _ _ _ _, D.J, _, D.dxj, _, _, rfl, I.hJ, TJ.cl, TJ.n1, jf_first _ _ _, _, rfl, D.F, _, _, _, rfl, rfl, SqL.of I.hF, atI_nat (j := m) (getD_get (by omega)),
        D.S, _, _, _, rfl, rfl, SqL.of I.hS, atI_nat (j := (jFi D.sh).getD m 0) (hSat _ (by omega)), ?_⟩
      have hat2 : atI ((il (starts D.ws (D.ws.length + 1))).map V.int) ((m : Int) + 1) = some (.int (stAt D.ws (m + 1) : Nat)) := by
        rw [← Int.natCast_succ]
        exact atI_nat (j := m + 1) (hSat _ (by omega))
      refine ⟨_, rfl, D.p, _, D.dx, _, _, rfl, I.hp, TS'.cl, TS'.nS, s7_S _ _ _ _ _ _ _, _, rfl, _, _, rfl, rfl, D.S, _, _, _, rfl, rfl, SqL.of I.hS, hat2, ?_⟩
      have hat3 : atI ((il (starts D.ws (D.ws.length + 1))).map V.int) (((jLa D.sh).getD m 0 : Nat) + 1 : Int) = some (.int (stAt D.ws ((jLa D.sh).getD m 0 + 1) : Nat)) := by
        rw [← Int.natCast_succ]
        exact atI_nat (j := (jLa D.sh).getD m 0 + 1) (hSat _ (by omega))
      refine ⟨_, rfl, D.p, _, D.dx, _, _, rfl, I.hp, TS'.cl, TS'.nS, s7_S _ _ _ _ _ _ _, _, rfl, D.p, _, D.dx, _, _, rfl, I.hp, TS'.cl, TS'.nJ, s7_J _ _ _ _ _ _ _, D.J, _, D.dxj, _, _, rfl, I.hJ, TJ.cl, TJ.n2, jf_last _ _ _, _, rfl, D.L, _, _, _, rfl, rfl, SqL.of I.hL, atI_nat (j := m) (getD_get (by omega)), _, _, rfl, rfl,
        D.S, _, _, _, rfl, rfl, SqL.of I.hS, hat3, ?_⟩
      obtain ⟨fi, hfi⟩ : ∃ x, stAt D.ws ((jFi D.sh).getD m 0) = x := ⟨_, rfl⟩
      obtain ⟨mi, hmi⟩ : ∃ x, stAt D.ws (m + 1) = x := ⟨_, rfl⟩
      obtain ⟨la, hla⟩ : ∃ x, stAt D.ws ((jLa D.sh).getD m 0 + 1) = x := ⟨_, rfl⟩
      rw [hfi, hmi] at mo1
      rw [hmi, hla] at mo2
      rw [hla, lall, ← hrl] at mo3
      rw [hfi, hmi, hla]
      have eS : sayRow (lk D.kvs) D.a D.b D.ws D.sh row [m] = jRow (lk D.kvs) D.a D.b fi mi la row := by
        unfold sayRow
        rw [List.foldl_cons, List.foldl_nil, hfi, hmi, hla]
      rw [eS] at fin
      clear hat2 hat3
      refine ⟨_, rfl, _, rfl, _, rfl, D.p, _, D.dx, _, _, rfl, I.hp, TS'.cl, TS'.nB, s7_B _ _ _ _ _ _ _, D.B, _, dxb, _, _, rfl, hb0, TB.cl, TB.n2, bf_a _ _ _ _, _, _, rfl, rfl, _, _, rfl, ?_⟩
      rw [show (if (mi : Int) - (D.a : Int) > (fi : Int) then (mi : Int) - (D.a : Int) else (fi : Int)) = ((jBeg D.a fi mi : Nat) : Int) by unfold jBeg; split <;> omega]
      refine ⟨_, rfl, _, rfl, _, rfl, D.p, _, D.dx, _, _, rfl, I.hp, TS'.cl, TS'.nB, s7_B _ _ _ _ _ _ _, D.B, _, dxb, _, _, rfl, hb0, TB.cl, TB.n3, bf_b _ _ _ _, _, _, rfl, rfl, _, _, rfl, ?_⟩
      rw [show (if (mi : Int) + (D.b : Int) < (la : Int) then (mi : Int) + (D.b : Int) else (la : Int)) = ((jEnd D.b mi la : Nat) : Int) by unfold jEnd; split <;> omega]
      have k1 : jBeg D.a fi mi ≤ mi := by unfold jBeg; omega
      have k2 : mi ≤ jEnd D.b mi la := by unfold jEnd; omega
      have k3 : jEnd D.b mi la ≤ row.length := by unfold jEnd; omega
      unfold jRow at fin
      generalize jBeg D.a fi mi = bg at *
      generalize jEnd D.b mi la = ed at *
      refine ⟨_, rfl, D.p, _, D.dx, _, _, rfl, I.hp, TS'.cl, TS'.nB, s7_B _ _ _ _ _ _ _, _, rfl, D.p, _, D.dx, _, _, rfl, I.hp, TS'.cl, TS'.nR, s7_R _ _ _ _ _ _ _, _, rfl, _, rfl, _, rfl, _, rfl, D.R, _, rfl, SqL.of I.hR, fun l1 nl1 => ⟨l1, _, rfl, .inl ⟨SqL.of upd_same, fun t1 nt1 => ?_⟩⟩⟩
      rw [cut_both k1 (by omega)]
      rw [cut_both k1 (by omega)] at nt1
      have y1 := (same_new (o := .lst (((row.drop bg).take (mi - bg)).map V.int)) nl1).trans (same_new (o := .tup (((row.drop bg).take (mi - bg)).map V.int)) nt1)
      have I2 := I.same y1
      have ro1 : Ro (upd (upd H l1 (.lst (((row.drop bg).take (mi - bg)).map V.int))) t1 (.tup (((row.drop bg).take (mi - bg)).map V.int))) t1 ((row.drop bg).take (mi - bg)) := upd_same
      show (tCons _ _ : TA) _ (upd (upd H l1 (.lst (((row.drop bg).take (mi - bg)).map V.int))) t1 (.tup (((row.drop bg).take (mi - bg)).map V.int))) _
      generalize upd (upd H l1 (.lst (((row.drop bg).take (mi - bg)).map V.int))) t1 (.tup (((row.drop bg).take (mi - bg)).map V.int)) = H2 at *
      refine ⟨_, rfl, D.p, _, D.dx, _, _, rfl, I2.hp, TS'.cl, TS'.nR, s7_R _ _ _ _ _ _ _, _, rfl, _, rfl, _, rfl, _, rfl, D.R, _, rfl, SqL.of I2.hR, fun l2 nl2 => ⟨l2, _, rfl, .inl ⟨SqL.of upd_same, fun t2 nt2 => ?_⟩⟩⟩
      rw [cut_both k2 k3]
      rw [cut_both k2 k3] at nt2
      have y2 := (same_new (o := .lst (((row.drop mi).take (ed - mi)).map V.int)) nl2).trans (same_new (o := .tup (((row.drop mi).take (ed - mi)).map V.int)) nt2)
      have I3 := I2.same y2
      refine ⟨D.B, t1, t2, D.s, D.a, D.b, D.kvs, jKey row bg mi ed, rfl, I3.hB, y2 _ _ ro1, upd_same, fun H4 q4 s4 pr4 => ?_⟩
      have I4 := I3.same s4
      obtain ⟨v1, v2, w0, w1, w2⟩ := pr4
      refine ⟨q4, _, rfl, SqT.of w0, rfl, _, _, rfl, _, _, rfl, rfl, ?_⟩
      obtain ⟨n1, n2⟩ := hlk (jKey row bg mi ed)
      have m1 : (jKey row bg mi ed).1.length = mi - bg := by
        unfold jKey
        rw [List.length_take, List.length_drop]
        omega
      have m2 : (jKey row bg mi ed).2.length = ed - mi := by
        unfold jKey
        rw [List.length_take, List.length_drop]
        omega
      have mN : (jNew (lk D.kvs) row bg mi ed).length = ed - bg := by
        unfold jNew
        rw [List.length_append]
        omega
      refine ⟨_, rfl, _, rfl, _, _, rfl, fun rg nrg => ?_⟩
      have yr := same_new (o := .rng (bg : Int) (ed : Int)) nrg
      have I5 := I4.same yr
      refine ⟨_, rfl, _, rfl, v1, v2, _, _, rfl, rfl, yr _ _ w1, yr _ _ w2, by omega, fun z H6 s6 hz => ?_⟩
      have I6 := I5.same s6
      have hrg : H6 rg = some (.rng (bg : Int) (ed : Int)) := s6 _ _ upd_same
      have hz' : H6 z = some (.tup ((jNew (lk D.kvs) row bg mi ed).map V.int)) := hz
      have lz : ((jNew (lk D.kvs) row bg mi ed).map V.int).length = ed - bg := by rw [List.length_map, mN]
      generalize jNew (lk D.kvs) row bg mi ed = new at *
      refine ⟨rg, z, bg, ed, _, rfl, hrg, SqT.of hz', by omega, by omega, by omega, by omega, by omega, for_rt (K := K) (fun i σ H' => ∃ x9 x10, σ = [some (.ref D.p), some (.int m), some (.int fi), some (.int mi), some (.int la), some (.int bg), some (.int ed), some (.ref v1), some (.ref v2), x9, x10] ∧ SI P w D H0 H' (jPart new row bg i) (cn + 2 * i) ∧ H' z = some (.tup (new.map V.int)))
        ⟨none, none, rfl, ?_, hz'⟩ (fun i σ H' ⟨_, _, _, _, h⟩ => SqT.of h) (fun i y T σ H7 hy zz hT => ?_) (fun σ H7 zz => ?_)⟩
      · have e0 : jPart new row bg 0 = row := by
          unfold jPart
          rw [List.take_zero, List.append_nil, Nat.add_zero, List.take_append_drop]
        rw [e0]
        exact I6
      · obtain ⟨x9, x10, rfl, I7, hz7⟩ := zz
        have hil : i < new.length := by
          have h1 := (List.getElem?_eq_some_iff.mp hy).1
          rw [List.length_map] at h1
          exact h1
        rw [List.getElem?_map, List.getElem?_eq_getElem hil] at hy
        cases hy
        have yT := same_new (o := .tup [V.int ((bg : Int) + (i : Nat)), V.int new[i]]) hT
        have I8 := I7.same yT
        have hz8 := yT _ _ hz7
        obtain ⟨ks, hK, lK⟩ := I8.hK
        refine ⟨T, _, rfl, SqT.of upd_same, rfl, _, _, rfl, _, _, rfl, rfl, ?_⟩
        refine ⟨_, rfl, D.p, _, D.dx, _, _, rfl, I8.hp, TS'.cl, TS'.nK, s7_Lo _ _ _ _ _ _ _, _, rfl, D.Lo, _, rfl, DPut.k (k := Sum.inl ((bg : Int) + (i : Nat))) hK (small1000' (by omega)), ?_⟩
        have I9 := (I8.mono (Nat.le_succ _)).setK (ks := putK ks (Sum.inl ((bg : Int) + (i : Nat))) (V.bl true)) (by have := putK_len ks (Sum.inl ((bg : Int) + (i : Nat)) : Key) (V.bl true); omega)
        have hz9 : upd (upd H7 T (.tup [V.int ((bg : Int) + (i : Nat)), V.int new[i]])) D.Lo (.dK (putK ks (Sum.inl ((bg : Int) + (i : Nat))) (V.bl true))) z = some (.tup (new.map V.int)) := by
          rw [upd_ne (ne_of hz8 hK (fun z => nomatch z))]
          exact hz8
        refine ⟨D, H0, _, _, bg + i, new[i], _, m, z, _, _, _, _, _, _, _, _, rfl, rfl, I9, by omega, jPart_get (by omega) (by omega), hz9, fun HA IA hzA => ?_⟩
        refine ⟨_, rfl, _, rfl, D.p, _, D.dx, _, _, rfl, IA.hp, TS'.cl, TS'.nR, s7_R _ _ _ _ _ _ _, _, rfl, D.R, _, _, bg + i, rfl, rfl, IA.hR, ixN_nat (by rw [List.length_map, jPart_len (by omega) (by omega)]; omega), ?_⟩
        rw [show (((jPart new row bg i).map V.int).set (bg + i) (V.int new[i])) = ((jPart new row bg (i + 1)).map V.int) by rw [← List.map_set, jPart_set (by omega) hil]]
        refine ⟨_, _, rfl, (IA.setR _).mono (by omega), ?_⟩
        rw [upd_ne (ne_of hzA IA.hR (fun z => nomatch z))]
        exact hzA
      · obtain ⟨x9, x10, rfl, I7, hz7⟩ := zz
        rw [lz] at I7
        exact fin H7 (I7.mono (by omega)) (jPart_len (by omega) (by omega))
end
end Seam

set_option Elab.async false
set_option linter.all false
set_option maxRecDepth 100000
set_option maxHeartbeats 4000000
namespace Seam
open PySem PySem.Spec PyProof.Rows L2 Nd Rz
theorem s7_join (B R S J O Ch Lo : Addr) : (sf7 B R S J O Ch Lo).lookup ("join" : Str) = none := by
  unfold sf7 sf6 sf5 sf4 sf3 sf2 sf1
  rw [lookup_putF, if_neg (by decide +kernel), lookup_putF, if_neg (by decide +kernel), lookup_putF, if_neg (by decide +kernel), lookup_putF, if_neg (by decide +kernel), lookup_putF, if_neg (by decide +kernel), lookup_putF, if_neg (by decide +kernel), lookup_putF, if_neg (by decide +kernel)]
  rfl
theorem s7_say (B R S J O Ch Lo : Addr) : (sf7 B R S J O Ch Lo).lookup ("say" : Str) = none := by
  unfold sf7 sf6 sf5 sf4 sf3 sf2 sf1
  rw [lookup_putF, if_neg (by decide +kernel), lookup_putF, if_neg (by decide +kernel), lookup_putF, if_neg (by decide +kernel), lookup_putF, if_neg (by decide +kernel), lookup_putF, if_neg (by decide +kernel), lookup_putF, if_neg (by decide +kernel), lookup_putF, if_neg (by decide +kernel)]
  rfl
/-- a field of a new instance takes a new thing -/
theorem fset {H0 H' : Hp} {p C dx : Addr} {fs : List (Str × V)} (fs' : List (Str × V)) (s0 : Same H0 H') (n0 : H0 p = none) (hp : H' p = some (.ins C dx fs)) :
    Same H0 (upd H' p (.ins C dx fs')) ∧ upd H' p (.ins C dx fs') p = some (.ins C dx fs') ∧ ∀ x u, H' x = some u → x ≠ p → upd H' p (.ins C dx fs') x = some u :=
  ⟨fun x o e => by rw [upd_ne (ne_of_none e n0)]; exact s0 _ _ e, upd_same, fun x u e n => by rw [upd_ne n]; exact e⟩
section
variable {P : Program} {w : World} {K : PySem.W.Frag} {mg : Str → Option Value} {base : Heap} {X : Cx}
def spSyInit (P : Program) (w : World) (CS CJ CB : Addr) : Sp := fun vs H Q _ => ∃ (H0 : Hp) (p dx B q r : Addr) (s a b n : Nat) (kvs : List (K2 × K2)) (ws : List Rw) (sh : List Nat), vs = [.ref p, .ref B, .ref q, .ref r] ∧ H p = some (.ins CS dx []) ∧ Same H0 H ∧ H0 p = none ∧
  Bk P w H0 B CB s a b kvs ∧ Wd H0 q ws ∧ ws.length = n + 1 ∧ RwsOk s 1 9 ws ∧ Ro H0 r (il sh) ∧ n ≤ 4 ∧ shOk n sh = true ∧
  ∀ H' R S J O Ch Lo F L A dxj, SI P w ⟨p, dx, CS, CJ, CB, B, R, S, J, O, Ch, Lo, F, L, A, dxj, s, a, b, kvs, ws, sh⟩ H0 H' ws.flatten 0 → Q .non H'
abbrev N_sy : List Str := ["self", "book", "words", "shape", "word"]
theorem sc_sy : FnScope N_sy ["self", "book", "words", "shape"] (defScope s_Sayer__init) := ⟨rfl, rfl, rfl, by decide +kernel, rfl, by decide +kernel, by decide +kernel⟩
theorem ok_sy {f CS CJ CB : Addr} {fd : FuncData} (F : FnP K "__init__" "Sayer.__init__" s_Sayer__init f fd) (T : SyT K CS) (mk : Mkr P w K mg base CJ 1 "Joinings" ["self", "shape"] (spJn CJ)) (ci : Cal P w K mg base CX0 3 "inner_first" ["shape"] spInner)
    (ml : mg "len" = none) (mli : mg "list" = none) : FnOk P w K mg base CX0 4 f fd ["self", "book", "words", "shape"] (spSyInit P w CS CJ CB) := by
  obtain ⟨f1, fd1, G1, M1, g1, bn1⟩ := mk.ex
  obtain ⟨f2, fd2, G2, g2, kp2, bn2⟩ := ci.ex
  refine F.fn.ok sc_sy (fun vs H Q E h => ?_) (fun cdv Ar outer st H vs Q E hr h => ?_)
  · obtain ⟨H0, p, dx, B, q, r, s, a, b, n, kvs, ws, sh, rfl, _⟩ := h
    rfl
  · obtain ⟨H0, p, dx, B, q, r, s, a, b, n, kvs, ws, sh, rfl, hp, s0, n0, hb, hw, lw, hrs, hsh, hn, hok, fin⟩ := h
    obtain ⟨lsh, jok, iok, _⟩ := sh_parts hok
    have hfl := flat_len hrs
    refine ⟨_, pss_cons (ps_fld (pv 0) (pv 1) rfl) (pss_cons (ps_fld (pv 0) (pe_lst pa_nil) rfl) (pss_cons (ps_fld (pv 0) (pe_lst pa_nil) rfl)
      (pss_cons (ps_for PassesOwn.never rfl (pi_tup (pv 2)) (pg_name (i := 4) sc_sy.nd rfl (Or.inl rfl))
        (pss_cons (ps_expr (pe_bm PySem.F.plainAttrs_list PySem.F.slot_list_append PySem.F.type_list_append mt_append (pe_fld (pv 0) rfl) (pa_cons (pe_callB call_len_seq (by rfl) ml PySem.boot_len (pa_cons (pe_fld (pv 0) rfl) pa_nil)) pa_nil)))
        (pss_one (ps_expr (pe_bm PySem.F.plainAttrs_list PySem.F.slot_list_extend PySem.F.type_list_extend mt_extend (pe_fld (pv 0) rfl) (pa_cons (pe_callTy call_list_of (by rfl) mli (by decide +kernel) (pa_cons (pv 4) pa_nil)) pa_nil))))))
      (pss_cons (ps_expr (pe_bm PySem.F.plainAttrs_list PySem.F.slot_list_append PySem.F.type_list_append mt_append (pe_fld (pv 0) rfl) (pa_cons (pe_callB call_len_seq (by rfl) ml PySem.boot_len (pa_cons (pe_fld (pv 0) rfl) pa_nil)) pa_nil)))
      (pss_cons (ps_fld (pv 0) (pe_make M1 G1 (hr.mono (by decide)) (by rfl) g1 bn1 .nil pass0 (pa_cons (pv 3) pa_nil)) rfl)
      (pss_cons (ps_fld (pv 0) (pe_call G2 hr (by rfl) g2 kp2 bn2 .nil pass0 (pa_cons (pv 3) pa_nil)) rfl)
      (pss_cons (ps_fld (pv 0) (pe_lst pa_nil) rfl) (pss_one (ps_fld (pv 0) pe_dnewK rfl))))))))), ?_⟩
    refine ⟨_, rfl, _, rfl, p, CS, dx, _, rfl, hp, T.cl, T.nB, (by show 0 < 1000; decide), ?_⟩
    obtain ⟨t1, p1, -⟩ := fset (sf1 B) s0 n0 hp
    show (tSeq _ _ : TS) _ _ (upd H p (.ins CS dx (sf1 B)))
    generalize upd H p (.ins CS dx (sf1 B)) = H1 at *
    refine ⟨(by show 0 ≤ sizeLine; decide), fun R nR => ?_⟩
    have yR := same_new (o := .lst []) nR
    have nR0 := none_back t1 nR
    refine ⟨_, rfl, p, CS, dx, _, rfl, yR _ _ p1, T.cl, T.nR, Nat.lt_of_le_of_lt (sf_len1 _) (by decide), ?_⟩
    obtain ⟨t2, p2, k2⟩ := fset (sf2 B R) (t1.trans yR) n0 (yR _ _ p1)
    have hR2 := k2 R _ upd_same (ne_of_none p1 nR).symm
    show (tSeq _ _ : TS) _ _ (upd (upd H1 R (.lst [])) p (.ins CS dx (sf2 B R)))
    generalize upd (upd H1 R (.lst [])) p (.ins CS dx (sf2 B R)) = H2 at *
    refine ⟨(by show 0 ≤ sizeLine; decide), fun S nS => ?_⟩
    have yS := same_new (o := .lst []) nS
    have nS0 := none_back t2 nS
    have RS : R ≠ S := ne_of_none hR2 nS
    refine ⟨_, rfl, p, CS, dx, _, rfl, yS _ _ p2, T.cl, T.nS, Nat.lt_of_le_of_lt (sf_len2 _ _) (by decide), ?_⟩
    obtain ⟨t3, p3, k3⟩ := fset (sf3 B R S) (t2.trans yS) n0 (yS _ _ p2)
    have hS3 := k3 S _ upd_same (ne_of_none p2 nS).symm
    have hR3 := k3 R _ (yS _ _ hR2) (ne_of hR2 p2 (fun z => nomatch z))
    show (tSeq _ _ : TS) _ _ (upd (upd H2 S (.lst [])) p (.ins CS dx (sf3 B R S)))
    generalize upd (upd H2 S (.lst [])) p (.ins CS dx (sf3 B R S)) = H3 at *
    obtain ⟨as, hq, hras⟩ := hw
    have la : ws.length = as.length := Paired.length hras
    refine ⟨_, rfl, q, rfl, ⟨_, SqT.of (t3 _ _ hq)⟩, for_tup (K := K) (a := q) (xs := as.map V.ref) (fun i σ H' => ∃ x4, σ = [some (.ref p), some (.ref B), some (.ref q), some (.ref r), x4] ∧ Same H0 H' ∧ H' p = some (.ins CS dx (sf3 B R S)) ∧ H' R = some (.lst (((ws.take i).flatten).map V.int)) ∧ H' S = some (.lst ((il (starts ws i)).map V.int)))
      ⟨none, rfl, t3, p3, hR3, hS3⟩ (fun i σ H' _ ⟨_, _, h, _⟩ => SqT.of (h _ _ hq)) (fun i x σ H4 hi z => ?_) (fun σ H4 z => ?_)⟩
    · obtain ⟨x4, rfl, t4, p4, hR4, hS4⟩ := z
      have hil : i < ws.length := by
        have h1 := (List.getElem?_eq_some_iff.mp hi).1
        rw [List.length_map] at h1
        omega
      obtain ⟨ad, had, hro⟩ := paired_get hras (List.getElem?_eq_getElem hil)
      rw [List.getElem?_map, had] at hi
      cases hi
      have hst := stAt_mono (ws := ws) (show i + 1 ≤ ws.length by omega)
      rw [stAt_succ hil, stAt_all] at hst
      refine ⟨_, rfl, p, CS, dx, _, _, rfl, p4, T.cl, T.nS, s3_S _ _ _, .inl ⟨rfl, _, SqL.of hS4⟩, _, rfl, p, CS, dx, _, _, rfl, p4, T.cl, T.nR, s3_R _ _ _, R, _, rfl, .inl (SqL.of hR4), S, _, _, rfl, rfl, hS4, ?_, ?_⟩
      · rw [List.length_map, il_len, starts_len]
        exact small1000' (by omega)
      rw [show ((il (starts ws i)).map V.int ++ [V.int ((((ws.take i).flatten).map V.int).length : Nat)]) = (il (starts ws (i + 1))).map V.int by
        rw [starts_succ, List.length_map]
        unfold il stAt
        rw [List.map_append, List.map_append]
        rfl]
      have t5 : Same H0 (upd H4 S (.lst ((il (starts ws (i + 1))).map V.int))) := fun x o e => by
        rw [upd_ne (ne_of_none e nS0)]
        exact t4 _ _ e
      have p5 : upd H4 S (.lst ((il (starts ws (i + 1))).map V.int)) p = some (.ins CS dx (sf3 B R S)) := by
        rw [upd_ne (ne_of p4 hS4 (fun z => nomatch z))]
        exact p4
      have hR5 : upd H4 S (.lst ((il (starts ws (i + 1))).map V.int)) R = some (.lst (((ws.take i).flatten).map V.int)) := by
        rw [upd_ne RS]
        exact hR4
      have hS5 : upd H4 S (.lst ((il (starts ws (i + 1))).map V.int)) S = some (.lst ((il (starts ws (i + 1))).map V.int)) := upd_same
      generalize upd H4 S (.lst ((il (starts ws (i + 1))).map V.int)) = H5 at *
      have hro5 := t5 _ _ hro
      refine ⟨_, rfl, p, CS, dx, _, _, rfl, p5, T.cl, T.nR, s3_R _ _ _, .inl ⟨rfl, _, SqL.of hR5⟩, _, rfl, ad, _, rfl, .inr (SqT.of hro5), fun l hl => ?_⟩
      have yl := same_new (o := .lst (ws[i].map V.int)) hl
      refine ⟨R, l, _, _, rfl, rfl, yl _ _ hR5, upd_same, ?_, ?_⟩
      · rw [List.length_map, List.length_map]
        unfold stAt at hst
        exact Nat.le_of_lt (small1000' (by omega))
      · refine ⟨_, rfl, fun x o e => ?_, ?_, ?_, ?_⟩
        · rw [upd_ne (ne_of_none e nR0)]
          exact yl _ _ (t5 _ _ e)
        · rw [upd_ne (ne_of p5 hR5 (fun z => nomatch z))]
          exact yl _ _ p5
        · rw [upd_same, List.take_add_one, List.getElem?_eq_getElem hil, List.flatten_append, List.map_append]
          simp
        · rw [upd_ne RS.symm]
          exact yl _ _ hS5
    · obtain ⟨x4, rfl, t4, p4, hR4, hS4⟩ := z
      rw [List.length_map, ← la, List.take_length] at hR4
      rw [List.length_map, ← la] at hS4
      refine ⟨_, rfl, p, CS, dx, _, _, rfl, p4, T.cl, T.nS, s3_S _ _ _, .inl ⟨rfl, _, SqL.of hS4⟩, _, rfl, p, CS, dx, _, _, rfl, p4, T.cl, T.nR, s3_R _ _ _, R, _, rfl, .inl (SqL.of hR4), S, _, _, rfl, rfl, hS4, ?_, ?_⟩
      · rw [List.length_map, il_len, starts_len]
        exact small1000' (by omega)
      rw [show ((il (starts ws ws.length)).map V.int ++ [V.int ((ws.flatten.map V.int).length : Nat)]) = (il (starts ws (ws.length + 1))).map V.int by
        rw [starts_succ, List.length_map, stAt_all]
        unfold il
        rw [List.map_append, List.map_append]
        rfl]
      have t5 : Same H0 (upd H4 S (.lst ((il (starts ws (ws.length + 1))).map V.int))) := fun x o e => by
        rw [upd_ne (ne_of_none e nS0)]
        exact t4 _ _ e
      have p5 : upd H4 S (.lst ((il (starts ws (ws.length + 1))).map V.int)) p = some (.ins CS dx (sf3 B R S)) := by
        rw [upd_ne (ne_of p4 hS4 (fun z => nomatch z))]
        exact p4
      have hR5 : upd H4 S (.lst ((il (starts ws (ws.length + 1))).map V.int)) R = some (.lst (ws.flatten.map V.int)) := by
        rw [upd_ne RS]
        exact hR4
      have hS5 : upd H4 S (.lst ((il (starts ws (ws.length + 1))).map V.int)) S = some (.lst ((il (starts ws (ws.length + 1))).map V.int)) := upd_same
      show (tSeq _ _ : TS) _ _ (upd H4 S (.lst ((il (starts ws (ws.length + 1))).map V.int)))
      generalize upd H4 S (.lst ((il (starts ws (ws.length + 1))).map V.int)) = H5 at *
      refine ⟨_, rfl, fun x dxj nx ndx nex => ?_⟩
      have sx : Same H5 (upd (upd H5 dxj (.own x)) x (.ins CJ dxj [])) := (same_new ndx).upd (by rw [upd_ne (Ne.symm nex)]; exact nx)
      refine ⟨x, dxj, r, n, sh, rfl, upd_same, sx _ _ (t5 _ _ hsh), hn, hok, fun H6 b6 j6 => ⟨rfl, ?_⟩⟩
      have s6 : Same H5 H6 := made_same nx ndx nex b6
      obtain ⟨dx', F', L', A', j1, j2, j3, nF, nL⟩ := j6
      have RF : R ≠ F' := ne_of_none (sx _ _ hR5) nF
      have RL : R ≠ L' := ne_of_none (sx _ _ hR5) nL
      have px : p ≠ x := ne_of_none p5 nx
      refine ⟨_, rfl, p, CS, dx, _, rfl, s6 _ _ p5, T.cl, T.nJ, Nat.lt_of_le_of_lt (sf_len3 _ _ _) (by decide), ?_⟩
      obtain ⟨t7, p7, k7⟩ := fset (sf4 B R S x) (t5.trans s6) n0 (s6 _ _ p5)
      have kl7 : ∀ {c : Addr} {xs : List V}, H6 c = some (.lst xs) → upd H6 p (.ins CS dx (sf4 B R S x)) c = some (.lst xs) := fun {c xs} e => k7 _ _ e (ne_of e (s6 _ _ p5) (fun z => nomatch z))
      have hR7 := kl7 (s6 _ _ hR5)
      have hS7 := kl7 (s6 _ _ hS5)
      have j17 := k7 _ _ j1 px.symm
      have j27 := kl7 j2
      have j37 := kl7 j3
      show (tSeq _ _ : TS) _ _ (upd H6 p (.ins CS dx (sf4 B R S x)))
      generalize upd H6 p (.ins CS dx (sf4 B R S x)) = H7 at *
      refine ⟨_, rfl, r, n, sh, rfl, t7 _ _ hsh, hn, hok, fun H8 O s8 nO hO => ?_⟩
      have RO : R ≠ O := ne_of_none hR7 nO
      refine ⟨_, rfl, p, CS, dx, _, rfl, s8 _ _ p7, T.cl, T.nO, Nat.lt_of_le_of_lt (sf_len4 _ _ _ _) (by decide), ?_⟩
      obtain ⟨t9, p9, k9⟩ := fset (sf5 B R S x O) (t7.trans s8) n0 (s8 _ _ p7)
      have kl9 : ∀ {c : Addr} {xs : List V}, H8 c = some (.lst xs) → upd H8 p (.ins CS dx (sf5 B R S x O)) c = some (.lst xs) := fun {c xs} e => k9 _ _ e (ne_of e (s8 _ _ p7) (fun z => nomatch z))
      have hR9 := kl9 (s8 _ _ hR7)
      have hS9 := kl9 (s8 _ _ hS7)
      have j19 := k9 _ _ (s8 _ _ j17) px.symm
      have j29 := kl9 (s8 _ _ j27)
      have j39 := kl9 (s8 _ _ j37)
      have hO9 := kl9 hO
      show (tSeq _ _ : TS) _ _ (upd H8 p (.ins CS dx (sf5 B R S x O)))
      generalize upd H8 p (.ins CS dx (sf5 B R S x O)) = H9 at *
      refine ⟨(by show 0 ≤ sizeLine; decide), fun Ch nC => ?_⟩
      have yC := same_new (o := .lst []) nC
      refine ⟨_, rfl, p, CS, dx, _, rfl, yC _ _ p9, T.cl, T.nC, Nat.lt_of_le_of_lt (sf_len5 _ _ _ _ _) (by decide), ?_⟩
      obtain ⟨tA, pA, kA⟩ := fset (sf6 B R S x O Ch) (t9.trans yC) n0 (yC _ _ p9)
      have klA : ∀ {c : Addr} {xs : List V}, upd H9 Ch (.lst []) c = some (.lst xs) → upd (upd H9 Ch (.lst [])) p (.ins CS dx (sf6 B R S x O Ch)) c = some (.lst xs) := fun {c xs} e => kA _ _ e (ne_of e (yC _ _ p9) (fun z => nomatch z))
      have hRA := klA (yC _ _ hR9)
      have hSA := klA (yC _ _ hS9)
      have j1A := kA _ _ (yC _ _ j19) px.symm
      have j2A := klA (yC _ _ j29)
      have j3A := klA (yC _ _ j39)
      have hOA := klA (yC _ _ hO9)
      have hCA := klA (upd_same : upd H9 Ch (.lst []) Ch = some (.lst []))
      show sFld K (tVar 0) tDNewK "looked" { nx := fun _ H' => Q .non H', rt := Q } [some (.ref p), some (.ref B), some (.ref q), some (.ref r), x4] (upd (upd H9 Ch (.lst [])) p (.ins CS dx (sf6 B R S x O Ch)))
      generalize upd (upd H9 Ch (.lst [])) p (.ins CS dx (sf6 B R S x O Ch)) = HA at *
      intro Lo nK
      have yK := same_new (o := .dK []) nK
      refine ⟨_, rfl, p, CS, dx, _, rfl, yK _ _ pA, T.cl, T.nK, Nat.lt_of_le_of_lt (sf_len6 _ _ _ _ _ _) (by decide), ?_⟩
      obtain ⟨tB, pB, kB⟩ := fset (sf7 B R S x O Ch Lo) (tA.trans yK) n0 (yK _ _ pA)
      have klB : ∀ {c : Addr} {xs : List V}, upd HA Lo (.dK []) c = some (.lst xs) → upd (upd HA Lo (.dK [])) p (.ins CS dx (sf7 B R S x O Ch Lo)) c = some (.lst xs) := fun {c xs} e => kB _ _ e (ne_of e (yK _ _ pA) (fun z => nomatch z))
      refine fin _ R S x O Ch Lo F' L' A' dx' ⟨tB, pB, klB (yK _ _ hRA), klB (yK _ _ hSA), kB _ _ (yK _ _ j1A) px.symm, klB (yK _ _ j2A), klB (yK _ _ j3A), klB (yK _ _ hOA), ⟨[], klB (yK _ _ hCA), Nat.le_refl _⟩, ⟨[], kB _ _ upd_same ?_, Nat.le_refl _⟩,
        hb.same tB, nR0, none_back t9 nC, none_back tA nK, RS, RF, RL, RO, ne_of_none hR9 nC, (ne_of_none hS9 nC).symm, (ne_of_none j29 nC).symm, (ne_of_none j39 nC).symm, (ne_of_none hO9 nC).symm⟩
      exact (ne_of_none pA nK).symm
end
end Seam

set_option Elab.async false
set_option linter.all false
set_option maxRecDepth 100000
set_option maxHeartbeats 4000000
namespace Seam
open PySem PySem.Spec PyProof.Rows L2 Nd Rz
theorem i_order {sh : List Nat} (h : iOk sh = true) : ∀ m ∈ ordOf sh, m < sh.length ∧ (jFi sh).getD m 0 ≤ m ∧ m < (jLa sh).getD m 0 ∧ (jLa sh).getD m 0 ≤ sh.length := fun m hm => by
  unfold iOk at h
  simp only [Bool.and_eq_true, List.all_eq_true, List.mem_range, beq_iff_eq, decide_eq_true_eq] at h
  have := h.2 m hm
  exact ⟨this.1.1.1, this.1.1.2, this.1.2, this.2⟩
theorem ord_len {sh : List Nat} (h : iOk sh = true) : (ordOf sh).length ≤ 20 := by
  have h1 := (i_parts h (k := 2 * sh.length + 1) (Nat.le_refl _)).1
  unfold iIn at h1
  simp only [Bool.and_eq_true, decide_eq_true_eq] at h1
  unfold ordOf
  rw [List.length_reverse]
  exact h1.1.1
theorem sayRow_snoc (f : K2 → K2) (a b : Nat) (ws : List Rw) (sh : List Nat) (row : Rw) (ms : List Nat) (m : Nat) : sayRow f a b ws sh row (ms ++ [m]) = sayRow f a b ws sh (sayRow f a b ws sh row ms) [m] := by
  unfold sayRow
  rw [List.foldl_append]
/-- the whole phrase -/
def saidOf (f : K2 → K2) (a b : Nat) (ws : List Rw) (sh : List Nat) : Rw := sayRow f a b ws sh ws.flatten (ordOf sh)
section
variable {P : Program} {w : World} {K : PySem.W.Frag} {mg : Str → Option Value} {base : Heap} {X : Cx}
def spSay (P : Program) (w : World) (CS CJ CB : Addr) : Sp := fun vs H Q _ => ∃ (D : SD) (H0 : Hp) (n : Nat), vs = [.ref D.p] ∧ D.CS = CS ∧ D.CJ = CJ ∧ D.CB = CB ∧ SI P w D H0 H D.ws.flatten 0 ∧ LenOk D.kvs ∧ D.ws.length = n + 1 ∧ RwsOk D.s 1 9 D.ws ∧ n ≤ 4 ∧ shOk n D.sh = true ∧
  ∀ H', SI P w D H0 H' (saidOf (lk D.kvs) D.a D.b D.ws D.sh) 10000 → Q (.ref D.p) H'
theorem sc_say : FnScope ["self", "seam"] ["self"] (defScope s_Sayer_say) := ⟨rfl, rfl, rfl, by decide +kernel, rfl, by decide +kernel, by decide +kernel⟩
theorem ok_say {f CS CJ CB : Addr} {fd : FuncData} (F : FnP K "say" "Sayer.say" s_Sayer_say f fd) (T : SyT K CS) (mj : Mth P w K mg base CS 2 "join" ["self", "seam"] (spJoinS P w CS CJ CB)) : FnOk P w K mg base CX0 3 f fd ["self"] (spSay P w CS CJ CB) := by
  obtain ⟨f1, fd1, G, mk, bn⟩ := mj.ex
  refine F.fn.ok sc_say (fun vs H Q E h => ?_) (fun cdv Ar outer st H vs Q E hr h => ?_)
  · obtain ⟨D, H0, n, rfl, _⟩ := h
    rfl
  · obtain ⟨D, H0, n, rfl, e1, e2, e3, I, hlk, lw, hrs, hn, hok, fin⟩ := h
    obtain ⟨lsh, jok, iok, _⟩ := sh_parts hok
    obtain ⟨lF, lL⟩ := jLen jok
    have hfl := flat_len hrs
    have hol := ord_len iok
    refine ⟨_, pss_cons (ps_for PassesOwn.never rfl (pi_list (pe_fld (pv 0) rfl)) (pg_name (i := 1) sc_say.nd rfl (Or.inl rfl)) (pss_one (ps_expr (pe_meth (pv 0) T.cl mk G hr bn .nil pass0 (pa_cons (pv 1) pa_nil))))) (pss_one (ps_ret (pv 0))), ?_⟩
    have hp0 := I.hp
    rw [e1] at hp0
    refine ⟨_, rfl, D.p, _, D.dx, _, _, rfl, hp0, T.cl, T.nO, s7_O _ _ _ _ _ _ _, D.O, rfl, ⟨_, SqL.of I.hO⟩, for_list (K := K) (a := D.O) (xs := (il (ordOf D.sh)).map V.int)
      (fun i σ H' => ∃ x1, σ = [some (.ref D.p), x1] ∧ SI P w D H0 H' (sayRow (lk D.kvs) D.a D.b D.ws D.sh D.ws.flatten ((ordOf D.sh).take i)) (i * 100) ∧ (sayRow (lk D.kvs) D.a D.b D.ws D.sh D.ws.flatten ((ordOf D.sh).take i)).length = D.ws.flatten.length)
      ⟨none, rfl, by rw [Nat.zero_mul]; exact I, rfl⟩ (fun i σ H' _ ⟨_, _, h, _⟩ => SqL.of h.hO) (fun i x σ H' hi z => ?_) (fun σ H' z => ?_)⟩
    · obtain ⟨x1, rfl, I2, l2⟩ := z
      have hil : i < (ordOf D.sh).length := by
        have h1 := (List.getElem?_eq_some_iff.mp hi).1
        rw [List.length_map, il_len] at h1
        exact h1
      rw [getD_get hil] at hi
      cases hi
      have em : (ordOf D.sh).getD i 0 = (ordOf D.sh)[i] := by rw [List.getD_eq_getElem?_getD, List.getElem?_eq_getElem hil]; rfl
      obtain ⟨g0, g1, g2, g3⟩ := i_order iok _ (List.getElem_mem hil)
      rw [em]
      have hp2 := I2.hp
      rw [e1] at hp2
      refine ⟨_, rfl, D.p, D.dx, _, rfl, hp2, s7_join _ _ _ _ _ _ _, _, rfl, D, H0, _, i * 100, (ordOf D.sh)[i], rfl, e1, e2, e3, I2, by omega, hlk, l2, by omega, g0, by omega, lF, lL, g1, g2, g3, fun H3 I3 l3 => ?_⟩
      rw [← sayRow_snoc] at I3 l3
      have et : (ordOf D.sh).take (i + 1) = (ordOf D.sh).take i ++ [(ordOf D.sh)[i]] := by rw [List.take_add_one, List.getElem?_eq_getElem hil]; rfl
      rw [← et] at I3 l3
      refine ⟨_, rfl, ?_, by rw [l3]; exact l2⟩
      rw [Nat.add_mul, Nat.one_mul]
      exact I3
    · obtain ⟨x1, rfl, I2, l2⟩ := z
      rw [List.length_map, il_len, List.take_length] at I2
      exact ⟨_, rfl, fin H' (I2.mono (by omega))⟩
def spSaid (P : Program) (w : World) (C : Addr) : Sp := fun vs H Q _ => ∃ (p q r : Addr) (s a b n : Nat) (kvs : List (K2 × K2)) (ws : List Rw) (sh : List Nat), vs = [.ref p, .ref q, .ref r] ∧ Bk P w H p C s a b kvs ∧ LenOk kvs ∧ Wd H q ws ∧ ws.length = n + 1 ∧ RwsOk s 1 9 ws ∧ Ro H r (il sh) ∧ n ≤ 4 ∧ shOk n sh = true ∧
  ∀ H' l, Same H H' → Ro H' l (saidOf (lk kvs) a b ws sh) → Q (.ref l) H'
theorem sc_saidrow : FnScope ["book", "words", "shape"] ["book", "words", "shape"] (defScope s_said_row) := ⟨rfl, rfl, rfl, by decide +kernel, rfl, by decide +kernel, by decide +kernel⟩
theorem ok_saidrow {f CS CJ CB : Addr} {fd : FuncData} (F : FnP K "said_row" "said_row" s_said_row f fd) (T : SyT K CS) (mk : Mkr P w K mg base CS 4 "Sayer" ["self", "book", "words", "shape"] (spSyInit P w CS CJ CB)) (ms : Mth P w K mg base CS 3 "say" ["self"] (spSay P w CS CJ CB)) (mt : mg "tuple" = none) :
    FnOk P w K mg base CX0 6 f fd ["book", "words", "shape"] (spSaid P w CB) := by
  obtain ⟨f1, fd1, G1, M1, g1, bn1⟩ := mk.ex
  obtain ⟨f2, fd2, G2, m2, bn2⟩ := ms.ex
  refine F.fn.ok sc_saidrow (fun vs H Q E h => ?_) (fun cdv Ar outer st H vs Q E hr h => ?_)
  · obtain ⟨p, q, r, s, a, b, n, kvs, ws, sh, rfl, _⟩ := h
    rfl
  · obtain ⟨p, q, r, s, a, b, n, kvs, ws, sh, rfl, hb, hlk, hw, lw, hrs, hsh, hn, hok, fin⟩ := h
    refine ⟨_, pss_one (ps_ret (pe_callTy call_tuple_of (by rfl) mt (by decide +kernel) (pa_cons (pe_fld (pe_meth0 (pe_make M1 G1 hr (by rfl) g1 bn1 .nil pass0 (pa_cons (pv 0) (pa_cons (pv 1) (pa_cons (pv 2) pa_nil)))) T.cl m2 G2 (hr.mono (by decide)) bn2 .nil pass0) rfl) pa_nil))), ?_⟩
    refine ⟨_, rfl, _, rfl, _, rfl, fun x dx nx ndx nex => ?_⟩
    have sx : Same H (upd (upd H dx (.own x)) x (.ins CS dx [])) := (same_new ndx).upd (by rw [upd_ne (Ne.symm nex)]; exact nx)
    refine ⟨H, x, dx, p, q, r, s, a, b, n, kvs, ws, sh, rfl, upd_same, sx, nx, hb, hw, lw, hrs, hsh, hn, hok, fun H1 R S J O Ch Lo F' L' A' dxj I => ⟨rfl, ?_⟩⟩
    refine ⟨x, dx, _, rfl, I.hp, s7_say _ _ _ _ _ _ _, ⟨x, dx, CS, CJ, CB, p, R, S, J, O, Ch, Lo, F', L', A', dxj, s, a, b, kvs, ws, sh⟩, H, n, rfl, rfl, rfl, rfl, I, hlk, lw, hrs, hn, hok, fun H2 I2 => ?_⟩
    refine ⟨x, CS, dx, _, _, rfl, I2.hp, T.cl, T.nR, s7_R _ _ _ _ _ _ _, R, _, rfl, .inl ⟨SqL.of I2.hR, fun l hl => fin _ l (I2.bu.trans (same_new hl)) upd_same⟩⟩
theorem sc_said : FnScope ["book", "words", "shape"] ["book", "words", "shape"] (defScope s_said) := ⟨rfl, rfl, rfl, by decide +kernel, rfl, by decide +kernel, by decide +kernel⟩
theorem ok_said {f CB : Addr} {fd : FuncData} (F : FnP K "said" "said" s_said f fd) (c1 : Cal P w K mg base CX0 7 "check_phrase" ["book", "words", "shape"] (spPhrase P w CB)) (c2 : Cal P w K mg base CX0 6 "said_row" ["book", "words", "shape"] (spSaid P w CB)) :
    FnOk P w K mg base CX0 8 f fd ["book", "words", "shape"] (spSaid P w CB) := by
  obtain ⟨f1, fd1, G1, g1, kp1, bn1⟩ := c1.ex
  obtain ⟨f2, fd2, G2, g2, kp2, bn2⟩ := c2.ex
  refine F.fn.ok sc_said (fun vs H Q E h => ?_) (fun cdv Ar outer st H vs Q E hr h => ?_)
  · obtain ⟨p, q, r, s, a, b, n, kvs, ws, sh, rfl, _⟩ := h
    rfl
  · obtain ⟨p, q, r, s, a, b, n, kvs, ws, sh, rfl, hb, hlk, hw, lw, hrs, hsh, hn, hok, fin⟩ := h
    refine ⟨_, pss_cons (ps_expr (pe_call G1 hr (by rfl) g1 kp1 bn1 .nil pass0 (pa_cons (pv 0) (pa_cons (pv 1) (pa_cons (pv 2) pa_nil)))))
      (pss_one (ps_ret (pe_call G2 (hr.mono (by decide)) (by rfl) g2 kp2 bn2 .nil pass0 (pa_cons (pv 0) (pa_cons (pv 1) (pa_cons (pv 2) pa_nil)))))), ?_⟩
    refine ⟨_, rfl, _, rfl, _, rfl, p, q, r, s, a, b, n, kvs, ws, sh, rfl, hb, hw, lw, hrs, hsh, hn, hok, fun H1 s1 => ?_⟩
    exact ⟨_, rfl, _, rfl, _, rfl, p, q, r, s, a, b, n, kvs, ws, sh, rfl, hb.same s1, hlk, hw.same s1, lw, hrs, s1 _ _ hsh, hn, hok, fun H2 l s2 hl => fin H2 l (s1.trans s2) hl⟩
end
end Seam

set_option Elab.async false
set_option linter.all false
set_option maxRecDepth 100000
set_option maxHeartbeats 4000000
/-! the plain law of tables -/
namespace Seam
open PySem PySem.Spec PyProof.Rows L2 Nd
theorem dget_cons (p : K2 × K2) (r : List (K2 × K2)) (k : K2) : dget (p :: r) k = if p.1 = k then some p.2 else dget r k := by
  unfold dget
  rw [List.find?_cons]
  by_cases e : p.1 = k
  · rw [decide_eq_true e, if_pos e]
    rfl
  · rw [decide_eq_false e, if_neg e]
theorem dget_none {kvs : List (K2 × K2)} {k : K2} (h : k ∉ kvs.map (·.1)) : dget kvs k = none := by
  induction kvs with
  | nil => rfl
  | cons p r ih =>
    rw [List.map_cons, List.mem_cons, not_or] at h
    rw [dget_cons, if_neg (fun e => h.1 e.symm)]
    exact ih h.2
theorem dget_some {kvs : List (K2 × K2)} {k v : K2} (h : dget kvs k = some v) : (k, v) ∈ kvs := by
  induction kvs with
  | nil => cases h
  | cons p r ih =>
    rw [dget_cons] at h
    by_cases e : p.1 = k
    · rw [if_pos e] at h
      refine List.mem_cons.mpr (.inl ?_)
      rw [← e, ← Option.some.inj h]
    · rw [if_neg e] at h
      exact List.mem_cons.mpr (.inr (ih h))
theorem dget_snoc (kvs : List (K2 × K2)) (p : K2 × K2) (k : K2) : dget (kvs ++ [p]) k = (dget kvs k).or (if p.1 = k then some p.2 else none) := by
  induction kvs with
  | nil =>
    rw [List.nil_append, dget_cons]
    rfl
  | cons q r ih =>
    rw [List.cons_append, dget_cons, dget_cons, ih]
    by_cases e : q.1 = k
    · rw [if_pos e, if_pos e]
      rfl
    · rw [if_neg e, if_neg e]
theorem dget_put (kvs : List (K2 × K2)) (k v k' : K2) : dget (dput kvs k v) k' = if k = k' then some v else dget kvs k' := by
  unfold dput
  by_cases e : (kvs.any fun p => decide (p.1 = k)) = true
  · rw [if_pos e]
    by_cases ek : k = k'
    · subst ek
      rw [if_pos rfl]
      induction kvs with
      | nil => cases e
      | cons p r ih =>
        rw [List.map_cons, dget_cons]
        by_cases ep : p.1 = k
        · rw [if_pos ep, if_pos ep]
        · rw [if_neg ep, if_neg ep]
          rw [List.any_cons, decide_eq_false ep, Bool.false_or] at e
          exact ih e
    · rw [if_neg ek]
      clear e
      induction kvs with
      | nil => rfl
      | cons p r ih =>
        rw [List.map_cons, dget_cons, dget_cons, ih]
        by_cases ep : p.1 = k
        · rw [if_pos ep]
          rw [if_neg (show ¬ p.1 = k' from fun z => ek (ep.symm.trans z)), if_neg (show ¬ p.1 = k' from fun z => ek (ep.symm.trans z))]
        · rw [if_neg ep]
  · rw [if_neg e, dget_snoc]
    by_cases ek : k = k'
    · subst ek
      rw [if_pos rfl, if_pos rfl, dget_none]
      · rfl
      · intro hm
        obtain ⟨p, hp, ep⟩ := List.mem_map.mp hm
        exact e (List.any_eq_true.mpr ⟨p, hp, decide_eq_true ep⟩)
    · rw [if_neg ek, if_neg ek]
      cases dget kvs k' <;> rfl
/-- a table that says G -/
def gF (G : K2 → K2) (k : K2) : Option K2 := if G k = k then none else some (G k)
def Says (kvs : List (K2 × K2)) (G : K2 → K2) : Prop := (kvs.map (·.1)).Nodup ∧ ∀ k, dget kvs k = gF G k
theorem Says.lk {kvs : List (K2 × K2)} {G : K2 → K2} (h : Says kvs G) (k : K2) : Seam.lk kvs k = G k := by
  unfold Seam.lk
  rw [h.2 k]
  unfold gF
  by_cases e : G k = k
  · rw [if_pos e, e]
    rfl
  · rw [if_neg e]
    rfl
theorem Says.lk_eq {kvs : List (K2 × K2)} {G : K2 → K2} (h : Says kvs G) : Seam.lk kvs = G := funext h.lk
theorem len_le : ∀ {l1 l2 : List K2}, l1.Nodup → (∀ a ∈ l1, a ∈ l2) → l1.length ≤ l2.length
  | [], _, _, _ => Nat.zero_le _
  | a :: l1, l2, hn, hs => by
    rw [List.nodup_cons] at hn
    obtain ⟨s, t, e⟩ := List.append_of_mem (hs a List.mem_cons_self)
    have := len_le (l1 := l1) (l2 := s ++ t) hn.2 fun b hb => by
      have hb2 := hs b (List.mem_cons_of_mem _ hb)
      rw [e] at hb2
      rcases List.mem_append.mp hb2 with h | h
      · exact List.mem_append.mpr (.inl h)
      · rcases List.mem_cons.mp h with h | h
        · subst h
          exact (hn.1 hb).elim
        · exact List.mem_append.mpr (.inr h)
    rw [e, List.length_append, List.length_cons, List.length_cons]
    rw [List.length_append] at this
    omega
theorem mq_of {A B : List (K2 × K2)} (hA : (A.map (·.1)).Nodup) (hB : (B.map (·.1)).Nodup) (h : ∀ k, dget A k = dget B k) : Mq A B := by
  have mem : ∀ {A B : List (K2 × K2)}, (∀ k, dget A k = dget B k) → (A.map (·.1)).Nodup → ∀ k ∈ A.map (·.1), k ∈ B.map (·.1) := fun {A B} h hA k hk => by
    obtain ⟨p, hp, rfl⟩ := List.mem_map.mp hk
    have h1 := dget_nodup hA p hp
    rw [h] at h1
    exact List.mem_map.mpr ⟨_, dget_some h1, rfl⟩
  refine ⟨?_, fun p hp => ?_⟩
  · have h1 := len_le hA (mem h hA)
    have h2 := len_le hB (mem (fun k => (h k).symm) hB)
    rw [List.length_map, List.length_map] at h1 h2
    omega
  · rw [← h]
    exact dget_nodup hA p hp
theorem Says.mq {A B : List (K2 × K2)} {G : K2 → K2} (hA : Says A G) (hB : Says B G) : Mq A B := mq_of hA.1 hB.1 fun k => by rw [hA.2, hB.2]
/-- what is laid without the idle entries -/
theorem filt_nodup {kvs : List (K2 × K2)} (h : (kvs.map (·.1)).Nodup) : ((filt kvs).map (·.1)).Nodup := by
  unfold filt
  exact (List.filter_sublist.map _).nodup h
theorem filt_says {kvs : List (K2 × K2)} (h : (kvs.map (·.1)).Nodup) : Says (filt kvs) (lk kvs) := by
  refine ⟨filt_nodup h, fun k => ?_⟩
  unfold gF lk filt
  induction kvs with
  | nil =>
    show none = if k = k then none else _
    rw [if_pos rfl]
  | cons p r ih =>
    rw [List.map_cons, List.nodup_cons] at h
    rw [dget_cons]
    by_cases e : p.1 = k
    · rw [if_pos e]
      show _ = if p.2 = k then none else some p.2
      by_cases e2 : p.1 = p.2
      · rw [List.filter_cons_of_neg (by rw [decide_eq_true e2]; exact fun z => nomatch z), if_pos (e2.symm.trans e)]
        refine dget_none fun hm => h.1 ?_
        obtain ⟨q, hq, e3⟩ := List.mem_map.mp hm
        exact List.mem_map.mpr ⟨q, (List.mem_filter.mp hq).1, e3.trans e.symm⟩
      · rw [List.filter_cons_of_pos (by rw [decide_eq_false e2]; rfl), dget_cons, if_pos e, if_neg (fun z => e2 (e.trans z.symm))]
    · rw [if_neg e, ← ih h.2]
      by_cases e2 : p.1 = p.2
      · rw [List.filter_cons_of_neg (by rw [decide_eq_true e2]; exact fun z => nomatch z)]
      · rw [List.filter_cons_of_pos (by rw [decide_eq_false e2]; rfl), dget_cons, if_neg e]
theorem dget_lay (ks ls : List (K2 × K2)) (k : K2) : ∀ (keys : List K2) (acc : List (K2 × K2)), dget (layAll ks ls acc keys) k = if k ∈ keys then some (lk ls (lk ks k)) else dget acc k
  | [], acc => by
    rw [if_neg (by simp)]
    rfl
  | q :: keys, acc => by
    show dget (layAll ks ls (dput acc q (lk ls (lk ks q))) keys) k = _
    rw [dget_lay ks ls k keys, dget_put]
    by_cases h : k ∈ keys
    · rw [if_pos h, if_pos (List.mem_cons_of_mem _ h)]
    · rw [if_neg h]
      by_cases e : q = k
      · subst e
        rw [if_pos rfl, if_pos List.mem_cons_self]
      · rw [if_neg e, if_neg (by rw [List.mem_cons, not_or]; exact ⟨fun z => e z.symm, h⟩)]
theorem dget_law (ks ls : List (K2 × K2)) (k : K2) : ∀ (keys : List K2) (acc : List (K2 × K2)), dget (lawAll ks ls acc keys) k = if k ∈ keys ∧ lk ls (lk ks k) ≠ k then some (lk ls (lk ks k)) else dget acc k
  | [], acc => by
    rw [if_neg (by simp)]
    rfl
  | q :: keys, acc => by
    show dget (lawAll ks ls (if lk ls (lk ks q) = q then acc else dput acc q (lk ls (lk ks q))) keys) k = _
    rw [dget_law ks ls k keys]
    by_cases h : k ∈ keys ∧ lk ls (lk ks k) ≠ k
    · rw [if_pos h, if_pos ⟨List.mem_cons_of_mem _ h.1, h.2⟩]
    · rw [if_neg h]
      by_cases e : q = k
      · subst e
        by_cases g : lk ls (lk ks q) = q
        · rw [if_pos g, if_neg (fun z => z.2 g)]
        · rw [if_neg g, dget_put, if_pos rfl, if_pos ⟨List.mem_cons_self, g⟩]
      · rw [if_neg (show ¬ (k ∈ q :: keys ∧ lk ls (lk ks k) ≠ k) from fun z => h ⟨(List.mem_cons.mp z.1).resolve_left (fun y => e y.symm), z.2⟩)]
        split
        · rfl
        · rw [dget_put, if_neg e]
theorem lk_out {kvs : List (K2 × K2)} {k : K2} (h : k ∉ kvs.map (·.1)) : lk kvs k = k := by
  unfold lk
  rw [dget_none h]
  rfl
theorem both_out {ks ls : List (K2 × K2)} {k : K2} (h : k ∉ keysOf ks ls) : lk ls (lk ks k) = k := by
  unfold keysOf at h
  rw [List.mem_append, not_or] at h
  rw [lk_out h.1, lk_out h.2]
theorem comb_says (ks ls : List (K2 × K2)) : Says (comb ks ls) fun k => lk ls (lk ks k) := by
  have hn := layAll_nodup ks ls (keysOf ks ls) [] List.nodup_nil
  have h := filt_says hn
  refine ⟨h.1, fun k => ?_⟩
  unfold comb
  rw [h.2 k]
  have e : lk (layAll ks ls [] (keysOf ks ls)) k = lk ls (lk ks k) := by
    show (dget (layAll ks ls [] (keysOf ks ls)) k).getD k = _
    rw [dget_lay]
    by_cases hm : k ∈ keysOf ks ls
    · rw [if_pos hm]
      rfl
    · rw [if_neg hm, both_out hm]
      rfl
  unfold gF
  rw [e]
theorem lawTab_says (ks ls : List (K2 × K2)) : Says (lawTab ks ls) fun k => lk ls (lk ks k) := by
  refine ⟨lawAll_nodup ks ls _ _ List.nodup_nil, fun k => ?_⟩
  unfold lawTab gF
  rw [dget_law]
  by_cases g : lk ls (lk ks k) = k
  · rw [if_pos g, if_neg (fun z => z.2 g)]
    rfl
  · rw [if_neg g]
    by_cases hm : k ∈ keysOf ks ls
    · rw [if_pos ⟨hm, g⟩]
    · exact (g (both_out hm)).elim
/-! ### what a table of a book keeps -/
theorem lk_ok {s a b : Nat} {kvs : List (K2 × K2)} (h : TabOk s a b kvs) {k : K2} (hk : okK s a b k) : okK s a b (lk kvs k) := by
  unfold lk
  rcases e : dget kvs k with _ | v
  · exact hk
  · exact (h _ (dget_some e)).2.1
theorem lenOk_of {s a b : Nat} {kvs : List (K2 × K2)} (h : TabOk s a b kvs) : LenOk kvs := fun k => by
  unfold lk
  rcases e : dget kvs k with _ | v
  · exact ⟨rfl, rfl⟩
  · have := h _ (dget_some e)
    exact ⟨this.2.2.1, this.2.2.2⟩
theorem keys_ok {s a b : Nat} {ks ls : List (K2 × K2)} (h1 : TabOk s a b ks) (h2 : TabOk s a b ls) {k : K2} (hk : k ∈ keysOf ks ls) : okK s a b k := by
  unfold keysOf at hk
  rcases List.mem_append.mp hk with hk | hk <;> obtain ⟨p, hp, rfl⟩ := List.mem_map.mp hk
  · exact (h1 p hp).1
  · exact (h2 p hp).1
theorem both_ok {s a b : Nat} {ks ls B : List (K2 × K2)} (h1 : TabOk s a b ks) (h2 : TabOk s a b ls) (hB : Says B fun k => lk ls (lk ks k)) : TabOk s a b B := fun p hp => by
  have e := dget_nodup hB.1 p hp
  rw [hB.2] at e
  unfold gF at e
  split at e
  · cases e
  · rename_i g
    have hk : p.1 ∈ keysOf ks ls := Decidable.byContradiction fun hn => g (both_out hn)
    have ok := keys_ok h1 h2 hk
    have e2 := Option.some.inj e
    rw [← e2]
    obtain ⟨l1, l2⟩ := lenOk_of h1 p.1
    obtain ⟨l3, l4⟩ := lenOk_of h2 (lk ks p.1)
    exact ⟨ok, lk_ok h2 (lk_ok h1 ok), l3.trans l1, l4.trans l2⟩
theorem filt_ok {s a b : Nat} {ks : List (K2 × K2)} (h : TabOk s a b ks) : TabOk s a b (filt ks) := fun p hp => h p (List.mem_filter.mp hp).1
theorem filt_len (ks : List (K2 × K2)) : (filt ks).length ≤ ks.length := List.length_filter_le _ _
/-! ### rows that meet, twice -/
theorem pmeet_both {ks ls B : List (K2 × K2)} {a b : Nat} {x y : Rw} (h1 : LenOk ks) (hB : ∀ k, lk B k = lk ls (lk ks k)) : pmeet B a b x y = pmeet ls a b (pmeet ks a b x y).1 (pmeet ks a b x y).2 := by
  obtain ⟨l1, l2⟩ := h1 (x.drop (x.length - a), y.take b)
  unfold pmeet
  dsimp only
  rw [hB]
  generalize lk ks (x.drop (x.length - a), y.take b) = k1 at *
  dsimp only at l1 l2
  have e0 : (x.take (x.length - (x.drop (x.length - a)).length)).length = x.length - a := by
    rw [List.length_take, List.length_drop]
    omega
  have e1 : (x.take (x.length - (x.drop (x.length - a)).length) ++ k1.1).length = x.length := by
    rw [List.length_append, e0, l1, List.length_drop]
    omega
  have e2 : (x.take (x.length - (x.drop (x.length - a)).length) ++ k1.1).drop ((x.take (x.length - (x.drop (x.length - a)).length) ++ k1.1).length - a) = k1.1 := by
    rw [e1]
    have := List.drop_left (l₁ := x.take (x.length - (x.drop (x.length - a)).length)) (l₂ := k1.1)
    rw [e0] at this
    exact this
  have e3 : (k1.2 ++ y.drop (y.take b).length).take b = k1.2 := by
    rw [List.length_take] at l2 ⊢
    by_cases h : b ≤ y.length
    · rw [Nat.min_eq_left h] at l2 ⊢
      have := List.take_left (l₁ := k1.2) (l₂ := y.drop b)
      rw [l2] at this
      exact this
    · rw [Nat.min_eq_right (by omega)] at l2 ⊢
      rw [List.drop_length, List.append_nil, List.take_of_length_le (by omega)]
  rw [e2, e3, e1]
  have e4 : (x.take (x.length - (x.drop (x.length - a)).length) ++ k1.1).take (x.length - k1.1.length) = x.take (x.length - (x.drop (x.length - a)).length) := by
    have := List.take_left (l₁ := x.take (x.length - (x.drop (x.length - a)).length)) (l₂ := k1.1)
    rw [e0] at this
    rw [l1, List.length_drop, show x.length - (x.length - (x.length - a)) = x.length - a by omega]
    rw [List.length_drop, show x.length - (x.length - (x.length - a)) = x.length - a by omega] at this
    exact this
  have e5 : (k1.2 ++ y.drop (y.take b).length).drop k1.2.length = y.drop (y.take b).length := List.drop_left
  rw [e4, e5]
end Seam

set_option Elab.async false
set_option linter.all false
set_option maxRecDepth 100000
set_option maxHeartbeats 4000000
namespace Seam
open PySem PySem.Spec PyProof.Rows L2 Nd Rz
section
variable {P : Program} {w : World} {K : PySem.W.Frag} {mg : Str → Option Value} {base : Heap} {X : Cx}
theorem Bk.dice {H H' : Hp} {p C d c : Addr} {s a b : Nat} {kvs : List (K2 × K2)} (h : Bk P w H p C s a b kvs) (hd : DiceAt H d c) (e : But d H H') : Bk P w H' p C s a b kvs := by
  obtain ⟨dx, t, h1, h2⟩ := h
  obtain ⟨_, _, _, _, _, hdd, _⟩ := id hd
  exact ⟨dx, t, e _ _ h1 (ne_of h1 hdd (fun z => nomatch z)), TM.dice h2 hd e⟩
/-- one[:3] -/
def rThree : V → Option Int → Option Int → Hp → VK → Prop := fun x lo hi H Q => lo = none ∧ hi = some 3 ∧ ∃ (p t : Addr) (s a b : Int), x = .ref p ∧ H p = some (.tup [.int s, .int a, .int b, .ref t]) ∧ ∀ z H', Same H H' → Ro H' z [s, a, b] → Q (.ref z) H'
theorem sl_three : SlR X rThree := by
  intro pins s σ H x v vl vu lo hi sl Q I rx hs pl pu ⟨e1, e2, p, t, i, j, k, e3, hp, q⟩
  subst e1 e2
  refine sl_tupA pins s σ H x v vl vu none (some 3) sl Q I rx hs pl pu ⟨p, _, e3, SqT.of hp, fun h => ?_, fun _ z hz => q z _ (same_new hz) ?_⟩
  · exact absurd (show HT.sIx 4 4 (some 3) = 4 from h.2) (by decide)
  · show upd H z (.tup (cutV [.int i, .int j, .int k, .ref t] none (some 3))) z = some (.tup ([i, j, k].map V.int))
    rw [upd_same]
    rfl
/-- what is asked of == of two books -/
structure EqT (P : Program) (w : World) (K : PySem.W.Frag) (mg : Str → Option Value) (base : Heap) (C1 C2 : Addr) : Prop where
  ex : ∃ f fd, FnOk P w K mg base CX0 2 f fd ["self", "other"] (spEq (BkEq P w C1 C2)) ∧ PySem.W.findIn K (.ref C1) "__eq__" = some (some (.ref f)) ∧ PySem.W.isFn K (.ref f) = true ∧ Binds K fd ["self", "other"] []
  nf : PySem.W.notFirst K C1 (.ref C2) = true
/-- all that law calls -/
structure LawC (P : Program) (w : World) (K : PySem.W.Frag) (mg : Str → Option Value) (base : Heap) (CB CR CO : Addr) : Prop where
  dice : Cal P w K mg base CX0 1 "_law_dice" ["_law_script"] (spDice K)
  draw : CDraw P w K mg base
  book : Cal P w K mg base CX0 3 "_law_book" ["_law_dice_here"] (spLBook P w)
  second : Cal P w K mg base CX0 3 "_law_second" ["_law_dice_here", "_law_book_here"] (spLSecond P w)
  made : Cal P w K mg base CX0 9 "_law_made" ["_law_book_here"] (spLMade P w CB)
  told : Cal P w K mg base CX0 5 "_law_told" ["_law_one", "_law_other"] (spLTold P w CB CB CR)
  tab : Mth P w K mg base CR 1 "table" ["self"] (spGetT P w CR)
  mS : Mth P w K mg base CR 1 "sounds" ["self"] (spGetI P w CR fun s _ _ => s)
  mA : Mth P w K mg base CR 1 "ahead" ["self"] (spGetI P w CR fun _ a _ => a)
  mB : Mth P w K mg base CR 1 "behind" ["self"] (spGetI P w CR fun _ _ b => b)
  ltab : Cal P w K mg base CX0 2 "_law_table" ["_law_one", "_law_other"] (spLTable P w)
  mkB : Mkr P w K mg base CB 7 "Book" ps5 (spBook P w CB)
  oba : Cal P w K mg base (L2.CX P w) 4 "one_behind_another" ["book", "other"] (spOba P w CB CB CR CO)
  eq : EqT P w K mg base CR CB
  row : Cal P w K mg base CX0 2 "_law_row" ps_side (spNewRow lenUp)
  meet : Cal P w K mg base CX0 1 "_law_meet" ["_law_book_here", "_law_one", "_law_other"] (spLMeet P w)
  met : Cal P w K mg base CX0 6 "met" ["book", "one", "other"] (spMet P w CR)
  shape : Cal P w K mg base CX0 2 "_law_shape" ["_law_dice_here", "_law_words_here"] spShape
  words : Cal P w K mg base CX0 3 "_law_words" ps_words spWords
  saidR : Cal P w K mg base CX0 8 "said" ["book", "words", "shape"] (spSaid P w CR)
  saidB : Cal P w K mg base CX0 8 "said" ["book", "words", "shape"] (spSaid P w CB)
  tR : BkT K CR
  ml : mg "len" = none
def spLaw (K : PySem.W.Frag) : Sp := fun vs H Q _ => ∃ (a : Addr) (ns : List Int), vs = [.ref a] ∧ SqL K H a (ns.map V.int) ∧ ∀ H', Q (.bl true) H'
abbrev N_law : List Str := ["_law_script", "_law_dice_here", "_law_one", "_law_other", "_law_same", "_law_first", "_law_second_here", "_law_told_here", "_law_book_here", "_law_plain", "_law_row_here", "_law_rest", "_law_ahead", "_law_behind", "_law_again", "_law_last", "_law_shape_here", "_law_words_here", "_law_due"]
theorem sc_law : FnScope N_law ["_law_script"] (defScope s_law) := ⟨rfl, rfl, rfl, by decide +kernel, rfl, by decide +kernel, by decide +kernel⟩
/-- another book, perhaps of other sizes -/
def tOther (P : Program) (w : World) : TS := fun D σ H => ∃ (d c p1 p2 : Addr) (s a b s2 a2 b2 : Nat) (ks ls : List (K2 × K2)) (x0 : Option V), σ = [x0, some (.ref d), some (.ref p1), some (.ref p2), none, none, none, none, none, none, none, none, none, none, none, none, none, none, none] ∧ DiceAt H d c ∧ LB P w H p1 s a b ks ∧ LB P w H p2 s2 a2 b2 ls ∧ GoodB s2 a2 b2 ls ∧
  ∀ H' q2 s3 a3 b3 ms, DiceAt H' d c → LB P w H' p1 s a b ks → LB P w H' q2 s3 a3 b3 ms → GoodB s3 a3 b3 ms → D.nx [x0, some (.ref d), some (.ref p1), some (.ref q2), none, none, none, none, none, none, none, none, none, none, none, none, none, none, none] H'
theorem ok_law {f CB CR CO : Addr} {fd : FuncData} (F : FnP K "law" "law" s_law f fd) (L : LawC P w K mg base CB CR CO) : FnOk P w K mg base CX0 10 f fd ["_law_script"] (spLaw K) := by
  obtain ⟨fd1, fdd1, Gdi, gdi, kdi, bdi⟩ := L.dice.ex
  obtain ⟨fd2, fdd2, Gdr, gdr, kdr, bdr⟩ := L.draw.ex
  obtain ⟨fd3, fdd3, Gbo, gbo, kbo, bbo⟩ := L.book.ex
  obtain ⟨fd4, fdd4, Gse, gse, kse, bse⟩ := L.second.ex
  obtain ⟨fd5, fdd5, Gma, gma, kma, bma⟩ := L.made.ex
  obtain ⟨fd6, fdd6, Gto, gto, kto, bto⟩ := L.told.ex
  obtain ⟨fd7, fdd7, Gta, mta, bta⟩ := L.tab.ex
  obtain ⟨fd8, fdd8, GmS, mmS, bmS⟩ := L.mS.ex
  obtain ⟨fd9, fdd9, GmA, mmA, bmA⟩ := L.mA.ex
  obtain ⟨fd10, fdd10, GmB, mmB, bmB⟩ := L.mB.ex
  obtain ⟨fd11, fdd11, Glt, glt, klt, blt⟩ := L.ltab.ex
  obtain ⟨fd12, fdd12, Gmk, Mmk, gmk, bmk⟩ := L.mkB.ex
  obtain ⟨fd13, fdd13, Gob, gob, kob, bob⟩ := L.oba.ex
  obtain ⟨⟨fd14, fdd14, Geq, seq, feq, beq⟩, nfq⟩ := L.eq
  obtain ⟨fd15, fdd15, Gro, gro, kro, bro⟩ := L.row.ex
  obtain ⟨fd16, fdd16, Gme, gme, kme, bme⟩ := L.meet.ex
  obtain ⟨fd17, fdd17, Gmt, gmt, kmt, bmt⟩ := L.met.ex
  obtain ⟨fd18, fdd18, Gsh, gsh, ksh, bsh⟩ := L.shape.ex
  obtain ⟨fd19, fdd19, Gwo, gwo, kwo, bwo⟩ := L.words.ex
  obtain ⟨fd20, fdd20, GsR, gsR, ksR, bsR⟩ := L.saidR.ex
  obtain ⟨fd21, fdd21, GsB, gsB, ksB, bsB⟩ := L.saidB.ex
  have T := L.tR
  have ml := L.ml
  clear L
  refine F.fn.ok sc_law (fun vs H Q E h => ?_) (fun cdv Ar outer st H vs Q E hr h => ?_)
  · obtain ⟨a, ns, rfl, _⟩ := h
    rfl
  · obtain ⟨sa, ns, rfl, hsa, fin⟩ := h
    have hu : (Ar.deeper (envOfC "law" (defScope s_law) _ f cdv)).units + 64 < cLine := hr.units
    have hu70 := room70 hr
    have hu65 := Nat.lt_of_le_of_lt (Nat.add_le_add_left (show 65 ≤ 70 by decide) _) hu70
    have r1 := hr.mono (j := 1) (by decide)
    have r2 := hr.mono (j := 2) (by decide)
    have r3 := hr.mono (j := 3) (by decide)
    have r4 := hr.mono (j := 4) (by decide)
    have r5 := hr.mono (j := 5) (by decide)
    have r6 := hr.mono (j := 6) (by decide)
    have r8 := hr.mono (j := 8) (by decide)
    refine ⟨_, pss_cons (ps_set (i := 1) sc_law.nd rfl (Or.inl rfl) (pe_call Gdi r1 (by rfl) gdi kdi bdi .nil pass0 (pa_cons (pv 0) pa_nil)))
      (pss_cons (ps_set (i := 2) sc_law.nd rfl (Or.inl rfl) (pe_call Gbo r3 (by rfl) gbo kbo bbo .nil pass0 (pa_cons (pv 1) pa_nil)))
      (pss_cons (ps_set (i := 3) sc_law.nd rfl (Or.inl rfl) (pe_call Gse r3 (by rfl) gse kse bse .nil pass0 (pa_cons (pv 1) (pa_cons (pv 2) pa_nil))))
      (pss_cons (ps_imp (t' := tOther P w) (ps_if (pt_cmpR op_eq (pe_call Gdr r1 (by rfl) gdr kdr bdr .nil pass0 (pa_cons (pv 1) (pa_cons pe_int pa_nil))) pe_int (nomark _)) (pss_one (ps_set (i := 3) sc_law.nd rfl (Or.inl rfl) (pe_call Gbo r3 (by rfl) gbo kbo bbo .nil pass0 (pa_cons (pv 1) pa_nil)))) pss_nil) (fun D σ H' hh => ?_))
      (pss_cons (ps_set (i := 4) sc_law.nd rfl (Or.inl rfl) (pe_cmpR (op_eqRo hu) (pe_slice sl_three (pv 2) po_none (po_some pe_int)) (pe_slice sl_three (pv 3) po_none (po_some pe_int)) (nomark _)))
      (pss_cons (ps_set (i := 5) sc_law.nd rfl (Or.inl rfl) (pe_call Gma hr (by rfl) gma kma bma .nil pass0 (pa_cons (pv 2) pa_nil)))
      (pss_cons (ps_set (i := 6) sc_law.nd rfl (Or.inl rfl) (pe_call Gma hr (by rfl) gma kma bma .nil pass0 (pa_cons (pv 3) pa_nil)))
      (pss_cons (ps_set (i := 7) sc_law.nd rfl (Or.inl rfl) (pe_call Gto r5 (by rfl) gto kto bto .nil pass0 (pa_cons (pv 5) (pa_cons (pv 6) pa_nil))))
      (pss_cons (ps_if (pt_not (pt_val (pv 4))) (pss_one (ps_ret (pe_cmpR (op_eqD hu) (pv 7) (pe_tup (pa_cons pe_str (pa_cons pe_non pa_nil))) (nomark _)))) pss_nil)
      (pss_cons (ps_if (PW.pt (pw_or (pt_cmpR op_ne (pe_ix ix_tup (pv 7) pe_int (fun _ _ => rfl)) pe_str (nomark _))
          (pw_or1 (pt_cmpR (op_neN hu65) (pe_meth0 (pe_ix ix_tup (pv 7) pe_int (fun _ _ => rfl)) T.cl mta Gta r1 bta .nil pass0) (pe_call Glt r2 (by rfl) glt klt blt .nil pass0 (pa_cons (pv 2) (pa_cons (pv 3) pa_nil))) (nomark _))))) (pss_one (ps_ret pe_bl)) pss_nil)
      (pss_cons (ps_set (i := 8) sc_law.nd rfl (Or.inl rfl) (pe_ix ix_tup (pv 7) pe_int (fun _ _ => rfl)))
      (pss_cons (ps_if (pt_cmpR (op_neRo hu) (pe_tup (pa_cons (pe_meth0 (pv 8) T.cl mmS GmS r1 bmS .nil pass0) (pa_cons (pe_meth0 (pv 8) T.cl mmA GmA r1 bmA .nil pass0) (pa_cons (pe_meth0 (pv 8) T.cl mmB GmB r1 bmB .nil pass0) pa_nil)))) (pe_slice sl_three (pv 2) po_none (po_some pe_int)) (nomark _)) (pss_one (ps_ret pe_bl)) pss_nil)
      (pss_cons (ps_set (i := 9) sc_law.nd rfl (Or.inl rfl) (pe_make Mmk Gmk r8 (by rfl) gmk bmk .nil pass0 (pa_cons (pe_ix ix_tup (pv 2) pe_int (fun _ _ => rfl)) (pa_cons (pe_ix ix_tup (pv 2) pe_int (fun _ _ => rfl)) (pa_cons (pe_ix ix_tup (pv 2) pe_int (fun _ _ => rfl)) (pa_cons pe_newN pa_nil))))))
      (pss_cons (ps_if (PW.pt (pw_or (pt_not (pt_cmpR (op_eqG (rcG_two Geq seq feq beq nfq) r2) (pe_call Gob r4 (by rfl) gob kob bob .nil passL (pa_cons (pv 5) (pa_cons (pv 9) pa_nil))) (pv 5) (nomark _)))
          (pw_or1 (pt_not (pt_cmpR (op_eqG (rcG_two Geq seq feq beq nfq) r2) (pe_call Gob r4 (by rfl) gob kob bob .nil passL (pa_cons (pv 9) (pa_cons (pv 5) pa_nil))) (pv 5) (nomark _)))))) (pss_one (ps_ret pe_bl)) pss_nil)
      (pss_cons (ps_set (i := 10) sc_law.nd rfl (Or.inl rfl) (pe_call Gro r2 (by rfl) gro kro bro .nil pass0 (pa_cons (pv 1) (pa_cons (pe_ix ix_tup (pv 2) pe_int (fun _ _ => rfl)) (pa_cons pe_int pa_nil)))))
      (pss_cons (ps_set (i := 11) sc_law.nd rfl (Or.inl rfl) (pe_call Gro r2 (by rfl) gro kro bro .nil pass0 (pa_cons (pv 1) (pa_cons (pe_ix ix_tup (pv 2) pe_int (fun _ _ => rfl)) (pa_cons pe_int pa_nil)))))
      (pss_cons (ps_asg (pe_call Gme r1 (by rfl) gme kme bme .nil pass0 (pa_cons (pv 2) (pa_cons (pv 10) (pa_cons (pv 11) pa_nil)))) (pg_tup rfl (pgs_cons (pg_name (i := 12) sc_law.nd rfl (Or.inl rfl)) (pgs_cons (pg_name (i := 13) sc_law.nd rfl (Or.inl rfl)) pgs_nil))))
      (pss_cons (ps_asg (pe_call Gme r1 (by rfl) gme kme bme .nil pass0 (pa_cons (pv 3) (pa_cons (pv 12) (pa_cons (pv 13) pa_nil)))) (pg_tup rfl (pgs_cons (pg_name (i := 14) sc_law.nd rfl (Or.inl rfl)) (pgs_cons (pg_name (i := 15) sc_law.nd rfl (Or.inl rfl)) pgs_nil))))
      (pss_cons (ps_if (pt_cmpR (op_neRo hu) (pe_call Gmt r6 (by rfl) gmt kmt bmt .nil pass0 (pa_cons (pv 8) (pa_cons (pv 10) (pa_cons (pv 11) pa_nil)))) (pe_op op_catR (pv 14) (pv 15)) (nomark _)) (pss_one (ps_ret pe_bl)) pss_nil)
      (pss_cons (ps_set (i := 16) sc_law.nd rfl (Or.inl rfl) (pe_call Gsh r2 (by rfl) gsh ksh bsh .nil pass0 (pa_cons (pv 1) (pa_cons (pe_op op_add pe_int (pe_call Gdr r1 (by rfl) gdr kdr bdr .nil pass0 (pa_cons (pv 1) (pa_cons pe_int pa_nil)))) pa_nil))))
      (pss_cons (ps_set (i := 17) sc_law.nd rfl (Or.inl rfl) (pe_call Gwo r3 (by rfl) gwo kwo bwo .nil pass0 (pa_cons (pv 1) (pa_cons (pe_ix ix_tup (pv 2) pe_int (fun _ _ => rfl)) (pa_cons (pe_op op_add (pe_callB call_len_seq (by rfl) ml PySem.boot_len (pa_cons (pv 16) pa_nil)) pe_int) pa_nil)))))
      (pss_cons (ps_set (i := 18) sc_law.nd rfl (Or.inl rfl) (pe_call Gma hr (by rfl) gma kma bma .nil pass0 (pa_cons (pe_tup (pa_cons (pe_ix ix_tup (pv 2) pe_int (fun _ _ => rfl)) (pa_cons (pe_ix ix_tup (pv 2) pe_int (fun _ _ => rfl)) (pa_cons (pe_ix ix_tup (pv 2) pe_int (fun _ _ => rfl)) (pa_cons (pe_call Glt r2 (by rfl) glt klt blt .nil pass0 (pa_cons (pv 2) (pa_cons (pv 3) pa_nil))) pa_nil))))) pa_nil)))
      (pss_one (ps_ret (pe_and (pe_cmpR (op_eqRo hu) (pe_call GsR r8 (by rfl) gsR ksR bsR .nil pass0 (pa_cons (pv 8) (pa_cons (pv 17) (pa_cons (pv 16) pa_nil)))) (pe_call GsB r8 (by rfl) gsB ksB bsB .nil pass0 (pa_cons (pv 18) (pa_cons (pv 17) (pa_cons (pv 16) pa_nil)))) (nomark _))
        (pe_one (pe_cmpR (op_eqG (rcG_two Geq seq feq beq nfq) r2) (pv 8) (pv 18) (nomark _))))))))))))))))))))))))))), ?_⟩
    · obtain ⟨d, c, p1, p2, s, a, b, s2, a2, b2, ks, ls, x0, rfl, hd, h1, h2, g2, q⟩ := hh
      refine ⟨_, rfl, d, c, 4, rfl, by decide, by decide, hd, fun H1 v e1 e2 b1 d1 => ⟨rfl, _, rfl, ?_⟩⟩
      have h11 := LB.dice h1 hd b1.but
      have h21 := LB.dice h2 hd b1.but
      by_cases e : v = 0
      · subst e
        rw [show decide (V.int 0 = V.int 0) = true from decide_eq_true rfl]
        exact iteT ⟨_, rfl, d, c, rfl, d1, fun H2 p s3 a3 b3 ms b2 d2 hp hg => q H2 p s3 a3 b3 ms d2 (LB.dice h11 d1 b2) hp hg⟩
      · rw [show decide (V.int v = V.int 0) = false from decide_eq_false (fun z => e (V.int.inj z))]
        exact iteF (q H1 p2 s2 a2 b2 ls d1 h11 h21 g2)
    · refine ⟨_, rfl, sa, ns, rfl, hsa, fun H1 d c t1 d1 => ?_⟩
      refine ⟨_, rfl, d, c, rfl, d1, fun H2 p1 s a b ks b2 d2 o2 gd1 => ?_⟩
      refine ⟨_, rfl, _, rfl, d, c, p1, s, a, b, ks, rfl, d2, o2, gd1, fun H3 p2 ls' b3 d3 o3' gd2' => ?_⟩
      have o3 := LB.dice o2 d2 b3
      refine ⟨d, c, p1, p2, s, a, b, s, a, b, ks, ls', _, rfl, d3, o3, o3', gd2', fun H4 p2 s2 a2 b2' ls d4 o4 w4 gd2 => ?_⟩
      clear b3 d3 o3 o3' gd2' ls' b2 d2 o2 t1 d1
      obtain ⟨t1, ho1, ht1⟩ := id o4
      refine ⟨_, rfl, _, rfl, rfl, rfl, p1, _, _, _, _, rfl, ho1, fun z1 H5 s5 hz1 => ?_⟩
      obtain ⟨t2, ho2, ht2⟩ := id (w4.same s5)
      refine ⟨_, rfl, _, rfl, rfl, rfl, p2, _, _, _, _, rfl, ho2, fun z2 H6 s6 hz2 => ?_⟩
      refine ⟨z1, z2, _, _, rfl, rfl, s6 _ _ hz1, hz2, ?_⟩
      have s46 := s5.trans s6
      obtain ⟨y1, y2, y3, y4, y5, y6⟩ := okS_le gd1.1
      obtain ⟨x1, x2, x3, x4, x5, x6⟩ := okS_le gd2.1
      refine ⟨_, rfl, p1, s, a, b, ks, rfl, o4.same s46, gd1.2.2.1, by have := gd1.2.2.2; omega, gd1.2.1, ⟨y1, y2, y3, y4, y5, y6⟩, fun H7 q1 s7 k7 => ?_⟩
      have s47 := s46.trans s7
      refine ⟨_, rfl, p2, s2, a2, b2', ls, rfl, w4.same s47, gd2.2.2.1, by have := gd2.2.2.2; omega, gd2.2.1, ⟨x1, x2, x3, x4, x5, x6⟩, fun H8 q2 s8 k8 => ?_⟩
      have s48 := s47.trans s8
      have k7' := k7.same s8
      have fl1 := filt_len ks
      have fl2 := filt_len ls
      have gl1 := gd1.2.2.2
      have gl2 := gd2.2.2.2
      refine ⟨_, rfl, _, rfl, q1, q2, s, a, b, s2, a2, b2', _, _, rfl, k7', k8, by omega, fun hc H9 tp s9 htp => ?_, fun hc H9 tp bk s9 htp hbk => ?_⟩
      · refine ⟨_, rfl, _, rfl, ?_⟩
        rw [decide_eq_false (fun e => hc (sizes_eq.mp e.symm))]
        refine iteT ⟨_, rfl, (by show 2 ≤ sizeLine; decide), fun t ht => ?_⟩
        refine ⟨.tuple [.str "refused", .none], .tuple [.str "refused", .none], .tup (SqT.of (same_new ht _ _ htp)) (.cons (.str _) (.cons .non .nil)), .tup (SqT.of upd_same) (.cons (.str _) (.cons .non .nil)), by decide +kernel, by decide +kernel, ?_⟩
        rw [show PyData.eqv (.tuple [.str "refused", .none]) (.tuple [.str "refused", .none]) = true by decide +kernel]
        exact fin _
      obtain ⟨rfl, rfl, rfl⟩ := hc
      refine ⟨_, rfl, _, rfl, ?_⟩
      rw [decide_eq_true rfl]
      refine iteF ?_
      have s49 := s48.trans s9
      have d9 := d4.same s49
      have o9 := o4.same s49
      have w9 := w4.same s49
      have q19 := k7'.same s9
      have q29 := k8.same s9
      clear s5 s6 s7 s8 s9 s46 s47 s48 s49 k7' k7 k8 o4 w4 ho1 ht1 ho2 ht2 hz1 hz2 d4
      -- the tables
      have f1 := filt_says gd1.2.2.1
      have f2 := filt_says gd2.2.2.1
      have tf1 := filt_ok gd1.2.1
      have tf2 := filt_ok gd2.2.1
      have eG : (fun k => lk (filt ls) (lk (filt ks) k)) = fun k => lk ls (lk ks k) := by rw [f1.lk_eq, f2.lk_eq]
      have cS : Says (comb (filt ks) (filt ls)) fun k => lk ls (lk ks k) := by
        have := comb_says (filt ks) (filt ls)
        rw [eG] at this
        exact this
      have lS := lawTab_says ks ls
      have cOk : TabOk s2 a2 b2' (comb (filt ks) (filt ls)) := both_ok gd1.2.1 gd2.2.1 cS
      have lOk : TabOk s2 a2 b2' (lawTab ks ls) := both_ok gd1.2.1 gd2.2.1 lS
      have lLen : (lawTab ks ls).length ≤ 4000 := by
        have := lawAll_len ks ls (keysOf ks ls) []
        rw [keysOf_len, List.length_nil] at this
        unfold lawTab
        omega
      have cHash := hash_nodup w gd1.1 cS.1 fun p hp => (cOk p hp).1
      -- told
      refine ⟨_, rfl, tp, _, _, _, rfl, rfl, SqT.of htp, atI_nat (j := 0) rfl, rfl, _, rfl, ?_⟩
      rw [show decide (V.str "book" = V.str "book") = true from decide_eq_true rfl]
      refine iteF ?_
      obtain ⟨dxb, tb, hb1, _⟩ := id hbk
      refine ⟨_, rfl, tp, _, _, _, rfl, rfl, SqT.of htp, atI_nat (j := 1) rfl, bk, dxb, _, rfl, hb1, bf_no _ _ _ _ (by decide +kernel) (by decide +kernel) (by decide +kernel) (by decide +kernel), bk, s2, a2, b2', _, rfl, hbk, cHash, fun H10 tt s10 tm10 => ?_⟩
      refine ⟨_, rfl, _, rfl, p1, p2, s2, a2, b2', s2, a2, b2', ks, ls, rfl, o9.same s10, w9.same s10, by omega, fun H11 t11 s11 tm11 => ?_⟩
      have s911 := s10.trans s11
      refine ⟨tt, t11, _, _, rfl, rfl, (tm10.tk s11.tk fun o => s11 _ o).td, tm11.td, cS.mq lS, _, rfl, iteF ?_⟩
      have htp1 := s911 _ _ htp
      have hbk1 := hbk.same s911
      refine ⟨_, rfl, tp, _, _, _, rfl, rfl, SqT.of htp1, atI_nat (j := 1) rfl, ?_⟩
      have d11 := d9.same s911
      have o11 := o9.same s911
      have w11 := w9.same s911
      have q1b := q19.same s911
      clear s10 s11 tm10 tm11 d9 o9 w9 q29 q19 htp hbk
      -- sizes
      obtain ⟨dxb, tb, hb1, _⟩ := id hbk1
      obtain ⟨t1, ho1, ht1⟩ := id o11
      have no1 : ∀ {m : Str}, ¬ m = "kept_sounds" → ¬ m = "kept_ahead" → ¬ m = "kept_behind" → ¬ m = "kept_table" → (bf s2 a2 b2' tb).lookup m = none := fun h1 h2 h3 h4 => bf_no _ _ _ _ h1 h2 h3 h4
      refine ⟨_, rfl, bk, dxb, _, rfl, hb1, no1 (by decide +kernel) (by decide +kernel) (by decide +kernel) (by decide +kernel), bk, s2, a2, b2', _, rfl, hbk1, _, rfl, bk, dxb, _, rfl, hb1, no1 (by decide +kernel) (by decide +kernel) (by decide +kernel) (by decide +kernel), bk, s2, a2, b2', _, rfl, hbk1,
        _, rfl, bk, dxb, _, rfl, hb1, no1 (by decide +kernel) (by decide +kernel) (by decide +kernel) (by decide +kernel), bk, s2, a2, b2', _, rfl, hbk1, (by show 3 ≤ sizeLine; decide), fun z3 nz3 => ?_⟩
      have y3' := same_new (o := .tup [V.int s2, V.int a2, V.int b2']) nz3
      have hz3 : Ro (upd H11 z3 (.tup [V.int s2, V.int a2, V.int b2'])) z3 [(s2 : Int), (a2 : Int), (b2' : Int)] := upd_same
      refine ⟨_, rfl, _, rfl, rfl, rfl, p1, _, _, _, _, rfl, y3' _ _ ho1, fun z4 H12 s12 hz4 => ?_⟩
      refine ⟨z3, z4, _, _, rfl, rfl, s12 _ _ hz3, hz4, _, rfl, ?_⟩
      rw [decide_eq_true rfl]
      refine iteF ?_
      have s1112 := y3'.trans s12
      have d12 := d11.same s1112
      have o12 := o11.same s1112
      have w12 := w11.same s1112
      have q12 := q1b.same s1112
      have k12 := hbk1.same s1112
      have ho12 := s1112 _ _ ho1
      clear d11 o11 w11 q1b hbk1 hz3 hz4 hb1 ho1 ht1 htp1 s12 y3' s1112
      -- the plain book
      refine ⟨_, rfl, p1, _, _, _, rfl, rfl, SqT.of ho12, atI_nat (j := 0) rfl, _, rfl, p1, _, _, _, rfl, rfl, SqT.of ho12, atI_nat (j := 1) rfl, _, rfl, p1, _, _, _, rfl, rfl, SqT.of ho12, atI_nat (j := 2) rfl, fun te H13 nte tte bte => ?_⟩
      have s13 := bt_same nte bte
      intro x dx nx ndx nex
      have sx : Same H13 (upd (upd H13 dx (.own x)) x (.ins CB dx [])) := (same_new ndx).upd (by rw [upd_ne (Ne.symm nex)]; exact nx)
      refine ⟨x, dx, te, s2, a2, b2', [], rfl, upd_same, tte.tk sx.tk fun o => sx _ o, List.nodup_nil, by decide, (fun _ h => by cases h), ⟨y1, y2, y3, y4, y5, y6⟩, fun H14 b14 kx => ⟨rfl, ?_⟩⟩
      have s14 : Same H12 H14 := s13.trans (made_same nx ndx nex b14)
      have q14 := q12.same s14
      have kx' : Bk P w H14 x CB s2 a2 b2' [] := kx
      -- the plain book behind and ahead
      have cE1 : Says (comb (filt ks) []) (lk ks) := by
        have := comb_says (filt ks) []
        rw [f1.lk_eq] at this
        exact this
      have cE2 : Says (comb [] (filt ks)) (lk ks) := by
        have := comb_says [] (filt ks)
        rw [f1.lk_eq] at this
        exact this
      refine ⟨_, rfl, _, rfl, q1, x, s2, a2, b2', s2, a2, b2', filt ks, [], rfl, q14, kx', by rw [List.length_nil]; omega, fun hn => (hn ⟨rfl, rfl, rfl⟩).elim, fun _ H15 r15 s15 k15 => ?_⟩
      have q15 := q14.same s15
      obtain ⟨dxr, tr, hr15, _⟩ := id k15
      obtain ⟨dxq, tq, hq15, _⟩ := id q15
      refine ⟨_, rfl, ⟨r15, q1, dxr, dxq, _, _, rfl, rfl, hr15, hq15, s2, a2, b2', _, _, k15, q15, cE1.mq f1⟩, fun H16 e16 => ⟨_, rfl, iteF ?_⟩⟩
      have s16 : Same H14 H16 := s15.trans e16
      refine ⟨_, rfl, _, rfl, x, q1, s2, a2, b2', s2, a2, b2', [], filt ks, rfl, kx'.same s16, q14.same s16, by rw [List.length_nil]; omega, fun hn => (hn ⟨rfl, rfl, rfl⟩).elim, fun _ H17 r17 s17 k17 => ?_⟩
      have q17 := (q14.same s16).same s17
      obtain ⟨dxr, tr, hr17, _⟩ := id k17
      obtain ⟨dxq, tq, hq17, _⟩ := id q17
      refine ⟨_, rfl, ⟨r17, q1, dxr, dxq, _, _, rfl, rfl, hr17, hq17, s2, a2, b2', _, _, k17, q17, cE2.mq f1⟩, fun H18 e18 => ⟨_, rfl, iteF ?_⟩⟩
      have s18 : Same H12 H18 := ((s14.trans s16).trans s17).trans e18
      have d18 := d12.same s18
      have o18 := o12.same s18
      have w18 := w12.same s18
      have k18 := k12.same s18
      have ho18 := s18 _ _ ho12
      clear s13 s14 s15 s16 s17 s18 e16 e18 k15 k17 q14 q15 q17 kx kx' d12 o12 w12 q12 k12 ho12 hr15 hr17 hq15 hq17 b14 sx tte
      -- the rows
      refine ⟨_, rfl, _, rfl, p1, _, _, _, rfl, rfl, SqT.of ho18, atI_nat (j := 0) rfl, d, c, s2, 9, rfl, y1, y2, by decide, by decide, d18, fun H19 rx xr b19 d19 hrx inx lnx => ?_⟩
      have o19 := LB.dice o18 d18 b19
      have ho19 := d18.tk b19 _ _ ho18
      refine ⟨_, rfl, _, rfl, p1, _, _, _, rfl, rfl, SqT.of ho19, atI_nat (j := 0) rfl, d, c, s2, 9, rfl, y1, y2, by decide, by decide, d19, fun H20 ry yr b20 d20 hry iny lny => ?_⟩
      have b1820 := b19.trans b20
      have o20 := LB.dice o18 d18 b1820
      have w20 := LB.dice w18 d18 b1820
      have k20 := Bk.dice k18 d18 b1820
      have hrx20 := Ro.tk hrx (d19.tk b20)
      have lk1 := lenOk_of gd1.2.1
      have lk2 := lenOk_of gd2.2.1
      have lkc := lenOk_of cOk
      refine ⟨_, rfl, _, rfl, _, rfl, p1, rx, ry, s2, a2, b2', ks, xr, yr, rfl, o20, lk1, hrx20, hry, by omega, by omega, fun H21 z21 s21 pr21 => ?_⟩
      obtain ⟨u1, u2, f0, f1', f2'⟩ := pr21
      obtain ⟨pl1, pl2⟩ := pmeet_len lk1 a2 b2' xr yr
      refine ⟨z21, _, rfl, SqT.of f0, rfl, _, _, rfl, _, _, rfl, rfl, ?_⟩
      refine ⟨_, rfl, _, rfl, _, rfl, p2, u1, u2, s2, a2, b2', ls, _, _, rfl, w20.same s21, lk2, f1', f2', by omega, by omega, fun H22 z22 s22 pr22 => ?_⟩
      obtain ⟨v1, v2, g0, g1, g2⟩ := pr22
      obtain ⟨pl3, pl4⟩ := pmeet_len lk2 a2 b2' (pmeet ks a2 b2' xr yr).1 (pmeet ks a2 b2' xr yr).2
      refine ⟨z22, _, rfl, SqT.of g0, rfl, _, _, rfl, _, _, rfl, rfl, ?_⟩
      have s2022 := s21.trans s22
      refine ⟨_, rfl, _, rfl, _, rfl, bk, rx, ry, s2, a2, b2', _, xr, yr, rfl, k20.same s2022, y3, lkc, s2022 _ _ hrx20, s2022 _ _ hry, lnx.1, by omega, lny.1, by omega, inx, iny, fun H23 z23 s23 hz23 => ?_⟩
      refine ⟨_, rfl, _, rfl, v1, v2, _, _, rfl, rfl, s23 _ _ g1, s23 _ _ g2, by omega, fun z24 H24 s24 hz24 => ?_⟩
      refine ⟨z23, z24, _, _, rfl, rfl, s24 _ _ hz23, hz24, _, rfl, ?_⟩
      rw [pmeet_both lk1 cS.lk, decide_eq_true rfl]
      refine iteF ?_
      have s2024 := (s2022.trans s23).trans s24
      have d24 := d20.same s2024
      have o24 := o20.same s2024
      have w24 := w20.same s2024
      have k24 := k20.same s2024
      clear s2022 s2024 s21 s22 s23 s24 hz23 hz24 g0 g1 g2 f0 f1' f2' o20 w20 k20 o19 ho19 o18 w18 k18 ho18 d18 b19 d19 hrx b20 d20 hry b1820 hrx20
      -- the shape and the words
      refine ⟨_, rfl, _, rfl, d, c, 5, rfl, by decide, by decide, d24, fun H25 v25 e1 e2 b25 d25 => ⟨_, _, rfl, rfl, ?_⟩⟩
      obtain ⟨n, hn⟩ : ∃ n : Nat, v25 = (n : Int) := ⟨v25.toNat, by omega⟩
      subst hn
      have n4 : n ≤ 4 := by omega
      rw [show ((fun i j => V.int (i + j)) 1 (n : Int)) = V.int ((n : Int) + 1) from congrArg V.int (Int.add_comm _ _)]
      refine ⟨d, c, n, rfl, n4, d25, fun H26 p26 sh b26 d26 h26 ok26 => ?_⟩
      obtain ⟨lsh, _, _, _⟩ := sh_parts ok26
      have b2426 := b25.but.trans b26
      have o26 := LB.dice o24 d24 b2426
      obtain ⟨t1, ho26, _⟩ := id o26
      have el : (((il sh).map V.int).length : Int) + 1 = ((n + 1 : Nat) : Int) := by
        rw [List.length_map, il_len, lsh]
        omega
      refine ⟨_, rfl, _, rfl, p1, _, _, _, rfl, rfl, SqT.of ho26, atI_nat (j := 0) rfl, _, rfl, p26, _, rfl, .inr (SqT.of h26), _, _, rfl, rfl, ?_⟩
      rw [show ((fun i j => V.int (i + j)) (((il sh).map V.int).length : Int) 1) = V.int ((n + 1 : Nat) : Int) from congrArg V.int el]
      refine ⟨d, c, s2, n + 1, rfl, y1, y2, by omega, by omega, d26, fun H27 p27 ws as b27 d27 hp27 hrs27 lws okw => ?_⟩
      have b2427 := b2426.trans b27
      have o27 := LB.dice o24 d24 b2427
      have w27 := LB.dice w24 d24 b2427
      have k27 := Bk.dice k24 d24 b2427
      have h27 := d26.tk b27 _ _ h26
      have wd27 : Wd H27 p27 ws := ⟨as, hp27, hrs27⟩
      obtain ⟨t1, ho27, _⟩ := id o27
      -- the due book
      refine ⟨_, rfl, p1, _, _, _, rfl, rfl, SqT.of ho27, atI_nat (j := 0) rfl, _, rfl, p1, _, _, _, rfl, rfl, SqT.of ho27, atI_nat (j := 1) rfl, _, rfl, p1, _, _, _, rfl, rfl, SqT.of ho27, atI_nat (j := 2) rfl,
        _, rfl, _, rfl, p1, p2, s2, a2, b2', s2, a2, b2', ks, ls, rfl, o27, w27, by omega, fun H28 t28 s28 tm28 => ⟨(by show 4 ≤ sizeLine; decide), fun z28 nz28 => ?_⟩⟩
      have y28 := same_new (o := .tup [V.int s2, V.int a2, V.int b2', V.ref t28]) nz28
      refine ⟨z28, s2, a2, b2', lawTab ks ls, rfl, ⟨t28, upd_same, tm28.tk y28.tk fun o => y28 _ o⟩, lS.1, lLen, lOk, ⟨y1, y2, y3, y4, y5, y6⟩, fun H29 due s29 k29 => ?_⟩
      have s2729 := (s28.trans y28).trans s29
      have fS : Says (filt (lawTab ks ls)) fun k => lk ls (lk ks k) := by
        have := filt_says lS.1
        rw [lS.lk_eq] at this
        exact this
      have fOk : TabOk s2 a2 b2' (filt (lawTab ks ls)) := filt_ok lOk
      refine ⟨_, rfl, _, rfl, _, rfl, bk, p27, p26, s2, a2, b2', n, _, ws, sh, rfl, k27.same s2729, lkc, wd27.same s2729, lws, okw, s2729 _ _ h27, n4, ok26, fun H30 l30 s30 hl30 => ?_⟩
      have s2730 := s2729.trans s30
      refine ⟨_, rfl, _, rfl, _, rfl, due, p27, p26, s2, a2, b2', n, _, ws, sh, rfl, k29.same s30, lenOk_of fOk, wd27.same s2730, lws, okw, s2730 _ _ h27, n4, ok26, fun H31 l31 s31 hl31 => ?_⟩
      refine ⟨l30, l31, _, _, rfl, rfl, s31 _ _ hl30, hl31, ?_⟩
      rw [cS.lk_eq, fS.lk_eq, decide_eq_true rfl]
      refine ⟨true, rfl, iteT ?_⟩
      have k31 := k27.same (s2730.trans s31)
      have u31 := (k29.same s30).same s31
      obtain ⟨dxr, tr, hr31, _⟩ := id k31
      obtain ⟨dxq, tq, hq31, _⟩ := id u31
      exact ⟨_, rfl, _, rfl, ⟨bk, due, dxr, dxq, _, _, rfl, rfl, hr31, hq31, s2, a2, b2', _, _, k31, u31, cS.mq fS⟩, fun H32 _ => fin H32⟩
end
end Seam

set_option Elab.async false
set_option linter.all false
set_option maxRecDepth 100000
set_option maxHeartbeats 0
/-! the head: what the top of the program leaves -/
namespace Seam
open PySem PySem.Spec PyProof.Rows L2 Nd Rz
def d_is_integer : He.DefD := ⟨("is_integer", none), "is_integer", "is_integer", defArgs s_is_integer, defBody s_is_integer, defScope s_is_integer, [], []⟩
def d_is_between : He.DefD := ⟨("is_between", none), "is_between", "is_between", defArgs s_is_between, defBody s_is_between, defScope s_is_between, [], []⟩
def d_is_index : He.DefD := ⟨("is_index", none), "is_index", "is_index", defArgs s_is_index, defBody s_is_index, defScope s_is_index, [], []⟩
def d_is_sounds : He.DefD := ⟨("is_sounds", none), "is_sounds", "is_sounds", defArgs s_is_sounds, defBody s_is_sounds, defScope s_is_sounds, [], []⟩
def d_is_side_pair : He.DefD := ⟨("is_side_pair", none), "is_side_pair", "is_side_pair", defArgs s_is_side_pair, defBody s_is_side_pair, defScope s_is_side_pair, [], []⟩
def d_is_table : He.DefD := ⟨("is_table", none), "is_table", "is_table", defArgs s_is_table, defBody s_is_table, defScope s_is_table, [], []⟩
def d_check_sizes : He.DefD := ⟨("check_sizes", none), "check_sizes", "check_sizes", defArgs s_check_sizes, defBody s_check_sizes, defScope s_check_sizes, [], []⟩
def d_Book__init : He.DefD := ⟨("Book", some "__init__"), "__init__", "Book.__init__", defArgs s_Book__init, defBody s_Book__init, defScope s_Book__init, [], []⟩
def d_Book_keep : He.DefD := ⟨("Book", some "keep"), "keep", "Book.keep", defArgs s_Book_keep, defBody s_Book_keep, defScope s_Book_keep, [], []⟩
def d_Book_sounds : He.DefD := ⟨("Book", some "sounds"), "sounds", "Book.sounds", defArgs s_Book_sounds, defBody s_Book_sounds, defScope s_Book_sounds, [], []⟩
def d_Book_ahead : He.DefD := ⟨("Book", some "ahead"), "ahead", "Book.ahead", defArgs s_Book_ahead, defBody s_Book_ahead, defScope s_Book_ahead, [], []⟩
def d_Book_behind : He.DefD := ⟨("Book", some "behind"), "behind", "Book.behind", defArgs s_Book_behind, defBody s_Book_behind, defScope s_Book_behind, [], []⟩
def d_Book_table : He.DefD := ⟨("Book", some "table"), "table", "Book.table", defArgs s_Book_table, defBody s_Book_table, defScope s_Book_table, [], []⟩
def d_Book_parts : He.DefD := ⟨("Book", some "parts"), "parts", "Book.parts", defArgs s_Book_parts, defBody s_Book_parts, defScope s_Book_parts, [], []⟩
def d_Book__eq : He.DefD := ⟨("Book", some "__eq__"), "__eq__", "Book.__eq__", defArgs s_Book__eq, defBody s_Book__eq, defScope s_Book__eq, [], []⟩
def d_RawBook__init : He.DefD := ⟨("RawBook", some "__init__"), "__init__", "RawBook.__init__", defArgs s_RawBook__init, defBody s_RawBook__init, defScope s_RawBook__init, [], []⟩
def d_told : He.DefD := ⟨("told", none), "told", "told", defArgs s_told, defBody s_told, defScope s_told, [], []⟩
def d_one_behind_another : He.DefD := ⟨("one_behind_another", none), "one_behind_another", "one_behind_another", defArgs s_one_behind_another, defBody s_one_behind_another, defScope s_one_behind_another, [], []⟩
def d_Joinings__init : He.DefD := ⟨("Joinings", some "__init__"), "__init__", "Joinings.__init__", defArgs s_Joinings__init, defBody s_Joinings__init, defScope s_Joinings__init, [], []⟩
def d_is_fair : He.DefD := ⟨("is_fair", none), "is_fair", "is_fair", defArgs s_is_fair, defBody s_is_fair, defScope s_is_fair, [], []⟩
def d_is_shape : He.DefD := ⟨("is_shape", none), "is_shape", "is_shape", defArgs s_is_shape, defBody s_is_shape, defScope s_is_shape, [], []⟩
def d_check_shape_for : He.DefD := ⟨("check_shape_for", none), "check_shape_for", "check_shape_for", defArgs s_check_shape_for, defBody s_check_shape_for, defScope s_check_shape_for, [], []⟩
def d_is_word : He.DefD := ⟨("is_word", none), "is_word", "is_word", defArgs s_is_word, defBody s_is_word, defScope s_is_word, [], []⟩
def d_check_words : He.DefD := ⟨("check_words", none), "check_words", "check_words", defArgs s_check_words, defBody s_check_words, defScope s_check_words, [], []⟩
def d_check_phrase : He.DefD := ⟨("check_phrase", none), "check_phrase", "check_phrase", defArgs s_check_phrase, defBody s_check_phrase, defScope s_check_phrase, [], []⟩
def d_joined_rows : He.DefD := ⟨("joined_rows", none), "joined_rows", "joined_rows", defArgs s_joined_rows, defBody s_joined_rows, defScope s_joined_rows, [], []⟩
def d_inner_first : He.DefD := ⟨("inner_first", none), "inner_first", "inner_first", defArgs s_inner_first, defBody s_inner_first, defScope s_inner_first, [], []⟩
def d_Sayer__init : He.DefD := ⟨("Sayer", some "__init__"), "__init__", "Sayer.__init__", defArgs s_Sayer__init, defBody s_Sayer__init, defScope s_Sayer__init, [], []⟩
def d_Sayer_join : He.DefD := ⟨("Sayer", some "join"), "join", "Sayer.join", defArgs s_Sayer_join, defBody s_Sayer_join, defScope s_Sayer_join, [], []⟩
def d_Sayer_say : He.DefD := ⟨("Sayer", some "say"), "say", "Sayer.say", defArgs s_Sayer_say, defBody s_Sayer_say, defScope s_Sayer_say, [], []⟩
def d_said_row : He.DefD := ⟨("said_row", none), "said_row", "said_row", defArgs s_said_row, defBody s_said_row, defScope s_said_row, [], []⟩
def d_said : He.DefD := ⟨("said", none), "said", "said", defArgs s_said, defBody s_said, defScope s_said, [], []⟩
def d_check_row : He.DefD := ⟨("check_row", none), "check_row", "check_row", defArgs s_check_row, defBody s_check_row, defScope s_check_row, [], []⟩
def d_met : He.DefD := ⟨("met", none), "met", "met", defArgs s_met, defBody s_met, defScope s_met, [], []⟩
def d_law_dice : He.DefD := ⟨("_law_dice", none), "_law_dice", "_law_dice", defArgs s_law_dice, defBody s_law_dice, defScope s_law_dice, [], []⟩
def d_law_draw : He.DefD := ⟨("_law_draw", none), "_law_draw", "_law_draw", defArgs s_law_draw, defBody s_law_draw, defScope s_law_draw, [], []⟩
def d_law_shape : He.DefD := ⟨("_law_shape", none), "_law_shape", "_law_shape", defArgs s_law_shape, defBody s_law_shape, defScope s_law_shape, [], []⟩
def d_law_side : He.DefD := ⟨("_law_side", none), "_law_side", "_law_side", defArgs s_law_side, defBody s_law_side, defScope s_law_side, [], []⟩
def d_law_like : He.DefD := ⟨("_law_like", none), "_law_like", "_law_like", defArgs s_law_like, defBody s_law_like, defScope s_law_like, [], []⟩
def d_law_rows : He.DefD := ⟨("_law_rows", none), "_law_rows", "_law_rows", defArgs s_law_rows, defBody s_law_rows, defScope s_law_rows, [], []⟩
def d_law_great_book : He.DefD := ⟨("_law_great_book", none), "_law_great_book", "_law_great_book", defArgs s_law_great_book, defBody s_law_great_book, defScope s_law_great_book, [], []⟩
def d_law_book : He.DefD := ⟨("_law_book", none), "_law_book", "_law_book", defArgs s_law_book, defBody s_law_book, defScope s_law_book, [], []⟩
def d_law_made : He.DefD := ⟨("_law_made", none), "_law_made", "_law_made", defArgs s_law_made, defBody s_law_made, defScope s_law_made, [], []⟩
def d_law_row : He.DefD := ⟨("_law_row", none), "_law_row", "_law_row", defArgs s_law_row, defBody s_law_row, defScope s_law_row, [], []⟩
def d_law_words : He.DefD := ⟨("_law_words", none), "_law_words", "_law_words", defArgs s_law_words, defBody s_law_words, defScope s_law_words, [], []⟩
def d_law_meet : He.DefD := ⟨("_law_meet", none), "_law_meet", "_law_meet", defArgs s_law_meet, defBody s_law_meet, defScope s_law_meet, [], []⟩
def d_law_told : He.DefD := ⟨("_law_told", none), "_law_told", "_law_told", defArgs s_law_told, defBody s_law_told, defScope s_law_told, [], []⟩
def d_law_both : He.DefD := ⟨("_law_both", none), "_law_both", "_law_both", defArgs s_law_both, defBody s_law_both, defScope s_law_both, [], []⟩
def d_law_table : He.DefD := ⟨("_law_table", none), "_law_table", "_law_table", defArgs s_law_table, defBody s_law_table, defScope s_law_table, [], []⟩
def d_law_second : He.DefD := ⟨("_law_second", none), "_law_second", "_law_second", defArgs s_law_second, defBody s_law_second, defScope s_law_second, [], []⟩
def d_law : He.DefD := ⟨("law", none), "law", "law", defArgs s_law, defBody s_law, defScope s_law, [], []⟩
def fn : List He.DefD := [d_is_integer, d_is_between, d_is_index, d_is_sounds, d_is_side_pair, d_is_table, d_check_sizes, d_Book__init, d_Book_keep, d_Book_sounds, d_Book_ahead, d_Book_behind, d_Book_table, d_Book_parts, d_Book__eq, d_RawBook__init, d_told, d_one_behind_another, d_Joinings__init, d_is_fair, d_is_shape, d_check_shape_for, d_is_word, d_check_words, d_check_phrase, d_joined_rows, d_inner_first, d_Sayer__init, d_Sayer_join, d_Sayer_say, d_said_row, d_said, d_check_row, d_met, d_law_dice, d_law_draw, d_law_shape, d_law_side, d_law_like, d_law_rows, d_law_great_book, d_law_book, d_law_made, d_law_row, d_law_words, d_law_meet, d_law_told, d_law_both, d_law_table, d_law_second, d_law]
def fa : List He.Fa := [
  .glo "is_integer", .glo "is_between", .glo "is_index", .glo "is_sounds", .glo "is_side_pair", .glo "is_table", .glo "check_sizes", .glo "told", .glo "one_behind_another", .glo "is_fair", .glo "is_shape", .glo "check_shape_for",
  .glo "is_word", .glo "check_words", .glo "check_phrase", .glo "joined_rows", .glo "inner_first", .glo "said_row", .glo "said", .glo "check_row", .glo "met", .glo "_law_dice", .glo "_law_draw", .glo "_law_shape",
  .glo "_law_side", .glo "_law_like", .glo "_law_rows", .glo "_law_great_book", .glo "_law_book", .glo "_law_made", .glo "_law_row", .glo "_law_words", .glo "_law_meet", .glo "_law_told", .glo "_law_both", .glo "_law_table",
  .glo "_law_second", .glo "law", .glo "Book", .glo "RawBook", .glo "Joinings", .glo "Sayer", .glo "OtherBook", .glo "SeamError", .free "isinstance", .free "int", .free "bool", .free "tuple",
  .free "len", .free "all", .free "dict", .free "list", .free "max", .free "min", .free "range", .free "sorted", .free "abs", .free "zip", .free "ValueError", .int "MOST_SOUNDS" 8,
  .int "MOST_SIDE" 4, .int "MOST_ENTRIES" 4000, .int "MOST_WORDS" 40, .int "MOST_WORD" 200, .int "MOST_ROW" 4000, .cls "Book", .mkr "Book", .cls "RawBook", .mkr "RawBook", .cls "Joinings", .mkr "Joinings", .cls "Sayer",
  .mkr "Sayer", .noat "Book" "kept_sounds", .noat "Book" "kept_ahead", .noat "Book" "kept_behind", .noat "Book" "kept_table", .noat "Joinings" "first", .noat "Joinings" "last", .noat "Joinings" "above", .noat "Joinings" "fair", .noat "Sayer" "book", .noat "Sayer" "row", .noat "Sayer" "starts",
  .noat "Sayer" "joinings", .noat "Sayer" "order", .noat "Sayer" "changed", .noat "Sayer" "looked", .noat "RawBook" "kept_sounds", .noat "RawBook" "kept_ahead", .noat "RawBook" "kept_behind", .noat "RawBook" "kept_table", .meth "Book" "keep", .meth "Book" "parts", .meth "RawBook" "keep", .meth "RawBook" "table",
  .meth "RawBook" "sounds", .meth "RawBook" "ahead", .meth "RawBook" "behind", .meth "RawBook" "parts", .meth "Sayer" "join", .meth "Sayer" "say", .exc "OtherBook", .exm "OtherBook" "SeamError" true]
/-- further facts -/
def exB (K : PySem.W.Frag) : Bool :=
  decide (PySem.W.findIn K (.ref (He.ga K "Book")) "__class__" = some (some (.builtin "object.__class__"))) && (decide (PySem.W.specialIn K (.builtin "object.__class__") "__get__" = some (some (.builtin "getset_descriptor.__get__"))) && (
  decide (PySem.W.takesIn K (.builtin "object.__class__") = some true) && (decide (PySem.W.mroIn K (He.ga K "Book") (.type "object") = some true) && (decide (PySem.W.kitOne K (.ref (He.ga K "Book")) (.ref (He.ga K "Book")) = some true) && (
  decide (PySem.W.findIn K (.ref (He.ga K "OtherBook")) "__getattribute__" = some (some (.builtin "BaseException.__getattribute__"))) && (decide (PySem.W.findIn K (.ref (He.ga K "OtherBook")) "__getattr__" = some none) && (
  decide (PySem.W.subIn K (.ref (He.ga K "OtherBook")) (.type "BaseException") = some true) && (PySem.W.hasDictIn K (He.ga K "OtherBook") && (
  decide (PySem.W.findIn K (.ref (He.ga K "OtherBook")) "__class__" = some (some (.builtin "object.__class__"))) && (decide (PySem.W.mroIn K (He.ga K "OtherBook") (.type "object") = some true) && (
  decide (PySem.W.kitOne K (.ref (He.ga K "OtherBook")) (.ref (He.ga K "OtherBook")) = some true) && (decide (PySem.W.kitOne K (.ref (He.ga K "OtherBook")) (.type "ValueError") = some true) && (
  decide (PySem.W.findIn K (.ref (He.ga K "RawBook")) "__eq__" = some (some (.ref (He.ma K (He.ga K "Book") "__eq__")))) && (PySem.W.isFn K (.ref (He.ma K (He.ga K "Book") "__eq__")) && (PySem.W.notFirst K (He.ga K "RawBook") (.ref (He.ga K "Book")) && (
  decide (He.ma K (He.ga K "RawBook") "keep" = He.ma K (He.ga K "Book") "keep") && (decide (He.ma K (He.ga K "RawBook") "table" = He.ma K (He.ga K "Book") "table") && (decide (He.ma K (He.ga K "RawBook") "sounds" = He.ma K (He.ga K "Book") "sounds") && (decide (He.ma K (He.ga K "RawBook") "ahead" = He.ma K (He.ga K "Book") "ahead") && (decide (He.ma K (He.ga K "RawBook") "behind" = He.ma K (He.ga K "Book") "behind") && (decide (He.ma K (He.ga K "RawBook") "parts" = He.ma K (He.ga K "Book") "parts"))))))))))))))))))))))
def names1 : List Str := ["_wall", "SeamError", "NoShape", "OtherBook", "NoWords", "NoRow", "NoBook", "is_integer", "is_between", "is_index", "MOST_SOUNDS", "MOST_SIDE", "MOST_ENTRIES", "is_sounds", "is_side_pair", "is_table", "check_sizes", "Book", "RawBook", "told", "one_behind_another", "MOST_WORDS", "Joinings", "is_fair", "is_shape", "check_shape_for", "MOST_WORD", "MOST_ROW", "is_word", "check_words"]
def names2 : List Str := ["check_phrase", "joined_rows", "inner_first", "Sayer", "said_row", "said", "check_row", "met", "_law_dice", "_law_draw", "_law_shape", "_law_many", "_law_is_integer", "_law_side", "_law_like", "_law_rows", "_law_great_book", "_law_book", "_law_made", "_law_row", "_law_words", "_law_meet", "_law_told", "_law_both", "_law_table", "_law_second"]
def names : List Str := names1 ++ names2
abbrev R : PySem.W.OpenRow := PySem.W.OpenLaw.row PySem.Challenge.rw_heardseams_k20_whole_books_one_behind_an
/-- the defs' and names' facts, and the further ones -/
def obS (g : Addr → Option Obj) : He.AlD × Bool := (He.obsD fa fn (He.frG g (He.asD g 5)), exB (He.frG g (He.asD g 5)))
def SaysS (K : PySem.W.Frag) : Prop := He.SaysD fa fn K ∧ exB K = true
def hk : PySem.W.Hook where
  α := He.AlD × Bool
  obs := fun s => obS s.heap.get?
  val := fun _ => (He.valD fn, true)
  says := fun _ h => ∃ K : PySem.W.Frag, K.In h ∧ SaysS K
  of := fun _ s e => ⟨He.frG s.heap.get? (He.asD s.heap.get? 5), He.frG_in, congrArg (fun z : He.AlD × Bool => z.1) e, congrArg (fun z : He.AlD × Bool => z.2) e⟩
  keeps := fun _ _ _ ⟨K, hK, c⟩ k => ⟨K, PySem.W.Frag.In.keeps hK k, c⟩
def ob (s : PySem.W.SharedT) : He.AlD × Bool := obS (HandSHeadRun.getT s)
theorem ob_eq (s : PySem.W.SharedT) : ob s = hk.obs s.abs := by
  have e : HandSHeadRun.getT s = s.abs.heap.get? := funext (HandSHeadRun.getT_eq s)
  show obS (HandSHeadRun.getT s) = obS s.abs.heap.get?
  rw [e]
theorem run (w : World) : HandSHeadRun.RunEq R (PySem.W.view R.prog [63]) hk ob 20000 names w := by
  intro os
  kernel_rfl
theorem bF {a b : Bool} (h : (a && b) = true) : a = true ∧ b = true := Bool.and_eq_true_iff.mp h
theorem facts {P : Program} {w : World} {K : PySem.W.Frag} {h : Heap} {mg : Str → Option Value} {f : Addr} (X : K.In h) (G : h.Ns mainGlobals mg) (hfa : mg ("law" : Str) = some (.ref f)) (cs : SaysS K) :
    ∃ fd : FuncData, (∀ (s : Shared) (v : Value), BindsTo s fd ⟨[v], []⟩ [("_law_script", v)]) ∧ ∀ base : Heap, K.In base → base.Ns mainGlobals mg → FnOk P w K mg base CX0 10 f fd ["_law_script"] (spLaw K) := by
  obtain ⟨c, ex⟩ := cs
  unfold exB at ex
  obtain ⟨x1, ex0⟩ := bF ex
  obtain ⟨x2, ex1⟩ := bF ex0
  obtain ⟨x3, ex2⟩ := bF ex1
  obtain ⟨x4, ex3⟩ := bF ex2
  obtain ⟨x5, ex4⟩ := bF ex3
  obtain ⟨y1, ex5⟩ := bF ex4
  obtain ⟨y2, ex6⟩ := bF ex5
  obtain ⟨y3, ex7⟩ := bF ex6
  obtain ⟨y4, ex8⟩ := bF ex7
  obtain ⟨y5, ex9⟩ := bF ex8
  obtain ⟨y6, ex10⟩ := bF ex9
  obtain ⟨k1, ex11⟩ := bF ex10
  obtain ⟨k2, ex12⟩ := bF ex11
  obtain ⟨z1, ex13⟩ := bF ex12
  obtain ⟨z2, ex14⟩ := bF ex13
  obtain ⟨z3, ex15⟩ := bF ex14
  obtain ⟨i_keep, ex16⟩ := bF ex15
  obtain ⟨i_table, ex17⟩ := bF ex16
  obtain ⟨i_sounds, ex18⟩ := bF ex17
  obtain ⟨i_ahead, ex19⟩ := bF ex18
  obtain ⟨i_behind, i_parts⟩ := bF ex19
  replace x1 := of_decide_eq_true x1
  replace x2 := of_decide_eq_true x2
  replace x3 := of_decide_eq_true x3
  replace x4 := of_decide_eq_true x4
  replace x5 := of_decide_eq_true x5
  replace y1 := of_decide_eq_true y1
  replace y2 := of_decide_eq_true y2
  replace y3 := of_decide_eq_true y3
  replace y5 := of_decide_eq_true y5
  replace y6 := of_decide_eq_true y6
  replace k1 := of_decide_eq_true k1
  replace k2 := of_decide_eq_true k2
  replace z1 := of_decide_eq_true z1
  replace i_keep := of_decide_eq_true i_keep
  replace i_table := of_decide_eq_true i_table
  replace i_sounds := of_decide_eq_true i_sounds
  replace i_ahead := of_decide_eq_true i_ahead
  replace i_behind := of_decide_eq_true i_behind
  replace i_parts := of_decide_eq_true i_parts
  obtain ⟨fd_is_integer, F_is_integer⟩ := c.def_ 0 (d := d_is_integer) rfl
  have b_is_integer : Binds K fd_is_integer ["thing"] [] := F_is_integer.bindsN fun _ _ _ _ _ _ us hl => match us, hl with | [_], _ => rfl
  obtain ⟨fd_is_between, F_is_between⟩ := c.def_ 1 (d := d_is_between) rfl
  have b_is_between : Binds K fd_is_between ["thing", "least", "most"] [] := F_is_between.bindsN fun _ _ _ _ _ _ us hl => match us, hl with | [_, _, _], _ => rfl
  obtain ⟨fd_is_index, F_is_index⟩ := c.def_ 2 (d := d_is_index) rfl
  have b_is_index : Binds K fd_is_index ["thing", "many"] [] := F_is_index.bindsN fun _ _ _ _ _ _ us hl => match us, hl with | [_, _], _ => rfl
  obtain ⟨fd_is_sounds, F_is_sounds⟩ := c.def_ 3 (d := d_is_sounds) rfl
  have b_is_sounds : Binds K fd_is_sounds ["thing", "sounds", "least", "most"] [] := F_is_sounds.bindsN fun _ _ _ _ _ _ us hl => match us, hl with | [_, _, _, _], _ => rfl
  obtain ⟨fd_is_side_pair, F_is_side_pair⟩ := c.def_ 4 (d := d_is_side_pair) rfl
  have b_is_side_pair : Binds K fd_is_side_pair ["thing", "sounds", "ahead", "behind"] [] := F_is_side_pair.bindsN fun _ _ _ _ _ _ us hl => match us, hl with | [_, _, _, _], _ => rfl
  obtain ⟨fd_is_table, F_is_table⟩ := c.def_ 5 (d := d_is_table) rfl
  have b_is_table : Binds K fd_is_table ["thing", "sounds", "ahead", "behind"] [] := F_is_table.bindsN fun _ _ _ _ _ _ us hl => match us, hl with | [_, _, _, _], _ => rfl
  obtain ⟨fd_check_sizes, F_check_sizes⟩ := c.def_ 6 (d := d_check_sizes) rfl
  have b_check_sizes : Binds K fd_check_sizes ["sounds", "ahead", "behind"] [] := F_check_sizes.bindsN fun _ _ _ _ _ _ us hl => match us, hl with | [_, _, _], _ => rfl
  obtain ⟨fd_Book__init, F_Book__init⟩ := c.def_ 7 (d := d_Book__init) rfl
  have b_Book__init : Binds K fd_Book__init ["self", "sounds", "ahead", "behind", "table"] [] := F_Book__init.bindsN fun _ _ _ _ _ _ us hl => match us, hl with | [_, _, _, _, _], _ => rfl
  obtain ⟨fd_Book_keep, F_Book_keep⟩ := c.def_ 8 (d := d_Book_keep) rfl
  have b_Book_keep : Binds K fd_Book_keep ["self", "sounds", "ahead", "behind", "table"] [] := F_Book_keep.bindsN fun _ _ _ _ _ _ us hl => match us, hl with | [_, _, _, _, _], _ => rfl
  obtain ⟨fd_Book_sounds, F_Book_sounds⟩ := c.def_ 9 (d := d_Book_sounds) rfl
  have b_Book_sounds : Binds K fd_Book_sounds ["self"] [] := F_Book_sounds.bindsN fun _ _ _ _ _ _ us hl => match us, hl with | [_], _ => rfl
  obtain ⟨fd_Book_ahead, F_Book_ahead⟩ := c.def_ 10 (d := d_Book_ahead) rfl
  have b_Book_ahead : Binds K fd_Book_ahead ["self"] [] := F_Book_ahead.bindsN fun _ _ _ _ _ _ us hl => match us, hl with | [_], _ => rfl
  obtain ⟨fd_Book_behind, F_Book_behind⟩ := c.def_ 11 (d := d_Book_behind) rfl
  have b_Book_behind : Binds K fd_Book_behind ["self"] [] := F_Book_behind.bindsN fun _ _ _ _ _ _ us hl => match us, hl with | [_], _ => rfl
  obtain ⟨fd_Book_table, F_Book_table⟩ := c.def_ 12 (d := d_Book_table) rfl
  have b_Book_table : Binds K fd_Book_table ["self"] [] := F_Book_table.bindsN fun _ _ _ _ _ _ us hl => match us, hl with | [_], _ => rfl
  obtain ⟨fd_Book_parts, F_Book_parts⟩ := c.def_ 13 (d := d_Book_parts) rfl
  have b_Book_parts : Binds K fd_Book_parts ["self"] [] := F_Book_parts.bindsN fun _ _ _ _ _ _ us hl => match us, hl with | [_], _ => rfl
  obtain ⟨fd_Book__eq, F_Book__eq⟩ := c.def_ 14 (d := d_Book__eq) rfl
  have b_Book__eq : Binds K fd_Book__eq ["self", "other"] [] := F_Book__eq.bindsN fun _ _ _ _ _ _ us hl => match us, hl with | [_, _], _ => rfl
  obtain ⟨fd_RawBook__init, F_RawBook__init⟩ := c.def_ 15 (d := d_RawBook__init) rfl
  have b_RawBook__init : Binds K fd_RawBook__init ["self", "sounds", "ahead", "behind", "table"] [] := F_RawBook__init.bindsN fun _ _ _ _ _ _ us hl => match us, hl with | [_, _, _, _, _], _ => rfl
  obtain ⟨fd_told, F_told⟩ := c.def_ 16 (d := d_told) rfl
  have b_told : Binds K fd_told ["book", "left", "right"] [] := F_told.bindsN fun _ _ _ _ _ _ us hl => match us, hl with | [_, _, _], _ => rfl
  obtain ⟨fd_one_behind_another, F_one_behind_another⟩ := c.def_ 17 (d := d_one_behind_another) rfl
  have b_one_behind_another : Binds K fd_one_behind_another ["book", "other"] [] := F_one_behind_another.bindsN fun _ _ _ _ _ _ us hl => match us, hl with | [_, _], _ => rfl
  obtain ⟨fd_Joinings__init, F_Joinings__init⟩ := c.def_ 18 (d := d_Joinings__init) rfl
  have b_Joinings__init : Binds K fd_Joinings__init ["self", "shape"] [] := F_Joinings__init.bindsN fun _ _ _ _ _ _ us hl => match us, hl with | [_, _], _ => rfl
  obtain ⟨fd_is_fair, F_is_fair⟩ := c.def_ 19 (d := d_is_fair) rfl
  have b_is_fair : Binds K fd_is_fair ["thing"] [] := F_is_fair.bindsN fun _ _ _ _ _ _ us hl => match us, hl with | [_], _ => rfl
  obtain ⟨fd_is_shape, F_is_shape⟩ := c.def_ 20 (d := d_is_shape) rfl
  have b_is_shape : Binds K fd_is_shape ["thing"] [] := F_is_shape.bindsN fun _ _ _ _ _ _ us hl => match us, hl with | [_], _ => rfl
  obtain ⟨fd_check_shape_for, F_check_shape_for⟩ := c.def_ 21 (d := d_check_shape_for) rfl
  have b_check_shape_for : Binds K fd_check_shape_for ["words", "thing"] [] := F_check_shape_for.bindsN fun _ _ _ _ _ _ us hl => match us, hl with | [_, _], _ => rfl
  obtain ⟨fd_is_word, F_is_word⟩ := c.def_ 22 (d := d_is_word) rfl
  have b_is_word : Binds K fd_is_word ["thing", "sounds"] [] := F_is_word.bindsN fun _ _ _ _ _ _ us hl => match us, hl with | [_, _], _ => rfl
  obtain ⟨fd_check_words, F_check_words⟩ := c.def_ 23 (d := d_check_words) rfl
  have b_check_words : Binds K fd_check_words ["sounds", "thing"] [] := F_check_words.bindsN fun _ _ _ _ _ _ us hl => match us, hl with | [_, _], _ => rfl
  obtain ⟨fd_check_phrase, F_check_phrase⟩ := c.def_ 24 (d := d_check_phrase) rfl
  have b_check_phrase : Binds K fd_check_phrase ["book", "words", "shape"] [] := F_check_phrase.bindsN fun _ _ _ _ _ _ us hl => match us, hl with | [_, _, _], _ => rfl
  obtain ⟨fd_joined_rows, F_joined_rows⟩ := c.def_ 25 (d := d_joined_rows) rfl
  have b_joined_rows : Binds K fd_joined_rows ["book", "one", "other"] [] := F_joined_rows.bindsN fun _ _ _ _ _ _ us hl => match us, hl with | [_, _, _], _ => rfl
  obtain ⟨fd_inner_first, F_inner_first⟩ := c.def_ 26 (d := d_inner_first) rfl
  have b_inner_first : Binds K fd_inner_first ["shape"] [] := F_inner_first.bindsN fun _ _ _ _ _ _ us hl => match us, hl with | [_], _ => rfl
  obtain ⟨fd_Sayer__init, F_Sayer__init⟩ := c.def_ 27 (d := d_Sayer__init) rfl
  have b_Sayer__init : Binds K fd_Sayer__init ["self", "book", "words", "shape"] [] := F_Sayer__init.bindsN fun _ _ _ _ _ _ us hl => match us, hl with | [_, _, _, _], _ => rfl
  obtain ⟨fd_Sayer_join, F_Sayer_join⟩ := c.def_ 28 (d := d_Sayer_join) rfl
  have b_Sayer_join : Binds K fd_Sayer_join ["self", "seam"] [] := F_Sayer_join.bindsN fun _ _ _ _ _ _ us hl => match us, hl with | [_, _], _ => rfl
  obtain ⟨fd_Sayer_say, F_Sayer_say⟩ := c.def_ 29 (d := d_Sayer_say) rfl
  have b_Sayer_say : Binds K fd_Sayer_say ["self"] [] := F_Sayer_say.bindsN fun _ _ _ _ _ _ us hl => match us, hl with | [_], _ => rfl
  obtain ⟨fd_said_row, F_said_row⟩ := c.def_ 30 (d := d_said_row) rfl
  have b_said_row : Binds K fd_said_row ["book", "words", "shape"] [] := F_said_row.bindsN fun _ _ _ _ _ _ us hl => match us, hl with | [_, _, _], _ => rfl
  obtain ⟨fd_said, F_said⟩ := c.def_ 31 (d := d_said) rfl
  have b_said : Binds K fd_said ["book", "words", "shape"] [] := F_said.bindsN fun _ _ _ _ _ _ us hl => match us, hl with | [_, _, _], _ => rfl
  obtain ⟨fd_check_row, F_check_row⟩ := c.def_ 32 (d := d_check_row) rfl
  have b_check_row : Binds K fd_check_row ["book", "thing"] [] := F_check_row.bindsN fun _ _ _ _ _ _ us hl => match us, hl with | [_, _], _ => rfl
  obtain ⟨fd_met, F_met⟩ := c.def_ 33 (d := d_met) rfl
  have b_met : Binds K fd_met ["book", "one", "other"] [] := F_met.bindsN fun _ _ _ _ _ _ us hl => match us, hl with | [_, _, _], _ => rfl
  obtain ⟨fd_law_dice, F_law_dice⟩ := c.def_ 34 (d := d_law_dice) rfl
  have b_law_dice : Binds K fd_law_dice ["_law_script"] [] := F_law_dice.bindsN fun _ _ _ _ _ _ us hl => match us, hl with | [_], _ => rfl
  obtain ⟨fd_law_draw, F_law_draw⟩ := c.def_ 35 (d := d_law_draw) rfl
  have b_law_draw : Binds K fd_law_draw ["_law_dice_here", "_law_sides"] [] := F_law_draw.bindsN fun _ _ _ _ _ _ us hl => match us, hl with | [_, _], _ => rfl
  obtain ⟨fd_law_shape, F_law_shape⟩ := c.def_ 36 (d := d_law_shape) rfl
  have b_law_shape : Binds K fd_law_shape ["_law_dice_here", "_law_words_here"] [] := F_law_shape.bindsN fun _ _ _ _ _ _ us hl => match us, hl with | [_, _], _ => rfl
  obtain ⟨fd_law_side, F_law_side⟩ := c.def_ 37 (d := d_law_side) rfl
  have b_law_side : Binds K fd_law_side ["_law_dice_here", "_law_sounds", "_law_most"] [] := F_law_side.bindsN fun _ _ _ _ _ _ us hl => match us, hl with | [_, _, _], _ => rfl
  obtain ⟨fd_law_like, F_law_like⟩ := c.def_ 38 (d := d_law_like) rfl
  have b_law_like : Binds K fd_law_like ["_law_dice_here", "_law_sounds", "_law_row_here"] [] := F_law_like.bindsN fun _ _ _ _ _ _ us hl => match us, hl with | [_, _, _], _ => rfl
  obtain ⟨fd_law_rows, F_law_rows⟩ := c.def_ 39 (d := d_law_rows) rfl
  have b_law_rows : Binds K fd_law_rows ["_law_sounds", "_law_most"] [] := F_law_rows.bindsN fun _ _ _ _ _ _ us hl => match us, hl with | [_, _], _ => rfl
  obtain ⟨fd_law_great_book, F_law_great_book⟩ := c.def_ 40 (d := d_law_great_book) rfl
  have b_law_great_book : Binds K fd_law_great_book ["_law_dice_here"] [] := F_law_great_book.bindsN fun _ _ _ _ _ _ us hl => match us, hl with | [_], _ => rfl
  obtain ⟨fd_law_book, F_law_book⟩ := c.def_ 41 (d := d_law_book) rfl
  have b_law_book : Binds K fd_law_book ["_law_dice_here"] [] := F_law_book.bindsN fun _ _ _ _ _ _ us hl => match us, hl with | [_], _ => rfl
  obtain ⟨fd_law_made, F_law_made⟩ := c.def_ 42 (d := d_law_made) rfl
  have b_law_made : Binds K fd_law_made ["_law_book_here"] [] := F_law_made.bindsN fun _ _ _ _ _ _ us hl => match us, hl with | [_], _ => rfl
  obtain ⟨fd_law_row, F_law_row⟩ := c.def_ 43 (d := d_law_row) rfl
  have b_law_row : Binds K fd_law_row ["_law_dice_here", "_law_sounds", "_law_most"] [] := F_law_row.bindsN fun _ _ _ _ _ _ us hl => match us, hl with | [_, _, _], _ => rfl
  obtain ⟨fd_law_words, F_law_words⟩ := c.def_ 44 (d := d_law_words) rfl
  have b_law_words : Binds K fd_law_words ["_law_dice_here", "_law_sounds", "_law_many_here"] [] := F_law_words.bindsN fun _ _ _ _ _ _ us hl => match us, hl with | [_, _, _], _ => rfl
  obtain ⟨fd_law_meet, F_law_meet⟩ := c.def_ 45 (d := d_law_meet) rfl
  have b_law_meet : Binds K fd_law_meet ["_law_book_here", "_law_one", "_law_other"] [] := F_law_meet.bindsN fun _ _ _ _ _ _ us hl => match us, hl with | [_, _, _], _ => rfl
  obtain ⟨fd_law_told, F_law_told⟩ := c.def_ 46 (d := d_law_told) rfl
  have b_law_told : Binds K fd_law_told ["_law_one", "_law_other"] [] := F_law_told.bindsN fun _ _ _ _ _ _ us hl => match us, hl with | [_, _], _ => rfl
  obtain ⟨fd_law_both, F_law_both⟩ := c.def_ 47 (d := d_law_both) rfl
  have b_law_both : Binds K fd_law_both ["_law_one", "_law_other", "_law_pair"] [] := F_law_both.bindsN fun _ _ _ _ _ _ us hl => match us, hl with | [_, _, _], _ => rfl
  obtain ⟨fd_law_table, F_law_table⟩ := c.def_ 48 (d := d_law_table) rfl
  have b_law_table : Binds K fd_law_table ["_law_one", "_law_other"] [] := F_law_table.bindsN fun _ _ _ _ _ _ us hl => match us, hl with | [_, _], _ => rfl
  obtain ⟨fd_law_second, F_law_second⟩ := c.def_ 49 (d := d_law_second) rfl
  have b_law_second : Binds K fd_law_second ["_law_dice_here", "_law_book_here"] [] := F_law_second.bindsN fun _ _ _ _ _ _ us hl => match us, hl with | [_, _], _ => rfl
  obtain ⟨fd_law, F_law⟩ := c.def_ 50 (d := d_law) rfl
  have e := hfa.symm.trans (He.glo_ok X G (c.fact 37 (f := .glo "law") rfl))
  cases e
  have bl := FunD.bindsA (ps := ["_law_script"]) F_law fun _ _ _ _ _ _ us hl => match us, hl with | [_], _ => rfl
  have g_is_integer := He.glo_ok X G (c.fact 0 (f := .glo "is_integer") rfl)
  have g_is_between := He.glo_ok X G (c.fact 1 (f := .glo "is_between") rfl)
  have g_is_index := He.glo_ok X G (c.fact 2 (f := .glo "is_index") rfl)
  have g_is_sounds := He.glo_ok X G (c.fact 3 (f := .glo "is_sounds") rfl)
  have g_is_side_pair := He.glo_ok X G (c.fact 4 (f := .glo "is_side_pair") rfl)
  have g_is_table := He.glo_ok X G (c.fact 5 (f := .glo "is_table") rfl)
  have g_check_sizes := He.glo_ok X G (c.fact 6 (f := .glo "check_sizes") rfl)
  have g_told := He.glo_ok X G (c.fact 7 (f := .glo "told") rfl)
  have g_one_behind_another := He.glo_ok X G (c.fact 8 (f := .glo "one_behind_another") rfl)
  have g_is_fair := He.glo_ok X G (c.fact 9 (f := .glo "is_fair") rfl)
  have g_is_shape := He.glo_ok X G (c.fact 10 (f := .glo "is_shape") rfl)
  have g_check_shape_for := He.glo_ok X G (c.fact 11 (f := .glo "check_shape_for") rfl)
  have g_is_word := He.glo_ok X G (c.fact 12 (f := .glo "is_word") rfl)
  have g_check_words := He.glo_ok X G (c.fact 13 (f := .glo "check_words") rfl)
  have g_check_phrase := He.glo_ok X G (c.fact 14 (f := .glo "check_phrase") rfl)
  have g_joined_rows := He.glo_ok X G (c.fact 15 (f := .glo "joined_rows") rfl)
  have g_inner_first := He.glo_ok X G (c.fact 16 (f := .glo "inner_first") rfl)
  have g_said_row := He.glo_ok X G (c.fact 17 (f := .glo "said_row") rfl)
  have g_said := He.glo_ok X G (c.fact 18 (f := .glo "said") rfl)
  have g_check_row := He.glo_ok X G (c.fact 19 (f := .glo "check_row") rfl)
  have g_met := He.glo_ok X G (c.fact 20 (f := .glo "met") rfl)
  have g__law_dice := He.glo_ok X G (c.fact 21 (f := .glo "_law_dice") rfl)
  have g__law_draw := He.glo_ok X G (c.fact 22 (f := .glo "_law_draw") rfl)
  have g__law_shape := He.glo_ok X G (c.fact 23 (f := .glo "_law_shape") rfl)
  have g__law_side := He.glo_ok X G (c.fact 24 (f := .glo "_law_side") rfl)
  have g__law_like := He.glo_ok X G (c.fact 25 (f := .glo "_law_like") rfl)
  have g__law_rows := He.glo_ok X G (c.fact 26 (f := .glo "_law_rows") rfl)
  have g__law_great_book := He.glo_ok X G (c.fact 27 (f := .glo "_law_great_book") rfl)
  have g__law_book := He.glo_ok X G (c.fact 28 (f := .glo "_law_book") rfl)
  have g__law_made := He.glo_ok X G (c.fact 29 (f := .glo "_law_made") rfl)
  have g__law_row := He.glo_ok X G (c.fact 30 (f := .glo "_law_row") rfl)
  have g__law_words := He.glo_ok X G (c.fact 31 (f := .glo "_law_words") rfl)
  have g__law_meet := He.glo_ok X G (c.fact 32 (f := .glo "_law_meet") rfl)
  have g__law_told := He.glo_ok X G (c.fact 33 (f := .glo "_law_told") rfl)
  have g__law_both := He.glo_ok X G (c.fact 34 (f := .glo "_law_both") rfl)
  have g__law_table := He.glo_ok X G (c.fact 35 (f := .glo "_law_table") rfl)
  have g__law_second := He.glo_ok X G (c.fact 36 (f := .glo "_law_second") rfl)
  have g_law := He.glo_ok X G (c.fact 37 (f := .glo "law") rfl)
  have g_Book := He.glo_ok X G (c.fact 38 (f := .glo "Book") rfl)
  have g_RawBook := He.glo_ok X G (c.fact 39 (f := .glo "RawBook") rfl)
  have g_Joinings := He.glo_ok X G (c.fact 40 (f := .glo "Joinings") rfl)
  have g_Sayer := He.glo_ok X G (c.fact 41 (f := .glo "Sayer") rfl)
  have g_OtherBook := He.glo_ok X G (c.fact 42 (f := .glo "OtherBook") rfl)
  have g_SeamError := He.glo_ok X G (c.fact 43 (f := .glo "SeamError") rfl)
  have n_isinstance := He.free_ok X G (c.fact 44 (f := .free "isinstance") rfl)
  have n_int := He.free_ok X G (c.fact 45 (f := .free "int") rfl)
  have n_bool := He.free_ok X G (c.fact 46 (f := .free "bool") rfl)
  have n_tuple := He.free_ok X G (c.fact 47 (f := .free "tuple") rfl)
  have n_len := He.free_ok X G (c.fact 48 (f := .free "len") rfl)
  have n_all := He.free_ok X G (c.fact 49 (f := .free "all") rfl)
  have n_dict := He.free_ok X G (c.fact 50 (f := .free "dict") rfl)
  have n_list := He.free_ok X G (c.fact 51 (f := .free "list") rfl)
  have n_max := He.free_ok X G (c.fact 52 (f := .free "max") rfl)
  have n_min := He.free_ok X G (c.fact 53 (f := .free "min") rfl)
  have n_range := He.free_ok X G (c.fact 54 (f := .free "range") rfl)
  have n_sorted := He.free_ok X G (c.fact 55 (f := .free "sorted") rfl)
  have n_abs := He.free_ok X G (c.fact 56 (f := .free "abs") rfl)
  have n_zip := He.free_ok X G (c.fact 57 (f := .free "zip") rfl)
  have n_ValueError := He.free_ok X G (c.fact 58 (f := .free "ValueError") rfl)
  have v_MOST_SOUNDS : GInt mg "MOST_SOUNDS" 8 := He.int_ok X G (c.fact 59 (f := .int "MOST_SOUNDS" 8) rfl)
  have v_MOST_SIDE : GInt mg "MOST_SIDE" 4 := He.int_ok X G (c.fact 60 (f := .int "MOST_SIDE" 4) rfl)
  have v_MOST_ENTRIES : GInt mg "MOST_ENTRIES" 4000 := He.int_ok X G (c.fact 61 (f := .int "MOST_ENTRIES" 4000) rfl)
  have v_MOST_WORDS : GInt mg "MOST_WORDS" 40 := He.int_ok X G (c.fact 62 (f := .int "MOST_WORDS" 40) rfl)
  have v_MOST_WORD : GInt mg "MOST_WORD" 200 := He.int_ok X G (c.fact 63 (f := .int "MOST_WORD" 200) rfl)
  have v_MOST_ROW : GInt mg "MOST_ROW" 4000 := He.int_ok X G (c.fact 64 (f := .int "MOST_ROW" 4000) rfl)
  have cl_Book := He.cls_ok (c.fact 65 (f := .cls "Book") rfl)
  have mk_Book := He.mkr_ok (c.fact 66 (f := .mkr "Book") rfl)
  have cl_RawBook := He.cls_ok (c.fact 67 (f := .cls "RawBook") rfl)
  have mk_RawBook := He.mkr_ok (c.fact 68 (f := .mkr "RawBook") rfl)
  have cl_Joinings := He.cls_ok (c.fact 69 (f := .cls "Joinings") rfl)
  have mk_Joinings := He.mkr_ok (c.fact 70 (f := .mkr "Joinings") rfl)
  have cl_Sayer := He.cls_ok (c.fact 71 (f := .cls "Sayer") rfl)
  have mk_Sayer := He.mkr_ok (c.fact 72 (f := .mkr "Sayer") rfl)
  have no_Book_kept_sounds := He.noat_ok (c.fact 73 (f := .noat "Book" "kept_sounds") rfl)
  have no_Book_kept_ahead := He.noat_ok (c.fact 74 (f := .noat "Book" "kept_ahead") rfl)
  have no_Book_kept_behind := He.noat_ok (c.fact 75 (f := .noat "Book" "kept_behind") rfl)
  have no_Book_kept_table := He.noat_ok (c.fact 76 (f := .noat "Book" "kept_table") rfl)
  have no_Joinings_first := He.noat_ok (c.fact 77 (f := .noat "Joinings" "first") rfl)
  have no_Joinings_last := He.noat_ok (c.fact 78 (f := .noat "Joinings" "last") rfl)
  have no_Joinings_above := He.noat_ok (c.fact 79 (f := .noat "Joinings" "above") rfl)
  have no_Joinings_fair := He.noat_ok (c.fact 80 (f := .noat "Joinings" "fair") rfl)
  have no_Sayer_book := He.noat_ok (c.fact 81 (f := .noat "Sayer" "book") rfl)
  have no_Sayer_row := He.noat_ok (c.fact 82 (f := .noat "Sayer" "row") rfl)
  have no_Sayer_starts := He.noat_ok (c.fact 83 (f := .noat "Sayer" "starts") rfl)
  have no_Sayer_joinings := He.noat_ok (c.fact 84 (f := .noat "Sayer" "joinings") rfl)
  have no_Sayer_order := He.noat_ok (c.fact 85 (f := .noat "Sayer" "order") rfl)
  have no_Sayer_changed := He.noat_ok (c.fact 86 (f := .noat "Sayer" "changed") rfl)
  have no_Sayer_looked := He.noat_ok (c.fact 87 (f := .noat "Sayer" "looked") rfl)
  have no_RawBook_kept_sounds := He.noat_ok (c.fact 88 (f := .noat "RawBook" "kept_sounds") rfl)
  have no_RawBook_kept_ahead := He.noat_ok (c.fact 89 (f := .noat "RawBook" "kept_ahead") rfl)
  have no_RawBook_kept_behind := He.noat_ok (c.fact 90 (f := .noat "RawBook" "kept_behind") rfl)
  have no_RawBook_kept_table := He.noat_ok (c.fact 91 (f := .noat "RawBook" "kept_table") rfl)
  have m_Book_keep := He.meth_ok (c.fact 92 (f := .meth "Book" "keep") rfl)
  have m_Book_parts := He.meth_ok (c.fact 93 (f := .meth "Book" "parts") rfl)
  have m_RawBook_keep := He.meth_ok (c.fact 94 (f := .meth "RawBook" "keep") rfl)
  rw [i_keep] at m_RawBook_keep
  have m_RawBook_table := He.meth_ok (c.fact 95 (f := .meth "RawBook" "table") rfl)
  rw [i_table] at m_RawBook_table
  have m_RawBook_sounds := He.meth_ok (c.fact 96 (f := .meth "RawBook" "sounds") rfl)
  rw [i_sounds] at m_RawBook_sounds
  have m_RawBook_ahead := He.meth_ok (c.fact 97 (f := .meth "RawBook" "ahead") rfl)
  rw [i_ahead] at m_RawBook_ahead
  have m_RawBook_behind := He.meth_ok (c.fact 98 (f := .meth "RawBook" "behind") rfl)
  rw [i_behind] at m_RawBook_behind
  have m_RawBook_parts := He.meth_ok (c.fact 99 (f := .meth "RawBook" "parts") rfl)
  rw [i_parts] at m_RawBook_parts
  have m_Sayer_join := He.meth_ok (c.fact 100 (f := .meth "Sayer" "join") rfl)
  have m_Sayer_say := He.meth_ok (c.fact 101 (f := .meth "Sayer" "say") rfl)
  obtain ⟨e1, e2, e3, e4⟩ := He.exc_ok (c.fact 102 (f := .exc "OtherBook") rfl)
  have em := He.exm_ok (c.fact 103 (f := .exm "OtherBook" "SeamError" true) rfl)
  have XO : ExT K mg "OtherBook" (He.ga K "OtherBook") := ⟨g_OtherBook, e1, e2, e3, e4⟩
  have TB : BkT K (He.ga K "Book") := ⟨cl_Book, no_Book_kept_sounds, no_Book_kept_ahead, no_Book_kept_behind, no_Book_kept_table⟩
  have TR : BkT K (He.ga K "RawBook") := ⟨cl_RawBook, no_RawBook_kept_sounds, no_RawBook_kept_ahead, no_RawBook_kept_behind, no_RawBook_kept_table⟩
  have TJ : JnT K (He.ga K "Joinings") := ⟨cl_Joinings, no_Joinings_first, no_Joinings_last, no_Joinings_above, no_Joinings_fair⟩
  have TS : SyT K (He.ga K "Sayer") := ⟨cl_Sayer, no_Sayer_book, no_Sayer_row, no_Sayer_starts, no_Sayer_joinings, no_Sayer_order, no_Sayer_changed, no_Sayer_looked⟩
  have IB : IsT K (He.ga K "Book") (He.ga K "Book") := ⟨x1, x2, x3, x4, x5⟩
  have EC : ExcC K (He.ga K "OtherBook") := ⟨y1, y2, y3, y4, y5, x2, x3, y6⟩
  have LT : LtT K mg (He.ga K "OtherBook") (He.ga K "SeamError") := ⟨g_OtherBook, g_SeamError, em, EC, k1, k2⟩
  refine ⟨fd_law, fun s v => bl s [v] rfl, fun base _ _ => ?_⟩
  have c_is_integer : Cal P w K mg base CX0 1 "is_integer" ["thing"] spInt := ⟨_, fd_is_integer, ok_is_integer F_is_integer n_isinstance n_int n_bool, g_is_integer, F_is_integer.kp, b_is_integer⟩
  have c_is_between : Cal P w K mg base CX0 2 "is_between" ["thing", "least", "most"] spBetween := ⟨_, fd_is_between, ok_is_between F_is_between c_is_integer, g_is_between, F_is_between.kp, b_is_between⟩
  have c_is_index : Cal P w K mg base CX0 3 "is_index" ["thing", "many"] spIndex := ⟨_, fd_is_index, ok_is_index F_is_index c_is_between, g_is_index, F_is_index.kp, b_is_index⟩
  have c_is_sounds : Cal P w K mg base CX0 4 "is_sounds" ["thing", "sounds", "least", "most"] spSounds := ⟨_, fd_is_sounds, ok_is_sounds F_is_sounds c_is_index n_isinstance n_tuple n_len n_all, g_is_sounds, F_is_sounds.kp, b_is_sounds⟩
  have c_is_side_pair : Cal P w K mg base CX0 5 "is_side_pair" ["thing", "sounds", "ahead", "behind"] spSidePair := ⟨_, fd_is_side_pair, ok_is_side_pair F_is_side_pair c_is_sounds n_isinstance n_tuple n_len, g_is_side_pair, F_is_side_pair.kp, b_is_side_pair⟩
  have c_is_table : Cal P w K mg base CX0 6 "is_table" ["thing", "sounds", "ahead", "behind"] (spTable P w) := ⟨_, fd_is_table, ok_is_table F_is_table c_is_side_pair n_isinstance n_dict n_len v_MOST_ENTRIES, g_is_table, F_is_table.kp, b_is_table⟩
  have c_check_sizes : Cal P w K mg base CX0 3 "check_sizes" ["sounds", "ahead", "behind"] spSizes := ⟨_, fd_check_sizes, ok_check_sizes F_check_sizes c_is_between v_MOST_SOUNDS v_MOST_SIDE, g_check_sizes, F_check_sizes.kp, b_check_sizes⟩
  have t_Book_keep : Mth P w K mg base (He.ga K "Book") 1 "keep" ["self", "sounds", "ahead", "behind", "table"] (spKeep P w (He.ga K "Book")) := ⟨_, fd_Book_keep, ok_keep F_Book_keep TB, m_Book_keep, b_Book_keep⟩
  have t_RawBook_keep : Mth P w K mg base (He.ga K "RawBook") 1 "keep" ["self", "sounds", "ahead", "behind", "table"] (spKeep P w (He.ga K "RawBook")) := ⟨_, fd_Book_keep, ok_keep F_Book_keep TR, m_RawBook_keep, b_Book_keep⟩
  have w_RawBook : Mkr P w K mg base (He.ga K "RawBook") 2 "RawBook" ["self", "sounds", "ahead", "behind", "table"] (spKeep P w (He.ga K "RawBook")) := ⟨_, fd_RawBook__init, ok_rinit F_RawBook__init TR t_RawBook_keep, mk_RawBook, g_RawBook, b_RawBook__init⟩
  have w_Book : Mkr P w K mg base (He.ga K "Book") 7 "Book" ["self", "sounds", "ahead", "behind", "table"] (spBook P w (He.ga K "Book")) := ⟨_, fd_Book__init, ok_binit F_Book__init TB t_Book_keep c_check_sizes c_is_table, mk_Book, g_Book, b_Book__init⟩
  have t_RawBook_sounds : Mth P w K mg base (He.ga K "RawBook") 1 "sounds" ["self"] (spGetI P w (He.ga K "RawBook") fun s _ _ => s) := ⟨_, fd_Book_sounds, ok_sounds F_Book_sounds TR, m_RawBook_sounds, b_Book_sounds⟩
  have t_RawBook_ahead : Mth P w K mg base (He.ga K "RawBook") 1 "ahead" ["self"] (spGetI P w (He.ga K "RawBook") fun _ a _ => a) := ⟨_, fd_Book_ahead, ok_ahead F_Book_ahead TR, m_RawBook_ahead, b_Book_ahead⟩
  have t_RawBook_behind : Mth P w K mg base (He.ga K "RawBook") 1 "behind" ["self"] (spGetI P w (He.ga K "RawBook") fun _ _ b => b) := ⟨_, fd_Book_behind, ok_behind F_Book_behind TR, m_RawBook_behind, b_Book_behind⟩
  have t_RawBook_table : Mth P w K mg base (He.ga K "RawBook") 1 "table" ["self"] (spGetT P w (He.ga K "RawBook")) := ⟨_, fd_Book_table, ok_table F_Book_table TR n_dict, m_RawBook_table, b_Book_table⟩
  have t_RawBook_parts : Mth P w K mg base (He.ga K "RawBook") 1 "parts" ["self"] (spParts P w (He.ga K "RawBook")) := ⟨_, fd_Book_parts, ok_parts F_Book_parts TR, m_RawBook_parts, b_Book_parts⟩
  have t_Book_parts : Mth P w K mg base (He.ga K "Book") 1 "parts" ["self"] (spParts P w (He.ga K "Book")) := ⟨_, fd_Book_parts, ok_parts F_Book_parts TB, m_Book_parts, b_Book_parts⟩
  have EQ : EqT P w K mg base (He.ga K "RawBook") (He.ga K "Book") := ⟨⟨_, fd_Book__eq, ok_beq F_Book__eq TR TB IB n_isinstance g_Book t_RawBook_parts t_Book_parts, z1, z2, b_Book__eq⟩, z3⟩
  have c_toldB : Cal P w K mg base CX0 1 "told" ["book", "left", "right"] (spTold P w (He.ga K "Book")) := ⟨_, fd_told, ok_told F_told TB, g_told, F_told.kp, b_told⟩
  have c_toldR : Cal P w K mg base CX0 1 "told" ["book", "left", "right"] (spTold P w (He.ga K "RawBook")) := ⟨_, fd_told, ok_told F_told TR, g_told, F_told.kp, b_told⟩
  have c_one_behind_another : Cal P w K mg base (L2.CX P w) 4 "one_behind_another" ["book", "other"] (spOba P w (He.ga K "Book") (He.ga K "Book") (He.ga K "RawBook") (He.ga K "OtherBook")) := ⟨_, fd_one_behind_another, ok_oba F_one_behind_another TB TB IB n_isinstance n_list g_Book c_toldB c_toldB w_RawBook XO, g_one_behind_another, F_one_behind_another.kp, b_one_behind_another⟩
  have c__law_told : Cal P w K mg base CX0 5 "_law_told" ["_law_one", "_law_other"] (spLTold P w (He.ga K "Book") (He.ga K "Book") (He.ga K "RawBook")) := ⟨_, fd_law_told, ok_ltold F_law_told LT n_isinstance n_ValueError c_one_behind_another, g__law_told, F_law_told.kp, b_law_told⟩
  have c_joined_rows : Cal P w K mg base CX0 2 "joined_rows" ["book", "one", "other"] (spJoin P w (He.ga K "RawBook")) := ⟨_, fd_joined_rows, ok_join F_joined_rows TR n_len c_toldR, g_joined_rows, F_joined_rows.kp, b_joined_rows⟩
  have c_check_row : Cal P w K mg base CX0 5 "check_row" ["book", "thing"] (spCheckRow P w (He.ga K "RawBook")) := ⟨_, fd_check_row, ok_check_row F_check_row TR c_is_sounds v_MOST_ROW, g_check_row, F_check_row.kp, b_check_row⟩
  have c_met : Cal P w K mg base CX0 6 "met" ["book", "one", "other"] (spMet P w (He.ga K "RawBook")) := ⟨_, fd_met, ok_met F_met c_check_row c_joined_rows, g_met, F_met.kp, b_met⟩
  have c__law_meet : Cal P w K mg base CX0 1 "_law_meet" ["_law_book_here", "_law_one", "_law_other"] (spLMeet P w) := ⟨_, fd_law_meet, ok_lmeet F_law_meet n_len n_max, g__law_meet, F_law_meet.kp, b_law_meet⟩
  have c__law_both : Cal P w K mg base CX0 1 "_law_both" ["_law_one", "_law_other", "_law_pair"] (spLBoth P w) := ⟨_, fd_law_both, ok_lboth F_law_both, g__law_both, F_law_both.kp, b_law_both⟩
  have c__law_table : Cal P w K mg base CX0 2 "_law_table" ["_law_one", "_law_other"] (spLTable P w) := ⟨_, fd_law_table, ok_ltable F_law_table n_list c__law_both, g__law_table, F_law_table.kp, b_law_table⟩
  have c__law_made : Cal P w K mg base CX0 9 "_law_made" ["_law_book_here"] (spLMade P w (He.ga K "Book")) := ⟨_, fd_law_made, ok_lmade F_law_made w_Book, g__law_made, F_law_made.kp, b_law_made⟩
  have c__law_draw : Cal P w K mg base CX0 1 "_law_draw" ["_law_dice_here", "_law_sides"] spDraw := ⟨_, fd_law_draw, ok_draw F_law_draw n_len n_int, g__law_draw, F_law_draw.kp, b_law_draw⟩
  have c__law_dice : Cal P w K mg base CX0 1 "_law_dice" ["_law_script"] (spDice K) := ⟨_, fd_law_dice, ok_dice F_law_dice n_abs n_int, g__law_dice, F_law_dice.kp, b_law_dice⟩
  have c__law_side : Cal P w K mg base CX0 2 "_law_side" ["_law_dice_here", "_law_sounds", "_law_most"] (spNewRow lenUp) := ⟨_, fd_law_side, ok_side F_law_side c__law_draw n_range n_tuple, g__law_side, F_law_side.kp, b_law_side⟩
  have c__law_row : Cal P w K mg base CX0 2 "_law_row" ["_law_dice_here", "_law_sounds", "_law_most"] (spNewRow lenUp) := ⟨_, fd_law_row, ok_lrow F_law_row c__law_draw n_range n_tuple, g__law_row, F_law_row.kp, b_law_row⟩
  have c__law_like : Cal P w K mg base CX0 2 "_law_like" ["_law_dice_here", "_law_sounds", "_law_row_here"] spLike := ⟨_, fd_law_like, ok_like F_law_like c__law_draw n_tuple, g__law_like, F_law_like.kp, b_law_like⟩
  have c__law_words : Cal P w K mg base CX0 3 "_law_words" ["_law_dice_here", "_law_sounds", "_law_many_here"] spWords := ⟨_, fd_law_words, ok_words F_law_words c__law_draw c__law_row n_range n_tuple, g__law_words, F_law_words.kp, b_law_words⟩
  have c__law_rows : Cal P w K mg base CX0 1 "_law_rows" ["_law_sounds", "_law_most"] spRows := ⟨_, fd_law_rows, ok_rows F_law_rows n_range, g__law_rows, F_law_rows.kp, b_law_rows⟩
  have c__law_great_book : Cal P w K mg base CX0 2 "_law_great_book" ["_law_dice_here"] (spLBook P w) := ⟨_, fd_law_great_book, ok_great F_law_great_book c__law_draw n_range, g__law_great_book, F_law_great_book.kp, b_law_great_book⟩
  have c__law_book : Cal P w K mg base CX0 3 "_law_book" ["_law_dice_here"] (spLBook P w) := ⟨_, fd_law_book, ok_lbook F_law_book c__law_draw c__law_great_book c__law_rows c__law_like c__law_side n_range, g__law_book, F_law_book.kp, b_law_book⟩
  have c__law_second : Cal P w K mg base CX0 3 "_law_second" ["_law_dice_here", "_law_book_here"] (spLSecond P w) := ⟨_, fd_law_second, ok_second F_law_second c__law_draw c__law_like c__law_side n_range n_sorted n_list, g__law_second, F_law_second.kp, b_law_second⟩
  have c__law_shape : Cal P w K mg base CX0 2 "_law_shape" ["_law_dice_here", "_law_words_here"] spShape := ⟨_, fd_law_shape, ok_shape F_law_shape c__law_draw n_range n_len n_min n_tuple, g__law_shape, F_law_shape.kp, b_law_shape⟩
  have w_Joinings : Mkr P w K mg base (He.ga K "Joinings") 1 "Joinings" ["self", "shape"] (spJn (He.ga K "Joinings")) := ⟨_, fd_Joinings__init, ok_jn F_Joinings__init TJ n_len n_range, mk_Joinings, g_Joinings, b_Joinings__init⟩
  have c_is_fair : Cal P w K mg base CX0 3 "is_fair" ["thing"] spFair := ⟨_, fd_is_fair, ok_fair F_is_fair TJ w_Joinings c_is_integer n_isinstance n_tuple n_all, g_is_fair, F_is_fair.kp, b_is_fair⟩
  have c_is_shape : Cal P w K mg base CX0 4 "is_shape" ["thing"] spFair := ⟨_, fd_is_shape, ok_isshape F_is_shape c_is_fair n_isinstance n_tuple n_len v_MOST_WORDS, g_is_shape, F_is_shape.kp, b_is_shape⟩
  have c_check_shape_for : Cal P w K mg base CX0 5 "check_shape_for" ["words", "thing"] spShapeFor := ⟨_, fd_check_shape_for, ok_shapefor F_check_shape_for c_is_shape n_len, g_check_shape_for, F_check_shape_for.kp, b_check_shape_for⟩
  have c_inner_first : Cal P w K mg base CX0 3 "inner_first" ["shape"] spInner := ⟨_, fd_inner_first, ok_inner F_inner_first TJ w_Joinings n_len n_range, g_inner_first, F_inner_first.kp, b_inner_first⟩
  have c_is_word : Cal P w K mg base CX0 5 "is_word" ["thing", "sounds"] spWord := ⟨_, fd_is_word, ok_word F_is_word c_is_sounds v_MOST_WORD, g_is_word, F_is_word.kp, b_is_word⟩
  have c_check_words : Cal P w K mg base CX0 6 "check_words" ["sounds", "thing"] spWordsOk := ⟨_, fd_check_words, ok_cw F_check_words c_is_word v_MOST_WORDS n_isinstance n_tuple n_len n_all, g_check_words, F_check_words.kp, b_check_words⟩
  have c_phraseB : Cal P w K mg base CX0 7 "check_phrase" ["book", "words", "shape"] (spPhrase P w (He.ga K "Book")) := ⟨_, fd_check_phrase, ok_phrase F_check_phrase TB c_check_words c_check_shape_for n_len, g_check_phrase, F_check_phrase.kp, b_check_phrase⟩
  have j_B : Mth P w K mg base (He.ga K "Sayer") 2 "join" ["self", "seam"] (spJoinS P w (He.ga K "Sayer") (He.ga K "Joinings") (He.ga K "Book")) := ⟨_, fd_Sayer_join, ok_js F_Sayer_join TS TJ TB c_toldB n_max n_min n_tuple n_zip n_range, m_Sayer_join, b_Sayer_join⟩
  have s_B : Mth P w K mg base (He.ga K "Sayer") 3 "say" ["self"] (spSay P w (He.ga K "Sayer") (He.ga K "Joinings") (He.ga K "Book")) := ⟨_, fd_Sayer_say, ok_say F_Sayer_say TS j_B, m_Sayer_say, b_Sayer_say⟩
  have i_B : Mkr P w K mg base (He.ga K "Sayer") 4 "Sayer" ["self", "book", "words", "shape"] (spSyInit P w (He.ga K "Sayer") (He.ga K "Joinings") (He.ga K "Book")) := ⟨_, fd_Sayer__init, ok_sy F_Sayer__init TS w_Joinings c_inner_first n_len n_list, mk_Sayer, g_Sayer, b_Sayer__init⟩
  have c_saidrowB : Cal P w K mg base CX0 6 "said_row" ["book", "words", "shape"] (spSaid P w (He.ga K "Book")) := ⟨_, fd_said_row, ok_saidrow F_said_row TS i_B s_B n_tuple, g_said_row, F_said_row.kp, b_said_row⟩
  have c_saidB : Cal P w K mg base CX0 8 "said" ["book", "words", "shape"] (spSaid P w (He.ga K "Book")) := ⟨_, fd_said, ok_said F_said c_phraseB c_saidrowB, g_said, F_said.kp, b_said⟩
  have c_phraseR : Cal P w K mg base CX0 7 "check_phrase" ["book", "words", "shape"] (spPhrase P w (He.ga K "RawBook")) := ⟨_, fd_check_phrase, ok_phrase F_check_phrase TR c_check_words c_check_shape_for n_len, g_check_phrase, F_check_phrase.kp, b_check_phrase⟩
  have j_R : Mth P w K mg base (He.ga K "Sayer") 2 "join" ["self", "seam"] (spJoinS P w (He.ga K "Sayer") (He.ga K "Joinings") (He.ga K "RawBook")) := ⟨_, fd_Sayer_join, ok_js F_Sayer_join TS TJ TR c_toldR n_max n_min n_tuple n_zip n_range, m_Sayer_join, b_Sayer_join⟩
  have s_R : Mth P w K mg base (He.ga K "Sayer") 3 "say" ["self"] (spSay P w (He.ga K "Sayer") (He.ga K "Joinings") (He.ga K "RawBook")) := ⟨_, fd_Sayer_say, ok_say F_Sayer_say TS j_R, m_Sayer_say, b_Sayer_say⟩
  have i_R : Mkr P w K mg base (He.ga K "Sayer") 4 "Sayer" ["self", "book", "words", "shape"] (spSyInit P w (He.ga K "Sayer") (He.ga K "Joinings") (He.ga K "RawBook")) := ⟨_, fd_Sayer__init, ok_sy F_Sayer__init TS w_Joinings c_inner_first n_len n_list, mk_Sayer, g_Sayer, b_Sayer__init⟩
  have c_saidrowR : Cal P w K mg base CX0 6 "said_row" ["book", "words", "shape"] (spSaid P w (He.ga K "RawBook")) := ⟨_, fd_said_row, ok_saidrow F_said_row TS i_R s_R n_tuple, g_said_row, F_said_row.kp, b_said_row⟩
  have c_saidR : Cal P w K mg base CX0 8 "said" ["book", "words", "shape"] (spSaid P w (He.ga K "RawBook")) := ⟨_, fd_said, ok_said F_said c_phraseR c_saidrowR, g_said, F_said.kp, b_said⟩
  exact ok_law F_law (CO := (He.ga K "OtherBook")) ⟨c__law_dice, c__law_draw, c__law_book, c__law_second, c__law_made, c__law_told, t_RawBook_table, t_RawBook_sounds, t_RawBook_ahead, t_RawBook_behind, c__law_table, w_Book, c_one_behind_another, EQ, c__law_row, c__law_meet, c_met, c__law_shape, c__law_words, c_saidR, c_saidB, TR, n_len⟩
end Seam
open PySem PySem.W PySem.Calls PyProof.Rows
theorem PySem.Challenge.cw_heardseams_k20_whole_books_one_behind_an_holds : PySem.Challenge.rw_heardseams_k20_whole_books_one_behind_an.Holds := by
  w_on; o_law
  refine HandSHeadRun.head_any (r := Seam.R) (q := view Seam.R.prog [63]) (H := Seam.hk) (ob := Seam.ob) (M := 20000) (loose := Seam.names) (d := HandSHeadRun.topDef Seam.R.prog 63) (kwd := []) Seam.ob_eq
    (by kernel_rfl) (fun s => by kernel_rfl) Seam.run (by kernel_rfl) (by kernel_rfl) (by kernel_rfl) (by rfl) (by first | assumption | decide +kernel) (by decide +kernel) ⟨rfl, rfl, rfl, rfl, rfl, by decide +kernel⟩ ?hw ?hc
  case hw => w_witness2
  case hc =>
    refine L2.walk_ofE (l := PySem.Challenge.rw_heardseams_k20_whole_books_one_behind_an) (n := 63) (k := 10) (x := "_law_script") (CX := L2.CX0) rfl (by decide) (by kernel_rfl) ⟨rfl, by decide, by decide⟩ ?F (fun _ _ _ _ z => z)
    intro w mg fa h Y G hmg0
    obtain ⟨K, KX, c⟩ := Y
    have hmg : mg ("law" : PySem.Str) = some (.ref fa) := by
      have e : (HandSHeadRun.topDef Seam.R.prog 63).name = ("law" : PySem.Str) := by kernel_rfl
      rw [← e]
      exact hmg0
    obtain ⟨fd, hb, hF⟩ := Seam.facts (P := (PySem.Challenge.rw_heardseams_k20_whole_books_one_behind_an).prog) (w := w) KX G hmg c
    exact ⟨K, fd, Seam.spLaw K, KX, hb, fun H a ns hl _ hS => ⟨a, ns, rfl, hS, fun _ => rfl⟩, hF⟩

