import PyProof.Rows.All
import Wide.All
import OpenK.AllK
import Wide.FinOn
import HandS.ForMost
import HandS.ForExc
import HandS.Deep
import HandS.TupAny
import HandS.Style
import HandS.Flow
import HandS.Wide
import HandS.WideMore
import HandS.More
import HandS.IsInst
import HandS.SortInts
import HandS.DictTup
import HandS.Conv
import HandS.TupSets
import HandS.Zip
import HandS.Codes
import KE.SortData
import PyProof.ReprRoads
import HandS.SortKw
import KE.GoesZip
import KE.GoesMore
import KE.GoesEnum
import HandS.DictComp
import KE.KDictLaws
import KE.KDictDisplayH
import PySem.Challenge.RW_packedseats_k81_met_sets_by_sets
set_option Elab.async false
set_option linter.all false
set_option maxRecDepth 100000
set_option maxHeartbeats 4000000
/-! DL: an own layer of data over the hand layer. Values are told by PyData; G is the part of the heap that is known and never changes; As are assertions. -/
namespace DL
open PySem PySem.Spec PyProof.Rows L2

/-- an object's address, as a datum of no further meaning -/
abbrev ob (a : Addr) : PyData := .dict [(.int (Int.ofNat a), .none)]
theorem ob_inj {a b : Addr} (h : ob a = ob b) : a = b := by
  injection h with h1
  injection h1 with h2 _
  injection h2 with h3 _
  injection h3 with h4
  exact Int.ofNat.inj h4

theorem Same_l {K : PySem.W.Frag} {H H' : Hp} {a : Addr} {xs : List V} (e : Same H H') (h : SqL K H a xs) : SqL K H' a xs := by
  rcases h with (h | ⟨o, h⟩) | h
  · exact .inl (.inl (e _ _ h))
  · exact .inl (.inr ⟨o, e _ _ h⟩)
  · exact .inr h
theorem Same_t {K : PySem.W.Frag} {H H' : Hp} {a : Addr} {xs : List V} (e : Same H H') (h : SqT K H a xs) : SqT K H' a xs := by
  rcases h with (h | ⟨o, h⟩) | h
  · exact .inl (.inl (e _ _ h))
  · exact .inl (.inr ⟨o, e _ _ h⟩)
  · exact .inr h

/-- an instance that is known: its address, its class's, the names of its fields, their data -/
abbrev insD (a C : Addr) (ns : List Str) (ds : List PyData) : PyData := .dict [(.int (Int.ofNat a), .tuple [.int (Int.ofNat C), .tuple (ns.map .str), .tuple ds])]
/-- the script -/
abbrev scrD (ds : List PyData) : PyData := .dict [(.none, .list ds)]
mutual
/-- the value shows the datum, as far as G tells -/
inductive At (K : PySem.W.Frag) (G : Hp) : V → PyData → Prop
  | non : At K G .non .none
  | bl (b : Bool) : At K G (.bl b) (.bool b)
  | int (i : Int) : At K G (.int i) (.int i)
  | str (x : Str) : At K G (.str x) (.str x)
  | lst {a : Addr} {xs : List V} {ds : List PyData} : G a = some (.lst xs) → Ats K G xs ds → At K G (.ref a) (.list ds)
  | tup {a : Addr} {xs : List V} {ds : List PyData} : G a = some (.tup xs) → Ats K G xs ds → At K G (.ref a) (.tuple ds)
  | obj (a : Addr) : At K G (.ref a) (ob a)
  | scr {a : Addr} {xs : List V} {ds : List PyData} : SqL K G a xs → Ats K G xs ds → At K G (.ref a) (scrD ds)
  | ins {a C dx : Addr} {fs : List (Str × V)} {ds : List PyData} : G a = some (.ins C dx fs) → Ats K G (fs.map (·.2)) ds → At K G (.ref a) (insD a C (fs.map (·.1)) ds)
inductive Ats (K : PySem.W.Frag) (G : Hp) : List V → List PyData → Prop
  | nil : Ats K G [] []
  | cons {v : V} {vs : List V} {d : PyData} {ds : List PyData} : At K G v d → Ats K G vs ds → Ats K G (v :: vs) (d :: ds)
end
section
variable {K : PySem.W.Frag} {G G' H H' : Hp}
mutual
theorem At.mono (e : Same G G') : ∀ (d : PyData) (v : V), At K G v d → At K G' v d
  | .none, _, h => by cases h; exact .non
  | .bool b, _, h => by cases h; exact .bl b
  | .int i, _, h => by cases h; exact .int i
  | .str x, _, h => by cases h; exact .str x
  | .list ds, _, h => by
    cases h with
    | lst hs ha => exact .lst (e _ _ hs) (Ats.mono e ds _ ha)
  | .tuple ds, _, h => by
    cases h with
    | tup hs ha => exact .tup (e _ _ hs) (Ats.mono e ds _ ha)
  | .dict kvs, v, h => by
    cases h with
    | obj a => exact .obj a
    | ins hs ha => exact .ins (e _ _ hs) (Ats.mono e _ _ ha)
    | scr hs ha => exact .scr (Same_l e hs) (Ats.mono e _ _ ha)
theorem Ats.mono (e : Same G G') : ∀ (ds : List PyData) (vs : List V), Ats K G vs ds → Ats K G' vs ds
  | [], _, h => by cases h; exact .nil
  | d :: ds, _, h => by
    cases h with
    | cons h1 h2 => exact .cons (At.mono e d _ h1) (Ats.mono e ds _ h2)
end
theorem At.up {d : PyData} {v : V} (h : At K G v d) (e : Same G G') : At K G' v d := At.mono e d v h
theorem Ats.up {ds : List PyData} {vs : List V} (h : Ats K G vs ds) (e : Same G G') : Ats K G' vs ds := Ats.mono e ds vs h
theorem Ats.len : ∀ {vs : List V} {ds : List PyData}, Ats K G vs ds → vs.length = ds.length
  | _, [], h => by cases h; rfl
  | _, _ :: _, h => by
    cases h with
    | cons _ h2 => simp [Ats.len h2]
theorem Ats.get : ∀ {vs : List V} {ds : List PyData} {i : Nat} {d : PyData}, Ats K G vs ds → ds[i]? = some d → ∃ v, vs[i]? = some v ∧ At K G v d
  | _, [], i, d, _, e => by simp at e
  | _, d0 :: ds, 0, d, h, e => by
    cases h with
    | cons h1 _ =>
      simp at e
      subst e
      exact ⟨_, rfl, h1⟩
  | _, d0 :: ds, i + 1, d, h, e => by
    cases h with
    | cons _ h2 =>
      obtain ⟨v, e1, e2⟩ := Ats.get h2 (i := i) (by simpa using e)
      exact ⟨v, by simpa using e1, e2⟩
theorem Ats.got : ∀ {vs : List V} {ds : List PyData} {i : Nat} {v : V}, Ats K G vs ds → vs[i]? = some v → ∃ d, ds[i]? = some d ∧ At K G v d
  | _, [], i, d, h, e => by cases h; simp at e
  | _, d0 :: ds, 0, d, h, e => by
    cases h with
    | cons h1 _ =>
      simp at e
      subst e
      exact ⟨_, rfl, h1⟩
  | _, d0 :: ds, i + 1, d, h, e => by
    cases h with
    | cons _ h2 =>
      obtain ⟨v, e1, e2⟩ := Ats.got h2 (i := i) (by simpa using e)
      exact ⟨v, by simpa using e1, e2⟩
theorem Ats.app : ∀ {vs ws : List V} {ds es : List PyData}, Ats K G vs ds → Ats K G ws es → Ats K G (vs ++ ws) (ds ++ es)
  | _, _, [], es, h, k => by cases h; exact k
  | _, _, d :: ds, es, h, k => by
    cases h with
    | cons h1 h2 => exact .cons h1 (Ats.app h2 k)
theorem Ats.one {v : V} {d : PyData} (h : At K G v d) : Ats K G [v] [d] := .cons h .nil
theorem Ats.take : ∀ {vs : List V} {ds : List PyData} (n : Nat), Ats K G vs ds → Ats K G (vs.take n) (ds.take n)
  | _, _, 0, _ => by simpa using Ats.nil
  | _, [], n + 1, h => by cases h; exact .nil
  | _, d :: ds, n + 1, h => by
    cases h with
    | cons h1 h2 => exact .cons h1 (Ats.take n h2)
theorem Ats.drop : ∀ {vs : List V} {ds : List PyData} (n : Nat), Ats K G vs ds → Ats K G (vs.drop n) (ds.drop n)
  | _, _, 0, h => h
  | _, [], n + 1, h => by cases h; exact .nil
  | _, d :: ds, n + 1, h => by
    cases h with
    | cons h1 h2 => exact Ats.drop n h2
theorem Ats.set {v : V} {d : PyData} (k : At K G v d) : ∀ {vs : List V} {ds : List PyData} (n : Nat), Ats K G vs ds → Ats K G (vs.set n v) (ds.set n d)
  | _, [], n, h => by cases h; exact .nil
  | _, d0 :: ds, 0, h => by
    cases h with
    | cons h1 h2 => exact .cons k h2
  | _, d0 :: ds, n + 1, h => by
    cases h with
    | cons h1 h2 => exact .cons h1 (Ats.set k n h2)
theorem Ats.ints : ∀ (ns : List Int), Ats K G (ns.map V.int) (ns.map PyData.int)
  | [] => .nil
  | n :: ns => .cons (.int n) (Ats.ints ns)
theorem Ats.of_ints : ∀ {vs : List V} {ns : List Int}, Ats K G vs (ns.map PyData.int) → vs = ns.map V.int
  | _, [], h => by cases h; rfl
  | _, n :: ns, h => by
    cases h with
    | cons h1 h2 =>
      cases h1
      rw [Ats.of_ints h2]
      rfl
theorem Ats.of_bools : ∀ {vs : List V} {bs : List Bool}, Ats K G vs (bs.map PyData.bool) → vs = bs.map V.bl
  | _, [], h => by cases h; rfl
  | _, n :: ns, h => by
    cases h with
    | cons h1 h2 =>
      cases h1
      rw [Ats.of_bools h2]
      rfl
theorem Ats.of_strs : ∀ {vs : List V} {bs : List Str}, Ats K G vs (bs.map PyData.str) → vs = bs.map V.str
  | _, [], h => by cases h; rfl
  | _, n :: ns, h => by
    cases h with
    | cons h1 h2 =>
      cases h1
      rw [Ats.of_strs h2]
      rfl
theorem Ats.of_obs : ∀ {vs : List V} {bs : List Addr}, Ats K G vs (bs.map ob) → vs = bs.map V.ref
  | _, [], h => by cases h; rfl
  | _, n :: ns, h => by
    cases h with
    | cons h1 h2 =>
      rw [Ats.of_obs h2]
      generalize hd : ob n = d at h1
      cases h1 with
      | obj a => rw [List.map_cons, ob_inj hd]
      | _ => cases hd
theorem Ats.obs : ∀ (bs : List Addr), Ats K G (bs.map V.ref) (bs.map ob)
  | [] => .nil
  | b :: bs => .cons (.obj b) (Ats.obs bs)
/-- from each place -/
theorem Ats.of_get : ∀ {vs : List V} {ds : List PyData}, vs.length = ds.length → (∀ (i : Nat) (v : V) (d : PyData), vs[i]? = some v → ds[i]? = some d → At K G v d) → Ats K G vs ds
  | [], [], _, _ => .nil
  | v :: vs, d :: ds, hl, h => .cons (h 0 v d rfl rfl) (Ats.of_get (by simpa using hl) fun i v d e1 e2 => h (i + 1) v d (by simpa using e1) (by simpa using e2))
  | [], _ :: _, hl, _ => by simp at hl
  | _ :: _, [], hl, _ => by simp at hl
theorem At.obj_eq {v : V} {a : Addr} (h : At K G v (ob a)) : v = .ref a := by
  generalize hd : ob a = d at h
  cases h with
  | obj b => rw [ob_inj hd]
  | _ => cases hd
mutual
/-- plain data are data of the hand layer -/
theorem At.dp : ∀ (d : PyData) (v : V), d.canLay0 = true → At K G v d → Dp K G v d
  | .none, _, _, h => by cases h; exact .non
  | .bool b, _, _, h => by cases h; exact .bl b
  | .int i, _, _, h => by cases h; exact .int i
  | .str x, _, _, h => by cases h; exact .str x
  | .list ds, _, c, h => by
    cases h with
    | lst hs ha => exact .lst (SqL.of hs) (Ats.dp ds _ (by simpa [PyData.canLay0] using c) ha)
  | .tuple ds, _, c, h => by
    cases h with
    | tup hs ha => exact .tup (SqT.of hs) (Ats.dp ds _ (by simpa [PyData.canLay0] using c) ha)
  | .dict kvs, v, c, h => by simp [PyData.canLay0] at c
theorem Ats.dp : ∀ (ds : List PyData) (vs : List V), PyData.canLayAll0 ds = true → Ats K G vs ds → DpAll K G vs ds
  | [], _, _, h => by cases h; exact .nil
  | d :: ds, _, c, h => by
    have c' : d.canLay0 = true ∧ PyData.canLayAll0 ds = true := by simpa [PyData.canLayAll0] using c
    cases h with
    | cons h1 h2 => exact .cons (At.dp d _ c'.1 h1) (Ats.dp ds _ c'.2 h2)
end
theorem At.dps {d : PyData} {v : V} (h : At K G v d) (e : Same G H) (c : SeqAt.shaped d = true) : Dp K H v d := At.dp d v (SeqAt.canLay_of_shaped c) (h.up e)
end

/-! ### the heap grows -/
def IsTp (o : Option HO) : Prop := ∃ xs, o = some (.tup xs)
structure Gr (G H G2 H2 : Hp) : Prop where
  gx : Same G G2
  sub : Same G2 H2
  nw : ∀ b, G b = none → G2 b ≠ none → H b = none ∨ IsTp (H b)
  dm : ∀ b o, H b = some o → ∃ o2, H2 b = some o2 ∧ (IsTp (some o2) → IsTp (some o))
section
variable {G H G1 H1 G2 H2 : Hp} {a : Addr} {o : HO}
theorem Gr.refl (e : Same G H) : Gr G H G H := ⟨Same.refl _, e, fun _ h k => absurd h k, fun b o h => ⟨o, h, fun k => k⟩⟩
theorem Gr.trans (r : Gr G H G1 H1) (t : Gr G1 H1 G2 H2) : Gr G H G2 H2 := by
  refine ⟨r.gx.trans t.gx, t.sub, fun b h k => ?_, fun b o h => ?_⟩
  · by_cases q : G1 b = none
    · cases e : H b with
      | none => exact .inl rfl
      | some o =>
        obtain ⟨o1, e1, f1⟩ := r.dm b o e
        rcases t.nw b q k with z | z
        · rw [e1] at z; cases z
        · rw [e1] at z; exact .inr (f1 z)
    · exact r.nw b h q
  · obtain ⟨o1, e1, f1⟩ := r.dm b o h
    obtain ⟨o2, e2, f2⟩ := t.dm b o1 e1
    exact ⟨o2, e2, fun z => f1 (f2 z)⟩
theorem dm_same (e : Same H H2) : ∀ b o, H b = some o → ∃ o2, H2 b = some o2 ∧ (IsTp (some o2) → IsTp (some o)) := fun b o h => ⟨o, e b o h, fun k => k⟩
/-- only the tracked heap grows -/
theorem Gr.h (e : Same G H) (s : Same H H2) : Gr G H G H2 := ⟨Same.refl _, e.trans s, fun _ h k => absurd h k, dm_same s⟩
theorem same_upd (h : H a = none) : Same H (upd H a o) := fun b u e => by rw [upd_ne (ne_of_none e h)]; exact e
/-- a new object that is known -/
theorem Gr.new (e : Same G H) (h : H a = none) : Gr G H (upd G a o) (upd H a o) := by
  have hg : G a = none := e.free h
  refine ⟨same_upd hg, fun b u q => ?_, fun b q k => ?_, dm_same (same_upd h)⟩
  · by_cases hb : b = a
    · subst hb; rw [upd_same] at q ⊢; exact q
    · rw [upd_ne hb] at q ⊢; exact e b u q
  · by_cases hb : b = a
    · subst hb; exact .inl h
    · rw [upd_ne hb] at k; exact absurd q k
/-- a tuple that stands is known from now on -/
theorem Gr.tup {xs : List V} (e : Same G H) (h : H a = some (.tup xs)) : Gr G H (upd G a (.tup xs)) H := by
  refine ⟨fun b u q => ?_, fun b u q => ?_, fun b q k => ?_, fun b o h => ⟨o, h, fun k => k⟩⟩
  · by_cases hb : b = a
    · subst hb
      have := e _ _ q
      rw [h] at this
      cases this
      exact upd_same
    · rw [upd_ne hb]; exact q
  · by_cases hb : b = a
    · subst hb; rw [upd_same] at q; cases q; exact h
    · rw [upd_ne hb] at q; exact e b u q
  · by_cases hb : b = a
    · subst hb; exact .inr ⟨xs, h⟩
    · rw [upd_ne hb] at k; exact absurd q k
end

/-! ### assertions about what is known and what is tracked -/
structure As where
  p : Hp → Hp → Prop
  fo : Addr → Prop
  own : Addr → Prop
  fo_own : ∀ {a : Addr}, fo a → own a
  fr : ∀ {G H G2 H2 : Hp}, Gr G H G2 H2 → (∀ a o, fo a → H a = some o → H2 a = some o) → p G H → p G2 H2
  dom : ∀ {G H : Hp} {a : Addr}, p G H → own a → H a ≠ none
  stb : ∀ {G H : Hp} {a : Addr} {o : HO}, ¬ fo a → ¬ IsTp (some o) → p G H → G a = none → H a ≠ none → p G (upd H a o)
  frz : ∀ {G H : Hp} {a : Addr} {o : HO}, ¬ own a → p G H → G a = none → H a = some o → p (upd G a o) H
theorem As.nf {S : As} {a : Addr} (h : ¬ S.own a) : ¬ S.fo a := fun z => h (S.fo_own z)
theorem As.cl (S : As) {G H G2 H2 : Hp} (r : Gr G H G2 H2) (e : Same H H2) (h : S.p G H) : S.p G2 H2 := S.fr r (fun a o _ k => e a o k) h
def As.tt : As := ⟨fun _ _ => True, fun _ => False, fun _ => False, id, fun _ _ h => h, fun _ h => h.elim, fun _ _ h _ _ => h, fun _ h _ _ => h⟩
/-- what is known (of G), for ever -/
def As.fact (F : Hp → Prop) (m : ∀ G G', Same G G' → F G → F G') : As where
  p := fun G _ => F G
  fo := fun _ => False
  own := fun _ => False
  fo_own := id
  fr := fun r _ h => m _ _ r.gx h
  dom := fun _ h => h.elim
  stb := fun _ _ h _ _ => h
  frz := fun _ h g _ => m _ _ (same_upd g) h
def As.and (S T : As) : As where
  p := fun G H => S.p G H ∧ T.p G H
  fo := fun a => S.fo a ∨ T.fo a
  own := fun a => S.own a ∨ T.own a
  fo_own := fun h => h.elim (fun z => .inl (S.fo_own z)) fun z => .inr (T.fo_own z)
  fr := fun r e h => ⟨S.fr r (fun a o z k => e a o (.inl z) k) h.1, T.fr r (fun a o z k => e a o (.inr z) k) h.2⟩
  dom := fun h k => k.elim (S.dom h.1) (T.dom h.2)
  stb := fun n t h g k => ⟨S.stb (fun z => n (.inl z)) t h.1 g k, T.stb (fun z => n (.inr z)) t h.2 g k⟩
  frz := fun n h g k => ⟨S.frz (fun z => n (.inl z)) h.1 g k, T.frz (fun z => n (.inr z)) h.2 g k⟩
/-- all that was tracked at the entry stands as it stood, but where o says that it may change -/
def As.extx (G0 H0 : Hp) (o : Addr → Prop) : As where
  p := fun G H => Gr G0 H0 G H ∧ ∀ a u, ¬ o a → H0 a = some u → H a = some u
  fo := fun a => H0 a ≠ none ∧ ¬ o a
  own := fun a => H0 a ≠ none
  fo_own := fun h => h.1
  fr := fun r e h => ⟨h.1.trans r, fun a u n k => e a u ⟨(by rw [k]; exact fun z => by cases z), n⟩ (h.2 a u n k)⟩
  dom := fun {G H a} h k => by
    cases e : H0 a with
    | none => exact absurd e k
    | some u =>
      obtain ⟨o2, e2, _⟩ := h.1.dm a u e
      rw [e2]; exact fun z => by cases z
  stb := fun {G H a v} n t h g k => by
    have n' : ∀ u, ¬ o a → H0 a ≠ some u := fun u z e => n ⟨(by rw [e]; exact fun z => by cases z), z⟩
    refine ⟨⟨h.1.gx, fun b u q => ?_, h.1.nw, fun b u q => ?_⟩, fun b u z q => ?_⟩
    · rw [upd_ne (ne_of_none q g)]; exact h.1.sub b u q
    · by_cases hb : b = a
      · subst hb; exact ⟨v, upd_same, fun z => absurd z t⟩
      · obtain ⟨o2, e2, f2⟩ := h.1.dm b u q
        exact ⟨o2, by rw [upd_ne hb]; exact e2, f2⟩
    · by_cases hb : b = a
      · subst hb; exact absurd q (n' u z)
      · rw [upd_ne hb]; exact h.2 b u z q
  frz := fun {G H a u} n h g k => by
    have n' : H0 a = none := Classical.byContradiction n
    refine ⟨⟨h.1.gx.trans (same_upd g), fun b u q => ?_, fun b q z => ?_, h.1.dm⟩, h.2⟩
    · by_cases hb : b = a
      · subst hb; rw [upd_same] at q; cases q; exact k
      · rw [upd_ne hb] at q; exact h.1.sub b u q
    · by_cases hb : b = a
      · subst hb; exact .inl n'
      · rw [upd_ne hb] at z; exact h.1.nw b q z
/-- all that was tracked at the entry stands as it stood -/
abbrev As.ext (G0 H0 : Hp) : As := .extx G0 H0 fun _ => False
theorem out_of {G H G2 H2 : Hp} {a : Addr} {o : HO} (r : Gr G H G2 H2) (g : G a = none) (h : H a = some o) (n : ¬ IsTp (some o)) : G2 a = none :=
  Classical.byContradiction fun k => by
    rcases r.nw a g k with z | z
    · rw [h] at z; cases z
    · rw [h] at z; exact n z
/-- a list of one's own at p that may still change, of these data -/
def As.acc (K : PySem.W.Frag) (p : Addr) (ds : List PyData) : As where
  p := fun G H => G p = none ∧ ∃ xs, H p = some (.lst xs) ∧ Ats K G xs ds
  fo := fun a => a = p
  own := fun a => a = p
  fo_own := id
  fr := fun {G H G2 H2} r e h => by
    obtain ⟨g, xs, h1, h2⟩ := h
    exact ⟨out_of r g h1 (fun ⟨_, z⟩ => by cases z), xs, e _ _ rfl h1, h2.up r.gx⟩
  dom := fun {G H a} h k => by
    obtain ⟨g, xs, h1, h2⟩ := h
    subst k; rw [h1]; exact fun z => by cases z
  stb := fun {G H a o} n _ h g k => by
    obtain ⟨g', xs, h1, h2⟩ := h
    exact ⟨g', xs, by rw [upd_ne (fun z => n z.symm)]; exact h1, h2⟩
  frz := fun {G H a o} n h g k => by
    obtain ⟨g', xs, h1, h2⟩ := h
    exact ⟨by rw [upd_ne (fun z => n z.symm)]; exact g', xs, h1, h2.up (same_upd g)⟩
/-- any other object of one's own at p that may still change: by its content -/
def As.has (p : Addr) (C : Hp → HO → Prop) (m : ∀ G G' o, Same G G' → C G o → C G' o) (nt : ∀ G xs, ¬ C G (.tup xs)) : As where
  p := fun G H => G p = none ∧ ∃ o, H p = some o ∧ C G o
  fo := fun a => a = p
  own := fun a => a = p
  fo_own := id
  fr := fun {G H G2 H2} r e h => by
    obtain ⟨g, o, h1, h2⟩ := h
    exact ⟨out_of r g h1 (fun ⟨xs, z⟩ => by cases z; exact nt _ _ h2), o, e _ _ rfl h1, m _ _ _ r.gx h2⟩
  dom := fun {G H a} h k => by
    obtain ⟨g, xs, h1, h2⟩ := h
    subst k; rw [h1]; exact fun z => by cases z
  stb := fun {G H a o} n _ h g k => by
    obtain ⟨g', o', h1, h2⟩ := h
    exact ⟨g', o', by rw [upd_ne (fun z => n z.symm)]; exact h1, h2⟩
  frz := fun {G H a o} n h g k => by
    obtain ⟨g', o', h1, h2⟩ := h
    exact ⟨by rw [upd_ne (fun z => n z.symm)]; exact g', o', h1, m _ _ _ (same_upd g) h2⟩
/-- one entails the other -/
def As.le (S T : As) : Prop := ∀ G H, S.p G H → T.p G H

/-! ### names' values -/
abbrev De := List (Option PyData)
def EnvOk (K : PySem.W.Frag) (G : Hp) (σ : L2.St) (Δ : De) : Prop := σ.length = Δ.length ∧ ∀ (i : Nat) (d : PyData), Δ[i]? = some (some d) → ∃ v, σ[i]? = some (some v) ∧ At K G v d
section
variable {K : PySem.W.Frag} {G G' : Hp} {σ : L2.St} {Δ : De}
theorem EnvOk.up (h : EnvOk K G σ Δ) (e : Same G G') : EnvOk K G' σ Δ := ⟨h.1, fun i d q => by
  obtain ⟨v, a, b⟩ := h.2 i d q
  exact ⟨v, a, b.up e⟩⟩
theorem EnvOk.set {i : Nat} {v : V} {d : PyData} (h : EnvOk K G σ Δ) (k : At K G v d) : EnvOk K G (σ.set i (some v)) (Δ.set i (some d)) := by
  refine ⟨by simp [h.1], fun j e q => ?_⟩
  by_cases hj : i = j
  · subst hj
    by_cases hi : i < Δ.length
    · rw [List.getElem?_set_self hi] at q
      cases q
      exact ⟨v, List.getElem?_set_self (by rw [h.1]; exact hi), k⟩
    · rw [List.getElem?_eq_none (by rw [List.length_set]; omega)] at q; cases q
  · rw [List.getElem?_set_ne hj] at q ⊢
    exact h.2 j e q
/-- forgotten names -/
def wipeD (Δ : De) : List Nat → De
  | [] => Δ
  | v :: vs => (wipeD Δ vs).set v none
theorem wipeD_len (Δ : De) : ∀ vs : List Nat, (wipeD Δ vs).length = Δ.length
  | [] => rfl
  | v :: vs => by unfold wipeD; rw [List.length_set, wipeD_len Δ vs]
theorem EnvOk.wipe (h : EnvOk K G σ Δ) : ∀ vs : List Nat, EnvOk K G (wipe σ vs) (wipeD Δ vs)
  | [] => h
  | v :: vs => by
    have k := EnvOk.wipe h vs
    refine ⟨by rw [wipe_length, wipeD_len, h.1], fun j e q => ?_⟩
    unfold wipeD at q
    unfold L2.wipe
    by_cases hj : v = j
    · subst hj
      by_cases hi : v < (wipeD Δ vs).length
      · rw [List.getElem?_set_self hi] at q; cases q
      · rw [List.getElem?_eq_none (by simp; omega)] at q; cases q
    · rw [List.getElem?_set_ne hj] at q ⊢
      exact k.2 j e q
end
/-- the slots agree where they are not wiped -/
theorem wipe_get (σ : L2.St) : ∀ (vs : List Nat) (i : Nat), (wipe σ vs)[i]? = if i ∈ vs then (if i < σ.length then some none else none) else σ[i]?
  | [], i => by simp [wipe]
  | v :: vs, i => by
    unfold wipe
    by_cases hv : v = i
    · subst hv
      by_cases hl : v < σ.length
      · rw [List.getElem?_set_self (by rw [wipe_length]; exact hl)]
        simp [hl]
      · rw [List.getElem?_eq_none (by simp [wipe_length]; omega)]
        simp [hl]
    · rw [List.getElem?_set_ne hv, wipe_get σ vs i]
      have : (i ∈ v :: vs) ↔ (i ∈ vs) := by
        simp only [List.mem_cons]
        exact ⟨fun h => h.elim (fun z => absurd z.symm hv) id, .inr⟩
      simp only [this]
theorem wipe_wipe (σ : L2.St) (vs : List Nat) : wipe (wipe σ vs) vs = wipe σ vs := by
  refine List.ext_getElem? fun i => ?_
  rw [wipe_get, wipe_get, wipe_length]
  split <;> rfl
theorem wipe_set {σ : L2.St} {vs : List Nat} {i : Nat} {x : Option V} (h : i ∈ vs) : wipe (σ.set i x) vs = wipe σ vs := by
  refine List.ext_getElem? fun j => ?_
  rw [wipe_get, wipe_get, List.length_set]
  by_cases hj : j ∈ vs
  · simp only [hj, if_true]
  · simp only [hj, if_false]
    rw [List.getElem?_set_ne (fun z => hj (by rw [← z]; exact h))]
end DL
namespace DL
open PySem PySem.Spec PyProof.Rows L2

/-! ### what an expression is worth -/
/-- what is known and tracked ahead; the value; what is known and tracked behind -/
abbrev RR := Hp → Hp → V → Hp → Hp → Prop
def EvR (X : Cx) (e : Expr) (Δ : De) (S : As) (R : RR) : Prop :=
  ∀ (pins : List (Addr × Obj)) (s : Shared) (σ : L2.St) (G H : Hp) (Q : VK), Inv X pins σ H s → EnvOk X.K G σ Δ → Same G H → S.p G H →
    (∀ v G2 H2, Gr G H G2 H2 → S.p G2 H2 → R G H v G2 H2 → Q v H2) → wpAny (model X.prog X.w) X.A (eval e X.env) (EP X pins σ Q) X.xe s
abbrev rAt (K : PySem.W.Frag) (d : PyData) : RR := fun _ _ v G2 _ => At K G2 v d
/-- a new list that nobody knows yet -/
abbrev rNl (K : PySem.W.Frag) (ds : List PyData) : RR := fun _ H v G2 H2 => ∃ p xs, v = .ref p ∧ H p = none ∧ G2 p = none ∧ H2 p = some (.lst xs) ∧ Ats K G2 xs ds
abbrev Ev (X : Cx) (e : Expr) (Δ : De) (S : As) (d : PyData) : Prop := EvR X e Δ S (rAt X.K d)
abbrev EvL (X : Cx) (e : Expr) (Δ : De) (S : As) (ds : List PyData) : Prop := EvR X e Δ S (rNl X.K ds)
def Back (R : RR) : Prop := ∀ G H G1 H1 v G2 H2, Gr G H G1 H1 → R G1 H1 v G2 H2 → R G H v G2 H2
theorem back_at {K : PySem.W.Frag} {d : PyData} : Back (rAt K d) := fun _ _ _ _ _ _ _ _ h => h
theorem none_back {G H G1 H1 : Hp} {p : Addr} (r : Gr G H G1 H1) (h : H1 p = none) : H p = none := by
  cases e : H p with
  | none => rfl
  | some o =>
    obtain ⟨o2, e2, _⟩ := r.dm p o e
    rw [h] at e2; cases e2
theorem back_nl {K : PySem.W.Frag} {ds : List PyData} : Back (rNl K ds) := fun _ _ _ _ _ _ _ r ⟨p, xs, e, h, k⟩ => ⟨p, xs, e, none_back r h, k⟩

section
variable {X : Cx} {e : Expr} {Δ : De} {S : As} {R : RR} {d : PyData}
def tEv (X : Cx) (e : Expr) : TE := fun σ H Q => ∃ Δ S R G, EvR X e Δ S R ∧ EnvOk X.K G σ Δ ∧ Same G H ∧ S.p G H ∧ ∀ v G2 H2, Gr G H G2 H2 → S.p G2 H2 → R G H v G2 H2 → Q v H2
theorem pe_ev (X : Cx) (e : Expr) : PE X e (tEv X e) := ⟨fun pins s σ H Q I ⟨_, _, _, G, h, a, b, c, q⟩ => h pins s σ G H Q I a b c q⟩
theorem ev_pe {t : TE} (h : PE X e t) (ht : ∀ (σ : L2.St) (G H : Hp) (Q : VK), EnvOk X.K G σ Δ → Same G H → S.p G H → (∀ v G2 H2, Gr G H G2 H2 → S.p G2 H2 → R G H v G2 H2 → Q v H2) → t σ H Q) : EvR X e Δ S R :=
  fun pins s σ G H Q I a b c q => h.run pins s σ H Q I (ht σ G H Q a b c q)
theorem EvR.imp {R' : RR} (h : EvR X e Δ S R) (k : ∀ G H v G2 H2, Gr G H G2 H2 → S.p G2 H2 → R G H v G2 H2 → R' G H v G2 H2) : EvR X e Δ S R' :=
  fun pins s σ G H Q I a b c q => h pins s σ G H Q I a b c fun v G2 H2 g p r => q v G2 H2 g p (k _ _ _ _ _ g p r)
/-- S may be weakened on the way in, if it can be had back -/
theorem EvR.with {T : As} (h : EvR X e Δ T R) (k : ∀ G H, S.p G H → T.p G H) (b : ∀ G H G2 H2 v, S.p G H → Gr G H G2 H2 → T.p G2 H2 → R G H v G2 H2 → S.p G2 H2) : EvR X e Δ S R :=
  fun pins s σ G H Q I a b' c q => h pins s σ G H Q I a b' (k _ _ c) fun v G2 H2 g p r => q v G2 H2 g (b _ _ _ _ _ c g p r) r
theorem Gr.frz {G H G2 H2 : Hp} {p : Addr} {o : HO} (r : Gr G H G2 H2) (h : H p = none) (g : G2 p = none) (k : H2 p = some o) : Gr G H (upd G2 p o) H2 := by
  refine ⟨r.gx.trans (same_upd g), fun b u q => ?_, fun b q z => ?_, r.dm⟩
  · by_cases hb : b = p
    · subst hb; rw [upd_same] at q; cases q; exact k
    · rw [upd_ne hb] at q; exact r.sub b u q
  · by_cases hb : b = p
    · subst hb; exact .inl h
    · rw [upd_ne hb] at z; exact r.nw b q z
theorem not_own {S : As} {G H : Hp} {p : Addr} (c : S.p G H) (h : H p = none) : ¬ S.own p := fun o => S.dom c o h
theorem EvR.frz {ds : List PyData} (h : EvL X e Δ S ds) : Ev X e Δ S (.list ds) :=
  fun pins s σ G H Q I a b c q => h pins s σ G H Q I a b c fun v G2 H2 g p ⟨x, xs, e1, e2, e3, e4, e5⟩ => by
    subst e1
    exact q _ (upd G2 x (.lst xs)) H2 (g.frz e2 e3 e4) (S.frz (not_own c e2) p e3 e4) (.lst upd_same (e5.up (same_upd e3)))
/-- weaken what was known about the names -/
theorem EvR.env {Δ' : De} (h : EvR X e Δ' S R) (k : ∀ (i : Nat) (d : PyData), Δ'[i]? = some (some d) → Δ[i]? = some (some d)) (hl : Δ'.length = Δ.length) : EvR X e Δ S R :=
  fun pins s σ G H Q I a b c q => h pins s σ G H Q I ⟨a.1.trans hl.symm, fun i d z => a.2 i d (k i d z)⟩ b c q

/-! names, constants -/
theorem ev_v (i : Nat) {x : Str} {pos : Pos} (hd : Δ[i]? = some (some d)) (hN : X.N[i]? = some x := by rfl) (hv : Vis X.env.scope x := by first | exact Or.inl rfl | exact Or.inr (Or.inl rfl) | exact Or.inr (Or.inr rfl)) (h1 : (x == ("__debug__" : Str)) = false := by decide)
    (h2 : (x == ("__classdict__" : Str)) = false := by decide) : Ev X (.Name x pos) Δ S d :=
  ev_pe (pe_var hN hv h1 h2) fun σ G H Q a b c q => by
    obtain ⟨v, e1, e2⟩ := a.2 i d hd
    exact ⟨v, e1, q v G H (.refl b) c e2⟩
theorem ev_int {i j pos} : Ev X (.Constant (.int i) j pos) Δ S (.int i) := ev_pe pe_int fun _ G H _ _ b c q => q _ G H (.refl b) c (.int i)
theorem ev_bl {i j pos} : Ev X (.Constant (.bool i) j pos) Δ S (.bool i) := ev_pe pe_bl fun _ G H _ _ b c q => q _ G H (.refl b) c (.bl i)
theorem ev_non {j pos} : Ev X (.Constant .none j pos) Δ S .none := ev_pe pe_non fun _ G H _ _ b c q => q _ G H (.refl b) c .non
theorem ev_str {i j pos} : Ev X (.Constant (.str i) j pos) Δ S (.str i) := ev_pe pe_str fun _ G H _ _ b c q => q _ G H (.refl b) c (.str i)
/-- a module's constant -/
theorem ev_gl {x : Str} {v : V} {u : Value} {pos : Pos} (hg : Gl X x) (hm : X.mg x = some u) (r : RelV v u) (ha : ∀ G H, S.p G H → At X.K G v d) (hd : (x == ("__debug__" : Str)) = false := by decide) : Ev X (.Name x pos) Δ S d :=
  ev_pe (pe_glob hg hm r hd) fun _ G H _ _ b c q => q _ G H (.refl b) c (ha G H c)

/-! operations by data -/
def OpD (X : Cx) (f : Value → Value → Sem Value) (S : As) (d1 d2 : PyData) (R : RR) : Prop :=
  ∃ r : R2, OpR X f r ∧ ∀ (G H : Hp) (x y : V) (Q : VK), Same G H → S.p G H → At X.K G x d1 → At X.K G y d2 → (∀ v G2 H2, Gr G H G2 H2 → S.p G2 H2 → R G H v G2 H2 → Q v H2) → r x y H Q
variable {a b c : Expr} {d1 d2 d3 : PyData} {pos : Pos}
theorem two {ta tb : Expr} {σ : L2.St} {G H : Hp} {k : V → V → Hp → Prop} (ha : Ev X ta Δ S d1) (hb : Ev X tb Δ S d2) (a : EnvOk X.K G σ Δ) (b : Same G H) (c : S.p G H)
    (q : ∀ x y G1 H1, Gr G H G1 H1 → S.p G1 H1 → At X.K G1 x d1 → At X.K G1 y d2 → k x y H1) : tEv X ta σ H fun x H1 => tEv X tb σ H1 fun y H2 => k x y H2 :=
  ⟨Δ, S, _, G, ha, a, b, c, fun x G1 H1 g1 p1 r1 => ⟨Δ, S, _, G1, hb, a.up g1.gx, g1.sub, p1, fun y G2 H2 g2 p2 r2 => q x y G2 H2 (g1.trans g2) p2 (r1.up g2.gx) r2⟩⟩
theorem ev_op {op : Operator} (ho : OpD X (binaryOp op) S d1 d2 R) (ha : Ev X a Δ S d1) (hb : Ev X b Δ S d2) (hR : Back R := by first | exact back_at | exact back_nl) : EvR X (.BinOp a op b pos) Δ S R := by
  obtain ⟨r, h1, h2⟩ := ho
  exact ev_pe (pe_op h1 (pe_ev X a) (pe_ev X b)) fun σ G H Q a' b' c' q => two ha hb a' b' c' fun x y G1 H1 g p e1 e2 =>
    h2 G1 H1 x y Q g.sub p e1 e2 fun v G2 H2 g2 p2 r2 => q v G2 H2 (g.trans g2) p2 (hR _ _ _ _ _ _ _ g r2)
theorem ev_cmp {op : CmpOp} (ho : OpD X (compareOp op) S d1 d2 R) (ha : Ev X a Δ S d1) (hb : Ev X b Δ S d2) (hR : Back R := by first | exact back_at | exact back_nl) (hm : behindInMarks op b = false := by first | exact nomark _ | rfl | with_unfolding_all rfl) :
    EvR X (.Compare a [op] [b] pos) Δ S R := by
  obtain ⟨r, h1, h2⟩ := ho
  exact ev_pe (pe_cmpR h1 (pe_ev X a) (pe_ev X b) hm) fun σ G H Q a' b' c' q => two ha hb a' b' c' fun x y G1 H1 g p e1 e2 =>
    h2 G1 H1 x y Q g.sub p e1 e2 fun v G2 H2 g2 p2 r2 => q v G2 H2 (g.trans g2) p2 (hR _ _ _ _ _ _ _ g r2)
def UnD (X : Cx) (f : Value → Sem Value) (S : As) (d1 : PyData) (R : RR) : Prop :=
  ∃ r, UnR X f r ∧ ∀ (G H : Hp) (x : V) (Q : VK), Same G H → S.p G H → At X.K G x d1 → (∀ v G2 H2, Gr G H G2 H2 → S.p G2 H2 → R G H v G2 H2 → Q v H2) → r x H Q
theorem ev_un {op : UnaryOp} (ho : UnD X (unaryOp op) S d1 R) (ha : Ev X a Δ S d1) (hR : Back R := by first | exact back_at | exact back_nl) : EvR X (.UnaryOp op a pos) Δ S R := by
  obtain ⟨r, h1, h2⟩ := ho
  exact ev_pe (pe_un h1 (pe_ev X a)) fun σ G H Q a' b' c' q => ⟨Δ, S, _, G, ha, a', b', c', fun x G1 H1 g p e1 =>
    h2 G1 H1 x Q g.sub p e1 fun v G2 H2 g2 p2 r2 => q v G2 H2 (g.trans g2) p2 (hR _ _ _ _ _ _ _ g r2)⟩

/-! ### tests -/
def EvT (X : Cx) (e : Expr) (Δ : De) (S : As) (b : Bool) : Prop :=
  ∀ (pins : List (Addr × Obj)) (s : Shared) (σ : L2.St) (G H : Hp) (Q : Bool → Hp → Prop), Inv X pins σ H s → EnvOk X.K G σ Δ → Same G H → S.p G H →
    (∀ G2 H2, Gr G H G2 H2 → S.p G2 H2 → Q b H2) → wpAny (model X.prog X.w) X.A (isTrue e X.env (eval e X.env)) (TP X pins σ Q) X.xe s
def EvW (X : Cx) (e : Expr) (Δ : De) (S : As) (b : Bool) : Prop :=
  ∀ (whole : Sem Value) (pins : List (Addr × Obj)) (s : Shared) (σ : L2.St) (G H : Hp) (Q : Bool → Hp → Prop), Inv X pins σ H s → EnvOk X.K G σ Δ → Same G H → S.p G H →
    (∀ G2 H2, Gr G H G2 H2 → S.p G2 H2 → Q b H2) → wpAny (model X.prog X.w) X.A (isTrue e X.env whole) (TP X pins σ Q) X.xe s
def tEvT (X : Cx) (e : Expr) : TT := fun σ H Q => ∃ Δ S b G, EvT X e Δ S b ∧ EnvOk X.K G σ Δ ∧ Same G H ∧ S.p G H ∧ ∀ G2 H2, Gr G H G2 H2 → S.p G2 H2 → Q b H2
theorem pt_ev (X : Cx) (e : Expr) : PT X e (tEvT X e) := ⟨fun pins s σ H Q I ⟨_, _, _, G, h, a, b, c, q⟩ => h pins s σ G H Q I a b c q⟩
def tEvW (X : Cx) (e : Expr) : TT := fun σ H Q => ∃ Δ S b G, EvW X e Δ S b ∧ EnvOk X.K G σ Δ ∧ Same G H ∧ S.p G H ∧ ∀ G2 H2, Gr G H G2 H2 → S.p G2 H2 → Q b H2
theorem pw_ev (X : Cx) (e : Expr) : PW X e (tEvW X e) := ⟨fun w pins s σ H Q I ⟨_, _, _, G, h, a, b, c, q⟩ => h w pins s σ G H Q I a b c q⟩
theorem evt_pt {t : TT} {b : Bool} (h : PT X e t) (ht : ∀ (σ : L2.St) (G H : Hp) (Q : Bool → Hp → Prop), EnvOk X.K G σ Δ → Same G H → S.p G H → (∀ G2 H2, Gr G H G2 H2 → S.p G2 H2 → Q b H2) → t σ H Q) : EvT X e Δ S b :=
  fun pins s σ G H Q I a b c q => h.run pins s σ H Q I (ht σ G H Q a b c q)
theorem evw_pw {t : TT} {b : Bool} (h : PW X e t) (ht : ∀ (σ : L2.St) (G H : Hp) (Q : Bool → Hp → Prop), EnvOk X.K G σ Δ → Same G H → S.p G H → (∀ G2 H2, Gr G H G2 H2 → S.p G2 H2 → Q b H2) → t σ H Q) : EvW X e Δ S b :=
  fun w pins s σ G H Q I a b c q => h.run w pins s σ H Q I (ht σ G H Q a b c q)
theorem evt_w {b : Bool} (h : EvW X e Δ S b) : EvT X e Δ S b := h _
theorem evt_val {b : Bool} (h : Ev X e Δ S (.bool b)) (he : ∀ whole, isTrue e X.env whole = (do let v ← whole; standAt e.pos; holding [v] (truthy v)) := by intro _; rfl) : EvT X e Δ S b :=
  evt_pt (pt_val (pe_ev X e) he) fun σ G H Q a' b' c' q => ⟨Δ, S, _, G, h, a', b', c', fun v G2 H2 g p r => by cases r; exact ⟨b, rfl, q G2 H2 g p⟩⟩
theorem evt_cmp {op : CmpOp} {k : Bool} (ho : OpD X (compareOp op) S d1 d2 (rAt X.K (.bool k))) (ha : Ev X a Δ S d1) (hb : Ev X b Δ S d2) (hm : behindInMarks op b = false := by first | exact nomark _ | rfl | with_unfolding_all rfl) :
    EvT X (.Compare a [op] [b] pos) Δ S k := by
  obtain ⟨r, h1, h2⟩ := ho
  exact evt_pt (pt_cmpR h1 (pe_ev X a) (pe_ev X b) hm) fun σ G H Q a' b' c' q => two ha hb a' b' c' fun x y G1 H1 g p e1 e2 =>
    h2 G1 H1 x y _ g.sub p e1 e2 fun v G2 H2 g2 p2 r2 => by cases r2; exact ⟨k, rfl, q G2 H2 (g.trans g2) p2⟩
/-- a op b op' c -/
theorem ev_chain {op op' : CmpOp} {k k' : Bool} (ho : OpD X (compareOp op) S d1 d2 (rAt X.K (.bool k))) (ho' : k = true → OpD X (compareOp op') S d2 d3 (rAt X.K (.bool k'))) (hr : ∃ r : R2, OpR X (compareOp op') r) (ha : Ev X a Δ S d1) (hb : Ev X b Δ S d2) (hc : Ev X c Δ S d3)
    (hm : lastMarks [op, op'] [b, c] = false := by with_unfolding_all rfl) : Ev X (.Compare a [op, op'] [b, c] pos) Δ S (.bool (k && k')) := by
  obtain ⟨r, h1, h2⟩ := ho
  cases k with
  | true =>
    obtain ⟨r', h1', h2'⟩ := ho' rfl
    exact ev_pe (pe_chain h1 h1' (pe_ev X a) (pe_ev X b) (pe_ev X c) hm) fun σ G H Q a' b' c' q => two ha hb a' b' c' fun x y G1 H1 g p e1 e2 =>
      h2 G1 H1 x y _ g.sub p e1 e2 fun v G2 H2 g2 p2 r2 => by
        cases r2
        exact ⟨true, rfl, iteT ⟨Δ, S, _, G2, hc, a'.up (g.gx.trans g2.gx), g2.sub, p2, fun z G3 H3 g3 p3 r3 => h2' G3 H3 y z _ g3.sub p3 (e2.up (g2.gx.trans g3.gx)) r3 fun v G4 H4 g4 p4 r4 => q v G4 H4 (((g.trans g2).trans g3).trans g4) p4 r4⟩⟩
  | false =>
    obtain ⟨r', h1'⟩ := hr
    exact ev_pe (pe_chain h1 h1' (pe_ev X a) (pe_ev X b) (pe_ev X c) hm) fun σ G H Q a' b' c' q => two ha hb a' b' c' fun x y G1 H1 g p e1 e2 =>
      h2 G1 H1 x y _ g.sub p e1 e2 fun v G2 H2 g2 p2 r2 => by
        cases r2
        exact ⟨false, rfl, iteF (q _ G2 H2 (g.trans g2) p2 (.bl false))⟩
theorem evt_chain {op op' : CmpOp} {k k' : Bool} (ho : OpD X (compareOp op) S d1 d2 (rAt X.K (.bool k))) (ho' : k = true → OpD X (compareOp op') S d2 d3 (rAt X.K (.bool k'))) (hr : ∃ r : R2, OpR X (compareOp op') r) (ha : Ev X a Δ S d1) (hb : Ev X b Δ S d2) (hc : Ev X c Δ S d3)
    (hm : lastMarks [op, op'] [b, c] = false := by with_unfolding_all rfl) : EvT X (.Compare a [op, op'] [b, c] pos) Δ S (k && k') := by
  obtain ⟨r, h1, h2⟩ := ho
  cases k with
  | true =>
    obtain ⟨r', h1', h2'⟩ := ho' rfl
    exact evt_pt (pt_chain h1 h1' (pe_ev X a) (pe_ev X b) (pe_ev X c) hm) fun σ G H Q a' b' c' q => two ha hb a' b' c' fun x y G1 H1 g p e1 e2 =>
      h2 G1 H1 x y _ g.sub p e1 e2 fun v G2 H2 g2 p2 r2 => by
        cases r2
        exact ⟨true, rfl, iteT ⟨Δ, S, _, G2, hc, a'.up (g.gx.trans g2.gx), g2.sub, p2, fun z G3 H3 g3 p3 r3 => h2' G3 H3 y z _ g3.sub p3 (e2.up (g2.gx.trans g3.gx)) r3 fun v G4 H4 g4 p4 r4 => by cases r4; exact ⟨k', rfl, q G4 H4 (((g.trans g2).trans g3).trans g4) p4⟩⟩⟩
  | false =>
    obtain ⟨r', h1'⟩ := hr
    exact evt_pt (pt_chain h1 h1' (pe_ev X a) (pe_ev X b) (pe_ev X c) hm) fun σ G H Q a' b' c' q => two ha hb a' b' c' fun x y G1 H1 g p e1 e2 =>
      h2 G1 H1 x y _ g.sub p e1 e2 fun v G2 H2 g2 p2 r2 => by
        cases r2
        exact ⟨false, rfl, iteF ⟨false, rfl, q G2 H2 (g.trans g2) p2⟩⟩
theorem evt_not {k : Bool} (h : EvT X a Δ S k) : EvT X (.UnaryOp .Not a pos) Δ S (!k) :=
  evt_pt (pt_not (pt_ev X a)) fun σ G H Q a' b' c' q => ⟨Δ, S, k, G, h, a', b', c', q⟩
theorem evw_and1 {k : Bool} (h : EvT X a Δ S k) : EvW X (.BoolOp .And [a] pos) Δ S k :=
  evw_pw (pw_and1 (pt_ev X a)) fun σ G H Q a' b' c' q => ⟨Δ, S, k, G, h, a', b', c', q⟩
theorem evw_or1 {k : Bool} (h : EvT X a Δ S k) : EvW X (.BoolOp .Or [a] pos) Δ S k :=
  evw_pw (pw_or1 (pt_ev X a)) fun σ G H Q a' b' c' q => ⟨Δ, S, k, G, h, a', b', c', q⟩
theorem evw_and {rest : List Expr} {k k' : Bool} (h : EvT X a Δ S k) (h' : k = true → EvW X (.BoolOp .And (b :: rest) pos) Δ S k') : EvW X (.BoolOp .And (a :: b :: rest) pos) Δ S (k && k') :=
  evw_pw (pw_and (pt_ev X a) (pw_ev X _)) fun σ G H Q a' b' c' q => ⟨Δ, S, k, G, h, a', b', c', fun G2 H2 g p => by
    cases k with
    | true => exact iteT ⟨Δ, S, k', G2, h' rfl, a'.up g.gx, g.sub, p, fun G3 H3 g3 p3 => q G3 H3 (g.trans g3) p3⟩
    | false => exact iteF (q G2 H2 g p)⟩
theorem evw_or {rest : List Expr} {k k' : Bool} (h : EvT X a Δ S k) (h' : k = false → EvW X (.BoolOp .Or (b :: rest) pos) Δ S k') : EvW X (.BoolOp .Or (a :: b :: rest) pos) Δ S (k || k') :=
  evw_pw (pw_or (pt_ev X a) (pw_ev X _)) fun σ G H Q a' b' c' q => ⟨Δ, S, k, G, h, a', b', c', fun G2 H2 g p => by
    cases k with
    | true => exact iteT (q G2 H2 g p)
    | false => exact iteF ⟨Δ, S, k', G2, h' rfl, a'.up g.gx, g.sub, p, fun G3 H3 g3 p3 => q G3 H3 (g.trans g3) p3⟩⟩
theorem EvT.is {k k' : Bool} (h : EvT X e Δ S k) (q : k = k') : EvT X e Δ S k' := q ▸ h
/-! and, or, not as values -/
theorem ev_one {op} (h : Ev X a Δ S d) : Ev X (.BoolOp op [a] pos) Δ S d := ev_pe (pe_one (pe_ev X a)) fun σ G H Q a' b' c' q => ⟨Δ, S, _, G, h, a', b', c', q⟩
theorem ev_and {rest : List Expr} {k k' : Bool} (h : Ev X a Δ S (.bool k)) (h' : k = true → Ev X (.BoolOp .And (b :: rest) pos) Δ S (.bool k')) : Ev X (.BoolOp .And (a :: b :: rest) pos) Δ S (.bool (k && k')) :=
  ev_pe (pe_and (pe_ev X a) (pe_ev X _)) fun σ G H Q a' b' c' q => ⟨Δ, S, _, G, h, a', b', c', fun v G2 H2 g p r => by
    cases r
    refine ⟨k, rfl, ?_⟩
    cases k with
    | true => exact iteT ⟨Δ, S, _, G2, h' rfl, a'.up g.gx, g.sub, p, fun v G3 H3 g3 p3 r3 => q v G3 H3 (g.trans g3) p3 r3⟩
    | false => exact iteF (q _ G2 H2 g p (.bl false))⟩
theorem ev_or {rest : List Expr} {k k' : Bool} (h : Ev X a Δ S (.bool k)) (h' : k = false → Ev X (.BoolOp .Or (b :: rest) pos) Δ S (.bool k')) : Ev X (.BoolOp .Or (a :: b :: rest) pos) Δ S (.bool (k || k')) :=
  ev_pe (pe_or (pe_ev X a) (pe_ev X _)) fun σ G H Q a' b' c' q => ⟨Δ, S, _, G, h, a', b', c', fun v G2 H2 g p r => by
    cases r
    refine ⟨k, rfl, ?_⟩
    cases k with
    | true => exact iteT (q _ G2 H2 g p (.bl true))
    | false => exact iteF ⟨Δ, S, _, G2, h' rfl, a'.up g.gx, g.sub, p, fun v G3 H3 g3 p3 r3 => q v G3 H3 (g.trans g3) p3 r3⟩⟩
theorem ev_not {k : Bool} (h : Ev X a Δ S (.bool k)) : Ev X (.UnaryOp .Not a pos) Δ S (.bool (!k)) :=
  ev_pe (pe_not (pe_ev X a)) fun σ G H Q a' b' c' q => ⟨Δ, S, _, G, h, a', b', c', fun v G2 H2 g p r => by cases r; exact ⟨k, rfl, q _ G2 H2 g p (.bl _)⟩⟩
theorem ev_if {k : Bool} {t : Expr} (ht : EvT X t Δ S k) (ha : k = true → EvR X a Δ S R) (hb : k = false → EvR X b Δ S R) (hR : Back R := by first | exact back_at | exact back_nl) : EvR X (.IfExp t a b pos) Δ S R :=
  ev_pe (pe_ifExp (pt_ev X t) (pe_ev X a) (pe_ev X b)) fun σ G H Q a' b' c' q => ⟨Δ, S, k, G, ht, a', b', c', fun G2 H2 g p => by
    cases k with
    | true => exact iteT ⟨Δ, S, R, G2, ha rfl, a'.up g.gx, g.sub, p, fun v G3 H3 g3 p3 r3 => q v G3 H3 (g.trans g3) p3 (hR _ _ _ _ _ _ _ g r3)⟩
    | false => exact iteF ⟨Δ, S, R, G2, hb rfl, a'.up g.gx, g.sub, p, fun v G3 H3 g3 p3 r3 => q v G3 H3 (g.trans g3) p3 (hR _ _ _ _ _ _ _ g r3)⟩⟩
theorem EvR.is {d' : PyData} (h : Ev X e Δ S d) (q : d = d') : Ev X e Δ S d' := q ▸ h
theorem EvR.isL {ds es : List PyData} (h : EvL X e Δ S ds) (q : ds = es) : EvL X e Δ S es := q ▸ h

/-! ### arguments, displays -/
def EvA (X : Cx) (es : List Expr) (Δ : De) (S : As) (ds : List PyData) : Prop :=
  ∀ (pos : Pos) (pins : List (Addr × Obj)) (s : Shared) (σ : L2.St) (G H : Hp) (Q : List V → Hp → Prop), Inv X pins σ H s → EnvOk X.K G σ Δ → Same G H → S.p G H →
    (∀ vs G2 H2, Gr G H G2 H2 → S.p G2 H2 → Ats X.K G2 vs ds → Q vs H2) → wpAny (model X.prog X.w) X.A (spliced (backTo pos (starEach es X.env))) (AP X pins σ Q) X.xe s
def tEvA (X : Cx) (es : List Expr) : TA := fun σ H Q => ∃ Δ S ds G, EvA X es Δ S ds ∧ EnvOk X.K G σ Δ ∧ Same G H ∧ S.p G H ∧ ∀ vs G2 H2, Gr G H G2 H2 → S.p G2 H2 → Ats X.K G2 vs ds → Q vs H2
theorem pa_ev (X : Cx) (es : List Expr) : PA X es (tEvA X es) := ⟨fun pos pins s σ H Q I ⟨_, _, _, G, h, a, b, c, q⟩ => h pos pins s σ G H Q I a b c q⟩
theorem eva_pa {es : List Expr} {ds : List PyData} {t : TA} (h : PA X es t) (ht : ∀ (σ : L2.St) (G H : Hp) (Q : List V → Hp → Prop), EnvOk X.K G σ Δ → Same G H → S.p G H → (∀ vs G2 H2, Gr G H G2 H2 → S.p G2 H2 → Ats X.K G2 vs ds → Q vs H2) → t σ H Q) : EvA X es Δ S ds :=
  fun pos pins s σ G H Q I a b c q => h.run pos pins s σ H Q I (ht σ G H Q a b c q)
theorem ea_nil : EvA X [] Δ S [] := eva_pa pa_nil fun _ G H _ _ b c q => q [] G H (.refl b) c .nil
end
end DL
namespace DL
open PySem PySem.Spec PyProof.Rows L2

section
variable {X : Cx} {e a b : Expr} {es : List Expr} {Δ : De} {S : As} {R : RR} {d d1 d2 : PyData} {ds : List PyData} {pos p : Pos}
theorem ea_cons (h : Ev X e Δ S d) (hr : EvA X es Δ S ds) (hs : starEach (e :: es) X.env = (false, eval e X.env) :: starEach es X.env := by rfl) : EvA X (e :: es) Δ S (d :: ds) :=
  eva_pa (pa_cons (pe_ev X e) (pa_ev X es) hs) fun σ G H Q a b c q => ⟨Δ, S, _, G, h, a, b, c, fun v G1 H1 g p r =>
    ⟨Δ, S, ds, G1, hr, a.up g.gx, g.sub, p, fun vs G2 H2 g2 p2 r2 => q _ G2 H2 (g.trans g2) p2 (.cons (r.up g2.gx) r2)⟩⟩
/-- an object is laid -/
theorem lay {G H G1 H1 : Hp} {l : Addr} {o : HO} (g : Gr G H G1 H1) (c : S.p G1 H1) (hl : H1 l = none) : Gr G H (upd G1 l o) (upd H1 l o) ∧ S.p (upd G1 l o) (upd H1 l o) :=
  have n := Gr.new (o := o) g.sub hl
  ⟨g.trans n, S.cl n (same_upd hl) c⟩
theorem layH {G H G1 H1 : Hp} {l : Addr} {o : HO} (g : Gr G H G1 H1) (c : S.p G1 H1) (hl : H1 l = none) : Gr G H G1 (upd H1 l o) ∧ S.p G1 (upd H1 l o) :=
  have n := Gr.h (H2 := upd H1 l o) g.sub (same_upd hl)
  ⟨g.trans n, S.cl n (same_upd hl) c⟩
theorem ev_tup {x1} (h : EvA X es Δ S ds) (hl : ds.length ≤ 1000 := by simp <;> omega) : Ev X (.Tuple es x1 pos) Δ S (.tuple ds) :=
  ev_pe (pe_tup (pa_ev X es)) fun σ G H Q a b c q => ⟨Δ, S, ds, G, h, a, b, c, fun vs G1 H1 g p r => ⟨by rw [r.len]; exact Nat.le_trans hl (by decide), fun l hl => by
    obtain ⟨g2, p2⟩ := lay (o := .tup vs) g p hl
    exact q _ _ _ g2 p2 (.tup upd_same (r.up (same_upd (g.sub.free hl))))⟩⟩
theorem evl_lst (h : EvA X es Δ S ds) (hl : ds.length ≤ 1000 := by simp <;> omega) : EvL X (.List es pos) Δ S ds :=
  ev_pe (pe_lst (pa_ev X es)) fun σ G H Q a b c q => ⟨Δ, S, ds, G, h, a, b, c, fun vs G1 H1 g p r => ⟨by rw [r.len]; exact Nat.le_trans hl (by decide), fun l hl => by
    obtain ⟨g2, p2⟩ := layH (o := .lst vs) g p hl
    exact q _ _ _ g2 p2 ⟨l, vs, rfl, none_back g hl, g.sub.free hl, upd_same, r⟩⟩⟩

/-! ### calls of built-in functions and types -/
def CallD (X : Cx) (f : Value) (S : As) (ds : List PyData) (R : RR) : Prop :=
  ∃ r, CallR X f r ∧ ∀ (G H : Hp) (vs : List V) (Q : VK), Same G H → S.p G H → Ats X.K G vs ds → (∀ v G2 H2, Gr G H G2 H2 → S.p G2 H2 → R G H v G2 H2 → Q v H2) → r vs H Q
theorem ev_callB {x : Str} {id : String} (hc : CallD X (.builtin id) S ds R) (hg : Gl X x) (hm : X.mg x = none) (hv : bootBuiltins x = some (.builtin id)) (ha : EvA X (e :: es) Δ S ds) (hR : Back R := by first | exact back_at | exact back_nl)
    (hn : x ≠ "__name__" := by decide) (hdb : (x == ("__debug__" : Str)) = false := by decide) (he : starEach (e :: es) X.env = (false, eval e X.env) :: starEach es X.env := by rfl) (hpl : (backTo pos (starEach es X.env)).any (·.1) = false := by rfl) :
    EvR X (.Call (.Name x p) (e :: es) [] pos) Δ S R := by
  obtain ⟨r, h1, h2⟩ := hc
  exact ev_pe (pe_callB h1 hg hm hv (pa_ev X _) hn hdb he hpl) fun σ G H Q a b c q => ⟨Δ, S, ds, G, ha, a, b, c, fun vs G1 H1 g p r1 => h2 G1 H1 vs Q g.sub p r1 fun v G2 H2 g2 p2 r2 => q v G2 H2 (g.trans g2) p2 (hR _ _ _ _ _ _ _ g r2)⟩
theorem ev_callTy {x : Str} {T : String} (hc : CallD X (.type T) S ds R) (hg : Gl X x) (hm : X.mg x = none) (hv : bootBuiltins x = some (.type T)) (ha : EvA X (e :: es) Δ S ds) (hR : Back R := by first | exact back_at | exact back_nl)
    (hn : x ≠ "__name__" := by decide) (hdb : (x == ("__debug__" : Str)) = false := by decide) (he : starEach (e :: es) X.env = (false, eval e X.env) :: starEach es X.env := by rfl) (hpl : (backTo pos (starEach es X.env)).any (·.1) = false := by rfl) :
    EvR X (.Call (.Name x p) (e :: es) [] pos) Δ S R := by
  obtain ⟨r, h1, h2⟩ := hc
  exact ev_pe (pe_callTy h1 hg hm hv (pa_ev X _) hn hdb he hpl) fun σ G H Q a b c q => ⟨Δ, S, ds, G, ha, a, b, c, fun vs G1 H1 g p r1 => h2 G1 H1 vs Q g.sub p r1 fun v G2 H2 g2 p2 r2 => q v G2 H2 (g.trans g2) p2 (hR _ _ _ _ _ _ _ g r2)⟩

/-! ### promises of the program's defs -/
/-- a def that changes nothing that stood -/
def spP (K : PySem.W.Frag) (P : Hp → List PyData → RR → Prop) : Sp := fun vs H Q _ => ∃ G ds R, Same G H ∧ Ats K G vs ds ∧ P G ds R ∧ ∀ v G2 H2, Gr G H G2 H2 → Same H H2 → R G H v G2 H2 → Q v H2
/-- .. that hands back a datum -/
abbrev spF (K : PySem.W.Frag) (P : List PyData → PyData → Prop) : Sp := spP K fun _ ds R => ∃ d, P ds d ∧ R = rAt K d
/-- .. that hands back a new list -/
abbrev spL (K : PySem.W.Frag) (P : List PyData → List PyData → Prop) : Sp := spP K fun _ ds R => ∃ d, P ds d ∧ R = rNl K d
theorem ev_c {x : Str} {k j : Nat} {P : Hp → List PyData → RR → Prop} (c : C8.Cal X.prog X.w X.K X.mg X.base k x (spP X.K P) []) (hr : Room j X.A) (hg : Gl X x) (ha : EvA X (e :: es) Δ S ds) (hP : ∀ G H, S.p G H → P G ds R) (hR : Back R := by first | exact back_at | exact back_nl) (hk : k ≤ j := by decide)
    (hdb : (x == ("__debug__" : Str)) = false := by decide) (he : starEach (e :: es) X.env = (false, eval e X.env) :: starEach es X.env := by rfl) (hpl : (backTo pos (starEach es X.env)).any (·.1) = false := by rfl) :
    EvR X (.Call (.Name x p) (e :: es) [] pos) Δ S R :=
  ev_pe (C8.pe_c c hr hk hg (pa_ev X _) hdb he hpl) fun σ G H Q a b c q => ⟨Δ, S, ds, G, ha, a, b, c, fun vs G1 H1 g p r1 => by
    show spP X.K P (vs ++ []) H1 Q _
    rw [List.append_nil]
    exact ⟨G1, ds, R, g.sub, r1, hP G1 H1 p, fun v G2 H2 g2 s2 r2 => q v G2 H2 (g.trans g2) (S.cl g2 s2 p) (hR _ _ _ _ _ _ _ g r2)⟩⟩
/-- any promise -/
theorem ev_cS {x : Str} {k j : Nat} {sp : Sp} (c : C8.Cal X.prog X.w X.K X.mg X.base k x sp []) (hr : Room j X.A) (hg : Gl X x) (ha : EvA X (e :: es) Δ S ds)
    (hP : ∀ (G H : Hp) (vs : List V) (Q : VK), Same G H → S.p G H → Ats X.K G vs ds → (∀ v G2 H2, Gr G H G2 H2 → S.p G2 H2 → R G H v G2 H2 → Q v H2) → sp vs H Q E0) (hR : Back R := by first | exact back_at | exact back_nl) (hk : k ≤ j := by decide)
    (hdb : (x == ("__debug__" : Str)) = false := by decide) (he : starEach (e :: es) X.env = (false, eval e X.env) :: starEach es X.env := by rfl) (hpl : (backTo pos (starEach es X.env)).any (·.1) = false := by rfl) :
    EvR X (.Call (.Name x p) (e :: es) [] pos) Δ S R :=
  ev_pe (C8.pe_c c hr hk hg (pa_ev X _) hdb he hpl) fun σ G H Q a b c q => ⟨Δ, S, ds, G, ha, a, b, c, fun vs G1 H1 g p r1 => by
    show sp (vs ++ []) H1 Q _
    rw [List.append_nil]
    exact hP G1 H1 vs Q g.sub p r1 fun v G2 H2 g2 p2 r2 => q v G2 H2 (g.trans g2) p2 (hR _ _ _ _ _ _ _ g r2)⟩

/-! ### subscripts -/
def IxD (X : Cx) (S : As) (d1 d2 : PyData) (R : RR) : Prop :=
  ∃ r : R2, IxR X r ∧ ∀ (G H : Hp) (x y : V) (Q : VK), Same G H → S.p G H → At X.K G x d1 → At X.K G y d2 → (∀ v G2 H2, Gr G H G2 H2 → S.p G2 H2 → R G H v G2 H2 → Q v H2) → r x y H Q
theorem ev_ix (ho : IxD X S d1 d2 R) (ha : Ev X a Δ S d1) (hb : Ev X b Δ S d2) (hR : Back R := by first | exact back_at | exact back_nl) (hs : PlainIx b := by exact fun _ _ => rfl) : EvR X (.Subscript a b pos) Δ S R := by
  obtain ⟨r, h1, h2⟩ := ho
  exact ev_pe (pe_ix h1 (pe_ev X a) (pe_ev X b) hs) fun σ G H Q a' b' c' q => two ha hb a' b' c' fun x y G1 H1 g p e1 e2 =>
    h2 G1 H1 x y Q g.sub p e1 e2 fun v G2 H2 g2 p2 r2 => q v G2 H2 (g.trans g2) p2 (hR _ _ _ _ _ _ _ g r2)
theorem atI_nat' {α : Type} {xs : List α} {j : Nat} {x : α} (h : xs[j]? = some x) : atI xs (j : Int) = some x := by
  have hj : j < xs.length := (List.getElem?_eq_some_iff.mp h).1
  unfold atI ixN
  rw [if_pos (Int.natCast_nonneg j), if_pos (by omega)]
  exact h
theorem atI_last {α : Type} {xs : List α} {x : α} (h : xs[xs.length - 1]? = some x) : atI xs (-1) = some x := by
  have hj : xs.length - 1 < xs.length := (List.getElem?_eq_some_iff.mp h).1
  unfold atI ixN
  rw [if_neg (by omega), if_pos (by omega)]
  have : (-1 + (xs.length : Int)).toNat = xs.length - 1 := by omega
  show xs[(-1 + (xs.length : Int)).toNat]? = some x
  rw [this]; exact h
theorem Ats.atI {K : PySem.W.Frag} {G : Hp} {vs : List V} {i : Int} (h : Ats K G vs ds) (e : L2.atI ds i = some d) : ∃ v, L2.atI vs i = some v ∧ At K G v d := by
  unfold L2.atI at e ⊢
  rw [h.len]
  cases q : ixN ds.length i with
  | none => rw [q] at e; cases e
  | some j =>
    rw [q] at e
    exact h.get (i := j) e
theorem ixd_list {i : Int} (e : atI ds i = some d) : IxD X S (.list ds) (.int i) (rAt X.K d) :=
  ⟨_, ix_list, fun G H x y Q b c h1 h2 q => by
    cases h1 with
    | lst hs ha =>
      cases h2
      obtain ⟨v, e1, e2⟩ := ha.atI e
      exact ⟨_, _, _, _, rfl, rfl, Same_l b (SqL.of hs), e1, q v G H (.refl b) c e2⟩⟩
theorem ixd_tup {i : Int} (e : atI ds i = some d) : IxD X S (.tuple ds) (.int i) (rAt X.K d) :=
  ⟨_, ix_tup, fun G H x y Q b c h1 h2 q => by
    cases h1 with
    | tup hs ha =>
      cases h2
      obtain ⟨v, e1, e2⟩ := ha.atI e
      exact ⟨_, _, _, _, rfl, rfl, SqT.of (b _ _ hs), e1, q v G H (.refl b) c e2⟩⟩
/-! slices -/
def EvO (X : Cx) (e : Option Expr) (Δ : De) (S : As) (o : Option Int) : Prop :=
  ∃ t : TO, PO X e t ∧ ∀ (σ : L2.St) (G H : Hp) (Q : Option Int → Hp → Prop), EnvOk X.K G σ Δ → Same G H → S.p G H → (∀ G2 H2, Gr G H G2 H2 → S.p G2 H2 → Q o H2) → t σ H Q
theorem eo_none : EvO X none Δ S none := ⟨_, po_none, fun σ G H Q a b c q => q G H (.refl b) c⟩
theorem eo_some {i : Int} (h : Ev X e Δ S (.int i)) : EvO X (some e) Δ S (some i) := ⟨_, po_some (pe_ev X e), fun σ G H Q a b c q => ⟨Δ, S, _, G, h, a, b, c, fun v G2 H2 g p r => by cases r; exact ⟨i, rfl, q G2 H2 g p⟩⟩⟩
def SlD (X : Cx) (S : As) (d1 : PyData) (lo hi : Option Int) (R : RR) : Prop :=
  ∃ r, SlR X r ∧ ∀ (G H : Hp) (x : V) (Q : VK), Same G H → S.p G H → At X.K G x d1 → (∀ v G2 H2, Gr G H G2 H2 → S.p G2 H2 → R G H v G2 H2 → Q v H2) → r x lo hi H Q
theorem ev_sl {lo hi : Option Expr} {l u : Option Int} {p2 : Pos} (ho : SlD X S d1 l u R) (ha : Ev X a Δ S d1) (hl : EvO X lo Δ S l) (hu : EvO X hi Δ S u) (hR : Back R := by first | exact back_at | exact back_nl) : EvR X (.Subscript a (.Slice lo hi none p2) pos) Δ S R := by
  obtain ⟨r, h1, h2⟩ := ho
  obtain ⟨tl, l1, l2⟩ := hl
  obtain ⟨tu, u1, u2⟩ := hu
  exact ev_pe (pe_slice h1 (pe_ev X a) l1 u1) fun σ G H Q a' b' c' q => ⟨Δ, S, _, G, ha, a', b', c', fun x G1 H1 g p r1 =>
    l2 σ G1 H1 _ (a'.up g.gx) g.sub p fun G2 H2 g2 p2 => u2 σ G2 H2 _ (a'.up (g.gx.trans g2.gx)) g2.sub p2 fun G3 H3 g3 p3 =>
      h2 G3 H3 x Q g3.sub p3 (r1.up (g2.gx.trans g3.gx)) fun v G4 H4 g4 p4 r4 => q v G4 H4 (((g.trans g2).trans g3).trans g4) p4 (hR _ _ _ _ _ _ _ ((g.trans g2).trans g3) r4)⟩
/-- a slice -/
def cutD {α : Type} (xs : List α) (lo hi : Option Int) : List α := (xs.drop (HT.sIx xs.length 0 lo)).take (HT.sIx xs.length xs.length hi - HT.sIx xs.length 0 lo)
theorem Ats.cut {K : PySem.W.Frag} {G : Hp} {vs : List V} {lo hi : Option Int} (h : Ats K G vs ds) : Ats K G (cutV vs lo hi) (cutD ds lo hi) := by
  unfold cutV cutD
  rw [h.len]
  exact (h.drop _).take _
theorem sld_list {lo hi : Option Int} : SlD X S (.list ds) lo hi (rNl X.K (cutD ds lo hi)) :=
  ⟨_, sl_list, fun G H x Q b c h1 q => by
    cases h1 with
    | lst hs ha =>
      refine ⟨_, _, rfl, Same_l b (SqL.of hs), fun p hp => ?_⟩
      obtain ⟨g2, p2⟩ := layH (o := .lst (cutV _ lo hi)) (.refl b) c hp
      exact q _ _ _ g2 p2 ⟨p, _, rfl, hp, b.free hp, upd_same, ha.cut⟩⟩
/-- a slice of the script -/
theorem sld_scr {lo hi : Option Int} : SlD X S (scrD ds) lo hi (rNl X.K (cutD ds lo hi)) :=
  ⟨_, sl_list, fun G H x Q b c h1 q => by
    cases h1 with
    | scr hs ha =>
      refine ⟨_, _, rfl, Same_l b hs, fun p hp => ?_⟩
      obtain ⟨g2, p2⟩ := layH (o := .lst (cutV _ lo hi)) (.refl b) c hp
      exact q _ _ _ g2 p2 ⟨p, _, rfl, hp, b.free hp, upd_same, ha.cut⟩⟩
theorem cut_full {α : Type} {xs : List α} {lo hi : Option Int} (h : HT.sIx xs.length 0 lo = 0 ∧ HT.sIx xs.length xs.length hi = xs.length) : cutD xs lo hi = xs := by
  unfold cutD
  rw [h.1, h.2]
  simp
theorem sld_tup {lo hi : Option Int} : SlD X S (.tuple ds) lo hi (rAt X.K (.tuple (cutD ds lo hi))) :=
  ⟨_, sl_tupA, fun G H x Q b c h1 q => by
    cases h1 with
    | tup hs ha =>
      have hl := ha.len
      refine ⟨_, _, rfl, SqT.of (b _ _ hs), fun z => ?_, fun z p hp => ?_⟩
      · rw [hl] at z
        have := cut_full (xs := ds) z
        exact q _ G H (.refl b) c (.tup hs (by rw [this]; exact ha))
      · obtain ⟨g2, p2⟩ := lay (o := .tup (cutV _ lo hi)) (.refl b) c hp
        exact q _ _ _ g2 p2 (.tup upd_same (ha.cut.up (same_upd (b.free hp))))⟩

/-! ### operations on ints -/
theorem opd_I {f : Value → Value → Sem Value} {g : Int → Int → V} {i j : Int} (ho : OpR X f (rI0 g)) (hd : ∀ G, At X.K G (g i j) d) : OpD X f S (.int i) (.int j) (rAt X.K d) :=
  ⟨_, ho, fun G H x y Q b c h1 h2 q => by cases h1; cases h2; exact ⟨i, j, rfl, rfl, q _ G H (.refl b) c (hd G)⟩⟩
theorem opd_C {f : Value → Value → Sem Value} {C : Int → Int → Prop} {g : Int → Int → V} {i j : Int} (ho : OpR X f (rI C g)) (hC : C i j) (hd : ∀ G, At X.K G (g i j) d) : OpD X f S (.int i) (.int j) (rAt X.K d) :=
  ⟨_, ho, fun G H x y Q b c h1 h2 q => by cases h1; cases h2; exact ⟨i, j, rfl, rfl, hC, q _ G H (.refl b) c (hd G)⟩⟩
variable {i j : Int}
theorem od_add : OpD X (binaryOp .Add) S (.int i) (.int j) (rAt X.K (.int (i + j))) := opd_I op_add fun _ => .int _
theorem od_sub : OpD X (binaryOp .Sub) S (.int i) (.int j) (rAt X.K (.int (i - j))) := opd_I op_sub fun _ => .int _
theorem od_mul (h : CMul i j) : OpD X (binaryOp .Mult) S (.int i) (.int j) (rAt X.K (.int (i * j))) := opd_C op_mul h fun _ => .int _
theorem od_mod (h : 0 < j) : OpD X (binaryOp .Mod) S (.int i) (.int j) (rAt X.K (.int (i % j))) := opd_C op_mod h fun _ => .int _
theorem od_fdiv (h : CDiv i j) : OpD X (binaryOp .FloorDiv) S (.int i) (.int j) (rAt X.K (.int (i / j))) := opd_C op_fdiv h fun _ => .int _
theorem od_and : OpD X (binaryOp .BitAnd) S (.int i) (.int j) (rAt X.K (.int (Builtin.bitAnd i j))) := opd_I op_and fun _ => .int _
theorem od_lt : OpD X (compareOp .Lt) S (.int i) (.int j) (rAt X.K (.bool (decide (i < j)))) := opd_I op_lt fun _ => .bl _
theorem od_le : OpD X (compareOp .LtE) S (.int i) (.int j) (rAt X.K (.bool (decide (i ≤ j)))) := opd_I op_le fun _ => .bl _
theorem od_gt : OpD X (compareOp .Gt) S (.int i) (.int j) (rAt X.K (.bool (decide (j < i)))) := opd_I op_gt fun _ => .bl _
theorem od_ge : OpD X (compareOp .GtE) S (.int i) (.int j) (rAt X.K (.bool (decide (j ≤ i)))) := opd_I op_ge fun _ => .bl _
theorem od_eqI : OpD X (compareOp .Eq) S (.int i) (.int j) (rAt X.K (.bool (decide (i = j)))) :=
  ⟨_, op_eq, fun G H x y Q b c h1 h2 q => by
    cases h1; cases h2
    refine ⟨rfl, q _ G H (.refl b) c ?_⟩
    have : decide (V.int i = V.int j) = decide (i = j) := by simp
    rw [this]; exact .bl _⟩
theorem od_neI : OpD X (compareOp .NotEq) S (.int i) (.int j) (rAt X.K (.bool (!decide (i = j)))) :=
  ⟨_, op_ne, fun G H x y Q b c h1 h2 q => by
    cases h1; cases h2
    refine ⟨rfl, q _ G H (.refl b) c ?_⟩
    have : decide (V.int i = V.int j) = decide (i = j) := by simp
    rw [this]; exact .bl _⟩
theorem od_eqS {x y : Str} : OpD X (compareOp .Eq) S (.str x) (.str y) (rAt X.K (.bool (decide (x = y)))) :=
  ⟨_, op_eq, fun G H u v Q b c h1 h2 q => by
    cases h1; cases h2
    refine ⟨rfl, q _ G H (.refl b) c ?_⟩
    have : decide (V.str x = V.str y) = decide (x = y) := by simp
    rw [this]; exact .bl _⟩
theorem ud_neg : UnD X (unaryOp .USub) S (.int i) (rAt X.K (.int (-i))) := ⟨_, un_neg, fun G H x Q b c h q => by cases h; exact ⟨i, rfl, q _ G H (.refl b) c (.int _)⟩⟩
theorem od_isN : OpD X (compareOp .Is) S d .none (rAt X.K (.bool (match d with | .none => true | _ => false))) :=
  ⟨_, op_isN, fun G H x y Q b c h1 h2 q => by
    cases h2
    refine ⟨rfl, q _ G H (.refl b) c ?_⟩
    cases h1 <;> exact .bl _⟩
theorem od_notN : OpD X (compareOp .IsNot) S d .none (rAt X.K (.bool (match d with | .none => false | _ => true))) :=
  ⟨_, op_notN, fun G H x y Q b c h1 h2 q => by
    cases h2
    refine ⟨rfl, q _ G H (.refl b) c ?_⟩
    cases h1 <;> exact .bl _⟩
/-- tuples put together -/
theorem od_catT {es : List PyData} (hl : ds.length + es.length ≤ 1000) : OpD X (binaryOp .Add) S (.tuple ds) (.tuple es) (rAt X.K (.tuple (ds ++ es))) :=
  ⟨_, op_catA, fun G H x y Q b c h1 h2 q => by
    cases h1 with
    | tup hs ha =>
      cases h2 with
      | tup hs' ha' =>
        refine ⟨_, _, _, _, rfl, rfl, SqT.of (b _ _ hs), SqT.of (b _ _ hs'), by rw [ha.len, ha'.len]; exact Nat.le_trans hl (by decide), fun z => ?_, fun z z' => ?_, fun z z' p hp => ?_⟩
        · have e : ds = [] := List.eq_nil_of_length_eq_zero (by rw [← ha.len, z]; rfl)
          subst e
          exact q _ G H (.refl b) c (.tup hs' ha')
        · have e : es = [] := List.eq_nil_of_length_eq_zero (by rw [← ha'.len, z']; rfl)
          subst e
          exact q _ G H (.refl b) c (by rw [List.append_nil]; exact .tup hs ha)
        · obtain ⟨g2, p2⟩ := lay (o := .tup _) (.refl b) c hp
          exact q _ _ _ g2 p2 (.tup upd_same ((ha.app ha').up (same_upd (b.free hp))))⟩
end

/-! ### what may still change, read -/
/-- the value shows the datum as long as S stands -/
def rM (K : PySem.W.Frag) (S : As) (d : PyData) : RR := fun _ _ v G2 H2 => ∀ G' H', Gr G2 H2 G' H' → S.p G' H' → At K H' v d
abbrev EvM (X : Cx) (e : Expr) (Δ : De) (S : As) (d : PyData) : Prop := EvR X e Δ S (rM X.K S d)
section
variable {X : Cx} {e a b : Expr} {es : List Expr} {Δ : De} {S : As} {R : RR} {d d1 d2 : PyData} {ds : List PyData} {pos p : Pos}
theorem EvR.m (h : Ev X e Δ S d) : EvM X e Δ S d := h.imp fun G H v G2 H2 g p r G' H' g' p' => r.up (g'.gx.trans g'.sub)
theorem EvR.mu {q : Addr} (h : Ev X e Δ S (ob q)) (hS : S.le (.acc X.K q ds)) : EvM X e Δ S (.list ds) := h.imp fun G H v G2 H2 g p r G' H' g' p' => by
  obtain ⟨_, xs, h1, h2⟩ := hS _ _ p'
  rw [At.obj_eq r]
  exact .lst h1 (h2.up g'.sub)
/-- an operation whose answer is flat -/
def OpF (X : Cx) (f : Value → Value → Sem Value) (d1 d2 : PyData) (u : V) : Prop := ∃ r : R2, OpR X f r ∧ ∀ (H : Hp) (x y : V) (Q : VK), At X.K H x d1 → At X.K H y d2 → Q u H → r x y H Q
theorem ev_opF {op : Operator} {u : V} (ho : OpF X (binaryOp op) d1 d2 u) (ha : EvM X a Δ S d1) (hb : EvM X b Δ S d2) (hu : ∀ G, At X.K G u d) : Ev X (.BinOp a op b pos) Δ S d := by
  obtain ⟨r, h1, h2⟩ := ho
  exact ev_pe (pe_op h1 (pe_ev X a) (pe_ev X b)) fun σ G H Q a' b' c' q => ⟨Δ, S, _, G, ha, a', b', c', fun x G1 H1 g1 p1 r1 => ⟨Δ, S, _, G1, hb, a'.up g1.gx, g1.sub, p1, fun y G2 H2 g2 p2 r2 =>
    h2 H2 x y Q (r1 G2 H2 g2 p2) (r2 G2 H2 (.refl g2.sub) p2) (q _ G2 H2 (g1.trans g2) p2 (hu G2))⟩⟩
theorem ev_cmpF {op : CmpOp} {u : V} (ho : OpF X (compareOp op) d1 d2 u) (ha : EvM X a Δ S d1) (hb : EvM X b Δ S d2) (hu : ∀ G, At X.K G u d) (hm : behindInMarks op b = false := by first | exact nomark _ | rfl | with_unfolding_all rfl) : Ev X (.Compare a [op] [b] pos) Δ S d := by
  obtain ⟨r, h1, h2⟩ := ho
  exact ev_pe (pe_cmpR h1 (pe_ev X a) (pe_ev X b) hm) fun σ G H Q a' b' c' q => ⟨Δ, S, _, G, ha, a', b', c', fun x G1 H1 g1 p1 r1 => ⟨Δ, S, _, G1, hb, a'.up g1.gx, g1.sub, p1, fun y G2 H2 g2 p2 r2 =>
    h2 H2 x y Q (r1 G2 H2 g2 p2) (r2 G2 H2 (.refl g2.sub) p2) (q _ G2 H2 (g1.trans g2) p2 (hu G2))⟩⟩
theorem evt_cmpF {op : CmpOp} {k : Bool} (ho : OpF X (compareOp op) d1 d2 (.bl k)) (ha : EvM X a Δ S d1) (hb : EvM X b Δ S d2) (hm : behindInMarks op b = false := by first | exact nomark _ | rfl | with_unfolding_all rfl) : EvT X (.Compare a [op] [b] pos) Δ S k := by
  obtain ⟨r, h1, h2⟩ := ho
  exact evt_pt (pt_cmpR h1 (pe_ev X a) (pe_ev X b) hm) fun σ G H Q a' b' c' q => ⟨Δ, S, _, G, ha, a', b', c', fun x G1 H1 g1 p1 r1 => ⟨Δ, S, _, G1, hb, a'.up g1.gx, g1.sub, p1, fun y G2 H2 g2 p2 r2 =>
    h2 H2 x y _ (r1 G2 H2 g2 p2) (r2 G2 H2 (.refl g2.sub) p2) ⟨k, rfl, q G2 H2 (g1.trans g2) p2⟩⟩⟩
theorem of_eqD (hu : X.A.units + 64 < cLine) (s1 : SeqAt.shaped d1 = true) (s2 : SeqAt.shaped d2 = true) : OpF X (compareOp .Eq) d1 d2 (.bl (PyData.eqv d1 d2)) :=
  ⟨_, op_eqD hu, fun H x y Q h1 h2 q => ⟨d1, d2, At.dp _ _ (SeqAt.canLay_of_shaped s1) h1, At.dp _ _ (SeqAt.canLay_of_shaped s2) h2, s1, s2, q⟩⟩
theorem of_neD (hu : X.A.units + 64 < cLine) (s1 : SeqAt.shaped d1 = true) (s2 : SeqAt.shaped d2 = true) : OpF X (compareOp .NotEq) d1 d2 (.bl (!PyData.eqv d1 d2)) :=
  ⟨_, op_neD hu, fun H x y Q h1 h2 q => ⟨d1, d2, At.dp _ _ (SeqAt.canLay_of_shaped s1) h1, At.dp _ _ (SeqAt.canLay_of_shaped s2) h2, s1, s2, q⟩⟩
theorem of_in (hu : X.A.units + 65 < cLine) (s1 : SeqAt.shaped d1 = true) (s2 : SeqAt.shaped (.list ds) = true) : OpF X (compareOp .In) d1 (.list ds) (.bl (ds.any fun z => PyData.eqv z d1)) :=
  ⟨_, op_inD hu, fun H x y Q h1 h2 q => ⟨d1, ds, At.dp _ _ (SeqAt.canLay_of_shaped s1) h1, At.dp _ _ (SeqAt.canLay_of_shaped s2) h2, s1, s2, q⟩⟩
theorem of_notIn (hu : X.A.units + 65 < cLine) (s1 : SeqAt.shaped d1 = true) (s2 : SeqAt.shaped (.list ds) = true) : OpF X (compareOp .NotIn) d1 (.list ds) (.bl (!ds.any fun z => PyData.eqv z d1)) :=
  ⟨_, op_notInD hu, fun H x y Q h1 h2 q => ⟨d1, ds, At.dp _ _ (SeqAt.canLay_of_shaped s1) h1, At.dp _ _ (SeqAt.canLay_of_shaped s2) h2, s1, s2, q⟩⟩
/-- an item of what may still change -/
theorem ev_ixM {q : Addr} {i : Int} (hS : S.le (.acc X.K q ds)) (e : atI ds i = some d) (ha : Ev X a Δ S (ob q)) (hb : Ev X b Δ S (.int i)) (hs : PlainIx b := by exact fun _ _ => rfl) : Ev X (.Subscript a b pos) Δ S d :=
  ev_pe (pe_ix ix_list (pe_ev X a) (pe_ev X b) hs) fun σ G H Q a' b' c' k => two ha hb a' b' c' fun x y G1 H1 g p e1 e2 => by
    obtain ⟨_, xs, h1, h2⟩ := hS _ _ p
    rw [At.obj_eq e1]
    cases e2
    obtain ⟨v, f1, f2⟩ := h2.atI e
    exact ⟨_, _, _, _, rfl, rfl, SqL.of h1, f1, k v G1 H1 g p f2⟩
/-- len of what may still change, or not -/
theorem ev_len {x : Str} (hx : x = "len") (hg : Gl X x) (hm : X.mg x = none) (ha : EvM X a Δ S (.list ds)) (he : starEach [a] X.env = (false, eval a X.env) :: starEach [] X.env := by rfl) (hpl : (backTo pos (starEach [] X.env)).any (·.1) = false := by rfl) :
    Ev X (.Call (.Name x p) [a] [] pos) Δ S (.int ds.length) := by
  subst hx
  exact ev_pe (pe_callB call_len_seq hg hm PySem.boot_len (pa_cons (pe_ev X a) pa_nil he) (by decide) (by decide) he hpl) fun σ G H Q a' b' c' q => ⟨Δ, S, _, G, ha, a', b', c', fun v G1 H1 g p r => by
    have h := r G1 H1 (.refl g.sub) p
    cases h with
    | lst hs hd => exact ⟨_, _, rfl, .inl (SqL.of hs), by rw [hd.len]; exact q _ G1 H1 g p (.int _)⟩⟩
theorem ev_lenT {x : Str} (hx : x = "len") (hg : Gl X x) (hm : X.mg x = none) (ha : Ev X a Δ S (.tuple ds)) (he : starEach [a] X.env = (false, eval a X.env) :: starEach [] X.env := by rfl) (hpl : (backTo pos (starEach [] X.env)).any (·.1) = false := by rfl) :
    Ev X (.Call (.Name x p) [a] [] pos) Δ S (.int ds.length) := by
  subst hx
  exact ev_pe (pe_callB call_len_seq hg hm PySem.boot_len (pa_cons (pe_ev X a) pa_nil he) (by decide) (by decide) he hpl) fun σ G H Q a' b' c' q => ⟨Δ, S, _, G, ha, a', b', c', fun v G1 H1 g p r => by
    cases r with
    | tup hs hd => exact ⟨_, _, rfl, .inr (SqT.of (g.sub _ _ hs)), by rw [hd.len]; exact q _ G1 H1 g p (.int _)⟩⟩
end
end DL
namespace DL
open PySem PySem.Spec PyProof.Rows L2

/-! ### what is walked -/
structure Walk (K : PySem.W.Frag) (J : It) (G1 : Hp) (ds : List PyData) : Prop where
  stop : ∀ (G H : Hp), Same G1 G → Same G H → J.stop ds.length H
  go : ∀ (i : Nat) (d : PyData) (G H : Hp), Same G1 G → Same G H → ds[i]? = some d → J.go i H ∧ ∀ x H', J.yld i H x H' → ∃ G', Gr G H G' H' ∧ Same H H' ∧ At K G' x d
def ItD (X : Cx) (tg iter : Expr) (Δ : De) (S : As) (ds : List PyData) : Prop :=
  ∃ wi, PI X tg iter wi ∧ ∀ (σ : L2.St) (G H : Hp) (R : It → Hp → Prop), EnvOk X.K G σ Δ → Same G H → S.p G H → (∀ J G1 H1, Gr G H G1 H1 → S.p G1 H1 → Walk X.K J G1 ds → R J H1) → wi σ H R
section
variable {X : Cx} {e e2 tg : Expr} {es : List Expr} {Δ : De} {S : As} {R : RR} {d d1 d2 : PyData} {ds ds2 : List PyData} {pos p tpos : Pos}
theorem it_list (h : Ev X e Δ S (.list ds)) : ItD X tg e Δ S ds :=
  ⟨_, pi_list (pe_ev X e), fun σ G H R a b c q => ⟨Δ, S, _, G, h, a, b, c, fun v G1 H1 g p r => by
    cases r with
    | lst hs hd =>
      have hs : SqL X.K G1 _ _ := SqL.of hs
      refine ⟨_, rfl, ⟨_, g.sub.seq hs⟩, q _ G1 H1 g p ⟨fun G2 H2 s1 s2 => ⟨_, s2.seq (s1.seq hs), by rw [hd.len]; exact Nat.le_refl _⟩, fun i d G2 H2 s1 s2 e1 => ?_⟩⟩
      obtain ⟨v, f1, f2⟩ := hd.get e1
      refine ⟨⟨_, v, s2.seq (s1.seq hs), f1⟩, fun x H' y => ?_⟩
      obtain ⟨rfl, y⟩ := y
      have := y _ (s2.seq (s1.seq hs))
      rw [f1] at this; cases this
      exact ⟨G2, .refl s2, Same.refl _, f2.up s1⟩⟩⟩
theorem it_tup (h : Ev X e Δ S (.tuple ds)) : ItD X tg e Δ S ds :=
  ⟨_, pi_tup (pe_ev X e), fun σ G H R a b c q => ⟨Δ, S, _, G, h, a, b, c, fun v G1 H1 g p r => by
    cases r with
    | tup hs hd =>
      refine ⟨_, rfl, ⟨_, SqT.of (g.sub _ _ hs)⟩, q _ G1 H1 g p ⟨fun G2 H2 s1 s2 => ⟨_, SqT.of (s2 _ _ (s1 _ _ hs)), by rw [hd.len]; exact Nat.le_refl _⟩, fun i d G2 H2 s1 s2 e1 => ?_⟩⟩
      obtain ⟨v, f1, f2⟩ := hd.get e1
      refine ⟨⟨_, v, SqT.of (s2 _ _ (s1 _ _ hs)), f1⟩, fun x H' y => ?_⟩
      obtain ⟨rfl, y⟩ := y
      have := y _ (SqT.of (s2 _ _ (s1 _ _ hs)))
      rw [f1] at this; cases this
      exact ⟨G2, .refl s2, Same.refl _, f2.up s1⟩⟩⟩
theorem walk_range {K : PySem.W.Frag} {G1 : Hp} (lo : Int) (n : Nat) : Walk K (Itr lo n) G1 ((List.range n).map fun k : Nat => .int (lo + k)) :=
  ⟨fun G H _ _ => by show n ≤ _; simp, fun i d G H s1 s2 e => by
    rw [List.getElem?_map] at e
    cases q : (List.range n)[i]? with
    | none => rw [q] at e; cases e
    | some j =>
      rw [q] at e
      cases e
      have hi : i < n := by
        have := (List.getElem?_eq_some_iff.mp q).1
        simpa using this
      rw [List.getElem?_range hi] at q
      cases q
      refine ⟨hi, fun x H' y => ?_⟩
      obtain ⟨rfl, rfl⟩ := y
      exact ⟨G, .refl s2, Same.refl _, .int _⟩⟩
theorem it_range1 {n : Int} (hg : Gl X "range") (hm : X.mg "range" = none) (h : Ev X e Δ S (.int n)) (h1 : -(2 ^ 62) ≤ n) (h2 : n < 2 ^ 62) (hs' : starEach [e] X.env = (false, eval e X.env) :: starEach [] X.env := by rfl) (hs : starEach [e] X.env = [(false, eval e X.env)] := by rfl) :
    ItD X tg (.Call (.Name "range" p) [e] [] pos) Δ S ((List.range n.toNat).map fun k : Nat => .int (0 + k)) :=
  ⟨_, pi_range1 hg hm (pa_cons (pe_ev X e) pa_nil hs') hs, fun σ G H R a b c q => ⟨Δ, S, _, G, h, a, b, c, fun v G1 H1 g p r => by
    cases r
    exact ⟨n, rfl, h1, h2, q _ G1 H1 g p (walk_range 0 _)⟩⟩⟩
theorem it_range2 {m n : Int} (hg : Gl X "range") (hm : X.mg "range" = none) (h : Ev X e Δ S (.int m)) (h' : Ev X e2 Δ S (.int n)) (hb : -(2 ^ 62) ≤ m ∧ m < 2 ^ 62 ∧ -(2 ^ 62) ≤ n ∧ n < 2 ^ 62)
    (hs1 : starEach [e, e2] X.env = (false, eval e X.env) :: starEach [e2] X.env := by rfl) (hs2' : starEach [e2] X.env = (false, eval e2 X.env) :: starEach [] X.env := by rfl) (hs : starEach [e, e2] X.env = [(false, eval e X.env), (false, eval e2 X.env)] := by rfl) (hs2 : starEach [e2] X.env = [(false, eval e2 X.env)] := by rfl) :
    ItD X tg (.Call (.Name "range" p) [e, e2] [] pos) Δ S ((List.range (n - m).toNat).map fun k : Nat => .int (m + k)) :=
  ⟨_, pi_range2 hg hm (pa_cons (pe_ev X e) (pa_cons (pe_ev X e2) pa_nil hs2') hs1) hs hs2, fun σ G H R a b c q => ⟨Δ, S, _, G, h, a, b, c, fun v G1 H1 g p r => by
    cases r
    exact ⟨Δ, S, _, G1, h', a.up g.gx, g.sub, p, fun v G2 H2 g2 p2 r2 => by
      cases r2
      exact ⟨m, n, rfl, hb, q _ G2 H2 (g.trans g2) p2 (walk_range m _)⟩⟩⟩⟩
theorem it_enum {elts : List Expr} {kk : Nat} (hg : Gl X "enumerate") (hm : X.mg "enumerate" = none) (h : Ev X e Δ S (.list ds)) (hs' : starEach [e] X.env = (false, eval e X.env) :: starEach [] X.env := by rfl) (hs : starEach [e] X.env = [(false, eval e X.env)] := by rfl) :
    ItD X (.Tuple elts kk tpos) (.Call (.Name "enumerate" p) [e] [] pos) Δ S (ds.zipIdx.map fun z => .tuple [.int (z.2 : Nat), z.1]) :=
  ⟨_, pi_enum hg hm (pa_cons (pe_ev X e) pa_nil hs') hs, fun σ G H R a b c q => ⟨Δ, S, _, G, h, a, b, c, fun v G1 H1 g p r => by
    cases r with
    | lst hs hd =>
      have hs : SqL X.K G1 _ _ := SqL.of hs
      refine ⟨_, _, rfl, g.sub.seq hs, q _ G1 H1 g p ⟨fun G2 H2 s1 s2 => ⟨_, s2.seq (s1.seq hs), by simp [hd.len]⟩, fun i d G2 H2 s1 s2 e1 => ?_⟩⟩
      rw [List.getElem?_map, List.getElem?_zipIdx] at e1
      cases q : ds[i]? with
      | none => rw [q] at e1; cases e1
      | some d0 =>
        rw [q] at e1
        cases e1
        obtain ⟨v, f1, f2⟩ := hd.get q
        refine ⟨⟨_, v, s2.seq (s1.seq hs), f1⟩, fun x H' y => ?_⟩
        obtain ⟨T, x', rfl, hT, rfl, y⟩ := y
        have := y _ (s2.seq (s1.seq hs))
        rw [f1] at this; cases this
        refine ⟨upd G2 T (.tup [.int (i : Nat), v]), .new s2 hT, same_upd hT, .tup upd_same (.cons ?_ (.one ((f2.up s1).up (same_upd (s2.free hT)))))⟩
        rw [Nat.zero_add]
        exact .int _⟩⟩
theorem it_zipL {elts : List Expr} {kk : Nat} (hg : Gl X "zip") (hm : X.mg "zip" = none) (h : Ev X e Δ S (.list ds)) (h' : Ev X e2 Δ S (.list ds2))
    (hs : starEach [e, e2] X.env = (false, eval e X.env) :: starEach [e2] X.env := by rfl) (hs2 : starEach [e2] X.env = (false, eval e2 X.env) :: starEach [] X.env := by rfl) (hpl : (backTo pos (starEach [e2] X.env)).any (·.1) = false := by rfl) :
    ItD X (.Tuple elts kk tpos) (.Call (.Name "zip" p) [e, e2] [] pos) Δ S ((ds.zip ds2).map fun z => .tuple [z.1, z.2]) :=
  ⟨_, pi_zip hg hm (pa_cons (pe_ev X e) (pa_cons (pe_ev X e2) pa_nil hs2) hs) hs hpl, fun σ G H R a b c q => ⟨Δ, S, _, G, h, a, b, c, fun v G1 H1 g p r => ⟨Δ, S, _, G1, h', a.up g.gx, g.sub, p, fun v2 G2 H2 g2 p2 r2 => by
    cases r with
    | lst hx hd =>
      cases r2 with
      | lst hx2 hd2 =>
        have hx : SqL X.K G2 _ _ := SqL.of (g2.gx _ _ hx)
        have hx2 : SqL X.K G2 _ _ := SqL.of hx2
        have hd := hd.up g2.gx
        refine ⟨_, _, _, _, rfl, g2.sub.seq hx, g2.sub.seq hx2, q _ G2 H2 (g.trans g2) p2 ⟨fun G3 H3 s1 s2 => ⟨_, _, s2.seq (s1.seq hx), s2.seq (s1.seq hx2), ?_⟩, fun i d G3 H3 s1 s2 e1 => ?_⟩⟩
        · simp only [List.length_map, List.length_zip]
          rw [hd.len, hd2.len]
          omega
        · rw [List.getElem?_map] at e1
          cases q : (ds.zip ds2)[i]? with
          | none => rw [q] at e1; cases e1
          | some d0 =>
            rw [q] at e1
            cases e1
            obtain ⟨q1, q2⟩ := List.getElem?_zip_eq_some.mp q
            obtain ⟨u, f1, f2⟩ := hd.get q1
            obtain ⟨u2, f1', f2'⟩ := hd2.get q2
            refine ⟨⟨_, _, u, u2, s2.seq (s1.seq hx), s2.seq (s1.seq hx2), f1, f1'⟩, fun x H' y => ?_⟩
            obtain ⟨T, x', y', rfl, hT, rfl, y1, y2⟩ := y
            have := y1 _ (s2.seq (s1.seq hx))
            rw [f1] at this; cases this
            have := y2 _ (s2.seq (s1.seq hx2))
            rw [f1'] at this; cases this
            exact ⟨upd G3 T (.tup [u, u2]), .new s2 hT, same_upd hT, .tup upd_same (.cons ((f2.up s1).up (same_upd (s2.free hT))) (.one ((f2'.up s1).up (same_upd (s2.free hT)))))⟩⟩⟩⟩
end

/-! ### targets -/
def TgS (X : Cx) (tg : Expr) (is : List Nat) (d : PyData) (f : De → De) : Prop :=
  ∀ (pins : List (Addr × Obj)) (s : Shared) (σ : L2.St) (Δ : De) (G H : Hp) (v : V) (u : Value) (Q : L2.St → Hp → Prop), Inv X pins σ H s → RelV v u → EnvOk X.K G σ Δ → Same G H → At X.K G v d →
    (∀ σ', EnvOk X.K G σ' (f Δ) → (∀ vs : List Nat, (∀ i ∈ is, i ∈ vs) → wipe σ' vs = wipe σ vs) → Q σ' H) → wpAny (model X.prog X.w) X.A (assign tg X.env u) (fun _ s' => ∃ σ' H', Inv X pins σ' H' s' ∧ Q σ' H') X.xe s
theorem tgs_pg {X : Cx} {tg : Expr} {is : List Nat} {d : PyData} {f : De → De} {g : TG} (h : PG X tg g)
    (hg : ∀ (σ : L2.St) (Δ : De) (G H : Hp) (v : V) (Q : L2.St → Hp → Prop), EnvOk X.K G σ Δ → Same G H → At X.K G v d → (∀ σ', EnvOk X.K G σ' (f Δ) → (∀ vs : List Nat, (∀ i ∈ is, i ∈ vs) → wipe σ' vs = wipe σ vs) → Q σ' H) → g v σ H Q) : TgS X tg is d f :=
  fun pins s σ Δ G H v u Q I r a b c q => h.run pins s σ H v u Q I r (hg σ Δ G H v Q a b c q)
theorem tg_name {X : Cx} {x : Str} {pos : Pos} {d : PyData} (i : Nat) (hN : X.N.Nodup) (hi : X.N[i]? = some x := by rfl) (hx : Loc X.env.scope x := by first | exact Or.inl rfl | exact Or.inr rfl) (hf : X.fn x = true ∨ X.env.scope.names.lookup x = some .local := by first | exact .inl rfl | exact .inr rfl | assumption) :
    TgS X (.Name x pos) [i] d (fun Δ => Δ.set i (some d)) :=
  tgs_pg (pg_name hN hi hx hf) fun σ Δ G H v Q a b c q => q _ (a.set c) fun vs h => wipe_set (h i (by simp))
/-- names of a tuple: slot by slot -/
inductive Names (X : Cx) : List Expr → List Nat → Prop
  | nil : Names X [] []
  | cons {x : Str} {pos : Pos} {es : List Expr} {i : Nat} {is : List Nat} (hi : X.N[i]? = some x) (hx : Loc X.env.scope x) (hf : X.fn x = true ∨ X.env.scope.names.lookup x = some .local) (h : Names X es is) : Names X (.Name x pos :: es) (i :: is)
theorem nm_cons {X : Cx} {x : Str} {pos : Pos} {es : List Expr} (i : Nat) {is : List Nat} (h : Names X es is) (hi : X.N[i]? = some x := by rfl) (hx : Loc X.env.scope x := by first | exact Or.inl rfl | exact Or.inr rfl) (hf : X.fn x = true ∨ X.env.scope.names.lookup x = some .local := by first | exact .inl rfl | exact .inr rfl | assumption) :
    Names X (.Name x pos :: es) (i :: is) := .cons hi hx hf h
def sets (Δ : De) : List Nat → List PyData → De
  | i :: is, d :: ds => sets (Δ.set i (some d)) is ds
  | _, _ => Δ
theorem names_pgs {X : Cx} (hN : X.N.Nodup) {es : List Expr} {is : List Nat} (n : Names X es is) : ∃ t, PGs X es t ∧ ∀ (ds : List PyData) (σ : L2.St) (Δ : De) (G H : Hp) (vs : List V) (Q : L2.St → Hp → Prop), ds.length = is.length → EnvOk X.K G σ Δ → Ats X.K G vs ds →
    (∀ σ', EnvOk X.K G σ' (sets Δ is ds) → (∀ ws : List Nat, (∀ i ∈ is, i ∈ ws) → wipe σ' ws = wipe σ ws) → Q σ' H) → t vs σ H Q := by
  induction n with
  | nil =>
    refine ⟨_, pgs_nil, fun ds σ Δ G H vs Q hl a b q => ?_⟩
    have e : ds = [] := List.eq_nil_of_length_eq_zero hl
    subst e
    cases b
    exact ⟨rfl, q σ a fun _ _ => rfl⟩
  | @cons x pos es i is hi hx hf n ih =>
    obtain ⟨t, h1, h2⟩ := ih
    refine ⟨_, pgs_cons (pg_name hN hi hx hf) h1, fun ds σ Δ G H vs Q hl a b q => ?_⟩
    cases ds with
    | nil => simp at hl
    | cons d ds =>
      cases b with
      | cons b1 b2 =>
        refine ⟨_, _, rfl, h2 ds _ _ G H _ Q (by simpa using hl) (a.set b1) b2 fun σ' a' w => q σ' a' fun ws hw => ?_⟩
        rw [w ws fun j hj => hw j (List.mem_cons_of_mem _ hj), wipe_set (hw i (by simp))]
theorem tg_tup {X : Cx} {es : List Expr} {k : Nat} {pos : Pos} {is : List Nat} {ds : List PyData} (hN : X.N.Nodup) (hc : X.calm = true) (n : Names X es is) (hl : ds.length = is.length := by rfl) (hn : (assignEach es X.env).length = is.length := by rfl) (hst : (assignEach es X.env).findIdx? (·.1) = none := by rfl) :
    TgS X (.Tuple es k pos) is (.tuple ds) (fun Δ => sets Δ is ds) := by
  obtain ⟨t, h1, h2⟩ := names_pgs hN n
  refine tgs_pg (pg_tup hc h1 hn hst) fun σ Δ G H v Q a b c q => ?_
  cases c with
  | tup hs hd => exact ⟨_, _, rfl, SqT.of (b _ _ hs), by rw [hd.len]; exact hl, h2 ds σ Δ G H _ Q hl a hd q⟩

/-! ### comprehensions -/
abbrev AllB (X : Cx) (scope : Scope) (P : Cx → Prop) : Prop := ∀ (s : Shared) (H : Hp) (C : Addr) (cl : List (Str × Addr)) (fp : List Addr), P (X.blk s H scope (compEnvC scope cl C X.env) fp)
section
variable {X : Cx} {scope : Scope} {e elt tg iter : Expr} {ifs : List Expr} {Δ : De} {S : As} {R : RR}
def tEvB (X : Cx) (scope : Scope) (e : Expr) : TE := fun σ H Q => ∃ Δ S R G, AllB X scope (fun Y => EvR Y e Δ S R) ∧ EnvOk X.K G σ Δ ∧ Same G H ∧ S.p G H ∧ ∀ v G2 H2, Gr G H G2 H2 → S.p G2 H2 → R G H v G2 H2 → Q v H2
theorem pe_evB (X : Cx) (scope : Scope) (e : Expr) (s : Shared) (H : Hp) (C : Addr) (cl : List (Str × Addr)) (fp : List Addr) : PE (X.blk s H scope (compEnvC scope cl C X.env) fp) e (tEvB X scope e) :=
  ⟨fun pins s' σ H' Q I ⟨_, _, _, G, h, a, b, c, q⟩ => h s H C cl fp pins s' σ G H' Q I a b c q⟩
def tTgB (X : Cx) (scope : Scope) (tg : Expr) : TG := fun v σ H Q => ∃ Δ is d f G, AllB X scope (fun Y => TgS Y tg is d f) ∧ EnvOk X.K G σ Δ ∧ Same G H ∧ At X.K G v d ∧ ∀ σ', EnvOk X.K G σ' (f Δ) → (∀ vs : List Nat, (∀ i ∈ is, i ∈ vs) → wipe σ' vs = wipe σ vs) → Q σ' H
theorem pg_tgB (X : Cx) (scope : Scope) (tg : Expr) (s : Shared) (H : Hp) (C : Addr) (cl : List (Str × Addr)) (fp : List Addr) : PG (X.blk s H scope (compEnvC scope cl C X.env) fp) tg (tTgB X scope tg) :=
  ⟨fun pins s' σ H' v u Q I r ⟨_, _, _, _, G, h, a, b, c, q⟩ => h s H C cl fp pins s' σ _ G H' v u Q I r a b c q⟩
/-- a clause's tests -/
def EvTs (X : Cx) (ifs : List Expr) (Δ : De) (S : As) (b : Bool) : Prop :=
  ∀ (pins : List (Addr × Obj)) (s : Shared) (σ : L2.St) (G H : Hp) (Q : Bool → Hp → Prop), Inv X pins σ H s → EnvOk X.K G σ Δ → Same G H → S.p G H → (∀ G2 H2, Gr G H G2 H2 → S.p G2 H2 → Q b H2) →
    wpAny (model X.prog X.w) X.A (forIn ifs true fun c r => if r = true then do let ok ← isTrue c X.env (eval c X.env); pure (ForInStep.yield ok) else pure (ForInStep.yield r)) (TP X pins σ Q) X.xe s
theorem evts_nil : EvTs X [] Δ S true := fun pins s σ G H Q I a b c q => pts_nil.run pins s σ H Q I (q G H (.refl b) c)
theorem evts_one {c : Expr} {b : Bool} (h : EvT X c Δ S b) : EvTs X [c] Δ S b := fun pins s σ G H Q I a b c q => (pts_one (pt_ev X _)).run pins s σ H Q I ⟨Δ, S, _, G, h, a, b, c, q⟩
def tTsB (X : Cx) (scope : Scope) (ifs : List Expr) : TT := fun σ H Q => ∃ Δ S b G, AllB X scope (fun Y => EvTs Y ifs Δ S b) ∧ EnvOk X.K G σ Δ ∧ Same G H ∧ S.p G H ∧ ∀ G2 H2, Gr G H G2 H2 → S.p G2 H2 → Q b H2
theorem pts_tsB (X : Cx) (scope : Scope) (ifs : List Expr) (s : Shared) (H : Hp) (C : Addr) (cl : List (Str × Addr)) (fp : List Addr) : PTs (X.blk s H scope (compEnvC scope cl C X.env) fp) ifs (tTsB X scope ifs) :=
  ⟨fun pins s' σ H' Q I ⟨_, _, _, G, h, a, b, c, q⟩ => h s H C cl fp pins s' σ G H' Q I a b c q⟩
theorem Gr.mut {G H : Hp} {l : Addr} {xs ys : List V} (e : Same G H) (g : G l = none) (h : H l = some (.lst xs)) : Gr G H G (upd H l (.lst ys)) :=
  ⟨Same.refl _, fun b u q => by rw [upd_ne (ne_of_none q g)]; exact e b u q, fun _ q k => absurd q k, fun b o q => by
    by_cases hb : b = l
    · subst hb; exact ⟨_, upd_same, fun ⟨_, z⟩ => by cases z⟩
    · exact ⟨o, by rw [upd_ne hb]; exact q, fun z => z⟩⟩
theorem take_some {α : Type} {l : List α} {i : Nat} {x : α} (h : l[i]? = some x) : l.take (i + 1) = l.take i ++ [x] := by
  rw [List.take_succ, h]; rfl
/-- what a list comprehension makes, as a value or for a name -/
def LcR (X : Cx) (elt tg iter : Expr) (ifs : List Expr) (own : List (Str × Nat)) (scope : Scope) (Δ : De) (S : As) (R : RR) : Prop :=
  ∃ wi, PI X tg iter wi ∧ BlkOk X.N X.env.scope scope own ∧ ∀ (σ : L2.St) (G H : Hp) (Q : VK), EnvOk X.K G σ Δ → Same G H → S.p G H → (∀ v G2 H2, Gr G H G2 H2 → S.p G2 H2 → R G H v G2 H2 → Q v H2) → tLc wi (tTgB X scope tg) (tTsB X scope ifs) (tEvB X scope elt) (own.map (·.2)) σ H Q
theorem ev_lcR {own : List (Str × Nat)} {pos : Pos} (h : LcR X elt tg iter ifs own scope Δ S R) (hc : X.calm = true) (hN : X.N.Nodup) (hs : ∀ x, foldedSetIterable iter X.env x = pure x := by intro _; rfl) : EvR X (.ListComp elt [⟨tg, iter, ifs, 0⟩] scope pos) Δ S R := by
  obtain ⟨wi, w1, ok, w2⟩ := h
  exact ev_pe (pe_lc hc hN w1 ok (pg_tgB X scope tg) (pts_tsB X scope ifs) (pe_evB X scope elt) hs) w2
/-- [elt for tg in iter if ..]: of the items xs those with b, g of each -/
theorem lcl {α : Type} {xs : List α} {enc : α → PyData} {own : List (Str × Nat)} {is : List Nat} (b : α → Bool) (g : α → PyData) (F : α → De → De) (hi : ItD X tg iter Δ S (xs.map enc)) (ok : BlkOk X.N X.env.scope scope own)
    (hz : xs.length ≤ 1000000) (his : ∀ i ∈ is, i ∈ own.map (·.2))
    (htg : ∀ x ∈ xs, AllB X scope fun Y => TgS Y tg is (enc x) (F x))
    (ht : ∀ D es, ¬ S.own D → ∀ x ∈ xs, AllB X scope fun Y => EvTs Y ifs (F x (wipeD Δ (own.map (·.2)))) (S.and (.acc X.K D es)) (b x))
    (he : ∀ D es, ¬ S.own D → ∀ x ∈ xs, b x = true → AllB X scope fun Y => Ev Y elt (F x (wipeD Δ (own.map (·.2)))) (S.and (.acc X.K D es)) (g x)) :
    LcR X elt tg iter ifs own scope Δ S (rNl X.K ((xs.filter b).map g)) := by
  obtain ⟨wi, w1, w2⟩ := hi
  refine ⟨wi, w1, ok, fun σ G H Q ha hb hcS q => ?_⟩
  refine w2 σ G H _ ha hb hcS fun J G1 H1 g1 p1 W D hD => ?_
  have hO : ¬ S.own D := not_own p1 hD
  have hG1 : G1 D = none := g1.sub.free hD
  refine ⟨fun i m H' => m = xs.length - i ∧ i ≤ xs.length ∧ ∃ G', Gr G H G' H' ∧ Same G1 G' ∧ (S.and (.acc X.K D (((xs.take i).filter b).map g))).p G' H', ⟨xs.length, by simp, Nat.zero_le _, G1, ?_⟩, ?_⟩
  · obtain ⟨g2, p2⟩ := layH (S := S) (o := .lst []) g1 p1 hD
    exact ⟨g2, Same.refl _, p2, hG1, [], upd_same, .nil⟩
  rintro i m H' ⟨rfl, hle, G', g2, s1, p2⟩
  have pS : S.p G' H' := p2.1
  by_cases hlt : i < xs.length
  · obtain ⟨x, hx⟩ : ∃ x, xs[i]? = some x := ⟨xs[i], List.getElem?_eq_getElem hlt⟩
    have hmem : x ∈ xs := List.mem_of_getElem? hx
    have hxd : (xs.map enc)[i]? = some (enc x) := by rw [List.getElem?_map, hx]; rfl
    obtain ⟨j1, j2⟩ := W.go i (enc x) G' H' s1 g2.sub hxd
    refine .inr ⟨j1, fun H'' => i + 1 ≤ xs.length ∧ ∃ G', Gr G H G' H'' ∧ Same G1 G' ∧ (S.and (.acc X.K D (((xs.take (i + 1)).filter b).map g))).p G' H'', fun H'' ⟨h1, h2⟩ => ⟨xs.length - (i + 1), by omega, rfl, h1, h2⟩, fun v H'' y => ?_⟩
    obtain ⟨G3, g3, s3, a3⟩ := j2 v H'' y
    have p3 : (S.and (.acc X.K D (((xs.take i).filter b).map g))).p G3 H'' := As.cl _ g3 s3 p2
    refine ⟨wipeD Δ (own.map (·.2)), is, enc x, F x, G3, htg x hmem, (ha.up (g2.gx.trans g3.gx)).wipe _, g3.sub, a3, fun σ' e' w' => ⟨?_, ?_⟩⟩
    · rw [w' _ his, wipe_wipe]
    refine ⟨_, _, b x, G3, ht D _ hO x hmem, e', g3.sub, p3, fun G4 H4 g4 p4 => ?_⟩
    cases hbx : b x with
    | false =>
      refine iteF ⟨hlt, G4, (g2.trans g3).trans g4, (s1.trans g3.gx).trans g4.gx, ?_⟩
      rw [take_some hx, List.filter_append, List.filter_cons_of_neg (by simp [hbx]), List.filter_nil, List.append_nil]
      exact p4
    | true =>
      refine iteT ⟨_, _, rAt X.K (g x), G4, (fun s H C cl fp => he D _ hO x hmem hbx s H C cl fp), e'.up g4.gx, g4.sub, p4, fun u G5 H5 g5 p5 r5 => ?_⟩
      obtain ⟨pS5, hG5, acc, hacc, hats⟩ := p5
      have hlen : acc.length ≤ i := by
        rw [hats.len, List.length_map]
        exact Nat.le_trans (List.length_filter_le _ _) (by rw [List.length_take]; omega)
      refine ⟨acc, hacc, Nat.lt_of_le_of_lt hlen (Nat.lt_of_lt_of_le hlt (Nat.le_trans hz (by decide))), hlt, G5, ?_, ((s1.trans g3.gx).trans g4.gx).trans g5.gx, S.stb (As.nf hO) (fun ⟨_, z⟩ => by cases z) pS5 hG5 (by rw [hacc]; exact fun z => by cases z), hG5, _, upd_same, ?_⟩
      · exact (((g2.trans g3).trans g4).trans g5).trans (.mut g5.sub hG5 hacc)
      · rw [take_some hx, List.filter_append, List.filter_cons_of_pos (by simp [hbx]), List.filter_nil, List.map_append]
        exact hats.app (.one r5)
  · have e : i = xs.length := by omega
    subst e
    have h2 := W.stop G' H' s1 g2.sub
    rw [List.length_map] at h2
    refine .inl ⟨h2, ?_⟩
    rw [List.take_length] at p2
    obtain ⟨pS2, hG2, acc, hacc, hats⟩ := p2
    exact q _ G' H' g2 pS2 ⟨D, acc, rfl, none_back g1 hD, hG2, hacc, hats⟩
theorem evl_lc {α : Type} {xs : List α} {enc : α → PyData} {own : List (Str × Nat)} {pos : Pos} {is : List Nat} (b : α → Bool) (g : α → PyData) (F : α → De → De) (hi : ItD X tg iter Δ S (xs.map enc)) (hc : X.calm = true) (hN : X.N.Nodup) (ok : BlkOk X.N X.env.scope scope own)
    (hz : xs.length ≤ 1000000) (his : ∀ i ∈ is, i ∈ own.map (·.2))
    (htg : ∀ x ∈ xs, AllB X scope fun Y => TgS Y tg is (enc x) (F x))
    (ht : ∀ D es, ¬ S.own D → ∀ x ∈ xs, AllB X scope fun Y => EvTs Y ifs (F x (wipeD Δ (own.map (·.2)))) (S.and (.acc X.K D es)) (b x))
    (he : ∀ D es, ¬ S.own D → ∀ x ∈ xs, b x = true → AllB X scope fun Y => Ev Y elt (F x (wipeD Δ (own.map (·.2)))) (S.and (.acc X.K D es)) (g x))
    (hs : ∀ x, foldedSetIterable iter X.env x = pure x := by intro _; rfl) :
    EvL X (.ListComp elt [⟨tg, iter, ifs, 0⟩] scope pos) Δ S ((xs.filter b).map g) := ev_lcR (lcl b g F hi ok hz his htg ht he) hc hN hs
end
end DL
namespace DL
open PySem PySem.Spec PyProof.Rows L2

/-! ### statements -/
/-- what is wanted behind a block, of what is known too -/
structure EndsG where
  nx : L2.St → Hp → Hp → Prop
  rt : V → Hp → Hp → Prop
  bk : L2.St → Hp → Hp → Prop := fun _ _ _ => False
  ct : L2.St → Hp → Hp → Prop := fun _ _ _ => False
def EndsG.at (D : EndsG) (G : Hp) : Ends where
  nx := fun σ H => ∃ G2, Same G G2 ∧ Same G2 H ∧ D.nx σ G2 H
  rt := fun v H => ∃ G2, Same G G2 ∧ Same G2 H ∧ D.rt v G2 H
  bk := fun σ H => ∃ G2, Same G G2 ∧ Same G2 H ∧ D.bk σ G2 H
  ct := fun σ H => ∃ G2, Same G G2 ∧ Same G2 H ∧ D.ct σ G2 H
structure LeE (D D' : Ends) : Prop where
  nx : ∀ σ H, D.nx σ H → D'.nx σ H
  rt : ∀ v H, D.rt v H → D'.rt v H
  bk : ∀ σ H, D.bk σ H → D'.bk σ H
  ct : ∀ σ H, D.ct σ H → D'.ct σ H
theorem LeE.refl (D : Ends) : LeE D D := ⟨fun _ _ h => h, fun _ _ h => h, fun _ _ h => h, fun _ _ h => h⟩
theorem LeE.trans {A B C : Ends} (a : LeE A B) (b : LeE B C) : LeE A C := ⟨fun σ H h => b.nx σ H (a.nx σ H h), fun σ H h => b.rt σ H (a.rt σ H h), fun σ H h => b.bk σ H (a.bk σ H h), fun σ H h => b.ct σ H (a.ct σ H h)⟩
theorem EndsG.le {D : EndsG} {G G' : Hp} (e : Same G G') : LeE (D.at G') (D.at G) :=
  ⟨fun _ _ ⟨G2, a, b⟩ => ⟨G2, e.trans a, b⟩, fun _ _ ⟨G2, a, b⟩ => ⟨G2, e.trans a, b⟩, fun _ _ ⟨G2, a, b⟩ => ⟨G2, e.trans a, b⟩, fun _ _ ⟨G2, a, b⟩ => ⟨G2, e.trans a, b⟩⟩
theorem SP.le {X : Cx} {pins : List (Addr × Obj)} {D D' : Ends} (l : LeE D D') {f : Flow} {s : Shared} (h : SP X pins D f s) : SP X pins D' f s := by
  cases f with
  | next => obtain ⟨σ, H, I, q⟩ := h; exact ⟨σ, H, I, l.nx _ _ q⟩
  | brk => obtain ⟨σ, H, I, q⟩ := h; exact ⟨σ, H, I, l.bk _ _ q⟩
  | cont => obtain ⟨σ, H, I, q⟩ := h; exact ⟨σ, H, I, l.ct _ _ q⟩
  | ret u => obtain ⟨v, σ, H, I, r, q⟩ := h; exact ⟨v, σ, H, I, r, l.rt _ _ q⟩
def Go (X : Cx) (sts : List Stmt) (D : EndsG) (Δ : De) (S : As) : Prop :=
  ∀ (pins : List (Addr × Obj)) (s : Shared) (σ : L2.St) (G H : Hp), Inv X pins σ H s → EnvOk X.K G σ Δ → Same G H → S.p G H → wpAny (model X.prog X.w) X.A (execs sts X.env) (SP X pins (D.at G)) X.xe s
def tGo (X : Cx) (sts : List Stmt) : TS := fun D' σ H => ∃ D Δ S G, Go X sts D Δ S ∧ LeE (D.at G) D' ∧ EnvOk X.K G σ Δ ∧ Same G H ∧ S.p G H
theorem pss_go (X : Cx) (sts : List Stmt) : PSs X sts (tGo X sts) := ⟨fun pins s σ H D' I ⟨D, Δ, S, G, h, l, a, b, c⟩ => wpAny_mono (h pins s σ G H I a b c) (fun _ _ q => SP.le l q) fun _ _ q => q⟩
section
variable {X : Cx} {e a b tg iter : Expr} {es : List Expr} {Δ : De} {S : As} {R : RR} {d d1 d2 : PyData} {ds : List PyData} {pos p : Pos} {st : Stmt} {sts rest body orelse : List Stmt} {D : EndsG}
theorem go_pss {t : TS} (h : PSs X sts t) (ht : ∀ (σ : L2.St) (G H : Hp) (D' : Ends), LeE (D.at G) D' → EnvOk X.K G σ Δ → Same G H → S.p G H → t D' σ H) : Go X sts D Δ S :=
  fun pins s σ G H I a b c => h.run pins s σ H (D.at G) I (ht σ G H _ (.refl _) a b c)
/-- the rest is next -/
def EndsG.th (D : EndsG) (X : Cx) (rest : List Stmt) : EndsG := { D with nx := fun σ G H => ∃ Δ S, Go X rest D Δ S ∧ EnvOk X.K G σ Δ ∧ S.p G H }
theorem go_cons {t : TS} (h : PS X st t) (ht : ∀ (σ : L2.St) (G H : Hp) (D' : Ends), LeE ((D.th X rest).at G) D' → EnvOk X.K G σ Δ → Same G H → S.p G H → t D' σ H) : Go X (st :: rest) D Δ S :=
  go_pss (pss_cons h (pss_go X rest)) fun σ G H D' l a b c => ht σ G H _ ⟨fun σ H ⟨G2, s1, s2, Δ', S', g, x, y⟩ => ⟨D, Δ', S', G2, g, (EndsG.le s1).trans l, x, s2, y⟩, l.rt, l.bk, l.ct⟩ a b c
theorem go_nil (h : ∀ (σ : L2.St) (G H : Hp), EnvOk X.K G σ Δ → Same G H → S.p G H → D.nx σ G H) : Go X [] D Δ S :=
  go_pss pss_nil fun σ G H D' l a b c => l.nx _ _ ⟨G, Same.refl _, b, h σ G H a b c⟩
/-- a block's end: on with the rest -/
theorem go_nil' (h : Go X rest D Δ S) : Go X [] (D.th X rest) Δ S := go_nil fun σ G H a b c => ⟨Δ, S, h, a, c⟩
theorem Go.le {T : As} (h : Go X sts D Δ T) (k : S.le T) : Go X sts D Δ S := fun pins s σ G H I a b c => h pins s σ G H I a b (k G H c)
theorem Go.env {Δ' : De} (h : Go X sts D Δ' S) (k : ∀ (i : Nat) (d : PyData), Δ'[i]? = some (some d) → Δ[i]? = some (some d)) (hl : Δ'.length = Δ.length) : Go X sts D Δ S :=
  fun pins s σ G H I a b c => h pins s σ G H I ⟨a.1.trans hl.symm, fun i d z => a.2 i d (k i d z)⟩ b c
/-- what holds now may be used -/
theorem go_use {C : Prop} (h : C → Go X sts D Δ S) (k : ∀ G H, Same G H → S.p G H → C) : Go X sts D Δ S := fun pins s σ G H I a b c => h (k G H b c) pins s σ G H I a b c
theorem go_pass : Go X rest D Δ S → Go X (.Pass pos :: rest) D Δ S := fun h => go_cons ps_pass fun σ G H D' l a b c => l.nx _ _ ⟨G, Same.refl _, b, Δ, S, h, a, c⟩
/-- name = e -/
theorem go_set (i : Nat) {x : Str} {p' : Pos} (he : Ev X e Δ S d) (hN : X.N.Nodup) (k : Go X rest D (Δ.set i (some d)) S) (hi : X.N[i]? = some x := by rfl) (hx : Loc X.env.scope x := by first | exact Or.inl rfl | exact Or.inr rfl)
    (hs : swapsWith e (some (.Name x p')) pos.line X.env = pure false := by rfl) (hf : X.fn x = true ∨ X.env.scope.names.lookup x = some .local := by first | exact .inl rfl | exact .inr rfl | assumption) : Go X (.Assign [.Name x p'] e pos :: rest) D Δ S :=
  go_cons (ps_set hN hi hx (pe_ev X e) hs hf) fun σ G H D' l a b c => ⟨Δ, S, _, G, he, a, b, c, fun v G2 H2 g p r => l.nx _ _ ⟨G2, g.gx, g.sub, _, S, k, (a.up g.gx).set r, p⟩⟩
/-- name = a new list that may change yet -/
theorem go_setL (i : Nat) {x : Str} {p' : Pos} (he : EvL X e Δ S ds) (hN : X.N.Nodup) (k : ∀ q : Addr, ¬ S.own q → Go X rest D (Δ.set i (some (ob q))) (S.and (.acc X.K q ds))) (hi : X.N[i]? = some x := by rfl) (hx : Loc X.env.scope x := by first | exact Or.inl rfl | exact Or.inr rfl)
    (hs : swapsWith e (some (.Name x p')) pos.line X.env = pure false := by rfl) (hf : X.fn x = true ∨ X.env.scope.names.lookup x = some .local := by first | exact .inl rfl | exact .inr rfl | assumption) : Go X (.Assign [.Name x p'] e pos :: rest) D Δ S :=
  go_cons (ps_set hN hi hx (pe_ev X e) hs hf) fun σ G H D' l a b c => ⟨Δ, S, _, G, he, a, b, c, fun v G2 H2 g p ⟨q, xs, e1, e2, e3, e4, e5⟩ => by
    subst e1
    exact l.nx _ _ ⟨G2, g.gx, g.sub, _, _, k q (not_own c e2), (a.up g.gx).set (.obj q), p, e3, xs, e4, e5⟩⟩
/-- y = [elt for .. in ..] on one line -/
theorem go_setLcR {y : Str} {py : Pos} {elt tg iter : Expr} {ifs : List Expr} {scope : Scope} {own : List (Str × Nat)} {spos : Pos} (i : Nat) {t : TE} (hc : X.calm = true) (hN : X.N.Nodup) (hy : X.N[i]? = some y)
    (h : PS X (.Assign [.Name y py] (.ListComp elt [⟨tg, iter, ifs, 0⟩] scope pos) spos) (tAsg t (gName i))) (ht : ∀ (σ : L2.St) (G H : Hp) (Q : VK), EnvOk X.K G σ Δ → Same G H → S.p G H → (∀ v G2 H2, Gr G H G2 H2 → S.p G2 H2 → R G H v G2 H2 → Q v H2) → t σ H Q)
    (k : ∀ (σ : L2.St) (G H : Hp) v G2 H2, EnvOk X.K G σ Δ → S.p G H → Gr G H G2 H2 → S.p G2 H2 → R G H v G2 H2 → ∃ Δ' S', Go X rest D Δ' S' ∧ EnvOk X.K G2 (σ.set i (some v)) Δ' ∧ S'.p G2 H2) :
    Go X (.Assign [.Name y py] (.ListComp elt [⟨tg, iter, ifs, 0⟩] scope pos) spos :: rest) D Δ S :=
  go_cons h fun σ G H D' l a b c => ht σ G H _ a b c fun v G2 H2 g p r => l.nx _ _ ⟨G2, g.gx, g.sub, k σ G H v G2 H2 a c g p r⟩
/-- return e -/
theorem go_ret (he : EvR X e Δ S R) (k : ∀ G H v G2 H2, Same G H → S.p G H → Gr G H G2 H2 → S.p G2 H2 → R G H v G2 H2 → ∃ G3, Same G G3 ∧ Same G3 H2 ∧ D.rt v G3 H2) : Go X (.Return (some e) pos :: rest) D Δ S :=
  go_cons (ps_ret (pe_ev X e)) fun σ G H D' l a b c => ⟨Δ, S, R, G, he, a, b, c, fun v G2 H2 g p r => l.rt _ _ (k G H v G2 H2 b c g p r)⟩
theorem go_if {k : Bool} (hc : EvT X e Δ S k) (ha : k = true → Go X body (D.th X rest) Δ S) (hb : k = false → Go X orelse (D.th X rest) Δ S) : Go X (.If e body orelse pos :: rest) D Δ S :=
  go_cons (ps_if (pt_ev X e) (pss_go X body) (pss_go X orelse)) fun σ G H D' l a b c => ⟨Δ, S, k, G, hc, a, b, c, fun G2 H2 g p => by
    cases k with
    | true => exact iteT ⟨_, Δ, S, G2, ha rfl, (EndsG.le g.gx).trans l, a.up g.gx, g.sub, p⟩
    | false => exact iteF ⟨_, Δ, S, G2, hb rfl, (EndsG.le g.gx).trans l, a.up g.gx, g.sub, p⟩⟩
/-- an expression whose value is dropped -/
theorem go_expr (he : EvR X e Δ S R) (k : ∀ (σ : L2.St) (G H : Hp) v G2 H2, EnvOk X.K G σ Δ → S.p G H → Gr G H G2 H2 → S.p G2 H2 → R G H v G2 H2 → ∃ Δ' S' G3, Same G2 G3 ∧ Same G3 H2 ∧ Go X rest D Δ' S' ∧ EnvOk X.K G3 σ Δ' ∧ S'.p G3 H2) (hs : swapsWith e none pos.line X.env = pure false := by rfl) : Go X (.Expr e pos :: rest) D Δ S :=
  go_cons (ps_expr (pe_ev X e) hs) fun σ G H D' l a b c => ⟨Δ, S, R, G, he, a, b, c, fun v G2 H2 g p r => by
    obtain ⟨Δ', S', G3, s1, s2, x, y, z⟩ := k σ G H v G2 H2 a c g p r
    exact l.nx _ _ ⟨G3, g.gx.trans s1, s2, Δ', S', x, y, z⟩⟩
/-- target = e, any target of names -/
theorem go_asg {is : List Nat} {f : De → De} (he : Ev X e Δ S d) (ht : TgS X tg is d f) (k : Go X rest D (f Δ) S) (hs : swapsWithSole [tg] e pos.line X.env = pure false := by rfl) (hw : swappedStores [tg] e X.env = pure none := by rfl)
    (h1 : (assignEach [tg] X.env).map (·.2) = [assign tg X.env] := by rfl) : Go X (.Assign [tg] e pos :: rest) D Δ S :=
  go_cons (ps_asg (g := fun v σ H Q => ∃ Δ is d f G, TgS X tg is d f ∧ EnvOk X.K G σ Δ ∧ Same G H ∧ At X.K G v d ∧ ∀ σ', EnvOk X.K G σ' (f Δ) → Q σ' H) (pe_ev X e) ⟨fun pins s σ H v u Q I r ⟨_, _, _, _, G, h, a, b, c, q⟩ => h pins s σ _ G H v u Q I r a b c fun σ' e' _ => q σ' e'⟩ hs hw h1)
    fun σ G H D' l a b c => ⟨Δ, S, _, G, he, a, b, c, fun v G2 H2 g p r => ⟨Δ, is, d, f, G2, ht, a.up g.gx, g.sub, r, fun σ' e' => l.nx _ _ ⟨G2, g.gx, g.sub, _, S, k, e', p⟩⟩⟩
/-- a, b = e1, e2 -/
theorem go_par {x y : Str} {px py pt pt2 : Pos} {kt k2} (i j : Nat) (ha : Ev X a Δ S d1) (hb : Ev X b Δ S d2) (hc : X.calm = true) (hN : X.N.Nodup) (k : Go X rest D ((Δ.set i (some d1)).set j (some d2)) S) (hij : i ≠ j := by decide) (hi : X.N[i]? = some x := by rfl) (hj : X.N[j]? = some y := by rfl)
    (hx : X.env.scope.names.lookup x = some .local := by rfl) (hy : X.env.scope.names.lookup y = some .local := by rfl) (hw : swappedStores [.Tuple [.Name x px, .Name y py] kt pt] (.Tuple [a, b] k2 pt2) X.env = pure (some [x, y]) := by rfl)
    (hs : swapsWithSole [.Tuple [.Name x px, .Name y py] kt pt] (.Tuple [a, b] k2 pt2) pos.line X.env = pure false := by rfl) (hs1 : starEach [a, b] X.env = (false, eval a X.env) :: starEach [b] X.env := by rfl) (hs2 : starEach [b] X.env = (false, eval b X.env) :: starEach [] X.env := by rfl) :
    Go X (.Assign [.Tuple [.Name x px, .Name y py] kt pt] (.Tuple [a, b] k2 pt2) pos :: rest) D Δ S :=
  go_cons (ps_par hc hN hi hj hij hx hy (pa_cons (pe_ev X a) (pa_cons (pe_ev X b) pa_nil hs2) hs1) hw hs) fun σ G H D' l a' b' c' => two ha hb a' b' c' fun v w G1 H1 g p e1 e2 =>
    ⟨v, w, rfl, l.nx _ _ ⟨G1, g.gx, g.sub, _, S, k, ((a'.up g.gx).set e1).set e2, p⟩⟩
/-- .. the second a new list that may change yet -/
theorem go_parL {x y : Str} {px py pt pt2 : Pos} {kt k2} (i j : Nat) (ha : Ev X a Δ S d1) (hb : EvL X b Δ S ds) (hc : X.calm = true) (hN : X.N.Nodup) (k : ∀ q : Addr, ¬ S.own q → Go X rest D ((Δ.set i (some d1)).set j (some (ob q))) (S.and (.acc X.K q ds))) (hij : i ≠ j := by decide) (hi : X.N[i]? = some x := by rfl) (hj : X.N[j]? = some y := by rfl)
    (hx : X.env.scope.names.lookup x = some .local := by rfl) (hy : X.env.scope.names.lookup y = some .local := by rfl) (hw : swappedStores [.Tuple [.Name x px, .Name y py] kt pt] (.Tuple [a, b] k2 pt2) X.env = pure (some [x, y]) := by rfl)
    (hs : swapsWithSole [.Tuple [.Name x px, .Name y py] kt pt] (.Tuple [a, b] k2 pt2) pos.line X.env = pure false := by rfl) (hs1 : starEach [a, b] X.env = (false, eval a X.env) :: starEach [b] X.env := by rfl) (hs2 : starEach [b] X.env = (false, eval b X.env) :: starEach [] X.env := by rfl) :
    Go X (.Assign [.Tuple [.Name x px, .Name y py] kt pt] (.Tuple [a, b] k2 pt2) pos :: rest) D Δ S :=
  go_cons (ps_par hc hN hi hj hij hx hy (pa_cons (pe_ev X a) (pa_cons (pe_ev X b) pa_nil hs2) hs1) hw hs) fun σ G H D' l a' b' c' => ⟨Δ, S, _, G, ha, a', b', c', fun v G1 H1 g1 p1 r1 => ⟨Δ, S, _, G1, hb, a'.up g1.gx, g1.sub, p1, fun w G2 H2 g2 p2 ⟨q, xs, e1, e2, e3, e4, e5⟩ => by
    subst e1
    exact ⟨v, _, rfl, l.nx _ _ ⟨G2, g1.gx.trans g2.gx, g2.sub, _, _, k q (not_own p1 e2), ((a'.up (g1.gx.trans g2.gx)).set (r1.up g2.gx)).set (.obj q), p2, e3, xs, e4, e5⟩⟩⟩⟩
/-- name op= e -/
theorem go_aug {x : Str} {p' : Pos} {op : Operator} {i j : Int} {f : Int → Int → Int} (n : Nat) (ho : PIp X op (ipI f)) (hd : Δ[n]? = some (some (.int i))) (he : Ev X e Δ S (.int j)) (hN : X.N.Nodup) (k : Go X rest D (Δ.set n (some (.int (f i j)))) S) (hi : X.N[n]? = some x := by rfl) (hx : Loc X.env.scope x := by first | exact Or.inl rfl | exact Or.inr rfl)
    (hf : X.fn x = true ∨ X.env.scope.names.lookup x = some .local := by first | exact .inl rfl | exact .inr rfl | assumption) : Go X (.AugAssign (.Name x p') op e pos :: rest) D Δ S :=
  go_cons (ps_aug hN hi hx (pe_ev X e) ho hf) fun σ G H D' l a b c => by
    obtain ⟨v, e1, e2⟩ := a.2 n _ hd
    cases e2
    exact ⟨_, e1, Δ, S, _, G, he, a, b, c, fun w G2 H2 g p r => by
      cases r
      exact ⟨i, j, rfl, rfl, l.nx _ _ ⟨G2, g.gx, g.sub, _, S, k, (a.up g.gx).set (.int _), p⟩⟩⟩
/-! lists that grow -/
/-- q.append(e) -/
theorem go_app {q : Addr} {o : Expr} {apos cpos : Pos} (ho : Ev X o Δ (S.and (.acc X.K q ds)) (ob q)) (he : Ev X e Δ (S.and (.acc X.K q ds)) d) (hS : ¬ S.fo q) (hz : ds.length < 1000000) (k : Go X rest D Δ (S.and (.acc X.K q (ds ++ [d]))))
    (hbase : attributeBase o "append" X.env (eval o X.env) = eval o X.env := by rfl)
    (hfew : ((backTo cpos (starEach [e] X.env)).all (fun x => !x.1) && (backToKw cpos (keywordEach [] X.env)).all (fun x => x.1.isSome) && decide ([e].length + ([] : List Keyword).length + (if ([] : List Keyword).isEmpty then 0 else 1) < 30)) = true := by rfl)
    (hline : (apos.endLine == cpos.line) = true := by rfl) (hs' : starEach [e] X.env = (false, eval e X.env) :: starEach [] X.env := by rfl) (hplain : (backTo cpos (starEach [] X.env)).any (·.1) = false := by rfl)
    (hs : swapsWith (.Call (.Attribute o "append" apos) [e] [] cpos) none pos.line X.env = pure false := by rfl) : Go X (.Expr (.Call (.Attribute o "append" apos) [e] [] cpos) pos :: rest) D Δ (S.and (.acc X.K q ds)) :=
  go_cons (ps_expr (pe_bm PySem.F.plainAttrs_list PySem.F.slot_list_append PySem.F.type_list_append mt_append (pe_ev X o) (pa_cons (pe_ev X e) pa_nil hs') hbase hfew hline hs' hplain) hs) fun σ G H D' l a b c => ⟨Δ, _, _, G, ho, a, b, c, fun v G1 H1 g1 p1 r1 => by
    rw [At.obj_eq r1]
    obtain ⟨xs, hx⟩ : ∃ xs, H1 q = some (.lst xs) := by obtain ⟨_, _, xs, h, _⟩ := p1; exact ⟨xs, h⟩
    refine ⟨.inl ⟨rfl, _, SqL.of hx⟩, Δ, _, _, G1, he, a.up g1.gx, g1.sub, p1, fun w G2 H2 g2 p2 r2 => ?_⟩
    obtain ⟨pS, hG, ys, hy, hats⟩ := p2
    refine ⟨q, ys, w, rfl, rfl, hy, Nat.lt_of_lt_of_le (by rw [hats.len]; exact hz) (by decide), l.nx _ _ ⟨G2, g1.gx.trans g2.gx, (Gr.mut g2.sub hG hy).sub, Δ, _, k, a.up (g1.gx.trans g2.gx), S.stb hS (fun ⟨_, z⟩ => by cases z) pS hG (by rw [hy]; exact fun z => by cases z), hG, _, upd_same, hats.app (.one r2)⟩⟩⟩
/-- q.extend(a new list) -/
theorem go_extend {q : Addr} {o : Expr} {es : List PyData} {apos cpos : Pos} (ho : Ev X o Δ (S.and (.acc X.K q ds)) (ob q)) (he : EvL X e Δ (S.and (.acc X.K q ds)) es) (hS : ¬ S.fo q) (hz : ds.length + es.length ≤ 16000000) (k : Go X rest D Δ (S.and (.acc X.K q (ds ++ es))))
    (hbase : attributeBase o "extend" X.env (eval o X.env) = eval o X.env := by rfl)
    (hfew : ((backTo cpos (starEach [e] X.env)).all (fun x => !x.1) && (backToKw cpos (keywordEach [] X.env)).all (fun x => x.1.isSome) && decide ([e].length + ([] : List Keyword).length + (if ([] : List Keyword).isEmpty then 0 else 1) < 30)) = true := by rfl)
    (hline : (apos.endLine == cpos.line) = true := by rfl) (hs' : starEach [e] X.env = (false, eval e X.env) :: starEach [] X.env := by rfl) (hplain : (backTo cpos (starEach [] X.env)).any (·.1) = false := by rfl)
    (hs : swapsWith (.Call (.Attribute o "extend" apos) [e] [] cpos) none pos.line X.env = pure false := by rfl) : Go X (.Expr (.Call (.Attribute o "extend" apos) [e] [] cpos) pos :: rest) D Δ (S.and (.acc X.K q ds)) :=
  go_cons (ps_expr (pe_bm PySem.F.plainAttrs_list PySem.F.slot_list_extend PySem.F.type_list_extend mt_extend (pe_ev X o) (pa_cons (pe_ev X e) pa_nil hs') hbase hfew hline hs' hplain) hs) fun σ G H D' l a b c => ⟨Δ, _, _, G, ho, a, b, c, fun v G1 H1 g1 p1 r1 => by
    rw [At.obj_eq r1]
    obtain ⟨xs, hx⟩ : ∃ xs, H1 q = some (.lst xs) := by obtain ⟨_, _, xs, h, _⟩ := p1; exact ⟨xs, h⟩
    refine ⟨.inl ⟨rfl, _, SqL.of hx⟩, Δ, _, _, G1, he, a.up g1.gx, g1.sub, p1, fun w G2 H2 g2 p2 ⟨r, zs, e1, e2, e3, e4, e5⟩ => ?_⟩
    subst e1
    obtain ⟨pS, hG, ys, hy, hats⟩ := p2
    refine ⟨q, r, ys, zs, rfl, rfl, hy, e4, Nat.le_trans (by rw [hats.len, e5.len]; exact hz) (by decide), l.nx _ _ ⟨G2, g1.gx.trans g2.gx, (Gr.mut g2.sub hG hy).sub, Δ, _, k, a.up (g1.gx.trans g2.gx), S.stb hS (fun ⟨_, z⟩ => by cases z) pS hG (by rw [hy]; exact fun z => by cases z), hG, _, upd_same, hats.app e5⟩⟩⟩

/-! ### loops -/
/-- a for: I, by the turn -/
def EndsG.loop (D : EndsG) (X : Cx) (rest : List Stmt) (I : De → As → Prop) : EndsG where
  nx := fun σ G H => ∃ Δ S, I Δ S ∧ EnvOk X.K G σ Δ ∧ S.p G H
  ct := fun σ G H => ∃ Δ S, I Δ S ∧ EnvOk X.K G σ Δ ∧ S.p G H
  bk := (D.th X rest).nx
  rt := D.rt
/-- a turn's end -/
theorem go_turn {I : De → As → Prop} (h : I Δ S) : Go X [] (D.loop X rest I) Δ S := go_nil fun σ G H a b c => ⟨Δ, S, h, a, c⟩
theorem go_cont {I : De → As → Prop} {more : List Stmt} (h : I Δ S) : Go X (.Continue pos :: more) (D.loop X rest I) Δ S :=
  go_cons ps_continue fun σ G H D' l a b c => l.ct _ _ ⟨G, Same.refl _, b, Δ, S, h, a, c⟩
theorem go_break {I : De → As → Prop} {more : List Stmt} (h : Go X rest D Δ S) : Go X (.Break pos :: more) (D.loop X rest I) Δ S :=
  go_cons ps_break fun σ G H D' l a b c => l.bk _ _ ⟨G, Same.refl _, b, Δ, S, h, a, c⟩
theorem go_for {α : Type} {xs : List α} {enc : α → PyData} {is : List Nat} (F : α → De → De) (hi : ItD X tg iter Δ S (xs.map enc)) (htg : ∀ x ∈ xs, TgS X tg is (enc x) (F x)) (hc : X.calm = true) (hp : PassesOwn (model X.prog X.w) X.A X.env X.xe)
    (I : Nat → De → As → Prop) (h0 : I 0 Δ S) (hb : ∀ (i : Nat) (x : α) (Δ' : De) (S' : As), xs[i]? = some x → I i Δ' S' → Go X body (D.loop X rest (I (i + 1))) (F x Δ') S')
    (hd : ∀ (Δ' : De) (S' : As), I xs.length Δ' S' → Go X rest D Δ' S') (hs : ∀ x, foldedSetIterable iter X.env x = pure x := by intro _; rfl) : Go X (.For tg iter body [] pos :: rest) D Δ S := by
  obtain ⟨wi, w1, w2⟩ := hi
  refine go_cons (ps_for (g := fun v σ H Q => ∃ Δ is d f G, TgS X tg is d f ∧ EnvOk X.K G σ Δ ∧ Same G H ∧ At X.K G v d ∧ ∀ σ', EnvOk X.K G σ' (f Δ) → Q σ' H) hp hc w1 ⟨fun pins s σ H v u Q I r ⟨_, _, _, _, G, h, a, b, c, q⟩ => h pins s σ _ G H v u Q I r a b c fun σ' e' _ => q σ' e'⟩ (pss_go X body) hs) fun σ G H D' l ha hb' hcS => ?_
  refine w2 σ G H _ ha hb' hcS fun J G1 H1 g1 p1 W => ?_
  refine ⟨fun i m σ H' => m = xs.length - i ∧ i ≤ xs.length ∧ ∃ G' Δ' S', Same G1 G' ∧ Same G' H' ∧ I i Δ' S' ∧ EnvOk X.K G' σ Δ' ∧ S'.p G' H', ⟨xs.length, by simp, Nat.zero_le _, G1, Δ, S, Same.refl _, g1.sub, h0, ha.up g1.gx, p1⟩, ?_⟩
  rintro i m σ' H' ⟨rfl, hle, G', Δ', S', s1, s2, hI, hE, hS⟩
  by_cases hlt : i < xs.length
  · obtain ⟨x, hx⟩ : ∃ x, xs[i]? = some x := ⟨xs[i], List.getElem?_eq_getElem hlt⟩
    have hmem : x ∈ xs := List.mem_of_getElem? hx
    have hxd : (xs.map enc)[i]? = some (enc x) := by rw [List.getElem?_map, hx]; rfl
    obtain ⟨j1, j2⟩ := W.go i (enc x) G' H' s1 s2 hxd
    refine .inr ⟨j1, fun σ'' H'' => ∃ G2, Same G1 G2 ∧ Same G2 H'' ∧ ∃ Δ'' S'', I (i + 1) Δ'' S'' ∧ EnvOk X.K G2 σ'' Δ'' ∧ S''.p G2 H'', fun σ'' H'' ⟨G2, t1, t2, Δ'', S'', t3, t4, t5⟩ => ⟨xs.length - (i + 1), by omega, rfl, hlt, G2, Δ'', S'', t1, t2, t3, t4, t5⟩, fun v H'' y => ?_⟩
    obtain ⟨G3, g3, s3, a3⟩ := j2 v H'' y
    refine ⟨Δ', is, enc x, F x, G3, htg x hmem, hE.up g3.gx, g3.sub, a3, fun σ3 e3 => ⟨_, _, S', G3, hb i x Δ' S' hx hI, ⟨?_, ?_, ?_, ?_⟩, e3, g3.sub, S'.cl g3 s3 hS⟩⟩
    · rintro σ4 H4 ⟨G4, t1, t2, t3⟩; exact ⟨G4, (s1.trans g3.gx).trans t1, t2, t3⟩
    · rintro σ4 H4 ⟨G4, t1, t2, t3⟩; exact l.rt _ _ ⟨G4, ((g1.gx.trans s1).trans g3.gx).trans t1, t2, t3⟩
    · rintro σ4 H4 ⟨G4, t1, t2, t3⟩; exact l.nx _ _ ⟨G4, ((g1.gx.trans s1).trans g3.gx).trans t1, t2, t3⟩
    · rintro σ4 H4 ⟨G4, t1, t2, t3⟩; exact ⟨G4, (s1.trans g3.gx).trans t1, t2, t3⟩
  · have e : i = xs.length := by omega
    subst e
    have h2 := W.stop G' H' s1 s2
    rw [List.length_map] at h2
    exact .inl ⟨h2, l.nx _ _ ⟨G', g1.gx.trans s1, s2, Δ', S', hd Δ' S' hI, hE, hS⟩⟩
/-- a while: W by a measure; what its test is worth there -/
theorem go_while {W : Nat → De → As → Prop} {T : De → As → Bool} (m : Nat) (h0 : W m Δ S) (hc : ∀ m Δ' S', W m Δ' S' → EvT X e Δ' S' (T Δ' S')) (hp : PassesOwn (model X.prog X.w) X.A X.env X.xe)
    (hb : ∀ m Δ' S', W m Δ' S' → T Δ' S' = true → Go X body (D.loop X rest fun Δ'' S'' => ∃ m', m' < m ∧ W m' Δ'' S'') Δ' S') (hd : ∀ m Δ' S', W m Δ' S' → T Δ' S' = false → Go X rest D Δ' S') : Go X (.While e body [] pos :: rest) D Δ S := by
  refine go_cons (ps_while hp (pt_ev X e) (pss_go X body)) fun σ G H D' l ha hb' hcS => ?_
  refine ⟨fun m σ' H' => ∃ G' Δ' S', Same G G' ∧ Same G' H' ∧ W m Δ' S' ∧ EnvOk X.K G' σ' Δ' ∧ S'.p G' H', ⟨m, G, Δ, S, Same.refl _, hb', h0, ha, hcS⟩, ?_⟩
  rintro m σ' H' ⟨G', Δ', S', s1, s2, hW, hE, hS⟩
  refine ⟨Δ', S', _, G', hc m Δ' S' hW, hE, s2, hS, fun G2 H2 g2 p2 => ?_⟩
  cases hT : T Δ' S' with
  | true =>
    refine iteT ⟨fun σ'' H'' => ∃ G3, Same G G3 ∧ Same G3 H'' ∧ ∃ Δ'' S'', (∃ m', m' < m ∧ W m' Δ'' S'') ∧ EnvOk X.K G3 σ'' Δ'' ∧ S''.p G3 H'', fun σ'' H'' ⟨G3, t1, t2, Δ'', S'', ⟨m', t3, t4⟩, t5, t6⟩ => ⟨m', t3, G3, Δ'', S'', t1, t2, t4, t5, t6⟩, ?_⟩
    refine ⟨_, Δ', S', G2, hb m Δ' S' hW hT, ⟨?_, ?_, ?_, ?_⟩, hE.up g2.gx, g2.sub, p2⟩
    · rintro σ4 H4 ⟨G4, t1, t2, t3⟩; exact ⟨G4, (s1.trans g2.gx).trans t1, t2, t3⟩
    · rintro σ4 H4 ⟨G4, t1, t2, t3⟩; exact l.rt _ _ ⟨G4, (s1.trans g2.gx).trans t1, t2, t3⟩
    · rintro σ4 H4 ⟨G4, t1, t2, t3⟩; exact l.nx _ _ ⟨G4, (s1.trans g2.gx).trans t1, t2, t3⟩
    · rintro σ4 H4 ⟨G4, t1, t2, t3⟩; exact ⟨G4, (s1.trans g2.gx).trans t1, t2, t3⟩
  | false => exact iteF (l.nx _ _ ⟨G2, s1.trans g2.gx, g2.sub, Δ', S', hd m Δ' S' hW hT, hE.up g2.gx, p2⟩)
end

/-! ### a def's promise by its body -/
/-- what a def that changes nothing hands back -/
def retP (G H : Hp) (R : RR) : EndsG where
  nx := fun _ G2 H2 => ∃ G3, (As.ext G H).p G3 H2 ∧ R G H .non G3 H2
  rt := fun v G2 H2 => ∃ G3, (As.ext G H).p G3 H2 ∧ R G H v G3 H2
def De.start (N : List Str) (ds : List PyData) : De := ds.map some ++ List.replicate (N.length - ds.length) none
theorem env_start {K : PySem.W.Frag} {G : Hp} {N : List Str} {vs : List V} {ds : List PyData} (h : Ats K G vs ds) : EnvOk K G (L2.start N vs) (De.start N ds) := by
  have hl := h.len
  refine ⟨by simp [L2.start, De.start, hl], fun i d e => ?_⟩
  unfold De.start at e
  unfold L2.start
  by_cases hi : i < ds.length
  · rw [List.getElem?_append_left (by simpa using hi), List.getElem?_map] at e
    cases q : ds[i]? with
    | none => rw [q] at e; cases e
    | some d0 =>
      rw [q] at e
      cases e
      obtain ⟨v, f1, f2⟩ := h.get q
      exact ⟨v, by rw [List.getElem?_append_left (by simpa [hl] using hi), List.getElem?_map, f1]; rfl, f2⟩
  · rw [List.getElem?_append_right (by simpa using hi)] at e
    rw [List.getElem?_replicate] at e
    split at e <;> cases e
section
variable {P : Program} {w : World} {K : PySem.W.Frag} {mg : Str → Option Value} {base : Heap}
/-- THE RULE for a def that changes nothing that stood -/
theorem fun_go {x qual : Str} {st : Stmt} {f : Addr} {fd : FuncData} {N ps : List Str} {k : Nat} {Pr : Hp → List PyData → RR → Prop} (F : Fun K x qual st f fd) (S : FnScope N ps (defScope st)) (len : ∀ G ds R, Pr G ds R → ds.length = ps.length)
    (hbody : ∀ (cdv : Value) (A : Around) (outer : List Env) (s : Shared) (H0 : Hp) (E : XK) (G H : Hp) (ds : List PyData) (R : RR), Room k (A.deeper (envOfC qual (defScope st) s.heap.objs.size f cdv)) → Pr G ds R →
      Go (cxOf CX0 P w K mg base N qual (defScope st) f cdv A outer s H0 E).nox (defBody st) (retP G H R) (De.start N ds) ((As.ext G H).and (.fact (Same G) fun _ _ e h => h.trans e))) : FnOk P w K mg base CX0 (k + 1) f fd ps (spP K Pr) := by
  refine F.ok S (fun vs H Q E h => ?_) (fun cdv A outer s H vs Q E hr h => ?_)
  · obtain ⟨G, ds, R, _, h2, h3, _⟩ := h
    rw [h2.len]
    exact len G ds R h3
  · obtain ⟨G, ds, R, h1, h2, h3, k1⟩ := h
    refine ⟨_, pss_go _ _, _, _, _, G, hbody cdv A outer s H E G H ds R hr h3, ⟨?_, ?_, ?_, ?_⟩, env_start h2, h1, ⟨⟨.refl h1, fun _ _ _ z => z⟩, Same.refl _⟩⟩
    · rintro σ H2 ⟨G2, _, _, G3, ⟨a, b⟩, r⟩; exact k1 _ G3 H2 a (fun x u z => b x u id z) r
    · rintro v H2 ⟨G2, _, _, G3, ⟨a, b⟩, r⟩; exact k1 _ G3 H2 a (fun x u z => b x u id z) r
    · rintro σ H2 ⟨_, _, _, h⟩; exact h.elim
    · rintro σ H2 ⟨_, _, _, h⟩; exact h.elim
end
section
variable {X : Cx} {e : Expr} {Δ : De} {S : As} {R : RR} {G H : Hp} {pos : Pos} {rest : List Stmt} {ds : List PyData} {q : Addr}
/-- return e, of a def that changes nothing -/
theorem go_retP {D : EndsG} (he : EvR X e Δ S R) (hS : S.le (.ext G H)) (hD : D.rt = (retP G H R).rt := by rfl) (hR : Back R := by first | exact back_at | exact back_nl) : Go X (.Return (some e) pos :: rest) D Δ S :=
  go_ret he fun G1 H1 v G2 H2 b c g p r => ⟨G2, g.gx, g.sub, by rw [hD]; exact ⟨G2, hS _ _ p, hR _ _ _ _ _ _ _ (hS _ _ c).1 r⟩⟩
/-- return the list that has grown -/
theorem go_retA {D : EndsG} (he : Ev X e Δ S (ob q)) (hS : S.le ((As.ext G H).and (.acc X.K q ds))) (hq : H q = none) (hD : D.rt = (retP G H (rNl X.K ds)).rt := by rfl) : Go X (.Return (some e) pos :: rest) D Δ S :=
  go_ret he fun G1 H1 v G2 H2 b c g p r => by
    obtain ⟨p1, p2, xs, p3, p4⟩ := hS _ _ p
    rw [At.obj_eq r]
    exact ⟨G2, g.gx, g.sub, by rw [hD]; exact ⟨G2, p1, q, xs, rfl, hq, p2, p3, p4⟩⟩
theorem as_l {S T : As} : (S.and T).le S := fun _ _ h => h.1
theorem as_r {S T : As} : (S.and T).le T := fun _ _ h => h.2
theorem As.le.trans {S T U : As} (a : S.le T) (b : T.le U) : S.le U := fun G H h => b G H (a G H h)
theorem as_and {S T U : As} (a : S.le T) (b : S.le U) : S.le (T.and U) := fun G H h => ⟨a G H h, b G H h⟩
theorem as_refl {S : As} : S.le S := fun _ _ h => h
end
end DL
namespace DL
open PySem PySem.Spec PyProof.Rows L2

/-! ### sorted -/
section
variable {K : PySem.W.Frag} {G H : Hp}
mutual
theorem At.dpA : ∀ (d : PyData) (v : V), W.alike d d = true → At K G v d → Dp K G v d
  | .none, _, _, h => by cases h; exact .non
  | .bool b, _, _, h => by cases h; exact .bl b
  | .int i, _, _, h => by cases h; exact .int i
  | .str x, _, _, h => by cases h; exact .str x
  | .list ds, _, c, h => by
    cases h with
    | lst hs ha => exact .lst (SqL.of hs) (Ats.dpA ds _ (by simpa [W.alike] using c) ha)
  | .tuple ds, _, c, h => by
    cases h with
    | tup hs ha => exact .tup (SqT.of hs) (Ats.dpA ds _ (by simpa [W.alike] using c) ha)
  | .dict kvs, v, c, h => by simp [W.alike] at c
theorem Ats.dpA : ∀ (ds : List PyData) (vs : List V), W.alikeAll ds ds = true → Ats K G vs ds → DpAll K G vs ds
  | [], _, _, h => by cases h; exact .nil
  | d :: ds, _, c, h => by
    have c' := W.alike_all_cons c
    cases h with
    | cons h1 h2 => exact .cons (At.dpA d _ c'.1 h1) (Ats.dpA ds _ c'.2 h2)
end
end
theorem collect_tup {prog : Program} {w : World} {A : Around} {E : Value → Shared → Prop} {s : Shared} {l : Addr} {vs : List Value} {Q : List Value → Shared → Prop} (hl : IsTup s.heap l vs.toArray) (hz : vs.length ≤ sizeLine)
    (h : Q vs { s with heap := (s.heap.push (seqObj "list" #[] 0)).update s.heap.objs.size (Obj.mapSeq (· ++ vs.toArray)) }) : wpAny (model prog w) A (collect (.ref l)) Q E s := by
  obtain ⟨o, ho, hcl, n, hdt⟩ := id hl
  unfold collect
  refine wpAny_bind (wpAny_runValue (codeAny_builtin entry_proto_collect' ?_))
  change wpAny _ _ (do again (.builtin "list.__iadd__" ⟨[← newList [], .ref l], []⟩)) _ _ s
  refine wpAny_bind (wpAny_newList (wpAny_pure ⟨Code.quiet_builtin _ (by decide +kernel), codeAny_builtin entry_list_iadd' ?_⟩))
  change wpAny _ _ (Builtin.List.listExtendWith (.ref s.heap.objs.size) (.ref l) (.ref s.heap.objs.size)) _ _ { s with heap := s.heap.push (seqObj "list" #[] 0) }
  unfold Builtin.List.listExtendWith
  have hol : (s.heap.push (seqObj "list" #[] 0)).get? l = some o := Heap.get?_push_of_some _ ho
  have hnw : (s.heap.push (seqObj "list" #[] 0)).get? s.heap.objs.size = some (seqObj "list" #[] 0) := Heap.get?_push_size _ rfl
  refine wpAny_bind (wpAny_typeOf (T := "tuple") ⟨o, hol, hcl⟩ ?_)
  have htt : (Value.type "tuple" == Value.type "tuple") = true := by rfl
  rw [if_pos (by rw [htt, Bool.or_true])]
  refine wpAny_bind (listItems_at hol hdt ?_)
  refine wpAny_bind (listItems_at hnw rfl ?_)
  rw [if_neg (by simp)]
  refine wpAny_bind (listUpdate_at hnw rfl ?_ (Nat.zero_le _) (by show (#[] ++ vs.toArray).size ≤ sizeLine + 1; simp only [Array.size_append, List.size_toArray, List.length_nil]; omega))
  refine wpAny_pure ?_
  change wpAny (model prog w) A (do let o ← load s.heap.objs.size; match o.data with | .seq xs _ => pure xs.toList | _ => unsupported "internal:collect") Q E { s with heap := (s.heap.push (seqObj "list" #[] 0)).update s.heap.objs.size (Obj.mapSeq (· ++ vs.toArray)) }
  refine wpAny_bind (wpAny_load (get?_update_seq hnw _) ?_)
  change wpAny _ _ (pure ((#[] : Array Value) ++ vs.toArray).toList) Q E _
  rw [show ((#[] : Array Value) ++ vs.toArray).toList = vs by simp]
  exact wpAny_pure h
/-- sorted(v, ..) of whatever collects vs, with its order -/
theorem sorted_run {prog : Program} {w : World} {A : Around} {E : Value → Shared → Prop} {s : Shared} {v : Value} {vs : List Value} {β : Type} {bs : List β} {enc : β → PyData} {R : Value → β → Prop} {kw : List (Str × Value)} {b : Bool} {Q : Value → Shared → Prop}
    (hcol : ∀ (Q : List Value → Shared → Prop), Q vs { s with heap := (s.heap.push (seqObj "list" #[] 0)).update s.heap.objs.size (Obj.mapSeq (· ++ vs.toArray)) } → wpAny (model prog w) A.in1 (collect v) Q (fun e s' => E e s') s)
    (ha1 : argsOk "sorted" ⟨[v], kw⟩) (ha2 : ∀ x, argsOk "list.sort" ⟨[.ref x], kw⟩) (hkw : ∀ a, Builtin.«list.sort» ⟨[.ref a], kw⟩ = Builtin.«list.sort» ⟨[.ref a], [(Str.ofString "reverse", .bool b)]⟩)
    (e : W.EachIs R vs bs) (er : W.EachIs (fun v b => ∃ as, Reads s.heap v (enc b) as) vs bs) (hal : W.AllAlike (bs.map enc)) (hk : W.Sortable (bs.map enc)) (hL : bs.length ≤ sizeLine) (hu : ∀ b, b ∈ bs → A.units + 2 + (enc b).depth < cLine)
    (h : ∀ out, out.length = bs.length → W.EachIs R out (bs.mergeSort (W.dataLe b enc)) → Q (.ref (s.heap.objs.size + 1)) { s with heap := sortedAll s.heap vs (List.toArray out) }) :
    wpAny (model prog w) A (call (.builtin "sorted") [v] kw) Q E s := by
  have er2 : W.EachIs (fun v b => ∃ as, Reads (W.sortingHeap (W.copyHeap s.heap vs) (s.heap.objs.size + 1) vs) v (enc b) as) vs bs := er.mono fun _ _ ⟨as, r⟩ => ⟨as, PyProof.Rows.Reads.keeps (fun _ _ => W.sorting_copy_old) r⟩
  have hL2 : vs.length ≤ sizeLine := by rw [e.length]; exact hL
  have hdep : ∀ d, d ∈ bs.map enc → A.in1.in1.units + d.depth < cLine := by
    intro d hd
    obtain ⟨z, hz, rfl⟩ := List.mem_map.mp hd
    exact hu z hz
  have S := W.SortsAt.data (prog := prog) (w := w) (A := A.in1.in1) (s := { s with heap := W.sortingHeap (W.copyHeap s.heap vs) (s.heap.objs.size + 1) vs }) (W.each_map (R := fun v d => ∃ as, Reads (W.sortingHeap (W.copyHeap s.heap vs) (s.heap.objs.size + 1) vs) v d as) enc er2) hal hk hdep
  refine PyProof.Rows.call_function_entry_kw kind_sorted plain_sorted entry_sorted ha1 ?_
  unfold Builtin.«sorted»
  refine wpAny_bind (m := checkCount "sorted" 1 1 _) (wpAny_pure ?_)
  refine wpAny_bind (hcol _ ?_)
  refine wpAny_bind (wpAny_newList ?_ hL2)
  have hsize : ((s.heap.push (seqObj "list" #[] 0)).update s.heap.objs.size (Obj.mapSeq (· ++ vs.toArray))).objs.size = s.heap.objs.size + 1 := by rw [Heap.size_update, size_push']
  change wpAny _ _ _ _ _ { s with heap := W.copyHeap s.heap vs }
  rw [hsize]
  refine wpAny_bind (wpAny_holding (wpAny_call_entry_kw slot_list_sort ⟨_, W.copyHeap_at s.heap vs, rfl⟩ entry_list_sort ?_ (ha2 _)))
  rw [hkw]
  refine W.list_sort_rev_vals (s := { s with heap := W.copyHeap s.heap vs }) (W.copyHeap_at s.heap vs) S hL2 ?_
  exact ⟨_, rfl, wpAny_pure ⟨_, rfl, h _ (by rw [W.sortVals_length b rfl]; exact e.length) (W.sortVals_data b e er2 hal)⟩⟩
/-- the data in order -/
def srt (b : Bool) (ds : List PyData) : List PyData := ds.mergeSort (W.dataLe b id)
theorem srt_map {β : Type} (b : Bool) (enc : β → PyData) (bs : List β) : srt b (bs.map enc) = (bs.mergeSort (W.dataLe b enc)).map enc :=
  (W.sort_maps enc (r := W.dataLe b enc) (s := W.dataLe b id) (l := bs) fun x _ y _ => by rw [W.dataLe_eq, W.dataLe_eq]; rfl).symm
section
variable {X : Cx} {e : Expr} {es : List Expr} {Δ : De} {S : As} {ds : List PyData} {d : PyData} {pos p : Pos}
theorem vals_each {K : PySem.W.Frag} {G : Hp} : ∀ {its : List Value} {xs : List V} {ds : List PyData}, Vals xs its → Ats K G xs ds → W.EachIs (fun v d => ∃ x, RelV x v ∧ At K G x d) its ds
  | _, _, [], r, h => by cases h; cases r; exact .nil
  | _, _, d :: ds, r, h => by
    cases h with
    | cons h1 h2 =>
      cases r with
      | cons r1 r2 => exact .cons ⟨_, r1, h1⟩ (vals_each r2 h2)
theorem each_vals {K : PySem.W.Frag} {G : Hp} : ∀ {its : List Value} {ds : List PyData}, W.EachIs (fun v d => ∃ x, RelV x v ∧ At K G x d) its ds → ∃ xs, Vals xs its ∧ Ats K G xs ds
  | _, _, .nil => ⟨[], .nil, .nil⟩
  | _, _, .cons ⟨x, r, a⟩ t => by
    obtain ⟨xs, r', a'⟩ := each_vals t
    exact ⟨x :: xs, .cons r r', .cons a a'⟩
/-- what sorting asks of data -/
structure Sok (ds : List PyData) : Prop where
  al : W.AllAlike ds
  so : W.Sortable ds
  de : ∀ d ∈ ds, d.depth ≤ 60
  le : ds.length ≤ 1000000
theorem sort_core {b : Bool} {kw : List (Str × Value)} {pins : List (Addr × Obj)} {s : Shared} {σ : L2.St} {G H : Hp} {a : Addr} {xs : List V} {Q : VK} (I : Inv X pins σ H s) (hu : X.A.units + 64 < cLine) (hs : SqL X.K H a xs ∨ SqT X.K H a xs) (hG : Same G H) (ha : Ats X.K G xs ds) (ok : Sok ds)
    (ha1 : argsOk "sorted" ⟨[.ref a], kw⟩) (ha2 : ∀ x, argsOk "list.sort" ⟨[.ref x], kw⟩) (hkw : ∀ a, Builtin.«list.sort» ⟨[.ref a], kw⟩ = Builtin.«list.sort» ⟨[.ref a], [(Str.ofString "reverse", .bool b)]⟩)
    (q : ∀ ys l, H l = none → Ats X.K G ys (srt b ds) → Q (.ref l) (upd H l (.lst ys))) : wpAny (model X.prog X.w) X.A (call (.builtin "sorted") [.ref a] kw) (EP X pins σ Q) X.xe s := by
  obtain ⟨its, rv, hz, hcol⟩ : ∃ its : List Value, Vals xs its ∧ xs.length ≤ sizeLine ∧ ∀ (E : Value → Shared → Prop) (Q : List Value → Shared → Prop), Q its { s with heap := (s.heap.push (seqObj "list" #[] 0)).update s.heap.objs.size (Obj.mapSeq (· ++ its.toArray)) } → wpAny (model X.prog X.w) X.A.in1 (collect (.ref a)) Q E s := by
    rcases hs with hs | hs
    · obtain ⟨its, rv, hl, hz⟩ := I.list hs
      exact ⟨its, rv, hz, fun E Q k => collect_list hl.isList k (by rw [← rv.length]; exact hz)⟩
    · obtain ⟨its, rv, hl, hz⟩ := I.tuple hs
      exact ⟨its, rv, hz, fun E Q k => collect_tup hl (by rw [← rv.length]; exact hz) k⟩
  have er : W.EachIs (fun v d => ∃ as, Reads s.heap v (id d) as) its ds := by
    have h0 := vals_each rv ha
    have h1 : ∀ {its : List Value} {es : List PyData}, (∀ d ∈ es, d ∈ ds) → W.EachIs (fun v d => ∃ x, RelV x v ∧ At X.K G x d) its es → W.EachIs (fun v d => ∃ as, Reads s.heap v (id d) as) its es := by
      intro its es hm he
      induction he with
      | nil => exact .nil
      | cons hx _ ih =>
        obtain ⟨x, r, at_⟩ := hx
        refine .cons ?_ (ih fun d hd => hm d (List.mem_cons_of_mem _ hd))
        exact Dp.reads I _ x _ (At.dpA _ _ (ok.al _ (hm _ List.mem_cons_self) _ (hm _ List.mem_cons_self)) (at_.up hG)) r
    exact h1 (fun _ h => h) h0
  refine sorted_run (bs := ds) (enc := id) (b := b) (R := fun v d => ∃ x, RelV x v ∧ At X.K G x d) (fun Q k => hcol _ Q k) ha1 ha2 hkw (vals_each rv ha) er (by simpa using ok.al) (by simpa using ok.so) (Nat.le_trans ok.le (by decide)) (fun d hd => by have := ok.de d hd; show X.A.units + 2 + d.depth < cLine; omega) fun out hlen hout => ?_
  obtain ⟨ys, r2, a2⟩ := each_vals hout
  obtain ⟨ep, hat⟩ := PyProof.Rows.sortedAll_at s.heap its (List.toArray out)
  refine ⟨.ref (s.heap.objs.size + 1), upd H (s.heap.objs.size + 1) (.lst ys), I.laid (t' := s.toks) (fun _ _ => PyProof.Rows.sortedAll_old) (Nat.le_succ _) ⟨?_, out, ep, r2, hat⟩, rfl, q ys _ (I.hok.fresh (Nat.le_succ _)) a2⟩
  rw [r2.length, hlen]
  exact Nat.le_trans ok.le (by decide)
theorem vals_ref1 {a : Addr} {us : List Value} (r : Vals [V.ref a] us) : us = [.ref a] := by
  cases r with
  | cons r t => cases t; cases r; rfl
/-- sorted(xs), xs a list or a tuple -/
theorem cd_sorted (hu : X.A.units + 64 < cLine) (ok : Sok ds) (hd : d = .list ds ∨ d = .tuple ds) : CallD X (.builtin "sorted") S [d] (rNl X.K (srt false ds)) := by
  refine ⟨fun vs H Q => ∃ G a xs, vs = [.ref a] ∧ (SqL X.K H a xs ∨ SqT X.K H a xs) ∧ Same G H ∧ Ats X.K G xs ds ∧ ∀ ys l, H l = none → Ats X.K G ys (srt false ds) → Q (.ref l) (upd H l (.lst ys)), ?_, ?_⟩
  · intro pins s σ H vs us Q I r h
    obtain ⟨G, a, xs, rfl, hs, hG, ha, q⟩ := h
    rw [vals_ref1 r]
    exact sort_core I hu hs hG ha ok (args_sorted1 _) (fun _ => args_list_sort _) (fun a => W.plain_is_rev a) q
  · intro G H vs Q b c h q
    cases h with
    | cons h1 h2 =>
      cases h2
      have fin : ∀ a xs, (SqL X.K H a xs ∨ SqT X.K H a xs) → Ats X.K G xs ds → ∃ G a' xs, ([V.ref a] : List V) = [.ref a'] ∧ (SqL X.K H a' xs ∨ SqT X.K H a' xs) ∧ Same G H ∧ Ats X.K G xs ds ∧ ∀ ys l, H l = none → Ats X.K G ys (srt false ds) → Q (.ref l) (upd H l (.lst ys)) := fun a xs hs ha =>
        ⟨G, a, xs, rfl, hs, b, ha, fun ys l hl hy => by
          obtain ⟨g2, p2⟩ := layH (o := .lst ys) (.refl b) c hl
          exact q _ _ _ g2 p2 ⟨l, ys, rfl, hl, b.free hl, upd_same, hy⟩⟩
      rcases hd with rfl | rfl
      · cases h1 with
        | lst hs ha => exact fin _ _ (.inl (Same_l b (SqL.of hs))) ha
      · cases h1 with
        | tup hs ha => exact fin _ _ (.inr (SqT.of (b _ _ hs))) ha
/-- sorted(xs, reverse=True) -/
theorem ev_sortedR {x : Str} {b : Bool} {kp cp : Pos} {cj} (hx : x = "sorted") (hu : X.A.units + 64 < cLine) (ok : Sok ds) (hd : d = .list ds ∨ d = .tuple ds) (hg : Gl X x) (hm : X.mg x = none) (ha : Ev X e Δ S d)
    (he1 : starEach [e] X.env = (false, eval e X.env) :: starEach [] X.env := by rfl)
    (hk : PK X [⟨some (Str.ofString "reverse"), .Constant (.bool b) cj cp, kp⟩] (tCons (tC (.bl b)) tNil) := by exact pk_cons pe_bl pk_nil)
    (he : backTo pos (starEach [e] X.env) = (false, eval e X.env) :: backTo pos (starEach [] X.env) := by rfl) (hpl : (backTo pos (starEach [e] X.env)).any (·.1) = false := by rfl)
    (hall : (backToKw pos (keywordEach [⟨some (Str.ofString "reverse"), .Constant (.bool b) cj cp, kp⟩] X.env)).all (·.1.isSome) = true := by rfl) (hnone : (backToKw pos (keywordEach [⟨some (Str.ofString "reverse"), .Constant (.bool b) cj cp, kp⟩] X.env)).any (·.1.isNone) = false := by rfl)
    (hks : (backToKw pos (keywordEach [⟨some (Str.ofString "reverse"), .Constant (.bool b) cj cp, kp⟩] X.env)).filterMap (·.1) = [Str.ofString "reverse"] := by rfl) :
    EvL X (.Call (.Name x p) [e] [⟨some (Str.ofString "reverse"), .Constant (.bool b) cj cp, kp⟩] pos) Δ S (srt b ds) := by
  subst hx
  have hc : CallRK X (.builtin "sorted") [Str.ofString "reverse"] (fun vs zs H Q => ∃ G a xs, vs = [.ref a] ∧ zs = [.bl b] ∧ (SqL X.K H a xs ∨ SqT X.K H a xs) ∧ Same G H ∧ Ats X.K G xs ds ∧ ∀ ys l, H l = none → Ats X.K G ys (srt b ds) → Q (.ref l) (upd H l (.lst ys))) := by
    intro pins s σ H vs zs us ws Q I r rz h
    obtain ⟨G, a, xs, rfl, rfl, hs, hG, ha, q⟩ := h
    rw [vals_ref1 r]
    cases rz with
    | cons r1 r2 =>
      cases r2
      cases r1
      exact sort_core I hu hs hG ha ok (args_sorted_rev _ _) (fun _ => args_list_sort_rev _ _) (fun _ => rfl) q
  refine ev_pe (pe_callBK hc hg hm (by decide +kernel) (pa_cons (pe_ev X e) pa_nil he1) hk (by decide) (by decide) he hpl hall hnone hks) fun σ G H Q a b' c q => ⟨Δ, S, _, G, ha, a, b', c, fun v G1 H1 g p1 r => ?_⟩
  have fin : ∀ a' xs, v = .ref a' → (SqL X.K H1 a' xs ∨ SqT X.K H1 a' xs) → Ats X.K G1 xs ds → ∃ G a xs, ([v] : List V) = [.ref a] ∧ ([V.bl b] : List V) = [.bl b] ∧ (SqL X.K H1 a xs ∨ SqT X.K H1 a xs) ∧ Same G H1 ∧ Ats X.K G xs ds ∧ ∀ ys l, H1 l = none → Ats X.K G ys (srt b ds) → Q (.ref l) (upd H1 l (.lst ys)) := fun a' xs e1 hs ha' =>
    ⟨G1, a', xs, by rw [e1], rfl, hs, g.sub, ha', fun ys l hl hy => by
      obtain ⟨g2, p2⟩ := layH (o := .lst ys) g p1 hl
      exact q _ _ _ g2 p2 ⟨l, ys, rfl, none_back g hl, g.sub.free hl, upd_same, hy⟩⟩
  rcases hd with rfl | rfl
  · cases r with
    | lst hs ha => exact fin _ _ rfl (.inl (Same_l g.sub (SqL.of hs))) ha
  · cases r with
    | tup hs ha => exact fin _ _ rfl (.inr (SqT.of (g.sub _ _ hs))) ha

/-! ### tuple(..), list(..), any, all, sum, max, min, abs, int -/
theorem cd_tuple (hd : d = .list ds ∨ d = .tuple ds) : CallD X (.type "tuple") S [d] (rAt X.K (.tuple ds)) := by
  refine ⟨_, call_tuple_of, fun G H vs Q b c h q => ?_⟩
  cases h with
  | cons h1 h2 =>
    cases h2
    rcases hd with rfl | rfl
    · cases h1 with
      | lst hs ha => exact ⟨_, _, rfl, .inl ⟨Same_l b (SqL.of hs), fun l hl => by
          obtain ⟨g2, p2⟩ := lay (o := .tup _) (.refl b) c hl
          exact q _ _ _ g2 p2 (.tup upd_same (ha.up (same_upd (b.free hl))))⟩⟩
    · cases h1 with
      | tup hs ha => exact ⟨_, _, rfl, .inr ⟨SqT.of (b _ _ hs), q _ G H (.refl b) c (.tup hs ha)⟩⟩
theorem cd_list (hd : d = .list ds ∨ d = .tuple ds) : CallD X (.type "list") S [d] (rNl X.K ds) := by
  refine ⟨_, call_list_of, fun G H vs Q b c h q => ?_⟩
  cases h with
  | cons h1 h2 =>
    cases h2
    have fin : ∀ xs, Ats X.K G xs ds → ∀ l, H l = none → Q (.ref l) (upd H l (.lst xs)) := fun xs ha l hl => by
      obtain ⟨g2, p2⟩ := layH (o := .lst xs) (.refl b) c hl
      exact q _ _ _ g2 p2 ⟨l, xs, rfl, hl, b.free hl, upd_same, ha⟩
    rcases hd with rfl | rfl
    · cases h1 with
      | lst hs ha => exact ⟨_, _, rfl, .inl (Same_l b (SqL.of hs)), fin _ ha⟩
    · cases h1 with
      | tup hs ha => exact ⟨_, _, rfl, .inr (SqT.of (b _ _ hs)), fin _ ha⟩
theorem cd_any {bs : List Bool} (hc : X.calm = true) : CallD X (.builtin "any") S [.list (bs.map .bool)] (rAt X.K (.bool (bs.any id))) :=
  ⟨_, cr_any hc, fun G H vs Q b c h q => by
    cases h with
    | cons h1 h2 =>
      cases h2
      cases h1 with
      | lst hs ha => exact ⟨_, bs, rfl, by rw [← Ats.of_bools ha]; exact Same_l b (SqL.of hs), q _ G H (.refl b) c (.bl _)⟩⟩
theorem cd_all {bs : List Bool} (hc : X.calm = true) : CallD X (.builtin "all") S [.list (bs.map .bool)] (rAt X.K (.bool (bs.all id))) :=
  ⟨_, cr_all hc, fun G H vs Q b c h q => by
    cases h with
    | cons h1 h2 =>
      cases h2
      cases h1 with
      | lst hs ha => exact ⟨_, bs, rfl, by rw [← Ats.of_bools ha]; exact Same_l b (SqL.of hs), q _ G H (.refl b) c (.bl _)⟩⟩
theorem cd_sum {ns : List Int} (hc : X.calm = true) : CallD X (.builtin "sum") S [.list (ns.map .int)] (rAt X.K (.int ns.sum)) :=
  ⟨_, cr_sum hc, fun G H vs Q b c h q => by
    cases h with
    | cons h1 h2 =>
      cases h2
      cases h1 with
      | lst hs ha => exact ⟨_, ns, rfl, by rw [← Ats.of_ints ha]; exact Same_l b (SqL.of hs), q _ G H (.refl b) c (.int _)⟩⟩
theorem cd_max2 {i j : Int} (hc : X.calm = true) : CallD X (.builtin "max") S [.int i, .int j] (rAt X.K (.int (max i j))) :=
  ⟨_, call_max2 hc, fun G H vs Q b c h q => by
    cases h with
    | cons h1 h2 =>
      cases h2 with
      | cons h2 h3 =>
        cases h3
        cases h1
        cases h2
        refine ⟨i, j, rfl, q _ G H (.refl b) c ?_⟩
        have e : (if j > i then j else i) = max i j := by rw [Int.max_def]; split <;> split <;> omega
        rw [e]; exact .int _⟩
theorem cd_min2 {i j : Int} (hc : X.calm = true) : CallD X (.builtin "min") S [.int i, .int j] (rAt X.K (.int (min i j))) :=
  ⟨_, call_min2 hc, fun G H vs Q b c h q => by
    cases h with
    | cons h1 h2 =>
      cases h2 with
      | cons h2 h3 =>
        cases h3
        cases h1
        cases h2
        refine ⟨i, j, rfl, q _ G H (.refl b) c ?_⟩
        have e : (if j < i then j else i) = min i j := by rw [Int.min_def]; split <;> split <;> omega
        rw [e]; exact .int _⟩
theorem cd_abs {i : Int} : CallD X (.builtin "abs") S [.int i] (rAt X.K (.int i.natAbs)) :=
  ⟨_, call_abs, fun G H vs Q b c h q => by
    cases h with
    | cons h1 h2 =>
      cases h2
      cases h1
      refine ⟨i, rfl, q _ G H (.refl b) c ?_⟩
      have e : (if i < 0 then -i else i) = (i.natAbs : Int) := by split <;> omega
      rw [e]; exact .int _⟩
theorem cd_intB {k : Bool} : CallD X (.type "int") S [.bool k] (rAt X.K (.int (if k then 1 else 0))) :=
  ⟨_, call_int1, fun G H vs Q b c h q => by
    cases h with
    | cons h1 h2 =>
      cases h2
      cases h1
      exact .inr ⟨k, rfl, q _ G H (.refl b) c (.int _)⟩⟩
/-- list(range(n)) -/
theorem evl_range {n : Int} {p1 p2 : Pos} (hc : X.calm = true) (hg : Gl X "list") (hm : X.mg "list" = none) (hg2 : Gl X "range") (hm2 : X.mg "range" = none) (ha : Ev X e Δ S (.int n)) (h0 : 0 ≤ n) (h1 : n ≤ 1000000)
    (na : starEach [e] X.env = (false, eval e X.env) :: starEach [] X.env := by rfl) (na2 : starEach [.Call (.Name "range" p2) [e] [] p1] X.env = (false, eval (.Call (.Name "range" p2) [e] [] p1) X.env) :: starEach [] X.env := by rfl) :
    EvL X (.Call (.Name "list" p) [.Call (.Name "range" p2) [e] [] p1] [] pos) Δ S ((List.range n.toNat).map fun k : Nat => .int k) :=
  ev_pe (pe_listRg hc hg hm (prg_1 hg2 hm2 (pe_ev X e) na) na2) fun σ G H Q a b c q => ⟨Δ, S, _, G, ha, a, b, c, fun v G1 H1 g p1 r => by
    cases r
    refine ⟨n, rfl, RgOk.of_le (by omega) (by omega) (by omega) h0, fun l hl => ?_⟩
    obtain ⟨g2, p2⟩ := layH (o := .lst (rgV 0 n)) g p1 hl
    refine q _ _ _ g2 p2 ⟨l, _, rfl, none_back g hl, g.sub.free hl, upd_same, ?_⟩
    unfold rgV
    rw [Int.sub_zero]
    refine Ats.of_get (by simp) fun i v d e1 e2 => ?_
    rw [List.getElem?_map] at e1 e2
    cases q : (List.range n.toNat)[i]? with
    | none => rw [q] at e1; cases e1
    | some j =>
      rw [q] at e1 e2
      cases e1
      cases e2
      show At X.K G1 (.int (0 + (j : Int))) (.int (j : Int))
      rw [Int.zero_add]
      exact .int _⟩
end
end DL
namespace DL
open PySem PySem.Spec PyProof.Rows L2

/-! ### values that are told by a property -/
abbrev rX (K : PySem.W.Frag) (P : PyData → Prop) : RR := fun _ _ v G2 _ => ∃ d, P d ∧ At K G2 v d
abbrev rXl (K : PySem.W.Frag) (P : List PyData → Prop) : RR := fun _ H v G2 H2 => ∃ ds, P ds ∧ ∃ p xs, v = .ref p ∧ H p = none ∧ G2 p = none ∧ H2 p = some (.lst xs) ∧ Ats K G2 xs ds
abbrev EvX (X : Cx) (e : Expr) (Δ : De) (S : As) (P : PyData → Prop) : Prop := EvR X e Δ S (rX X.K P)
abbrev EvXl (X : Cx) (e : Expr) (Δ : De) (S : As) (P : List PyData → Prop) : Prop := EvR X e Δ S (rXl X.K P)
theorem back_x {K : PySem.W.Frag} {P : PyData → Prop} : Back (rX K P) := fun _ _ _ _ _ _ _ _ h => h
theorem back_xl {K : PySem.W.Frag} {P : List PyData → Prop} : Back (rXl K P) := fun _ _ _ _ _ _ _ r ⟨ds, hp, p, xs, e, h, k⟩ => ⟨ds, hp, p, xs, e, none_back r h, k⟩
section
variable {X : Cx} {e a b tg iter : Expr} {es : List Expr} {Δ : De} {S : As} {R : RR} {d d1 d2 : PyData} {ds : List PyData} {pos p : Pos} {P P' P1 P2 : PyData → Prop} {PL : List PyData → Prop}
theorem EvR.x (h : Ev X e Δ S d) (k : P d) : EvX X e Δ S P := h.imp fun _ _ v G2 _ _ _ r => ⟨d, k, r⟩
theorem EvR.xx (h : EvX X e Δ S P) (k : ∀ d, P d → P' d) : EvX X e Δ S P' := h.imp fun _ _ v G2 _ _ _ ⟨d, z, r⟩ => ⟨d, k d z, r⟩
theorem EvR.xl (h : EvL X e Δ S ds) (k : PL ds) : EvXl X e Δ S PL := h.imp fun _ _ v G2 _ _ _ r => ⟨ds, k, r⟩
theorem EvR.xfrz (h : EvXl X e Δ S PL) (k : ∀ ds, PL ds → P (.list ds)) : EvX X e Δ S P :=
  fun pins s σ G H Q I a b c q => h pins s σ G H Q I a b c fun v G2 H2 g p ⟨ds, hp, x, xs, e1, e2, e3, e4, e5⟩ => by
    subst e1
    exact q _ (upd G2 x (.lst xs)) H2 (g.frz e2 e3 e4) (S.frz (not_own c e2) p e3 e4) ⟨_, k ds hp, .lst upd_same (e5.up (same_upd e3))⟩
theorem twoX {ta tb : Expr} {σ : L2.St} {G H : Hp} {k : V → V → Hp → Prop} (ha : EvX X ta Δ S P1) (hb : EvX X tb Δ S P2) (a : EnvOk X.K G σ Δ) (b : Same G H) (c : S.p G H)
    (q : ∀ x y d1 d2 G1 H1, P1 d1 → P2 d2 → Gr G H G1 H1 → S.p G1 H1 → At X.K G1 x d1 → At X.K G1 y d2 → k x y H1) : tEv X ta σ H fun x H1 => tEv X tb σ H1 fun y H2 => k x y H2 :=
  ⟨Δ, S, _, G, ha, a, b, c, fun x G1 H1 g1 p1 ⟨d1, z1, r1⟩ => ⟨Δ, S, _, G1, hb, a.up g1.gx, g1.sub, p1, fun y G2 H2 g2 p2 ⟨d2, z2, r2⟩ => q x y d1 d2 G2 H2 z1 z2 (g1.trans g2) p2 (r1.up g2.gx) r2⟩⟩
def opAny (X : Cx) (f : Value → Value → Sem Value) : R2 := fun x y H Q => ∃ r : R2, OpR X f r ∧ r x y H Q
theorem op_any (X : Cx) (f : Value → Value → Sem Value) : OpR X f (opAny X f) := fun pins s σ H x y v u Q I r1 r2 ⟨r, h, q⟩ => h pins s σ H x y v u Q I r1 r2 q
theorem OpD.x {f : Value → Value → Sem Value} (h : OpD X f S d1 d2 (rAt X.K d)) (k : P d) : OpD X f S d1 d2 (rX X.K P) := by
  obtain ⟨r, h1, h2⟩ := h
  exact ⟨r, h1, fun G H x y Q b c e1 e2 q => h2 G H x y Q b c e1 e2 fun v G2 H2 g p r => q v G2 H2 g p ⟨d, k, r⟩⟩
theorem evx_op {op : Operator} (ha : EvX X a Δ S P1) (hb : EvX X b Δ S P2) (ho : ∀ d1 d2, P1 d1 → P2 d2 → OpD X (binaryOp op) S d1 d2 R) (hR : Back R := by first | exact back_x | exact back_at | exact back_nl) : EvR X (.BinOp a op b pos) Δ S R :=
  ev_pe (pe_op (op_any X _) (pe_ev X a) (pe_ev X b)) fun σ G H Q a' b' c' q => twoX ha hb a' b' c' fun x y d1 d2 G1 H1 z1 z2 g p e1 e2 => by
    obtain ⟨r, h1, h2⟩ := ho d1 d2 z1 z2
    exact ⟨r, h1, h2 G1 H1 x y Q g.sub p e1 e2 fun v G2 H2 g2 p2 r2 => q v G2 H2 (g.trans g2) p2 (hR _ _ _ _ _ _ _ g r2)⟩
theorem evx_cmp {op : CmpOp} (ha : EvX X a Δ S P1) (hb : EvX X b Δ S P2) (ho : ∀ d1 d2, P1 d1 → P2 d2 → OpD X (compareOp op) S d1 d2 R) (hR : Back R := by first | exact back_x | exact back_at | exact back_nl) (hm : behindInMarks op b = false := by first | exact nomark _ | rfl | with_unfolding_all rfl) :
    EvR X (.Compare a [op] [b] pos) Δ S R :=
  ev_pe (pe_cmpR (op_any X _) (pe_ev X a) (pe_ev X b) hm) fun σ G H Q a' b' c' q => twoX ha hb a' b' c' fun x y d1 d2 G1 H1 z1 z2 g p e1 e2 => by
    obtain ⟨r, h1, h2⟩ := ho d1 d2 z1 z2
    exact ⟨r, h1, h2 G1 H1 x y Q g.sub p e1 e2 fun v G2 H2 g2 p2 r2 => q v G2 H2 (g.trans g2) p2 (hR _ _ _ _ _ _ _ g r2)⟩
def ixAny (X : Cx) : R2 := fun x y H Q => ∃ r : R2, IxR X r ∧ r x y H Q
theorem ix_any (X : Cx) : IxR X (ixAny X) := fun va sl pins s σ H x y v u Q I r1 r2 ⟨r, h, q⟩ e => h va sl pins s σ H x y v u Q I r1 r2 q e
theorem IxD.x (h : IxD X S d1 d2 (rAt X.K d)) (k : P d) : IxD X S d1 d2 (rX X.K P) := by
  obtain ⟨r, h1, h2⟩ := h
  exact ⟨r, h1, fun G H x y Q b c e1 e2 q => h2 G H x y Q b c e1 e2 fun v G2 H2 g p r => q v G2 H2 g p ⟨d, k, r⟩⟩
theorem evx_ix (ha : EvX X a Δ S P1) (hb : EvX X b Δ S P2) (ho : ∀ d1 d2, P1 d1 → P2 d2 → IxD X S d1 d2 R) (hR : Back R := by first | exact back_x | exact back_at | exact back_nl) (hs : PlainIx b := by exact fun _ _ => rfl) : EvR X (.Subscript a b pos) Δ S R :=
  ev_pe (pe_ix (ix_any X) (pe_ev X a) (pe_ev X b) hs) fun σ G H Q a' b' c' q => twoX ha hb a' b' c' fun x y d1 d2 G1 H1 z1 z2 g p e1 e2 => by
    obtain ⟨r, h1, h2⟩ := ho d1 d2 z1 z2
    exact ⟨r, h1, h2 G1 H1 x y Q g.sub p e1 e2 fun v G2 H2 g2 p2 r2 => q v G2 H2 (g.trans g2) p2 (hR _ _ _ _ _ _ _ g r2)⟩
/-- an item of a list that may still change -/
theorem evx_ixM {q : Addr} (hS : S.le (.acc X.K q ds)) (ha : Ev X a Δ S (ob q)) (hb : EvX X b Δ S P1) (e : ∀ d1, P1 d1 → ∃ i d, d1 = .int i ∧ atI ds i = some d ∧ P d) (hs : PlainIx b := by exact fun _ _ => rfl) : EvX X (.Subscript a b pos) Δ S P :=
  ev_pe (pe_ix ix_list (pe_ev X a) (pe_ev X b) hs) fun σ G H Q a' b' c' k => twoX (ha.x (P := (· = ob q)) rfl) hb a' b' c' fun x y d1 d2 G1 H1 z1 z2 g p e1 e2 => by
    subst z1
    obtain ⟨i, d, rfl, e3, e4⟩ := e d2 z2
    obtain ⟨_, xs, h1, h2⟩ := hS _ _ p
    rw [At.obj_eq e1]
    cases e2
    obtain ⟨v, f1, f2⟩ := h2.atI e3
    exact ⟨_, _, _, _, rfl, rfl, SqL.of h1, f1, k v G1 H1 g p ⟨d, e4, f2⟩⟩

/-! arguments -/
def EvAX (X : Cx) (es : List Expr) (Δ : De) (S : As) (PL : List PyData → Prop) : Prop :=
  ∀ (pos : Pos) (pins : List (Addr × Obj)) (s : Shared) (σ : L2.St) (G H : Hp) (Q : List V → Hp → Prop), Inv X pins σ H s → EnvOk X.K G σ Δ → Same G H → S.p G H →
    (∀ vs ds G2 H2, PL ds → Gr G H G2 H2 → S.p G2 H2 → Ats X.K G2 vs ds → Q vs H2) → wpAny (model X.prog X.w) X.A (spliced (backTo pos (starEach es X.env))) (AP X pins σ Q) X.xe s
def tEvAX (X : Cx) (es : List Expr) : TA := fun σ H Q => ∃ Δ S PL G, EvAX X es Δ S PL ∧ EnvOk X.K G σ Δ ∧ Same G H ∧ S.p G H ∧ ∀ vs ds G2 H2, PL ds → Gr G H G2 H2 → S.p G2 H2 → Ats X.K G2 vs ds → Q vs H2
theorem pa_evx (X : Cx) (es : List Expr) : PA X es (tEvAX X es) := ⟨fun pos pins s σ H Q I ⟨_, _, _, G, h, a, b, c, q⟩ => h pos pins s σ G H Q I a b c q⟩
theorem evax_pa {t : TA} (h : PA X es t) (ht : ∀ (σ : L2.St) (G H : Hp) (Q : List V → Hp → Prop), EnvOk X.K G σ Δ → Same G H → S.p G H → (∀ vs ds G2 H2, PL ds → Gr G H G2 H2 → S.p G2 H2 → Ats X.K G2 vs ds → Q vs H2) → t σ H Q) : EvAX X es Δ S PL :=
  fun pos pins s σ G H Q I a b c q => h.run pos pins s σ H Q I (ht σ G H Q a b c q)
theorem eax_nil : EvAX X [] Δ S (· = []) := evax_pa pa_nil fun _ G H _ _ b c q => q [] [] G H rfl (.refl b) c .nil
theorem eax_cons (h : EvX X e Δ S P) (hr : EvAX X es Δ S PL) (hs : starEach (e :: es) X.env = (false, eval e X.env) :: starEach es X.env := by rfl) : EvAX X (e :: es) Δ S (fun ds => ∃ d ds', ds = d :: ds' ∧ P d ∧ PL ds') :=
  evax_pa (pa_cons (pe_ev X e) (pa_evx X es) hs) fun σ G H Q a b c q => ⟨Δ, S, _, G, h, a, b, c, fun v G1 H1 g p ⟨d, z, r⟩ =>
    ⟨Δ, S, PL, G1, hr, a.up g.gx, g.sub, p, fun vs ds G2 H2 z2 g2 p2 r2 => q _ _ G2 H2 ⟨d, ds, rfl, z, z2⟩ (g.trans g2) p2 (.cons (r.up g2.gx) r2)⟩⟩
theorem eax_cons' (h : EvX X e Δ S P) (hr : EvA X es Δ S ds) (hs : starEach (e :: es) X.env = (false, eval e X.env) :: starEach es X.env := by rfl) : EvAX X (e :: es) Δ S (fun ds' => ∃ d, ds' = d :: ds ∧ P d) :=
  evax_pa (pa_cons (pe_ev X e) (pa_ev X es) hs) fun σ G H Q a b c q => ⟨Δ, S, _, G, h, a, b, c, fun v G1 H1 g p ⟨d, z, r⟩ =>
    ⟨Δ, S, ds, G1, hr, a.up g.gx, g.sub, p, fun vs G2 H2 g2 p2 r2 => q _ _ G2 H2 ⟨d, rfl, z⟩ (g.trans g2) p2 (.cons (r.up g2.gx) r2)⟩⟩
theorem EvA.x (h : EvA X es Δ S ds) (k : PL ds) : EvAX X es Δ S PL := fun pos pins s σ G H Q I a b c q => h pos pins s σ G H Q I a b c fun vs G2 H2 g p r => q vs ds G2 H2 k g p r
theorem EvAX.xx {PL' : List PyData → Prop} (h : EvAX X es Δ S PL) (k : ∀ ds, PL ds → PL' ds) : EvAX X es Δ S PL' := fun pos pins s σ G H Q I a b c q => h pos pins s σ G H Q I a b c fun vs ds G2 H2 z g p r => q vs ds G2 H2 (k ds z) g p r
theorem evx_tup {x1} (h : EvAX X es Δ S PL) (hl : ∀ ds, PL ds → ds.length ≤ 1000 ∧ P (.tuple ds)) : EvX X (.Tuple es x1 pos) Δ S P :=
  ev_pe (pe_tup (pa_evx X es)) fun σ G H Q a b c q => ⟨Δ, S, PL, G, h, a, b, c, fun vs ds G1 H1 z g p r => ⟨by rw [r.len]; exact Nat.le_trans (hl ds z).1 (by decide), fun l hl' => by
    obtain ⟨g2, p2⟩ := lay (o := .tup vs) g p hl'
    exact q _ _ _ g2 p2 ⟨_, (hl ds z).2, .tup upd_same (r.up (same_upd (g.sub.free hl')))⟩⟩⟩
theorem evx_lst (h : EvAX X es Δ S PL) (hl : ∀ ds, PL ds → ds.length ≤ 1000) : EvXl X (.List es pos) Δ S PL :=
  ev_pe (pe_lst (pa_evx X es)) fun σ G H Q a b c q => ⟨Δ, S, PL, G, h, a, b, c, fun vs ds G1 H1 z g p r => ⟨by rw [r.len]; exact Nat.le_trans (hl ds z) (by decide), fun l hl => by
    obtain ⟨g2, p2⟩ := layH (o := .lst vs) g p hl
    exact q _ _ _ g2 p2 ⟨ds, z, l, vs, rfl, none_back g hl, g.sub.free hl, upd_same, r⟩⟩⟩
def callAny (X : Cx) (f : Value) : List V → Hp → VK → Prop := fun vs H Q => ∃ r, CallR X f r ∧ r vs H Q
theorem call_any (X : Cx) (f : Value) : CallR X f (callAny X f) := fun pins s σ H xs us Q I r ⟨t, h, q⟩ => h pins s σ H xs us Q I r q
theorem CallD.x {f : Value} (h : CallD X f S ds (rAt X.K d)) (k : P d) : CallD X f S ds (rX X.K P) := by
  obtain ⟨r, h1, h2⟩ := h
  exact ⟨r, h1, fun G H vs Q b c e1 q => h2 G H vs Q b c e1 fun v G2 H2 g p r => q v G2 H2 g p ⟨d, k, r⟩⟩
theorem evx_callB {x : Str} {id : String} (hc : ∀ ds, PL ds → CallD X (.builtin id) S ds R) (hg : Gl X x) (hm : X.mg x = none) (hv : bootBuiltins x = some (.builtin id)) (ha : EvAX X (e :: es) Δ S PL) (hR : Back R := by first | exact back_x | exact back_at | exact back_nl)
    (hn : x ≠ "__name__" := by decide) (hdb : (x == ("__debug__" : Str)) = false := by decide) (he : starEach (e :: es) X.env = (false, eval e X.env) :: starEach es X.env := by rfl) (hpl : (backTo pos (starEach es X.env)).any (·.1) = false := by rfl) :
    EvR X (.Call (.Name x p) (e :: es) [] pos) Δ S R :=
  ev_pe (pe_callB (call_any X _) hg hm hv (pa_evx X _) hn hdb he hpl) fun σ G H Q a b c q => ⟨Δ, S, PL, G, ha, a, b, c, fun vs ds G1 H1 z g p r1 => by
    obtain ⟨r, h1, h2⟩ := hc ds z
    exact ⟨r, h1, h2 G1 H1 vs Q g.sub p r1 fun v G2 H2 g2 p2 r2 => q v G2 H2 (g.trans g2) p2 (hR _ _ _ _ _ _ _ g r2)⟩⟩
theorem evx_callTy {x : Str} {T : String} (hc : ∀ ds, PL ds → CallD X (.type T) S ds R) (hg : Gl X x) (hm : X.mg x = none) (hv : bootBuiltins x = some (.type T)) (ha : EvAX X (e :: es) Δ S PL) (hR : Back R := by first | exact back_x | exact back_at | exact back_nl)
    (hn : x ≠ "__name__" := by decide) (hdb : (x == ("__debug__" : Str)) = false := by decide) (he : starEach (e :: es) X.env = (false, eval e X.env) :: starEach es X.env := by rfl) (hpl : (backTo pos (starEach es X.env)).any (·.1) = false := by rfl) :
    EvR X (.Call (.Name x p) (e :: es) [] pos) Δ S R :=
  ev_pe (pe_callTy (call_any X _) hg hm hv (pa_evx X _) hn hdb he hpl) fun σ G H Q a b c q => ⟨Δ, S, PL, G, ha, a, b, c, fun vs ds G1 H1 z g p r1 => by
    obtain ⟨r, h1, h2⟩ := hc ds z
    exact ⟨r, h1, h2 G1 H1 vs Q g.sub p r1 fun v G2 H2 g2 p2 r2 => q v G2 H2 (g.trans g2) p2 (hR _ _ _ _ _ _ _ g r2)⟩⟩
theorem evx_c {x : Str} {k j : Nat} {Pr : Hp → List PyData → RR → Prop} (c : C8.Cal X.prog X.w X.K X.mg X.base k x (spP X.K Pr) []) (hr : Room j X.A) (hg : Gl X x) (ha : EvAX X (e :: es) Δ S PL) (hP : ∀ G H ds, PL ds → S.p G H → Pr G ds R) (hR : Back R := by first | exact back_x | exact back_xl | exact back_at | exact back_nl) (hk : k ≤ j := by decide)
    (hdb : (x == ("__debug__" : Str)) = false := by decide) (he : starEach (e :: es) X.env = (false, eval e X.env) :: starEach es X.env := by rfl) (hpl : (backTo pos (starEach es X.env)).any (·.1) = false := by rfl) :
    EvR X (.Call (.Name x p) (e :: es) [] pos) Δ S R :=
  ev_pe (C8.pe_c c hr hk hg (pa_evx X _) hdb he hpl) fun σ G H Q a b c q => ⟨Δ, S, PL, G, ha, a, b, c, fun vs ds G1 H1 z g p r1 => by
    show spP X.K Pr (vs ++ []) H1 Q _
    rw [List.append_nil]
    exact ⟨G1, ds, R, g.sub, r1, hP G1 H1 ds z p, fun v G2 H2 g2 s2 r2 => q v G2 H2 (g.trans g2) (S.cl g2 s2 p) (hR _ _ _ _ _ _ _ g r2)⟩⟩

/-! tests -/
def EvTX (X : Cx) (e : Expr) (Δ : De) (S : As) (P : Bool → Prop) : Prop :=
  ∀ (pins : List (Addr × Obj)) (s : Shared) (σ : L2.St) (G H : Hp) (Q : Bool → Hp → Prop), Inv X pins σ H s → EnvOk X.K G σ Δ → Same G H → S.p G H →
    (∀ b G2 H2, P b → Gr G H G2 H2 → S.p G2 H2 → Q b H2) → wpAny (model X.prog X.w) X.A (isTrue e X.env (eval e X.env)) (TP X pins σ Q) X.xe s
def EvWX (X : Cx) (e : Expr) (Δ : De) (S : As) (P : Bool → Prop) : Prop :=
  ∀ (whole : Sem Value) (pins : List (Addr × Obj)) (s : Shared) (σ : L2.St) (G H : Hp) (Q : Bool → Hp → Prop), Inv X pins σ H s → EnvOk X.K G σ Δ → Same G H → S.p G H →
    (∀ b G2 H2, P b → Gr G H G2 H2 → S.p G2 H2 → Q b H2) → wpAny (model X.prog X.w) X.A (isTrue e X.env whole) (TP X pins σ Q) X.xe s
def tEvTX (X : Cx) (e : Expr) : TT := fun σ H Q => ∃ Δ S P G, EvTX X e Δ S P ∧ EnvOk X.K G σ Δ ∧ Same G H ∧ S.p G H ∧ ∀ b G2 H2, P b → Gr G H G2 H2 → S.p G2 H2 → Q b H2
theorem pt_evx (X : Cx) (e : Expr) : PT X e (tEvTX X e) := ⟨fun pins s σ H Q I ⟨_, _, _, G, h, a, b, c, q⟩ => h pins s σ G H Q I a b c q⟩
def tEvWX (X : Cx) (e : Expr) : TT := fun σ H Q => ∃ Δ S P G, EvWX X e Δ S P ∧ EnvOk X.K G σ Δ ∧ Same G H ∧ S.p G H ∧ ∀ b G2 H2, P b → Gr G H G2 H2 → S.p G2 H2 → Q b H2
theorem pw_evx (X : Cx) (e : Expr) : PW X e (tEvWX X e) := ⟨fun w pins s σ H Q I ⟨_, _, _, G, h, a, b, c, q⟩ => h w pins s σ G H Q I a b c q⟩
variable {PB PB' : Bool → Prop}
theorem evtx_pt {t : TT} (h : PT X e t) (ht : ∀ (σ : L2.St) (G H : Hp) (Q : Bool → Hp → Prop), EnvOk X.K G σ Δ → Same G H → S.p G H → (∀ b G2 H2, PB b → Gr G H G2 H2 → S.p G2 H2 → Q b H2) → t σ H Q) : EvTX X e Δ S PB :=
  fun pins s σ G H Q I a b c q => h.run pins s σ H Q I (ht σ G H Q a b c q)
theorem evwx_pw {t : TT} (h : PW X e t) (ht : ∀ (σ : L2.St) (G H : Hp) (Q : Bool → Hp → Prop), EnvOk X.K G σ Δ → Same G H → S.p G H → (∀ b G2 H2, PB b → Gr G H G2 H2 → S.p G2 H2 → Q b H2) → t σ H Q) : EvWX X e Δ S PB :=
  fun w pins s σ G H Q I a b c q => h.run w pins s σ H Q I (ht σ G H Q a b c q)
theorem EvT.x {k : Bool} (h : EvT X e Δ S k) (z : PB k) : EvTX X e Δ S PB := fun pins s σ G H Q I a b c q => h pins s σ G H Q I a b c fun G2 H2 g p => q k G2 H2 z g p
theorem evtx_w (h : EvWX X e Δ S PB) : EvTX X e Δ S PB := h _
theorem evtx_val (h : EvX X e Δ S P) (hP : ∀ d, P d → ∃ k, d = .bool k ∧ PB k) (he : ∀ whole, isTrue e X.env whole = (do let v ← whole; standAt e.pos; holding [v] (truthy v)) := by intro _; rfl) : EvTX X e Δ S PB :=
  evtx_pt (pt_val (pe_ev X e) he) fun σ G H Q a' b' c' q => ⟨Δ, S, _, G, h, a', b', c', fun v G2 H2 g p ⟨d, z, r⟩ => by
    obtain ⟨k, rfl, z2⟩ := hP d z
    cases r
    exact ⟨k, rfl, q k G2 H2 z2 g p⟩⟩
theorem evtx_cmp {op : CmpOp} (ha : EvX X a Δ S P1) (hb : EvX X b Δ S P2) (ho : ∀ d1 d2, P1 d1 → P2 d2 → ∃ k, OpD X (compareOp op) S d1 d2 (rAt X.K (.bool k)) ∧ PB k) (hm : behindInMarks op b = false := by first | exact nomark _ | rfl | with_unfolding_all rfl) :
    EvTX X (.Compare a [op] [b] pos) Δ S PB :=
  evtx_pt (pt_cmpR (op_any X _) (pe_ev X a) (pe_ev X b) hm) fun σ G H Q a' b' c' q => twoX ha hb a' b' c' fun x y d1 d2 G1 H1 z1 z2 g p e1 e2 => by
    obtain ⟨k, ⟨r, h1, h2⟩, z⟩ := ho d1 d2 z1 z2
    exact ⟨r, h1, h2 G1 H1 x y _ g.sub p e1 e2 fun v G2 H2 g2 p2 r2 => by cases r2; exact ⟨k, rfl, q k G2 H2 z (g.trans g2) p2⟩⟩
theorem evwx_and1 (h : EvTX X a Δ S PB) : EvWX X (.BoolOp .And [a] pos) Δ S PB :=
  evwx_pw (pw_and1 (pt_evx X a)) fun σ G H Q a' b' c' q => ⟨Δ, S, PB, G, h, a', b', c', q⟩
theorem evwx_and {rest : List Expr} (h : EvTX X a Δ S PB) (h' : PB true → EvWX X (.BoolOp .And (b :: rest) pos) Δ S PB') : EvWX X (.BoolOp .And (a :: b :: rest) pos) Δ S (fun k => (PB true ∧ PB' k) ∨ (PB false ∧ k = false)) :=
  evwx_pw (pw_and (pt_evx X a) (pw_evx X _)) fun σ G H Q a' b' c' q => ⟨Δ, S, PB, G, h, a', b', c', fun k G2 H2 z g p => by
    cases k with
    | true => exact iteT ⟨Δ, S, PB', G2, h' z, a'.up g.gx, g.sub, p, fun k G3 H3 z3 g3 p3 => q k G3 H3 (.inl ⟨z, z3⟩) (g.trans g3) p3⟩
    | false => exact iteF (q false G2 H2 (.inr ⟨z, rfl⟩) g p)⟩
theorem EvTX.xx (h : EvTX X e Δ S PB) (k : ∀ b, PB b → PB' b) : EvTX X e Δ S PB' := fun pins s σ G H Q I a b c q => h pins s σ G H Q I a b c fun b' G2 H2 z g p => q b' G2 H2 (k b' z) g p
theorem EvWX.xx (h : EvWX X e Δ S PB) (k : ∀ b, PB b → PB' b) : EvWX X e Δ S PB' := fun w pins s σ G H Q I a b c q => h w pins s σ G H Q I a b c fun b' G2 H2 z g p => q b' G2 H2 (k b' z) g p
theorem evx_if {t : Expr} (ht : EvTX X t Δ S PB) (ha : PB true → EvR X a Δ S R) (hb : PB false → EvR X b Δ S R) (hR : Back R := by first | exact back_x | exact back_xl | exact back_at | exact back_nl) : EvR X (.IfExp t a b pos) Δ S R :=
  ev_pe (pe_ifExp (pt_evx X t) (pe_ev X a) (pe_ev X b)) fun σ G H Q a' b' c' q => ⟨Δ, S, PB, G, ht, a', b', c', fun k G2 H2 z g p => by
    cases k with
    | true => exact iteT ⟨Δ, S, R, G2, ha z, a'.up g.gx, g.sub, p, fun v G3 H3 g3 p3 r3 => q v G3 H3 (g.trans g3) p3 (hR _ _ _ _ _ _ _ g r3)⟩
    | false => exact iteF ⟨Δ, S, R, G2, hb z, a'.up g.gx, g.sub, p, fun v G3 H3 g3 p3 r3 => q v G3 H3 (g.trans g3) p3 (hR _ _ _ _ _ _ _ g r3)⟩⟩
end

/-! statements -/
section
variable {X : Cx} {e a b tg iter : Expr} {es : List Expr} {Δ : De} {S : As} {R : RR} {d d1 d2 : PyData} {ds : List PyData} {pos p : Pos} {P P' P1 P2 : PyData → Prop} {PL : List PyData → Prop} {st : Stmt} {sts rest body orelse : List Stmt} {D : EndsG} {PB : Bool → Prop}
theorem go_setX (i : Nat) {x : Str} {p' : Pos} (he : EvX X e Δ S P) (hN : X.N.Nodup) (k : ∀ d, P d → Go X rest D (Δ.set i (some d)) S) (hi : X.N[i]? = some x := by rfl) (hx : Loc X.env.scope x := by first | exact Or.inl rfl | exact Or.inr rfl)
    (hs : swapsWith e (some (.Name x p')) pos.line X.env = pure false := by rfl) (hf : X.fn x = true ∨ X.env.scope.names.lookup x = some .local := by first | exact .inl rfl | exact .inr rfl | assumption) : Go X (.Assign [.Name x p'] e pos :: rest) D Δ S :=
  go_cons (ps_set hN hi hx (pe_ev X e) hs hf) fun σ G H D' l a b c => ⟨Δ, S, _, G, he, a, b, c, fun v G2 H2 g p ⟨d, z, r⟩ => l.nx _ _ ⟨G2, g.gx, g.sub, _, S, k d z, (a.up g.gx).set r, p⟩⟩
theorem go_setXl (i : Nat) {x : Str} {p' : Pos} (he : EvXl X e Δ S PL) (hN : X.N.Nodup) (k : ∀ (q : Addr) (ds : List PyData), ¬ S.own q → PL ds → Go X rest D (Δ.set i (some (ob q))) (S.and (.acc X.K q ds))) (hi : X.N[i]? = some x := by rfl) (hx : Loc X.env.scope x := by first | exact Or.inl rfl | exact Or.inr rfl)
    (hs : swapsWith e (some (.Name x p')) pos.line X.env = pure false := by rfl) (hf : X.fn x = true ∨ X.env.scope.names.lookup x = some .local := by first | exact .inl rfl | exact .inr rfl | assumption) : Go X (.Assign [.Name x p'] e pos :: rest) D Δ S :=
  go_cons (ps_set hN hi hx (pe_ev X e) hs hf) fun σ G H D' l a b c => ⟨Δ, S, _, G, he, a, b, c, fun v G2 H2 g p ⟨ds, z, q, xs, e1, e2, e3, e4, e5⟩ => by
    subst e1
    exact l.nx _ _ ⟨G2, g.gx, g.sub, _, _, k q ds (not_own c e2) z, (a.up g.gx).set (.obj q), p, e3, xs, e4, e5⟩⟩
theorem go_ifX (hc : EvTX X e Δ S PB) (ha : PB true → Go X body (D.th X rest) Δ S) (hb : PB false → Go X orelse (D.th X rest) Δ S) : Go X (.If e body orelse pos :: rest) D Δ S :=
  go_cons (ps_if (pt_evx X e) (pss_go X body) (pss_go X orelse)) fun σ G H D' l a b c => ⟨Δ, S, PB, G, hc, a, b, c, fun k G2 H2 z g p => by
    cases k with
    | true => exact iteT ⟨_, Δ, S, G2, ha z, (EndsG.le g.gx).trans l, a.up g.gx, g.sub, p⟩
    | false => exact iteF ⟨_, Δ, S, G2, hb z, (EndsG.le g.gx).trans l, a.up g.gx, g.sub, p⟩⟩
theorem go_parX {x y : Str} {px py pt pt2 : Pos} {kt k2} (i j : Nat) (ha : EvX X a Δ S P1) (hb : EvX X b Δ S P2) (hc : X.calm = true) (hN : X.N.Nodup) (k : ∀ d1 d2, P1 d1 → P2 d2 → Go X rest D ((Δ.set i (some d1)).set j (some d2)) S) (hij : i ≠ j := by decide) (hi : X.N[i]? = some x := by rfl) (hj : X.N[j]? = some y := by rfl)
    (hx : X.env.scope.names.lookup x = some .local := by rfl) (hy : X.env.scope.names.lookup y = some .local := by rfl) (hw : swappedStores [.Tuple [.Name x px, .Name y py] kt pt] (.Tuple [a, b] k2 pt2) X.env = pure (some [x, y]) := by rfl)
    (hs : swapsWithSole [.Tuple [.Name x px, .Name y py] kt pt] (.Tuple [a, b] k2 pt2) pos.line X.env = pure false := by rfl) (hs1 : starEach [a, b] X.env = (false, eval a X.env) :: starEach [b] X.env := by rfl) (hs2 : starEach [b] X.env = (false, eval b X.env) :: starEach [] X.env := by rfl) :
    Go X (.Assign [.Tuple [.Name x px, .Name y py] kt pt] (.Tuple [a, b] k2 pt2) pos :: rest) D Δ S :=
  go_cons (ps_par hc hN hi hj hij hx hy (pa_cons (pe_ev X a) (pa_cons (pe_ev X b) pa_nil hs2) hs1) hw hs) fun σ G H D' l a' b' c' => twoX ha hb a' b' c' fun v w d1 d2 G1 H1 z1 z2 g p e1 e2 =>
    ⟨v, w, rfl, l.nx _ _ ⟨G1, g.gx, g.sub, _, S, k d1 d2 z1 z2, ((a'.up g.gx).set e1).set e2, p⟩⟩
theorem go_asgX {is : List Nat} {f : PyData → De → De} (he : EvX X e Δ S P) (ht : ∀ d, P d → TgS X tg is d (f d)) (k : ∀ d, P d → Go X rest D (f d Δ) S) (hs : swapsWithSole [tg] e pos.line X.env = pure false := by rfl) (hw : swappedStores [tg] e X.env = pure none := by rfl)
    (h1 : (assignEach [tg] X.env).map (·.2) = [assign tg X.env] := by rfl) : Go X (.Assign [tg] e pos :: rest) D Δ S :=
  go_cons (ps_asg (g := fun v σ H Q => ∃ Δ is d f G, TgS X tg is d f ∧ EnvOk X.K G σ Δ ∧ Same G H ∧ At X.K G v d ∧ ∀ σ', EnvOk X.K G σ' (f Δ) → Q σ' H) (pe_ev X e) ⟨fun pins s σ H v u Q I r ⟨_, _, _, _, G, h, a, b, c, q⟩ => h pins s σ _ G H v u Q I r a b c fun σ' e' _ => q σ' e'⟩ hs hw h1)
    fun σ G H D' l a b c => ⟨Δ, S, _, G, he, a, b, c, fun v G2 H2 g p ⟨d, z, r⟩ => ⟨Δ, is, d, f d, G2, ht d z, a.up g.gx, g.sub, r, fun σ' e' => l.nx _ _ ⟨G2, g.gx, g.sub, _, S, k d z, e', p⟩⟩⟩
theorem go_appX {q : Addr} {o : Expr} {apos cpos : Pos} (ho : Ev X o Δ (S.and (.acc X.K q ds)) (ob q)) (he : EvX X e Δ (S.and (.acc X.K q ds)) P) (hS : ¬ S.fo q) (hz : ds.length < 1000000) (k : ∀ d, P d → Go X rest D Δ (S.and (.acc X.K q (ds ++ [d]))))
    (hbase : attributeBase o "append" X.env (eval o X.env) = eval o X.env := by rfl)
    (hfew : ((backTo cpos (starEach [e] X.env)).all (fun x => !x.1) && (backToKw cpos (keywordEach [] X.env)).all (fun x => x.1.isSome) && decide ([e].length + ([] : List Keyword).length + (if ([] : List Keyword).isEmpty then 0 else 1) < 30)) = true := by rfl)
    (hline : (apos.endLine == cpos.line) = true := by rfl) (hs' : starEach [e] X.env = (false, eval e X.env) :: starEach [] X.env := by rfl) (hplain : (backTo cpos (starEach [] X.env)).any (·.1) = false := by rfl)
    (hs : swapsWith (.Call (.Attribute o "append" apos) [e] [] cpos) none pos.line X.env = pure false := by rfl) : Go X (.Expr (.Call (.Attribute o "append" apos) [e] [] cpos) pos :: rest) D Δ (S.and (.acc X.K q ds)) :=
  go_cons (ps_expr (pe_bm PySem.F.plainAttrs_list PySem.F.slot_list_append PySem.F.type_list_append mt_append (pe_ev X o) (pa_cons (pe_ev X e) pa_nil hs') hbase hfew hline hs' hplain) hs) fun σ G H D' l a b c => ⟨Δ, _, _, G, ho, a, b, c, fun v G1 H1 g1 p1 r1 => by
    rw [At.obj_eq r1]
    obtain ⟨xs, hx⟩ : ∃ xs, H1 q = some (.lst xs) := by obtain ⟨_, _, xs, h, _⟩ := p1; exact ⟨xs, h⟩
    refine ⟨.inl ⟨rfl, _, SqL.of hx⟩, Δ, _, _, G1, he, a.up g1.gx, g1.sub, p1, fun w G2 H2 g2 p2 ⟨d, z, r2⟩ => ?_⟩
    obtain ⟨pS, hG, ys, hy, hats⟩ := p2
    refine ⟨q, ys, w, rfl, rfl, hy, Nat.lt_of_lt_of_le (by rw [hats.len]; exact hz) (by decide), l.nx _ _ ⟨G2, g1.gx.trans g2.gx, (Gr.mut g2.sub hG hy).sub, Δ, _, k d z, a.up (g1.gx.trans g2.gx), S.stb hS (fun ⟨_, z⟩ => by cases z) pS hG (by rw [hy]; exact fun z => by cases z), hG, _, upd_same, hats.app (.one r2)⟩⟩⟩
/-- the list at q is known from now on, by the name in slot i -/
theorem go_frz {q : Addr} (i : Nat) (hS : ¬ S.own q) (hd : Δ[i]? = some (some (ob q))) (k : Go X sts D (Δ.set i (some (.list ds))) S) : Go X sts D Δ (S.and (.acc X.K q ds)) := by
  intro pins s σ G H I a b c
  obtain ⟨pS, hG, xs, hx, hats⟩ := c
  have sub : Same (upd G q (.lst xs)) H := fun b' u z => by
    by_cases hb : b' = q
    · subst hb; rw [upd_same] at z; cases z; exact hx
    · rw [upd_ne hb] at z; exact b b' u z
  obtain ⟨v, e1, e2⟩ := a.2 i _ hd
  rw [At.obj_eq e2] at e1
  have a2 : EnvOk X.K (upd G q (.lst xs)) σ (Δ.set i (some (.list ds))) := by
    have h := (a.up (same_upd (o := .lst xs) hG)).set (i := i) (v := .ref q) (d := .list ds) (.lst upd_same (hats.up (same_upd hG)))
    have e : σ.set i (some (V.ref q)) = σ := by
      refine List.ext_getElem? fun j => ?_
      by_cases hj : i = j
      · subst hj
        have hi : i < σ.length := (List.getElem?_eq_some_iff.mp e1).1
        rw [List.getElem?_set_self hi, e1]
      · rw [List.getElem?_set_ne hj]
    rw [e] at h
    exact h
  exact wpAny_mono (k pins s σ _ H I a2 sub (S.frz hS pS hG hx)) (fun _ _ z => SP.le (EndsG.le (same_upd hG)) z) fun _ _ z => z
end
end DL
namespace DL
open PySem PySem.Spec PyProof.Rows L2

/-! ### walks over what is told by a property -/
def ItDX (X : Cx) (tg iter : Expr) (Δ : De) (S : As) (P : List PyData → Prop) : Prop :=
  ∃ wi, PI X tg iter wi ∧ ∀ (σ : L2.St) (G H : Hp) (R : It → Hp → Prop), EnvOk X.K G σ Δ → Same G H → S.p G H → (∀ ds J G1 H1, P ds → Gr G H G1 H1 → S.p G1 H1 → Walk X.K J G1 ds → R J H1) → wi σ H R
inductive All2 {α β : Type} (R : α → β → Prop) : List α → List β → Prop
  | nil : All2 R [] []
  | cons {a : α} {b : β} {as : List α} {bs : List β} (h : R a b) (t : All2 R as bs) : All2 R (a :: as) (b :: bs)
section
variable {α β : Type} {R : α → β → Prop}
theorem All2.len {as : List α} {bs : List β} (h : All2 R as bs) : as.length = bs.length := by induction h with | nil => rfl | cons _ _ ih => simp [ih]
theorem All2.app {as cs : List α} {bs ds : List β} (h : All2 R as bs) (k : All2 R cs ds) : All2 R (as ++ cs) (bs ++ ds) := by induction h with | nil => exact k | cons h1 _ ih => exact .cons h1 ih
theorem All2.imp {R' : α → β → Prop} {as : List α} {bs : List β} (h : All2 R as bs) (k : ∀ a b, R a b → R' a b) : All2 R' as bs := by induction h with | nil => exact .nil | cons h1 _ ih => exact .cons (k _ _ h1) ih
theorem All2.right {P : β → Prop} {as : List α} {bs : List β} (h : All2 R as bs) (k : ∀ a b, R a b → P b) : ∀ b ∈ bs, P b := by
  induction h with
  | nil => intro b hb; cases hb
  | cons h1 _ ih =>
    intro b hb
    rcases List.mem_cons.mp hb with rfl | hb
    · exact k _ _ h1
    · exact ih b hb
/-- from a property of each item: their codes -/
theorem coded {γ : Type} {enc : γ → β} {P : γ → Prop} : ∀ {bs : List β}, (∀ b ∈ bs, ∃ c, b = enc c ∧ P c) → ∃ cs : List γ, bs = cs.map enc ∧ ∀ c ∈ cs, P c
  | [], _ => ⟨[], rfl, fun c h => by cases h⟩
  | b :: bs, h => by
    obtain ⟨c, rfl, hc⟩ := h b List.mem_cons_self
    obtain ⟨cs, rfl, hcs⟩ := coded (bs := bs) fun b hb => h b (List.mem_cons_of_mem _ hb)
    exact ⟨c :: cs, rfl, fun x hx => (List.mem_cons.mp hx).elim (fun e => e ▸ hc) (hcs x)⟩
end
section
variable {X : Cx} {scope : Scope} {e elt tg iter : Expr} {ifs : List Expr} {Δ : De} {S : As} {R : RR} {ds : List PyData} {pos p : Pos} {P : PyData → Prop}
theorem ItD.x {PL : List PyData → Prop} (h : ItD X tg iter Δ S ds) (k : PL ds) : ItDX X tg iter Δ S PL := by
  obtain ⟨wi, h1, h2⟩ := h
  exact ⟨wi, h1, fun σ G H R a b c q => h2 σ G H R a b c fun J G1 H1 g p w => q ds J G1 H1 k g p w⟩
theorem itx_range1 {PN : Nat → Prop} (hg : Gl X "range") (hm : X.mg "range" = none) (h : EvX X e Δ S fun d => ∃ n : Nat, d = .int (n : Int) ∧ n < 2 ^ 62 ∧ PN n) (hs' : starEach [e] X.env = (false, eval e X.env) :: starEach [] X.env := by rfl) (hs : starEach [e] X.env = [(false, eval e X.env)] := by rfl) :
    ItDX X tg (.Call (.Name "range" p) [e] [] pos) Δ S fun ds => ∃ n : Nat, PN n ∧ ds = (List.range n).map fun k : Nat => .int (k : Int) :=
  ⟨_, pi_range1 hg hm (pa_cons (pe_ev X e) pa_nil hs') hs, fun σ G H R a b c q => ⟨Δ, S, _, G, h, a, b, c, fun v G1 H1 g p ⟨d, ⟨n, hd, hn, hN⟩, r⟩ => by
    subst hd
    cases r
    refine ⟨n, rfl, by omega, by omega, q _ _ G1 H1 ⟨n, hN, ?_⟩ g p (walk_range 0 _)⟩
    rw [Int.toNat_natCast]
    exact List.map_congr_left fun k _ => by rw [Int.zero_add]⟩⟩
/-- [elt for tg in iter], told by properties -/
theorem lclX {α : Type} {enc : α → PyData} {own : List (Str × Nat)} {is : List Nat} {PX : List α → Prop} (Pe : α → PyData → Prop) (F : α → De → De) (hi : ItDX X tg iter Δ S fun ds => ∃ xs, PX xs ∧ ds = xs.map enc) (ok : BlkOk X.N X.env.scope scope own)
    (hz : ∀ xs, PX xs → xs.length ≤ 1000000) (his : ∀ i ∈ is, i ∈ own.map (·.2))
    (htg : ∀ xs, PX xs → ∀ x ∈ xs, AllB X scope fun Y => TgS Y tg is (enc x) (F x))
    (he : ∀ xs, PX xs → ∀ D es, ¬ S.own D → ∀ x ∈ xs, AllB X scope fun Y => EvX Y elt (F x (wipeD Δ (own.map (·.2)))) (S.and (.acc X.K D es)) (Pe x)) :
    LcR X elt tg iter [] own scope Δ S (rXl X.K (fun ds => ∃ xs, PX xs ∧ All2 Pe xs ds)) := by
  obtain ⟨wi, w1, w2⟩ := hi
  refine ⟨wi, w1, ok, fun σ G H Q ha hb hcS q => ?_⟩
  refine w2 σ G H _ ha hb hcS fun ds J G1 H1 hds g1 p1 W D hD => ?_
  obtain ⟨xs, hX, rfl⟩ := hds
  have hO : ¬ S.own D := not_own p1 hD
  have hG1 : G1 D = none := g1.sub.free hD
  refine ⟨fun i m H' => m = xs.length - i ∧ i ≤ xs.length ∧ ∃ G' es, Gr G H G' H' ∧ Same G1 G' ∧ All2 Pe (xs.take i) es ∧ (S.and (.acc X.K D es)).p G' H', ⟨xs.length, by simp, Nat.zero_le _, G1, [], ?_⟩, ?_⟩
  · obtain ⟨g2, p2⟩ := layH (S := S) (o := .lst []) g1 p1 hD
    exact ⟨g2, Same.refl _, .nil, p2, hG1, [], upd_same, .nil⟩
  rintro i m H' ⟨rfl, hle, G', es, g2, s1, hA, p2⟩
  have pS : S.p G' H' := p2.1
  by_cases hlt : i < xs.length
  · obtain ⟨x, hx⟩ : ∃ x, xs[i]? = some x := ⟨xs[i], List.getElem?_eq_getElem hlt⟩
    have hmem : x ∈ xs := List.mem_of_getElem? hx
    have hxd : (xs.map enc)[i]? = some (enc x) := by rw [List.getElem?_map, hx]; rfl
    obtain ⟨j1, j2⟩ := W.go i (enc x) G' H' s1 g2.sub hxd
    refine .inr ⟨j1, fun H'' => i + 1 ≤ xs.length ∧ ∃ G' es, Gr G H G' H'' ∧ Same G1 G' ∧ All2 Pe (xs.take (i + 1)) es ∧ (S.and (.acc X.K D es)).p G' H'', fun H'' ⟨h1, h2⟩ => ⟨xs.length - (i + 1), by omega, rfl, h1, h2⟩, fun v H'' y => ?_⟩
    obtain ⟨G3, g3, s3, a3⟩ := j2 v H'' y
    have p3 : (S.and (.acc X.K D es)).p G3 H'' := As.cl _ g3 s3 p2
    refine ⟨wipeD Δ (own.map (·.2)), is, enc x, F x, G3, htg xs hX x hmem, (ha.up (g2.gx.trans g3.gx)).wipe _, g3.sub, a3, fun σ' e' w' => ⟨?_, ?_⟩⟩
    · rw [w' _ his, wipe_wipe]
    refine ⟨_, _, true, G3, fun _ _ _ _ _ => evts_nil, e', g3.sub, p3, fun G4 H4 g4 p4 => ?_⟩
    refine iteT ⟨_, _, rX X.K (Pe x), G4, (fun s H C cl fp => he xs hX D _ hO x hmem s H C cl fp), e'.up g4.gx, g4.sub, p4, fun u G5 H5 g5 p5 ⟨d5, z5, r5⟩ => ?_⟩
    obtain ⟨pS5, hG5, acc, hacc, hats⟩ := p5
    have hlen : acc.length ≤ i := by
      rw [hats.len, ← hA.len, List.length_take]; omega
    refine ⟨acc, hacc, Nat.lt_of_le_of_lt hlen (Nat.lt_of_lt_of_le hlt (Nat.le_trans (hz xs hX) (by decide))), hlt, G5, es ++ [d5], ?_, ((s1.trans g3.gx).trans g4.gx).trans g5.gx, ?_, S.stb (As.nf hO) (fun ⟨_, z⟩ => by cases z) pS5 hG5 (by rw [hacc]; exact fun z => by cases z), hG5, _, upd_same, ?_⟩
    · exact (((g2.trans g3).trans g4).trans g5).trans (.mut g5.sub hG5 hacc)
    · rw [take_some hx]; exact hA.app (.cons z5 .nil)
    · exact hats.app (.one r5)
  · have e : i = xs.length := by omega
    subst e
    have h2 := W.stop G' H' s1 g2.sub
    rw [List.length_map] at h2
    refine .inl ⟨h2, ?_⟩
    rw [List.take_length] at hA
    obtain ⟨pS2, hG2, acc, hacc, hats⟩ := p2
    exact q _ G' H' g2 pS2 ⟨es, ⟨xs, hX, hA⟩, D, acc, rfl, none_back g1 hD, hG2, hacc, hats⟩
theorem evl_lcX {α : Type} {enc : α → PyData} {own : List (Str × Nat)} {is : List Nat} {PX : List α → Prop} (Pe : α → PyData → Prop) (F : α → De → De) (hi : ItDX X tg iter Δ S fun ds => ∃ xs, PX xs ∧ ds = xs.map enc) (hc : X.calm = true) (hN : X.N.Nodup) (ok : BlkOk X.N X.env.scope scope own)
    (hz : ∀ xs, PX xs → xs.length ≤ 1000000) (his : ∀ i ∈ is, i ∈ own.map (·.2))
    (htg : ∀ xs, PX xs → ∀ x ∈ xs, AllB X scope fun Y => TgS Y tg is (enc x) (F x))
    (he : ∀ xs, PX xs → ∀ D es, ¬ S.own D → ∀ x ∈ xs, AllB X scope fun Y => EvX Y elt (F x (wipeD Δ (own.map (·.2)))) (S.and (.acc X.K D es)) (Pe x))
    (hs : ∀ x, foldedSetIterable iter X.env x = pure x := by intro _; rfl) :
    EvXl X (.ListComp elt [⟨tg, iter, [], 0⟩] scope pos) Δ S (fun ds => ∃ xs, PX xs ∧ All2 Pe xs ds) := ev_lcR (lclX Pe F hi ok hz his htg he) hc hN hs
theorem go_forX {α : Type} {enc : α → PyData} {is : List Nat} {body rest : List Stmt} {D : EndsG} {PX : List α → Prop} (F : α → De → De) (hi : ItDX X tg iter Δ S fun ds => ∃ xs, PX xs ∧ ds = xs.map enc) (htg : ∀ xs, PX xs → ∀ x ∈ xs, TgS X tg is (enc x) (F x)) (hc : X.calm = true) (hp : PassesOwn (model X.prog X.w) X.A X.env X.xe)
    (I : List α → Nat → De → As → Prop) (h0 : ∀ xs, PX xs → I xs 0 Δ S) (hb : ∀ xs, PX xs → ∀ (i : Nat) (x : α) (Δ' : De) (S' : As), xs[i]? = some x → I xs i Δ' S' → Go X body (D.loop X rest (I xs (i + 1))) (F x Δ') S')
    (hd : ∀ xs, PX xs → ∀ (Δ' : De) (S' : As), I xs xs.length Δ' S' → Go X rest D Δ' S') (hs : ∀ x, foldedSetIterable iter X.env x = pure x := by intro _; rfl) : Go X (.For tg iter body [] pos :: rest) D Δ S := by
  obtain ⟨wi, w1, w2⟩ := hi
  refine go_cons (ps_for (g := fun v σ H Q => ∃ Δ is d f G, TgS X tg is d f ∧ EnvOk X.K G σ Δ ∧ Same G H ∧ At X.K G v d ∧ ∀ σ', EnvOk X.K G σ' (f Δ) → Q σ' H) hp hc w1 ⟨fun pins s σ H v u Q I r ⟨_, _, _, _, G, h, a, b, c, q⟩ => h pins s σ _ G H v u Q I r a b c fun σ' e' _ => q σ' e'⟩ (pss_go X body) hs) fun σ G H D' l ha hb' hcS => ?_
  refine w2 σ G H _ ha hb' hcS fun ds J G1 H1 hds g1 p1 W => ?_
  obtain ⟨xs, hX, rfl⟩ := hds
  refine ⟨fun i m σ H' => m = xs.length - i ∧ i ≤ xs.length ∧ ∃ G' Δ' S', Same G1 G' ∧ Same G' H' ∧ I xs i Δ' S' ∧ EnvOk X.K G' σ Δ' ∧ S'.p G' H', ⟨xs.length, by simp, Nat.zero_le _, G1, Δ, S, Same.refl _, g1.sub, h0 xs hX, ha.up g1.gx, p1⟩, ?_⟩
  rintro i m σ' H' ⟨rfl, hle, G', Δ', S', s1, s2, hI, hE, hS⟩
  by_cases hlt : i < xs.length
  · obtain ⟨x, hx⟩ : ∃ x, xs[i]? = some x := ⟨xs[i], List.getElem?_eq_getElem hlt⟩
    have hmem : x ∈ xs := List.mem_of_getElem? hx
    have hxd : (xs.map enc)[i]? = some (enc x) := by rw [List.getElem?_map, hx]; rfl
    obtain ⟨j1, j2⟩ := W.go i (enc x) G' H' s1 s2 hxd
    refine .inr ⟨j1, fun σ'' H'' => ∃ G2, Same G1 G2 ∧ Same G2 H'' ∧ ∃ Δ'' S'', I xs (i + 1) Δ'' S'' ∧ EnvOk X.K G2 σ'' Δ'' ∧ S''.p G2 H'', fun σ'' H'' ⟨G2, t1, t2, Δ'', S'', t3, t4, t5⟩ => ⟨xs.length - (i + 1), by omega, rfl, hlt, G2, Δ'', S'', t1, t2, t3, t4, t5⟩, fun v H'' y => ?_⟩
    obtain ⟨G3, g3, s3, a3⟩ := j2 v H'' y
    refine ⟨Δ', is, enc x, F x, G3, htg xs hX x hmem, hE.up g3.gx, g3.sub, a3, fun σ3 e3 => ⟨_, _, S', G3, hb xs hX i x Δ' S' hx hI, ⟨?_, ?_, ?_, ?_⟩, e3, g3.sub, S'.cl g3 s3 hS⟩⟩
    · rintro σ4 H4 ⟨G4, t1, t2, t3⟩; exact ⟨G4, (s1.trans g3.gx).trans t1, t2, t3⟩
    · rintro σ4 H4 ⟨G4, t1, t2, t3⟩; exact l.rt _ _ ⟨G4, ((g1.gx.trans s1).trans g3.gx).trans t1, t2, t3⟩
    · rintro σ4 H4 ⟨G4, t1, t2, t3⟩; exact l.nx _ _ ⟨G4, ((g1.gx.trans s1).trans g3.gx).trans t1, t2, t3⟩
    · rintro σ4 H4 ⟨G4, t1, t2, t3⟩; exact ⟨G4, (s1.trans g3.gx).trans t1, t2, t3⟩
  · have e : i = xs.length := by omega
    subst e
    have h2 := W.stop G' H' s1 s2
    rw [List.length_map] at h2
    exact .inl ⟨h2, l.nx _ _ ⟨G', g1.gx.trans s1, s2, Δ', S', hd xs hX Δ' S' hI, hE, hS⟩⟩
end

/-! ### assertions with an unknown -/
def As.ex {ι : Type} (T : ι → As) (f o : Addr → Prop) (hf : ∀ i, (T i).fo = f) (ho : ∀ i, (T i).own = o) (fo : ∀ a, f a → o a) : As where
  p := fun G H => ∃ i, (T i).p G H
  fo := f
  own := o
  fo_own := fun h => fo _ h
  fr := fun r e ⟨i, h⟩ => ⟨i, (T i).fr r (by rw [hf i]; exact e) h⟩
  dom := fun ⟨i, h⟩ k => (T i).dom h (by rw [ho i]; exact k)
  stb := fun n t ⟨i, h⟩ g k => ⟨i, (T i).stb (by rw [hf i]; exact n) t h g k⟩
  frz := fun n ⟨i, h⟩ g k => ⟨i, (T i).frz (by rw [ho i]; exact n) h g k⟩
section
variable {X : Cx} {e elt tg iter : Expr} {ifs : List Expr} {Δ : De} {S T : As} {R : RR} {ds : List PyData} {d : PyData} {pos p : Pos} {sts rest : List Stmt} {D : EndsG}
theorem go_ex {ι : Type} {T : ι → As} {f o : Addr → Prop} {hf : ∀ i, (T i).fo = f} {ho : ∀ i, (T i).own = o} {fo : ∀ a, f a → o a} (h : ∀ i, Go X sts D Δ (S.and (T i))) : Go X sts D Δ (S.and (.ex T f o hf ho fo)) :=
  fun pins s σ G H I a b ⟨c, i, k⟩ => h i pins s σ G H I a b ⟨c, k⟩
theorem as_ex {ι : Type} {T : ι → As} {f o : Addr → Prop} {hf : ∀ i, (T i).fo = f} {ho : ∀ i, (T i).own = o} {fo : ∀ a, f a → o a} (i : ι) : (T i).le (.ex T f o hf ho fo) := fun G H h => ⟨i, h⟩
theorem as_mono {S S' T T' : As} (a : S.le S') (b : T.le T') : (S.and T).le (S'.and T') := fun G H h => ⟨a G H h.1, b G H h.2⟩
/-- S is T and what T's changes don't touch -/
def Has (S T : As) : Prop := ∃ S' : As, S.le (S'.and T) ∧ (S'.and T).le S ∧ ∀ a, S'.fo a → ¬ T.fo a
theorem has_here (h : ∀ a, S.fo a → ¬ T.fo a) : Has (S.and T) T := ⟨S, as_refl, as_refl, h⟩
theorem Has.and {U : As} (h : Has S T) (k : ∀ a, U.fo a → ¬ T.fo a) : Has (S.and U) T := by
  obtain ⟨S', h1, h2, h3⟩ := h
  exact ⟨S'.and U, fun G H z => ⟨⟨(h1 _ _ z.1).1, z.2⟩, (h1 _ _ z.1).2⟩, fun G H z => ⟨h2 _ _ ⟨z.1.1, z.2⟩, z.1.2⟩, fun a z => z.elim (h3 a) (k a)⟩
theorem Has.le (h : Has S T) : S.le T := by
  obtain ⟨S', h1, _⟩ := h
  exact fun G H z => (h1 _ _ z).2
theorem EvR.as {S' : As} (h : EvR X e Δ S' R) (a : S.le S') (b : S'.le S) : EvR X e Δ S R :=
  fun pins s σ G H Q I e1 e2 e3 q => h pins s σ G H Q I e1 e2 (a _ _ e3) fun v G2 H2 g p r => q v G2 H2 g (b _ _ p) r

/-! ### promises of defs that change what they are handed -/
/-- T: what they ask of what may change; R tells of it behind -/
def spM (K : PySem.W.Frag) (Pr : Hp → List PyData → As → RR → Prop) : Sp := fun vs H Q _ => ∃ G ds T R, Same G H ∧ Ats K G vs ds ∧ T.p G H ∧ Pr G ds T R ∧ ∀ v G2 H2, Gr G H G2 H2 → (∀ a o, ¬ T.fo a → H a = some o → H2 a = some o) → R G H v G2 H2 → Q v H2
def rAnd (T : As) (R : RR) : RR := fun G H v G2 H2 => T.p G2 H2 ∧ R G H v G2 H2
theorem evx_cM {x : Str} {k j : Nat} {es : List Expr} {Pr : Hp → List PyData → As → RR → Prop} {PL : List PyData → Prop} (c : C8.Cal X.prog X.w X.K X.mg X.base k x (spM X.K Pr) []) (hr : Room j X.A) (hg : Gl X x) (ha : EvAX X (e :: es) Δ S PL) (hT : Has S T) (hP : ∀ G H ds, PL ds → S.p G H → Pr G ds T (rAnd T R))
    (hR : Back R := by first | exact back_x | exact back_xl | exact back_at | exact back_nl) (hk : k ≤ j := by decide)
    (hdb : (x == ("__debug__" : Str)) = false := by decide) (he : starEach (e :: es) X.env = (false, eval e X.env) :: starEach es X.env := by rfl) (hpl : (backTo pos (starEach es X.env)).any (·.1) = false := by rfl) :
    EvR X (.Call (.Name x p) (e :: es) [] pos) Δ S R := by
  obtain ⟨S', h1, h2, h3⟩ := hT
  exact ev_pe (C8.pe_c c hr hk hg (pa_evx X _) hdb he hpl) fun σ G H Q a b c q => ⟨Δ, S, PL, G, ha, a, b, c, fun vs ds G1 H1 z g p r1 => by
    show spM X.K Pr (vs ++ []) H1 Q _
    rw [List.append_nil]
    exact ⟨G1, ds, T, _, g.sub, r1, (h1 _ _ p).2, hP G1 H1 ds z p, fun v G2 H2 g2 s2 ⟨t2, r2⟩ => q v G2 H2 (g.trans g2) (h2 _ _ ⟨S'.fr g2 (fun a o n k => s2 a o (h3 a n) k) (h1 _ _ p).1, t2⟩) (hR _ _ _ _ _ _ _ g r2)⟩⟩
/-- name = f(..), what may change is another then -/
theorem go_setM {x y : Str} {k j : Nat} {es : List Expr} {Pr : Hp → List PyData → As → RR → Prop} (i : Nat) {p' p2 p3 : Pos} (c : C8.Cal X.prog X.w X.K X.mg X.base k x (spM X.K Pr) []) (hr : Room j X.A) (hg : Gl X x) (ha : EvA X (e :: es) Δ (S.and T) ds) (hT : ∀ a, S.fo a → ¬ T.fo a) (hP : ∀ G H, (S.and T).p G H → Pr G ds T R) (hN : X.N.Nodup)
    (kk : ∀ G H v G2 H2, S.p G2 H2 → R G H v G2 H2 → ∃ d S', At X.K G2 v d ∧ S'.p G2 H2 ∧ Go X rest D (Δ.set i (some d)) S') (hk : k ≤ j := by decide)
    (hdb : (x == ("__debug__" : Str)) = false := by decide) (he : starEach (e :: es) X.env = (false, eval e X.env) :: starEach es X.env := by rfl) (hpl : (backTo p2 (starEach es X.env)).any (·.1) = false := by rfl)
    (hi : X.N[i]? = some y := by rfl) (hx : Loc X.env.scope y := by first | exact Or.inl rfl | exact Or.inr rfl)
    (hs : swapsWith (.Call (.Name x p3) (e :: es) [] p2) (some (.Name y p')) pos.line X.env = pure false := by rfl) (hf : X.fn y = true ∨ X.env.scope.names.lookup y = some .local := by first | exact .inl rfl | exact .inr rfl | assumption) :
    Go X (.Assign [.Name y p'] (.Call (.Name x p3) (e :: es) [] p2) pos :: rest) D Δ (S.and T) :=
  go_cons (ps_set hN hi hx (C8.pe_c c hr hk hg (pa_ev X _) hdb he hpl) hs hf) fun σ G H D' l a b c => ⟨Δ, _, ds, G, ha, a, b, c, fun vs G1 H1 g p r1 => by
    show spM X.K Pr (vs ++ []) H1 _ _
    rw [List.append_nil]
    refine ⟨G1, ds, T, R, g.sub, r1, p.2, hP G1 H1 p, fun v G2 H2 g2 s2 r2 => ?_⟩
    obtain ⟨d, S', e1, e2, e3⟩ := kk _ _ _ _ _ (S.fr g2 (fun a o n k => s2 a o (hT a n) k) p.1) r2
    exact l.nx _ _ ⟨G2, g.gx.trans g2.gx, g2.sub, _, S', e3, (a.up (g.gx.trans g2.gx)).set e1, e2⟩⟩
/-- what a def hands back -/
def retM (G H : Hp) (o : Addr → Prop) (R : RR) : EndsG where
  nx := fun _ G2 H2 => ∃ G3, (As.extx G H o).p G3 H2 ∧ R G H .non G3 H2
  rt := fun v G2 H2 => ∃ G3, (As.extx G H o).p G3 H2 ∧ R G H v G3 H2
end
section
variable {P : Program} {w : World} {K : PySem.W.Frag} {mg : Str → Option Value} {base : Heap}
theorem fun_goM {x qual : Str} {st : Stmt} {f : Addr} {fd : FuncData} {N ps : List Str} {k : Nat} {Pr : Hp → List PyData → As → RR → Prop} (F : Fun K x qual st f fd) (S : FnScope N ps (defScope st)) (len : ∀ G ds T R, Pr G ds T R → ds.length = ps.length)
    (hbody : ∀ (cdv : Value) (A : Around) (outer : List Env) (s : Shared) (H0 : Hp) (E : XK) (G H : Hp) (ds : List PyData) (T : As) (R : RR), Room k (A.deeper (envOfC qual (defScope st) s.heap.objs.size f cdv)) → Pr G ds T R →
      Go (cxOf CX0 P w K mg base N qual (defScope st) f cdv A outer s H0 E).nox (defBody st) (retM G H T.fo R) (De.start N ds) (((As.extx G H T.fo).and (.fact (Same G) fun _ _ e h => h.trans e)).and T)) : FnOk P w K mg base CX0 (k + 1) f fd ps (spM K Pr) := by
  refine F.ok S (fun vs H Q E h => ?_) (fun cdv A outer s H vs Q E hr h => ?_)
  · obtain ⟨G, ds, T, R, _, h2, _, h3, _⟩ := h
    rw [h2.len]
    exact len G ds T R h3
  · obtain ⟨G, ds, T, R, h1, h2, hT, h3, k1⟩ := h
    refine ⟨_, pss_go _ _, _, _, _, G, hbody cdv A outer s H E G H ds T R hr h3, ⟨?_, ?_, ?_, ?_⟩, env_start h2, h1, ⟨⟨⟨.refl h1, fun _ _ _ z => z⟩, Same.refl _⟩, hT⟩⟩
    · rintro σ H2 ⟨G2, _, _, G3, ⟨a, b⟩, r⟩; exact k1 _ G3 H2 a b r
    · rintro v H2 ⟨G2, _, _, G3, ⟨a, b⟩, r⟩; exact k1 _ G3 H2 a b r
    · rintro σ H2 ⟨_, _, _, h⟩; exact h.elim
    · rintro σ H2 ⟨_, _, _, h⟩; exact h.elim
end
section
variable {X : Cx} {e o i : Expr} {Δ : De} {S T : As} {R R' : RR} {ds : List PyData} {d d1 : PyData} {pos p apos cpos : Pos} {sts rest : List Stmt} {D : EndsG} {G H : Hp} {q : Addr} {P P' : PyData → Prop}
/-- return e, of a def that changes what o says -/
theorem go_retM {f : Addr → Prop} (he : EvR X e Δ S R') (hS : S.le (.extx G H f)) (k : ∀ v G1 H1 G2 H2, Gr G H G1 H1 → S.p G2 H2 → R' G1 H1 v G2 H2 → R G H v G2 H2) (hD : D.rt = (retM G H f R).rt := by rfl) : Go X (.Return (some e) pos :: rest) D Δ S :=
  go_ret he fun G1 H1 v G2 H2 b c g p r => ⟨G2, g.gx, g.sub, by rw [hD]; exact ⟨G2, hS _ _ p, k v G1 H1 G2 H2 (hS _ _ c).1 p r⟩⟩

/-! ### lists that change -/
theorem get_list (X : Cx) : PGet X (rIxL X.K) := by
  intro pins s σ H x y v u Q I rx ry h
  obtain ⟨p, xs, i, z, rfl, rfl, hq, he, q⟩ := h
  cases rx
  obtain ⟨t, rfl⟩ := ry
  obtain ⟨its, r, pl, hz⟩ := I.list hq
  obtain ⟨j, h1, h2, h3, h4, h5⟩ := atI_get he
  obtain ⟨w, ew, rw'⟩ := r.get h2
  have hl := r.length
  have hn := line63
  have fin : EP X pins σ Q w s := ⟨z, H, I, rw', q⟩
  by_cases h0 : 0 ≤ i
  · have hj : i.toNat = j := by
      rw [seqIndex_of h0 h5] at h1; exact Option.some.inj h1
    exact wpAny_mono (wpAny_getItem_list (Q := fun r s' => r = w ∧ EP X pins σ Q r s') pl.isList h0 (by omega) (by rw [hj]; simpa using ew) ⟨rfl, fin⟩) (fun _ _ z => z.2) fun _ _ z => z
  · have hj : (i + (its.toArray.size : Int)).toNat = j := by
      rw [seqIndex_neg (by omega) h4] at h1; rw [List.size_toArray, ← hl]; exact Option.some.inj h1
    exact wpAny_mono (wpAny_getItem_list_neg (Q := fun r s' => r = w ∧ EP X pins σ Q r s') pl.isList (by omega) (by rw [List.size_toArray] <;> omega) (by omega) (by rw [hj]; simpa using ew) ⟨rfl, fin⟩) (fun _ _ z => z.2) fun _ _ z => z
theorem acc_set {H' : Hp} (hS : ¬ S.fo q) {xs : List V} (pS : S.p G H) (hG : G q = none) (hH : H q = some (.lst xs)) {ys : List V} {es : List PyData} (h : Ats X.K G ys es) : (S.and (.acc X.K q es)).p G (upd H q (.lst ys)) :=
  ⟨S.stb hS (fun ⟨_, z⟩ => by cases z) pS hG (by rw [hH]; exact fun z => by cases z), hG, _, upd_same, h⟩
/-- q[k] = e -/
theorem go_setIx {k : Int} {n : Nat} (ho : Ev X o Δ (S.and (.acc X.K q ds)) (ob q)) (hi : Ev X i Δ (S.and (.acc X.K q ds)) (.int k)) (he : EvX X e Δ (S.and (.acc X.K q ds)) P) (hS : ¬ S.fo q) (hn : ixN ds.length k = some n) (kk : ∀ d, P d → Go X rest D Δ (S.and (.acc X.K q (ds.set n d))))
    (ha : ∀ v, assign (.Subscript o i p) X.env v = (do
      let ov ← holding [v] (eval o X.env)
      let iv ← holding [v, ov] (eval i X.env)
      standAt p
      holding [v, ov, iv] (setItem ov iv v)
      release [v, ov, iv] []) := by intro _; rfl)
    (hs : swapsWithSole [.Subscript o i p] e pos.line X.env = pure false := by rfl) (hw : swappedStores [.Subscript o i p] e X.env = pure none := by rfl)
    (h1 : (assignEach [.Subscript o i p] X.env).map (·.2) = [assign (.Subscript o i p) X.env] := by rfl) : Go X (.Assign [.Subscript o i p] e pos :: rest) D Δ (S.and (.acc X.K q ds)) :=
  go_cons (ps_asg (pe_ev X e) (pg_sub (pe_ev X o) (pe_ev X i) set_list ha) hs hw h1) fun σ G H D' l a b c => ⟨Δ, _, _, G, he, a, b, c, fun v G1 H1 g1 p1 ⟨d, z, r1⟩ => ⟨Δ, _, _, G1, ho, a.up g1.gx, g1.sub, p1, fun x G2 H2 g2 p2 r2 => ⟨Δ, _, _, G2, hi, (a.up g1.gx).up g2.gx, g2.sub, p2, fun y G3 H3 g3 p3 r3 => by
    obtain ⟨pS, hG, ys, hy, hats⟩ := p3
    cases r3
    refine ⟨q, ys, k, n, At.obj_eq r2, rfl, hy, by rw [hats.len]; exact hn, l.nx _ _ ⟨G3, (g1.gx.trans g2.gx).trans g3.gx, (Gr.mut g3.sub hG hy).sub, Δ, _, kk d z, ((a.up g1.gx).up g2.gx).up g3.gx, acc_set (H' := H3) hS pS hG hy (hats.set (r1.up (g2.gx.trans g3.gx)) n)⟩⟩⟩⟩⟩
/-- q[k] op= e, of ints -/
theorem go_augIx {k j : Int} {n : Nat} {op : Operator} {f : Int → Int → Int} {m : Int} (hp : PIp X op (ipI f)) (ho : Ev X o Δ (S.and (.acc X.K q ds)) (ob q)) (hi : Ev X i Δ (S.and (.acc X.K q ds)) (.int k)) (he : Ev X e Δ (S.and (.acc X.K q ds)) (.int j)) (hS : ¬ S.fo q) (hn : ixN ds.length k = some n) (hm : ds[n]? = some (.int m))
    (kk : Go X rest D Δ (S.and (.acc X.K q (ds.set n (.int (f m j))))))
    (ha : ∀ ov iv new, augStore i ov iv new = (do holding [new, ov, iv] (setItem ov iv new); release [new, ov, iv] []; pure .next) := by intros; rfl) : Go X (.AugAssign (.Subscript o i p) op e pos :: rest) D Δ (S.and (.acc X.K q ds)) :=
  go_cons (ps_augS (pe_ev X o) (pe_ev X i) (get_list X) (pe_ev X e) hp set_list ha) fun σ G H D' l a b c => ⟨Δ, _, _, G, ho, a, b, c, fun x G1 H1 g1 p1 r1 => ⟨Δ, _, _, G1, hi, a.up g1.gx, g1.sub, p1, fun y G2 H2 g2 p2 r2 => by
    obtain ⟨pS, hG, ys, hy, hats⟩ := id p2
    rw [At.obj_eq r1]
    cases r2
    have eI : atI ds k = some (.int m) := by unfold L2.atI; rw [hn]; exact hm
    obtain ⟨v, f1, f2⟩ := hats.atI eI
    cases f2
    refine ⟨q, ys, k, _, rfl, rfl, SqL.of hy, f1, Δ, _, _, G2, he, (a.up g1.gx).up g2.gx, g2.sub, p2, fun w G3 H3 g3 p3 r3 => ?_⟩
    cases r3
    obtain ⟨pS, hG, ys, hy, hats⟩ := p3
    refine ⟨m, j, rfl, rfl, q, ys, k, n, rfl, rfl, hy, by rw [hats.len]; exact hn, l.nx _ _ ⟨G3, (g1.gx.trans g2.gx).trans g3.gx, (Gr.mut g3.sub hG hy).sub, Δ, _, kk, ((a.up g1.gx).up g2.gx).up g3.gx, acc_set (H' := H3) hS pS hG hy (hats.set (.int _) n)⟩⟩⟩⟩
/-- q.insert(n, e) -/
theorem go_insert (hi : EvX X i Δ (S.and (.acc X.K q ds)) P) (hP : ∀ d, P d → ∃ n : Nat, d = .int (n : Int) ∧ n ≤ 1000000) (ho : Ev X o Δ (S.and (.acc X.K q ds)) (ob q)) (he : EvX X e Δ (S.and (.acc X.K q ds)) P') (hS : ¬ S.fo q) (hz : ds.length < 1000000) (k : ∀ (n : Nat) d, P (.int (n : Int)) → P' d → Go X rest D Δ (S.and (.acc X.K q (ds.take n ++ [d] ++ ds.drop n))))
    (hbase : attributeBase o "insert" X.env (eval o X.env) = eval o X.env := by rfl)
    (hfew : ((backTo cpos (starEach [i, e] X.env)).all (fun x => !x.1) && (backToKw cpos (keywordEach [] X.env)).all (fun x => x.1.isSome) && decide ([i, e].length + ([] : List Keyword).length + (if ([] : List Keyword).isEmpty then 0 else 1) < 30)) = true := by rfl)
    (hline : (apos.endLine == cpos.line) = true := by rfl) (hs' : starEach [i, e] X.env = (false, eval i X.env) :: starEach [e] X.env := by rfl) (hs2 : starEach [e] X.env = (false, eval e X.env) :: starEach [] X.env := by rfl) (hplain : (backTo cpos (starEach [e] X.env)).any (·.1) = false := by rfl)
    (hs : swapsWith (.Call (.Attribute o "insert" apos) [i, e] [] cpos) none pos.line X.env = pure false := by rfl) : Go X (.Expr (.Call (.Attribute o "insert" apos) [i, e] [] cpos) pos :: rest) D Δ (S.and (.acc X.K q ds)) :=
  go_cons (ps_expr (pe_bm PySem.F.plainAttrs_list PySem.F.slot_list_insert PySem.F.type_list_insert mt_insert (pe_ev X o) (pa_cons (pe_ev X i) (pa_cons (pe_ev X e) pa_nil hs2) hs') hbase hfew hline hs' hplain) hs) fun σ G H D' l a b c => ⟨Δ, _, _, G, ho, a, b, c, fun v G1 H1 g1 p1 r1 => by
    rw [At.obj_eq r1]
    obtain ⟨xs, hx⟩ : ∃ xs, H1 q = some (.lst xs) := by obtain ⟨_, _, xs, h, _⟩ := p1; exact ⟨xs, h⟩
    refine ⟨.inl ⟨rfl, _, SqL.of hx⟩, Δ, _, _, G1, hi, a.up g1.gx, g1.sub, p1, fun y G2 H2 g2 p2 ⟨dy, zy, ry⟩ => ⟨Δ, _, _, G2, he, (a.up g1.gx).up g2.gx, g2.sub, p2, fun w G3 H3 g3 p3 ⟨d, z, r2⟩ => ?_⟩⟩
    obtain ⟨n, rfl, hn⟩ := hP dy zy
    cases ry
    obtain ⟨pS, hG, ys, hy, hats⟩ := p3
    refine ⟨q, ys, (n : Int), w, rfl, rfl, hy, Nat.lt_of_lt_of_le (by rw [hats.len]; exact hz) (by decide), Int.natCast_nonneg n, by omega, l.nx _ _ ⟨G3, (g1.gx.trans g2.gx).trans g3.gx, (Gr.mut g3.sub hG hy).sub, Δ, _, k n d zy z, ((a.up g1.gx).up g2.gx).up g3.gx, ?_⟩⟩
    rw [Int.toNat_natCast]
    exact acc_set (H' := H3) hS pS hG hy (((hats.take n).app (.one r2)).app (hats.drop n))⟩

/-! ### isinstance -/
theorem tyx_of {K : PySem.W.Frag} {v : V} (h : At K G v d) (e : Same G H) : (∀ t, (d = .none → t = "NoneType") → (∀ b, d = .bool b → t = "bool") → (∀ b, d = .int b → t = "int") → (∀ b, d = .str b → t = "str") → (∀ b, d = .list b → t = "list") → (∀ b, d = .tuple b → t = "tuple") → (∀ b, d ≠ .dict b) → TyX K H v (.type t)) := by
  intro t h1 h2 h3 h4 h5 h6 h7
  cases h with
  | non => rw [h1 rfl]; exact .base .non
  | bl b => rw [h2 _ rfl]; exact .base (.bl b)
  | int i => rw [h3 _ rfl]; exact .base (.int i)
  | str x => rw [h4 _ rfl]; exact .base (.str x)
  | lst hs ha =>
    rw [h5 _ rfl]
    exact .base (.lst (e _ _ hs))
  | tup hs ha =>
    rw [h6 _ rfl]
    exact .base (.tup (e _ _ hs))
  | obj a => exact absurd rfl (h7 _)
  | ins _ _ => exact absurd rfl (h7 _)
  | scr _ _ => exact absurd rfl (h7 _)
def tyN : PyData → Option String
  | .none => some "NoneType"
  | .bool _ => some "bool"
  | .int _ => some "int"
  | .str _ => some "str"
  | .list _ => some "list"
  | .tuple _ => some "tuple"
  | _ => none
theorem tyx {K : PySem.W.Frag} {v : V} {t : String} (h : At K G v d) (e : Same G H) (ht : tyN d = some t) : TyX K H v (.type t) := by
  refine tyx_of h e t ?_ ?_ ?_ ?_ ?_ ?_ ?_
  all_goals (try rintro b rfl)
  all_goals (try rintro rfl)
  all_goals (first | (cases ht; rfl) | cases ht)
/-- isinstance(e, T), T a built-in type -/
theorem ev_isi {x T : Str} {t tn : String} {r : Bool} {p1 p2 : Pos} (hx : x = "isinstance") (hg : Gl X x) (hm : X.mg x = none) (hgT : Gl X T) (hmT : X.mg T = none) (hvT : bootBuiltins T = some (.type tn)) (he : Ev X e Δ S d) (ht : tyN d = some t) (hk : kitB t tn = some r) (hnT : T ≠ "__name__" := by decide) (hdT : (T == ("__debug__" : Str)) = false := by decide)
    (hs1 : starEach [e, .Name T p1] X.env = (false, eval e X.env) :: starEach [.Name T p1] X.env := by rfl) (hs2 : starEach [.Name T p1] X.env = (false, eval (.Name T p1) X.env) :: starEach [] X.env := by rfl) (hpl : (backTo pos (starEach [.Name T p1] X.env)).any (·.1) = false := by rfl) :
    Ev X (.Call (.Name x p2) [e, .Name T p1] [] pos) Δ S (.bool r) := by
  subst hx
  exact ev_pe (pe_callB call_isi hg hm (by decide +kernel) (pa_cons (pe_ev X e) (pa_cons (pe_bltn (v := .ty tn) hgT hmT hvT rfl hnT hdT) pa_nil hs2) hs1) (by decide) (by decide) hs1 hpl) fun σ G H Q a b c q => ⟨Δ, S, _, G, he, a, b, c, fun v G1 H1 g p r1 =>
    ⟨v, .ty tn, _, _, r, rfl, .ty tn, tyx r1 g.sub ht, kit_ty hk, q _ G1 H1 g p (.bl r)⟩⟩
end
end DL
namespace DL
open PySem PySem.Spec PyProof.Rows L2

/-! ### zip of lists and tuples, two or three -/
/-- b: a tuple -/
def Sq (b : Bool) (K : PySem.W.Frag) (H : Hp) (a : Addr) (xs : List V) : Prop := if b then SqT K H a xs else SqL K H a xs
def IsSq (b : Bool) (h : Heap) (a : Addr) (its : Array Value) : Prop := if b then h.IsTuple a its else h.IsList a its
def IsIt (b : Bool) (h : Heap) (it a : Addr) (i : Nat) : Prop := if b then h.IsTupleIter it a i else h.IsListIter it a i
theorem sq_get {b : Bool} {X : Cx} {pins : List (Addr × Obj)} {σ : L2.St} {H : Hp} {s : Shared} {a : Addr} {xs : List V} (I : Inv X pins σ H s) (h : Sq b X.K H a xs) : ∃ its : List Value, Vals xs its ∧ IsSq b s.heap a its.toArray := by
  cases b with
  | true =>
    obtain ⟨its, r, p, _⟩ := I.tuple h
    exact ⟨its, r, p⟩
  | false =>
    obtain ⟨its, r, p, _⟩ := I.list h
    exact ⟨its, r, p.isList⟩
theorem sq_inj {b : Bool} {X : Cx} {pins : List (Addr × Obj)} {σ : L2.St} {H : Hp} {s : Shared} {a : Addr} {xs ys : List V} (I : Inv X pins σ H s) (h : Sq b X.K H a xs) (h' : Sq b X.K H a ys) : xs = ys := by
  cases b with
  | true => exact I.tuple_inj h h'
  | false => exact I.list_inj h h'
theorem draws_sq (b : Bool) {prog : Program} {w : World} {A : Around} (hh : A.handled = none) (it a : Addr) (hne : a ≠ it) (its : Array Value) :
    Draws prog w A it [it, a] its.size (fun i v => its[i]? = some v) (fun i h => IsIt b h it a i ∧ IsSq b h a its) := by
  cases b with
  | true => exact Draws.tuple hh it a hne its
  | false => exact Draws.list hh it a hne its
def itO (b : Bool) (a : Addr) : Obj := if b then { cls := .type "tuple_iterator", data := .fields #[.ref a, .int 0 0] } else { cls := .type "list_iterator", data := .fields #[.ref a, .int 0 0] }
theorem begins_sq (b : Bool) (a : Addr) (its : Array Value) : Begins (.ref a) (itO b a) fun h => IsSq b h a its := by
  cases b with
  | true => exact begins_tuple a its
  | false => exact begins_list a its
theorem isIt_ex {b : Bool} {h : Heap} {it a : Addr} {i : Nat} (x : IsIt b h it a i) : ∃ o, h.get? it = some o ∧ ∀ v, o.data ≠ .cell v := by
  cases b with
  | true => obtain ⟨o, e, _, d⟩ := x; exact ⟨o, e, fun v z => by rw [d] at z; cases z⟩
  | false => obtain ⟨o, e, _, d⟩ := x; exact ⟨o, e, fun v z => by rw [d] at z; cases z⟩
theorem isIt_at {b : Bool} {h h' : Heap} {it a : Addr} {i : Nat} (x : IsIt b h it a i) (k : ∀ o, h.get? it = some o → h'.get? it = some o) : IsIt b h' it a i := by
  cases b with
  | true => exact Heap.IsTupleIter.at x k
  | false => exact Heap.IsListIter.at x k
theorem isIt_new {b : Bool} {h : Heap} {it a : Addr} (e : h.get? it = some (itO b a)) : IsIt b h it a 0 := by
  cases b with
  | true => exact ⟨_, e, rfl, rfl⟩
  | false => exact ⟨_, e, rfl, rfl⟩
theorem isSq_lt {b : Bool} {h : Heap} {a : Addr} {its : Array Value} (x : IsSq b h a its) : a < h.objs.size := by
  cases b with
  | true => obtain ⟨o, e, _⟩ := x; exact Heap.lt_size e
  | false => obtain ⟨o, e, _⟩ := x; exact Heap.lt_size e
theorem isSq_ne {b : Bool} {h : Heap} {a it : Addr} {its : Array Value} {b' : Bool} {a' : Addr} {i : Nat} (x : IsSq b h a its) (y : IsIt b' h it a' i) : a ≠ it := by
  rintro rfl
  cases b with
  | true =>
    obtain ⟨o, e, c, _⟩ := x
    cases b' with
    | true => obtain ⟨o', e', c', _⟩ := y; rw [e] at e'; cases e'; rw [c] at c'; exact absurd (Value.type.inj c') (by decide)
    | false => obtain ⟨o', e', c', _⟩ := y; rw [e] at e'; cases e'; rw [c] at c'; exact absurd (Value.type.inj c') (by decide)
  | false =>
    obtain ⟨o, e, c, _⟩ := x
    cases b' with
    | true => obtain ⟨o', e', c', _⟩ := y; rw [e] at e'; cases e'; rw [c] at c'; exact absurd (Value.type.inj c') (by decide)
    | false => obtain ⟨o', e', c', _⟩ := y; rw [e] at e'; cases e'; rw [c] at c'; exact absurd (Value.type.inj c') (by decide)
theorem sq_up {b : Bool} {K : PySem.W.Frag} {H H' : Hp} {a : Addr} {xs : List V} (e : Same H H') (h : Sq b K H a xs) : Sq b K H' a xs := by
  cases b with
  | true => exact Same_t e h
  | false => exact Same_l e h
def ItzG (K : PySem.W.Frag) (p q : Bool) (a b : Addr) : It :=
  ⟨fun i H => ∃ (xs ys : List V) (x y : V), Sq p K H a xs ∧ Sq q K H b ys ∧ xs[i]? = some x ∧ ys[i]? = some y,
    fun i H v H' => ∃ T x y, v = .ref T ∧ H T = none ∧ H' = upd H T (.tup [x, y]) ∧ (∀ xs, Sq p K H a xs → xs[i]? = some x) ∧ ∀ ys, Sq q K H b ys → ys[i]? = some y,
    fun i H => ∃ xs ys : List V, Sq p K H a xs ∧ Sq q K H b ys ∧ i = min xs.length ys.length⟩
theorem turn_zipG {P : Program} {w : World} {K : PySem.W.Frag} {elts : List Expr} {kk : Nat} {tpos : Pos} {p q : Bool} {a b z TI TO i1 i2 : Addr} (D : ZipSep2 z TI TO i1 i2 [i1, a] [i2, b]) :
    Turn P w K (.Tuple elts kk tpos) (ItzG K p q a b) [z, TI, TO, i1, i2] z (fun i h => IsZip h z TI TO .none ∧ IsPair h TI (.ref i1) (.ref i2) ∧ (∃ x y, IsPair h TO x y) ∧ IsIt p h i1 a i ∧ IsIt q h i2 b i) where
  mem := by simp
  obj := fun i h st c hc => by
    obtain ⟨hz, hTI, ⟨x, y, hTO⟩, h1, h2⟩ := st
    obtain ⟨o1, e1, d1⟩ := isIt_ex h1
    obtain ⟨o2, e2, d2⟩ := isIt_ex h2
    rcases (by simpa using hc : c = z ∨ c = TI ∨ c = TO ∨ c = i1 ∨ c = i2) with rfl | rfl | rfl | rfl | rfl
    · exact ⟨_, hz, fun v z => nomatch z⟩
    · exact ⟨_, hTI, fun v z => nomatch z⟩
    · exact ⟨_, hTO, fun v z => nomatch z⟩
    · exact ⟨o1, e1, d1⟩
    · exact ⟨o2, e2, d2⟩
  keep := fun i h h' st k => by
    obtain ⟨hz, hTI, ⟨x, y, hTO⟩, h1, h2⟩ := st
    exact ⟨k z (by simp) _ hz, k TI (by simp) _ hTI, ⟨x, y, k TO (by simp) _ hTO⟩, isIt_at h1 (k i1 (by simp)), isIt_at h2 (k i2 (by simp))⟩
  item := by
    intro X hP hw hK hc i pins s σ H E I hf st hg
    subst hP hw hK
    obtain ⟨hz, hTI, ⟨x0, y0, hTO⟩, h1, h2⟩ := st
    obtain ⟨xs, ys, x, y, hqx, hqy, hx, hy⟩ := hg
    obtain ⟨its, rv, pa⟩ := sq_get I hqx
    obtain ⟨its2, rv2, pb⟩ := sq_get I hqy
    have hzl : z < s.heap.objs.size := Heap.lt_size hz
    have lx : i < its.toArray.size := by rw [List.size_toArray, ← rv.length]; exact (List.getElem?_eq_some_iff.mp hx).1
    have ly : i < its2.toArray.size := by rw [List.size_toArray, ← rv2.length]; exact (List.getElem?_eq_some_iff.mp hy).1
    refine wpAny_pyNext_zipD2_item D (draws_sq p (by simp [I.ok.hd hc]) i1 a (isSq_ne pa h1) its.toArray) (draws_sq q (by simp [I.ok.hd hc]) i2 b (isSq_ne pb h2) its2.toArray) hz hTI hTO ⟨h1, pa⟩ ⟨h2, pb⟩ lx ly fun u u2 h' tk hu hu2 z' TO' s1' s2' hT hsz hk => ?_
    refine ⟨_, rfl, wpAny_letOwnedTupleGo_zip (s := { s with heap := h', toks := tk }) z' fun h'' z'' sb => ?_⟩
    obtain ⟨u', e1, ru⟩ := rv.get hx
    obtain ⟨u2', e2, ru2⟩ := rv2.get hy
    have hu : its.toArray[i]? = some u := hu
    have hu2 : its2.toArray[i]? = some u2 := hu2
    rw [List.getElem?_toArray, e1] at hu
    rw [List.getElem?_toArray, e2] at hu2
    cases hu
    cases hu2
    have hT2 : h''.get? s.heap.objs.size = some { cls := .type "tuple", data := .seq #[u, u2] } := (sb.2 _ (Nat.ne_of_gt hzl)).trans hT
    have new : ObjOk X.prog X.w (upd H s.heap.objs.size (.tup [x, y])) h'' s.heap.objs.size (.tup [x, y]) := ⟨by show 2 ≤ sizeLine; decide, [u, u2], .cons ru (.cons ru2 .nil), ⟨_, hT2, rfl, _, rfl⟩⟩
    have I1 : Inv X pins σ (upd H s.heap.objs.size (.tup [x, y])) { s with heap := h'', toks := tk } :=
      I.turnedNew (t' := tk) (ch := [z, TI, TO, i1, i2]) (fun c o hb w => (sb.2 c (fun v => hb (by simp [v]))).trans (hk c o (fun v => hb (by simp [v])) (fun v => hb (by simp [v])) (fun v => hb (by simp [v])) (fun v => hb (by simp [v])) w)) hf (Nat.le_refl _) new
    refine ⟨.ref s.heap.objs.size, _, I1, rfl, ⟨_, x, y, rfl, I.hok.fresh (Nat.le_refl _), rfl, fun l hl => by rw [sq_inj I hl hqx]; exact hx, fun l hl => by rw [sq_inj I hl hqy]; exact hy⟩, ⟨z'', ?_, ⟨u, u2, (sb.2 _ D.TOz).trans TO'⟩, isIt_at s1'.1 fun o w => (sb.2 _ (Ne.symm D.zi1)).trans w, isIt_at s2'.1 fun o w => (sb.2 _ (Ne.symm D.zi2)).trans w⟩, fun c hcm => ?_⟩
    · exact (sb.2 _ D.TIz).trans (hk _ _ D.TIz D.TITO D.TIi1 D.TIi2 hTI)
    · obtain ⟨o1, e1, _⟩ := isIt_ex h1
      obtain ⟨o2, e2, _⟩ := isIt_ex h2
      have hlt : c < s.heap.objs.size := by
        rcases (by simpa using hcm : c = z ∨ c = TI ∨ c = TO ∨ c = i1 ∨ c = i2) with rfl | rfl | rfl | rfl | rfl
        · exact hzl
        · exact Heap.lt_size hTI
        · exact Heap.lt_size hTO
        · exact Heap.lt_size e1
        · exact Heap.lt_size e2
      rw [upd_ne (Nat.ne_of_lt hlt)]
      exact (hf c hcm).1
  done := by
    intro X hP hw hK hc i pins s σ H E I hf st hg
    subst hP hw hK
    obtain ⟨hz, hTI, ⟨x0, y0, hTO⟩, h1, h2⟩ := st
    obtain ⟨xs, ys, hqx, hqy, hend⟩ := hg
    obtain ⟨its, rv, pa⟩ := sq_get I hqx
    obtain ⟨its2, rv2, pb⟩ := sq_get I hqy
    have l1 : its.toArray.size = xs.length := by rw [List.size_toArray, rv.length]
    have l2 : its2.toArray.size = ys.length := by rw [List.size_toArray, rv2.length]
    exact wpAny_pyNext_zipD2_end D (draws_sq p (by simp [I.ok.hd hc]) i1 a (isSq_ne pa h1) its.toArray) (draws_sq q (by simp [I.ok.hd hc]) i2 b (isSq_ne pb h2) its2.toArray) hz hTI hTO ⟨h1, pa⟩ ⟨h2, pb⟩ (by omega) (by omega) (by omega) fun h' tk hk => ⟨rfl, I.turnedL (t' := tk) (ch := [z, TI, TO, i1, i2]) (fun c o hb w =>
      hk c o (fun v => hb (by simp [v])) (fun v => hb (by simp [v])) (fun v => hb (by simp [v])) (fun v => hb (by simp [v])) w) hf⟩
  self := fun A i s Q E st h => wpAny_pyIter_zip st.1 h
def iZipG (K : PySem.W.Frag) (p q : Bool) (ta : TA) : TI := fun σ H R => ta σ H fun vs H1 => ∃ a b xs ys, vs = [.ref a, .ref b] ∧ Sq p K H1 a xs ∧ Sq q K H1 b ys ∧ R (ItzG K p q a b) H1
theorem pi_zipG {X : Cx} {p q : Bool} {e e2 : Expr} {ta : TA} {pp pos tpos : Pos} {elts : List Expr} {kk : Nat} (hg : Gl X "zip") (hm : X.mg "zip" = none) (ha : PA X [e, e2] ta)
    (hs : starEach [e, e2] X.env = (false, eval e X.env) :: starEach [e2] X.env := by rfl) (hpl : (backTo pos (starEach [e2] X.env)).any (·.1) = false := by rfl) :
    PI X (.Tuple elts kk tpos) (.Call (.Name "zip" pp) [e, e2] [] pos) (iZipG X.K p q ta) := by
  refine ⟨fun pins s σ H R I h => ?_⟩
  refine Call_ (ld_blt I hg hm PyProof.Rows.boot_zip (PyProof.Rows.callWith_type1 (thn (ha.run pos pins s σ H _ I h) fun us s1 ⟨vs, H1, I1, r1, q1⟩ => ?_) hs hpl))
  obtain ⟨a, b, xs, ys, rfl, hqx, hqy, q1⟩ := q1
  obtain ⟨u1, u2, rfl, r1, r2⟩ := vals2 r1
  cases r1
  cases r2
  obtain ⟨its, rv, p1⟩ := sq_get I1 hqx
  obtain ⟨its2, rv2, p2⟩ := sq_get I1 hqy
  refine zip_begins2 (begins_sq p a its.toArray) (begins_sq q b its2.toArray) p1 p2 fun h' hz hTI hTO h1 h2 hsz hk => wpAny_pyIter_zip hz ?_
  have I2 : Inv X pins σ H1 { s1 with heap := h' } := I1.kept (t' := s1.toks) hk
  refine ⟨s1.heap.objs.size + 4, [s1.heap.objs.size + 4, s1.heap.objs.size + 2, s1.heap.objs.size + 3, s1.heap.objs.size, s1.heap.objs.size + 1], _, _, H1, rfl, I2, turn_zipG (zip_sep2 (fp1 := [a]) (fp2 := [b]) (fun c hc => by rw [List.mem_singleton.mp hc]; exact isSq_lt p1) (fun c hc => by rw [List.mem_singleton.mp hc]; exact isSq_lt p2)), ⟨hz, hTI, ⟨_, _, hTO⟩, isIt_new h1, isIt_new h2⟩, fun c hcm => ?_, q1⟩
  have hle : s1.heap.objs.size ≤ c := by
    rcases (by simpa using hcm : c = s1.heap.objs.size + 4 ∨ c = s1.heap.objs.size + 2 ∨ c = s1.heap.objs.size + 3 ∨ c = s1.heap.objs.size ∨ c = s1.heap.objs.size + 1) with z | z | z | z | z
    · rw [z]; exact Nat.le_add_right _ _
    · rw [z]; exact Nat.le_add_right _ _
    · rw [z]; exact Nat.le_add_right _ _
    · rw [z]; exact Nat.le_refl _
    · rw [z]; exact Nat.le_add_right _ _
  exact I1.fpOk hle (I1.hok.fresh hle)
/-- the datum of such a sequence -/
def sqD (b : Bool) (ds : List PyData) : PyData := if b then .tuple ds else .list ds
theorem at_sq {K : PySem.W.Frag} {G : Hp} {b : Bool} {v : V} {ds : List PyData} (h : At K G v (sqD b ds)) : ∃ a xs, v = .ref a ∧ Sq b K G a xs ∧ Ats K G xs ds := by
  cases b with
  | true => cases h with | tup hs ha => exact ⟨_, _, rfl, SqT.of hs, ha⟩
  | false => cases h with | lst hs ha => exact ⟨_, _, rfl, SqL.of hs, ha⟩
section
variable {X : Cx} {e e2 e3 tg : Expr} {Δ : De} {S : As} {ds ds2 ds3 : List PyData} {pos p tpos : Pos}
theorem it_zip {elts : List Expr} {kk : Nat} (b b2 : Bool) (hg : Gl X "zip") (hm : X.mg "zip" = none) (h : Ev X e Δ S (sqD b ds)) (h' : Ev X e2 Δ S (sqD b2 ds2))
    (hs : starEach [e, e2] X.env = (false, eval e X.env) :: starEach [e2] X.env := by rfl) (hs2 : starEach [e2] X.env = (false, eval e2 X.env) :: starEach [] X.env := by rfl) (hpl : (backTo pos (starEach [e2] X.env)).any (·.1) = false := by rfl) :
    ItD X (.Tuple elts kk tpos) (.Call (.Name "zip" p) [e, e2] [] pos) Δ S ((ds.zip ds2).map fun z => .tuple [z.1, z.2]) :=
  ⟨_, pi_zipG (p := b) (q := b2) hg hm (pa_cons (pe_ev X e) (pa_cons (pe_ev X e2) pa_nil hs2) hs) hs hpl, fun σ G H R a b' c q => ⟨Δ, S, _, G, h, a, b', c, fun v G1 H1 g p1 r => ⟨Δ, S, _, G1, h', a.up g.gx, g.sub, p1, fun v2 G2 H2 g2 p2 r2 => by
    obtain ⟨x1, xs, rfl, hx, hd⟩ := at_sq r
    obtain ⟨x2, ys, rfl, hx2, hd2⟩ := at_sq r2
    have hx := sq_up g2.gx hx
    have hd := hd.up g2.gx
    refine ⟨_, _, _, _, rfl, sq_up g2.sub hx, sq_up g2.sub hx2, q _ G2 H2 (g.trans g2) p2 ⟨fun G3 H3 s1 s2 => ⟨_, _, sq_up s2 (sq_up s1 hx), sq_up s2 (sq_up s1 hx2), ?_⟩, fun i d G3 H3 s1 s2 e1 => ?_⟩⟩
    · simp only [List.length_map, List.length_zip]
      rw [hd.len, hd2.len]
    · rw [List.getElem?_map] at e1
      cases w : (ds.zip ds2)[i]? with
      | none => rw [w] at e1; cases e1
      | some d0 =>
        rw [w] at e1
        cases e1
        obtain ⟨q1, q2⟩ := List.getElem?_zip_eq_some.mp w
        obtain ⟨u, f1, f2⟩ := hd.get q1
        obtain ⟨u2, f1', f2'⟩ := hd2.get q2
        refine ⟨⟨_, _, u, u2, sq_up s2 (sq_up s1 hx), sq_up s2 (sq_up s1 hx2), f1, f1'⟩, fun x H' y => ?_⟩
        obtain ⟨T, x', y', rfl, hT, rfl, y1, y2⟩ := y
        have z1 := y1 _ (sq_up s2 (sq_up s1 hx))
        rw [f1] at z1; cases z1
        have z2 := y2 _ (sq_up s2 (sq_up s1 hx2))
        rw [f1'] at z2; cases z2
        exact ⟨upd G3 T (.tup [u, u2]), .new s2 hT, same_upd hT, .tup upd_same (.cons ((f2.up s1).up (same_upd (s2.free hT))) (.one ((f2'.up s1).up (same_upd (s2.free hT)))))⟩⟩⟩⟩
end
end DL
namespace DL
open PySem PySem.Spec PyProof.Rows L2
def ItzH (K : PySem.W.Frag) (p q r : Bool) (a b c : Addr) : It :=
  ⟨fun i H => ∃ (xs ys zs : List V) (x y z : V), Sq p K H a xs ∧ Sq q K H b ys ∧ Sq r K H c zs ∧ xs[i]? = some x ∧ ys[i]? = some y ∧ zs[i]? = some z,
    fun i H v H' => ∃ T x y z, v = .ref T ∧ H T = none ∧ H' = upd H T (.tup [x, y, z]) ∧ (∀ xs, Sq p K H a xs → xs[i]? = some x) ∧ (∀ ys, Sq q K H b ys → ys[i]? = some y) ∧ ∀ zs, Sq r K H c zs → zs[i]? = some z,
    fun i H => ∃ xs ys zs : List V, Sq p K H a xs ∧ Sq q K H b ys ∧ Sq r K H c zs ∧ i = min xs.length (min ys.length zs.length)⟩
theorem turn_zipH {P : Program} {w : World} {K : PySem.W.Frag} {elts : List Expr} {kk : Nat} {tpos : Pos} {p q r : Bool} {a b d z TI TO i1 i2 i3 : Addr} (D : ZipSep3 z TI TO i1 i2 i3 [i1, a] [i2, b] [i3, d]) :
    Turn P w K (.Tuple elts kk tpos) (ItzH K p q r a b d) [z, TI, TO, i1, i2, i3] z (fun i h => IsZip h z TI TO .none ∧ IsTupOf3 h TI (.ref i1) (.ref i2) (.ref i3) ∧ (∃ x y w, IsTupOf3 h TO x y w) ∧ IsIt p h i1 a i ∧ IsIt q h i2 b i ∧ IsIt r h i3 d i) where
  mem := by simp
  obj := fun i h st c hc => by
    obtain ⟨hz, hTI, ⟨x, y, w, hTO⟩, h1, h2, h3⟩ := st
    obtain ⟨o1, e1, d1⟩ := isIt_ex h1
    obtain ⟨o2, e2, d2⟩ := isIt_ex h2
    obtain ⟨o3, e3, d3⟩ := isIt_ex h3
    rcases (by simpa using hc : c = z ∨ c = TI ∨ c = TO ∨ c = i1 ∨ c = i2 ∨ c = i3) with rfl | rfl | rfl | rfl | rfl | rfl
    · exact ⟨_, hz, fun v z => nomatch z⟩
    · exact ⟨_, hTI, fun v z => nomatch z⟩
    · exact ⟨_, hTO, fun v z => nomatch z⟩
    · exact ⟨o1, e1, d1⟩
    · exact ⟨o2, e2, d2⟩
    · exact ⟨o3, e3, d3⟩
  keep := fun i h h' st k => by
    obtain ⟨hz, hTI, ⟨x, y, w, hTO⟩, h1, h2, h3⟩ := st
    exact ⟨k z (by simp) _ hz, k TI (by simp) _ hTI, ⟨x, y, w, k TO (by simp) _ hTO⟩, isIt_at h1 (k i1 (by simp)), isIt_at h2 (k i2 (by simp)), isIt_at h3 (k i3 (by simp))⟩
  item := by
    intro X hP hw hK hc i pins s σ H E I hf st hg
    subst hP hw hK
    obtain ⟨hz, hTI, ⟨x0, y0, w0, hTO⟩, h1, h2, h3⟩ := st
    obtain ⟨xs, ys, zs, x, y, z', hqx, hqy, hqz, hx, hy, hzz⟩ := hg
    obtain ⟨its, rv, pa⟩ := sq_get I hqx
    obtain ⟨its2, rv2, pb⟩ := sq_get I hqy
    obtain ⟨its3, rv3, pc⟩ := sq_get I hqz
    have hzl : z < s.heap.objs.size := Heap.lt_size hz
    have lx : i < its.toArray.size := by rw [List.size_toArray, ← rv.length]; exact (List.getElem?_eq_some_iff.mp hx).1
    have ly : i < its2.toArray.size := by rw [List.size_toArray, ← rv2.length]; exact (List.getElem?_eq_some_iff.mp hy).1
    have lz : i < its3.toArray.size := by rw [List.size_toArray, ← rv3.length]; exact (List.getElem?_eq_some_iff.mp hzz).1
    refine wpAny_pyNext_zipD3_item D (draws_sq p (by simp [I.ok.hd hc]) i1 a (isSq_ne pa h1) its.toArray) (draws_sq q (by simp [I.ok.hd hc]) i2 b (isSq_ne pb h2) its2.toArray) (draws_sq r (by simp [I.ok.hd hc]) i3 d (isSq_ne pc h3) its3.toArray) hz hTI hTO ⟨h1, pa⟩ ⟨h2, pb⟩ ⟨h3, pc⟩ lx ly lz fun u u2 u3 h' tk hu hu2 hu3 z1' TO' s1' s2' s3' hT hsz hk => ?_
    refine ⟨_, rfl, wpAny_letOwnedTupleGo_zip (s := { s with heap := h', toks := tk }) z1' fun h'' z'' sb => ?_⟩
    obtain ⟨v1, e1, ru⟩ := rv.get hx
    obtain ⟨v2, e2, ru2⟩ := rv2.get hy
    obtain ⟨v3, e3, ru3⟩ := rv3.get hzz
    have hu : its.toArray[i]? = some u := hu
    have hu2 : its2.toArray[i]? = some u2 := hu2
    have hu3 : its3.toArray[i]? = some u3 := hu3
    rw [List.getElem?_toArray, e1] at hu
    rw [List.getElem?_toArray, e2] at hu2
    rw [List.getElem?_toArray, e3] at hu3
    cases hu
    cases hu2
    cases hu3
    have hT2 : h''.get? s.heap.objs.size = some { cls := .type "tuple", data := .seq #[u, u2, u3] } := (sb.2 _ (Nat.ne_of_gt hzl)).trans hT
    have new : ObjOk X.prog X.w (upd H s.heap.objs.size (.tup [x, y, z'])) h'' s.heap.objs.size (.tup [x, y, z']) := ⟨by show 3 ≤ sizeLine; decide, [u, u2, u3], .cons ru (.cons ru2 (.cons ru3 .nil)), ⟨_, hT2, rfl, _, rfl⟩⟩
    have I1 : Inv X pins σ (upd H s.heap.objs.size (.tup [x, y, z'])) { s with heap := h'', toks := tk } :=
      I.turnedNew (t' := tk) (ch := [z, TI, TO, i1, i2, i3]) (fun c o hb w => (sb.2 c (fun v => hb (by simp [v]))).trans (hk c o (fun v => hb (by simp [v])) (fun v => hb (by simp [v])) (fun v => hb (by simp [v])) (fun v => hb (by simp [v])) (fun v => hb (by simp [v])) w)) hf (Nat.le_refl _) new
    refine ⟨.ref s.heap.objs.size, _, I1, rfl, ⟨_, x, y, z', rfl, I.hok.fresh (Nat.le_refl _), rfl, fun l hl => by rw [sq_inj I hl hqx]; exact hx, fun l hl => by rw [sq_inj I hl hqy]; exact hy, fun l hl => by rw [sq_inj I hl hqz]; exact hzz⟩, ⟨z'', ?_, ⟨u, u2, u3, (sb.2 _ D.TOz).trans TO'⟩, isIt_at s1'.1 fun o w => (sb.2 _ (Ne.symm D.zi1)).trans w, isIt_at s2'.1 fun o w => (sb.2 _ (Ne.symm D.zi2)).trans w, isIt_at s3'.1 fun o w => (sb.2 _ (Ne.symm D.zi3)).trans w⟩, fun c hcm => ?_⟩
    · exact (sb.2 _ D.TIz).trans (hk _ _ D.TIz D.TITO D.TIi1 D.TIi2 D.TIi3 hTI)
    · obtain ⟨o1, e1, _⟩ := isIt_ex h1
      obtain ⟨o2, e2, _⟩ := isIt_ex h2
      obtain ⟨o3, e3, _⟩ := isIt_ex h3
      have hlt : c < s.heap.objs.size := by
        rcases (by simpa using hcm : c = z ∨ c = TI ∨ c = TO ∨ c = i1 ∨ c = i2 ∨ c = i3) with rfl | rfl | rfl | rfl | rfl | rfl
        · exact hzl
        · exact Heap.lt_size hTI
        · exact Heap.lt_size hTO
        · exact Heap.lt_size e1
        · exact Heap.lt_size e2
        · exact Heap.lt_size e3
      rw [upd_ne (Nat.ne_of_lt hlt)]
      exact (hf c hcm).1
  done := by
    intro X hP hw hK hc i pins s σ H E I hf st hg
    subst hP hw hK
    obtain ⟨hz, hTI, ⟨x0, y0, w0, hTO⟩, h1, h2, h3⟩ := st
    obtain ⟨xs, ys, zs, hqx, hqy, hqz, hend⟩ := hg
    obtain ⟨its, rv, pa⟩ := sq_get I hqx
    obtain ⟨its2, rv2, pb⟩ := sq_get I hqy
    obtain ⟨its3, rv3, pc⟩ := sq_get I hqz
    have l1 : its.toArray.size = xs.length := by rw [List.size_toArray, rv.length]
    have l2 : its2.toArray.size = ys.length := by rw [List.size_toArray, rv2.length]
    have l3 : its3.toArray.size = zs.length := by rw [List.size_toArray, rv3.length]
    exact wpAny_pyNext_zipD3_end D (draws_sq p (by simp [I.ok.hd hc]) i1 a (isSq_ne pa h1) its.toArray) (draws_sq q (by simp [I.ok.hd hc]) i2 b (isSq_ne pb h2) its2.toArray) (draws_sq r (by simp [I.ok.hd hc]) i3 d (isSq_ne pc h3) its3.toArray) hz hTI hTO ⟨h1, pa⟩ ⟨h2, pb⟩ ⟨h3, pc⟩ (by omega) (by omega) (by omega) (by omega) fun h' tk hk => ⟨rfl, I.turnedL (t' := tk) (ch := [z, TI, TO, i1, i2, i3]) (fun c o hb w =>
      hk c o (fun v => hb (by simp [v])) (fun v => hb (by simp [v])) (fun v => hb (by simp [v])) (fun v => hb (by simp [v])) (fun v => hb (by simp [v])) w) hf⟩
  self := fun A i s Q E st h => wpAny_pyIter_zip st.1 h
def iZipH (K : PySem.W.Frag) (p q r : Bool) (ta : TA) : TI := fun σ H R => ta σ H fun vs H1 => ∃ a b c xs ys zs, vs = [.ref a, .ref b, .ref c] ∧ Sq p K H1 a xs ∧ Sq q K H1 b ys ∧ Sq r K H1 c zs ∧ R (ItzH K p q r a b c) H1
theorem pi_zipH {X : Cx} {p q r : Bool} {e e2 e3 : Expr} {ta : TA} {pp pos tpos : Pos} {elts : List Expr} {kk : Nat} (hg : Gl X "zip") (hm : X.mg "zip" = none) (ha : PA X [e, e2, e3] ta)
    (hs : starEach [e, e2, e3] X.env = (false, eval e X.env) :: starEach [e2, e3] X.env := by rfl) (hpl : (backTo pos (starEach [e2, e3] X.env)).any (·.1) = false := by rfl) :
    PI X (.Tuple elts kk tpos) (.Call (.Name "zip" pp) [e, e2, e3] [] pos) (iZipH X.K p q r ta) := by
  refine ⟨fun pins s σ H R I h => ?_⟩
  refine Call_ (ld_blt I hg hm PyProof.Rows.boot_zip (PyProof.Rows.callWith_type1 (thn (ha.run pos pins s σ H _ I h) fun us s1 ⟨vs, H1, I1, r1, q1⟩ => ?_) hs hpl))
  obtain ⟨a, b, d, xs, ys, zs, rfl, hqx, hqy, hqz, q1⟩ := q1
  cases r1 with
  | cons r1 r' =>
  obtain ⟨u2, u3, rfl, r2, r3⟩ := vals2 r'
  cases r1
  cases r2
  cases r3
  obtain ⟨its, rv, p1⟩ := sq_get I1 hqx
  obtain ⟨its2, rv2, p2⟩ := sq_get I1 hqy
  obtain ⟨its3, rv3, p3⟩ := sq_get I1 hqz
  refine zip_begins3 (begins_sq p a its.toArray) (begins_sq q b its2.toArray) (begins_sq r d its3.toArray) p1 p2 p3 fun h' hz hTI hTO h1 h2 h3 hsz hk => wpAny_pyIter_zip hz ?_
  have I2 : Inv X pins σ H1 { s1 with heap := h' } := I1.kept (t' := s1.toks) hk
  refine ⟨s1.heap.objs.size + 5, [s1.heap.objs.size + 5, s1.heap.objs.size + 3, s1.heap.objs.size + 4, s1.heap.objs.size, s1.heap.objs.size + 1, s1.heap.objs.size + 2], _, _, H1, rfl, I2, turn_zipH (zip_sep3 (fp1 := [a]) (fp2 := [b]) (fp3 := [d]) (fun c hc => by rw [List.mem_singleton.mp hc]; exact isSq_lt p1) (fun c hc => by rw [List.mem_singleton.mp hc]; exact isSq_lt p2) (fun c hc => by rw [List.mem_singleton.mp hc]; exact isSq_lt p3)), ⟨hz, hTI, ⟨_, _, _, hTO⟩, isIt_new h1, isIt_new h2, isIt_new h3⟩, fun c hcm => ?_, q1⟩
  have hle : s1.heap.objs.size ≤ c := by
    rcases (by simpa using hcm : c = s1.heap.objs.size + 5 ∨ c = s1.heap.objs.size + 3 ∨ c = s1.heap.objs.size + 4 ∨ c = s1.heap.objs.size ∨ c = s1.heap.objs.size + 1 ∨ c = s1.heap.objs.size + 2) with z | z | z | z | z | z
    · rw [z]; exact Nat.le_add_right _ _
    · rw [z]; exact Nat.le_add_right _ _
    · rw [z]; exact Nat.le_add_right _ _
    · rw [z]; exact Nat.le_refl _
    · rw [z]; exact Nat.le_add_right _ _
    · rw [z]; exact Nat.le_add_right _ _
  exact I1.fpOk hle (I1.hok.fresh hle)
section
variable {X : Cx} {e e2 e3 tg : Expr} {Δ : De} {S : As} {ds ds2 ds3 : List PyData} {pos p tpos : Pos}
theorem it_zip3 {elts : List Expr} {kk : Nat} (b b2 b3 : Bool) (hg : Gl X "zip") (hm : X.mg "zip" = none) (h : Ev X e Δ S (sqD b ds)) (h' : Ev X e2 Δ S (sqD b2 ds2)) (h'' : Ev X e3 Δ S (sqD b3 ds3))
    (hs : starEach [e, e2, e3] X.env = (false, eval e X.env) :: starEach [e2, e3] X.env := by rfl) (hs2 : starEach [e2, e3] X.env = (false, eval e2 X.env) :: starEach [e3] X.env := by rfl) (hs3 : starEach [e3] X.env = (false, eval e3 X.env) :: starEach [] X.env := by rfl) (hpl : (backTo pos (starEach [e2, e3] X.env)).any (·.1) = false := by rfl) :
    ItD X (.Tuple elts kk tpos) (.Call (.Name "zip" p) [e, e2, e3] [] pos) Δ S ((ds.zip (ds2.zip ds3)).map fun z => .tuple [z.1, z.2.1, z.2.2]) :=
  ⟨_, pi_zipH (p := b) (q := b2) (r := b3) hg hm (pa_cons (pe_ev X e) (pa_cons (pe_ev X e2) (pa_cons (pe_ev X e3) pa_nil hs3) hs2) hs) hs hpl, fun σ G H R a b' c q => ⟨Δ, S, _, G, h, a, b', c, fun v G1 H1 g p1 r => ⟨Δ, S, _, G1, h', a.up g.gx, g.sub, p1, fun v2 G2 H2 g2 p2 r2 => ⟨Δ, S, _, G2, h'', (a.up g.gx).up g2.gx, g2.sub, p2, fun v3 G3 H3 g3 p3 r3 => by
    obtain ⟨x1, xs, rfl, hx, hd⟩ := at_sq r
    obtain ⟨x2, ys, rfl, hx2, hd2⟩ := at_sq r2
    obtain ⟨x3, zs, rfl, hx3, hd3⟩ := at_sq r3
    have hx := sq_up (g2.gx.trans g3.gx) hx
    have hd := hd.up (g2.gx.trans g3.gx)
    have hx2 := sq_up g3.gx hx2
    have hd2 := hd2.up g3.gx
    refine ⟨_, _, _, _, _, _, rfl, sq_up g3.sub hx, sq_up g3.sub hx2, sq_up g3.sub hx3, q _ G3 H3 ((g.trans g2).trans g3) p3 ⟨fun G4 H4 s1 s2 => ⟨_, _, _, sq_up s2 (sq_up s1 hx), sq_up s2 (sq_up s1 hx2), sq_up s2 (sq_up s1 hx3), ?_⟩, fun i d G4 H4 s1 s2 e1 => ?_⟩⟩
    · simp only [List.length_map, List.length_zip]
      rw [hd.len, hd2.len, hd3.len]
    · rw [List.getElem?_map] at e1
      cases w : (ds.zip (ds2.zip ds3))[i]? with
      | none => rw [w] at e1; cases e1
      | some d0 =>
        rw [w] at e1
        cases e1
        obtain ⟨q1, q2⟩ := List.getElem?_zip_eq_some.mp w
        obtain ⟨q2, q3⟩ := List.getElem?_zip_eq_some.mp q2
        obtain ⟨u, f1, f2⟩ := hd.get q1
        obtain ⟨u2, f1', f2'⟩ := hd2.get q2
        obtain ⟨u3, f1'', f2''⟩ := hd3.get q3
        refine ⟨⟨_, _, _, u, u2, u3, sq_up s2 (sq_up s1 hx), sq_up s2 (sq_up s1 hx2), sq_up s2 (sq_up s1 hx3), f1, f1', f1''⟩, fun x H' y => ?_⟩
        obtain ⟨T, x', y', z', rfl, hT, rfl, y1, y2, y3⟩ := y
        have z1 := y1 _ (sq_up s2 (sq_up s1 hx))
        rw [f1] at z1; cases z1
        have z2 := y2 _ (sq_up s2 (sq_up s1 hx2))
        rw [f1'] at z2; cases z2
        have z3 := y3 _ (sq_up s2 (sq_up s1 hx3))
        rw [f1''] at z3; cases z3
        exact ⟨upd G4 T (.tup [u, u2, u3]), .new s2 hT, same_upd hT, .tup upd_same (.cons ((f2.up s1).up (same_upd (s2.free hT))) (.cons ((f2'.up s1).up (same_upd (s2.free hT))) (.one ((f2''.up s1).up (same_upd (s2.free hT))))))⟩⟩⟩⟩⟩
end
end DL
namespace DL
open PySem PySem.Spec PyProof.Rows L2

/-! ### defs that want to know what guards stand (repr) -/
structure FnG (P : Program) (w : World) (K : PySem.W.Frag) (mg : Str → Option Value) (base : Heap) (k : Nat) (f : Addr) (fd : FuncData) (ps : List Str) (sp : Sp) : Prop where
  len : ∀ vs H Q E, sp vs H Q E → vs.length = ps.length
  go : ∀ (A : Around) (outer : List Env) (s : Shared) (H : Hp) (args : Args) (us : List Value) (vs : List V) (Q : VK) (E : XK), A.guards = some [] → Room k A → Env0 P w K mg base A outer s H → BindsTo s fd args (ps.zip us) → Vals vs us → sp vs H Q E →
    codeAny (model P w) A (.call (.ref f) args) (CR CX0 outer P w H s Q E) s
section
variable {P : Program} {w : World} {K : PySem.W.Frag} {mg : Str → Option Value} {base : Heap}
theorem fn_goG {x qual : Str} {st : Stmt} {f : Addr} {fd : FuncData} {N ps : List Str} {k : Nat} {Pr : Hp → List PyData → As → RR → Prop} (F : Fun K x qual st f fd) (S : FnScope N ps (defScope st)) (len : ∀ G ds T R, Pr G ds T R → ds.length = ps.length)
    (hbody : ∀ (cdv : Value) (A : Around) (outer : List Env) (s : Shared) (H0 : Hp) (E : XK) (G H : Hp) (ds : List PyData) (T : As) (R : RR), Room k (A.deeper (envOfC qual (defScope st) s.heap.objs.size f cdv)) → (A.deeper (envOfC qual (defScope st) s.heap.objs.size f cdv)).guards = some [] → Pr G ds T R →
      Go (cxOf CX0 P w K mg base N qual (defScope st) f cdv A outer s H0 E).nox (defBody st) (retM G H T.fo R) (De.start N ds) (((As.extx G H T.fo).and (.fact (Same G) fun _ _ e h => h.trans e)).and T)) : FnG P w K mg base (k + 1) f fd ps (spM K Pr) := by
  obtain ⟨oc, od, kV, doc, pm, an, cdv, ct, osl, rfl, lk, hcd⟩ := F.ex
  refine ⟨fun vs H Q E ⟨G, ds, T, R, _, h2, _, h3, _⟩ => (by rw [h2.len]; exact len G ds T R h3), ?_⟩
  intro A outer s H args us vs Q E hgd hr e0 hb r hsp
  have hl : vs.length = ps.length := by obtain ⟨G, ds, T, R, _, h2, _, h3, _⟩ := id hsp; rw [h2.len]; exact len G ds T R h3
  have inK : K.In s.heap := e0.mod.kin.keeps fun b o e => (e0.bs b o e).1
  have nol : s.heap.NoLimit := e0.mod.nolimit.keeps fun b o e => (e0.bs b o e).1
  refine codeAny_call_function hr.depth (inK _ _ lk) rfl S.co S.gen rfl (PySem.W.codeRec_of inK hcd) (hb _ _ _ _ ?_)
  have kinds : ∀ y ∈ ps.zip us, (defScope st).names.lookup y.1 = some .local ∨ ((defScope st).names.lookup y.1 = some .cell ∧ ((cellsFrom (s.heap.objs.size + 1) (defScope st).names []).lookup y.1).isSome = true) := by
    rintro ⟨n, v⟩ hy
    rcases S.par n (List.of_mem_zip hy).1 with q | q
    · left; exact q
    · right; exact ⟨q, PySem.W.cellsFrom_some _ _ _ (.inl q)⟩
  refine wpAny_newFunctionEnv_cells S.kind kinds fun env he s1 x1 => ?_
  subst he
  refine ⟨nol.keeps x1.toInCall.keep, codeAny_func ?_⟩
  obtain ⟨G, ds, T, R, h1, h2, hT, h3, k1⟩ := hsp
  have body := hbody cdv A outer s H E G H ds T R (hr.deeper _) hgd h3
  have run := (pss_go _ (defBody st)).nox (X := cxOf CX0 P w K mg base N qual (defScope st) f cdv A outer s H E)
  have I0 : Inv (cxOf CX0 P w K mg base N qual (defScope st) f cdv A outer s H E) [] (L2.start N vs) H s1 := inv_start S hr.hd e0 hl r x1
  refine wpAny_mono (run.run [] s1 (L2.start N vs) H { nx := fun _ H' => Q .non H', rt := Q } I0 ⟨_, _, _, G, body, ⟨?_, ?_, ?_, ?_⟩, env_start h2, h1, ⟨⟨⟨.refl h1, fun _ _ _ z => z⟩, Same.refl _⟩, hT⟩⟩) (fun fl s' hs => ?_) fun e s' hs => hs
  · rintro σ H2 ⟨G2, _, _, G3, ⟨a, b⟩, r⟩; exact k1 _ G3 H2 a b r
  · rintro v H2 ⟨G2, _, _, G3, ⟨a, b⟩, r⟩; exact k1 _ G3 H2 a b r
  · rintro σ H2 ⟨_, _, _, h⟩; exact h.elim
  · rintro σ H2 ⟨_, _, _, h⟩; exact h.elim
  · cases fl with
    | ret u => obtain ⟨v, σ', H', J, rv, q⟩ := hs; exact ⟨v, H', J.os, J.bare, J.base, J.hok, rv, q⟩
    | next => obtain ⟨σ', H', J, q⟩ := hs; exact ⟨V.non, H', J.os, J.bare, J.base, J.hok, rfl, q⟩
    | brk => obtain ⟨_, _, _, q⟩ := hs; exact q.elim
    | cont => obtain ⟨_, _, _, q⟩ := hs; exact q.elim
/-- such a def, called by its name -/
structure CalG (P : Program) (w : World) (K : PySem.W.Frag) (mg : Str → Option Value) (base : Heap) (k : Nat) (x : Str) (sp : Sp) : Prop where
  ex : ∃ (f : Addr) (fd : FuncData) (ps : List Str), FnG P w K mg base k f fd ps sp ∧ mg x = some (.ref f) ∧ PySem.W.keepIn K (.ref f) = true ∧ Binds K fd ps []
end
section
variable {X : Cx} {x : Str} {k j : Nat} {sp : Sp} {p pos : Pos} {e : Expr} {es : List Expr} {t : TA}
theorem pe_cG (c : CalG X.prog X.w X.K X.mg X.base k x sp) (hgd : X.A.guards = some []) (hr : Room j X.A) (hk : k ≤ j) (hg : Gl X x) (ha : PA X (e :: es) t)
    (hdb : (x == ("__debug__" : Str)) = false := by decide) (he : starEach (e :: es) X.env = (false, eval e X.env) :: starEach es X.env := by rfl) (hpl : (backTo pos (starEach es X.env)).any (·.1) = false := by rfl) :
    PE X (.Call (.Name x p) (e :: es) [] pos) (tCall sp [] E0 t) := by
  obtain ⟨f, fd, ps, F, hm, kp, b⟩ := c.ex
  refine ⟨fun pins s σ H Q I h => wpAny_Call_Name_kw (ld_glob I hg hm ?_ hdb)⟩
  refine PySem.W.callWith_K (h₀ := X.base) I.ok.mod.kin kp (thn (ha.run pos pins s σ H _ I h) fun us s1 ⟨vs, H1, I1, r, q⟩ => ⟨I1.kIn, ?_⟩) he hpl
  have q : sp vs H1 Q E0 := by have z : sp (vs ++ []) H1 Q E0 := q; rwa [List.append_nil] at z
  have hl : us.length = ps.length := by rw [← r.length]; exact F.len _ _ _ _ q
  have hb := b s1 us I1.kIn (by rw [List.append_nil]; exact hl)
  rw [List.append_nil] at hb
  refine wpAny_call (codeAny_mono (F.go X.A X.stack s1 H1 ⟨us, []⟩ us vs Q E0 hgd (hr.mono hk) I1.env0 hb r q) fun rs s' hq => ?_)
  cases rs with
  | error e => exact hq.elim
  | ok fl => cases fl with
    | ret u => exact I1.after hq
    | next => exact hq.elim
    | brk => exact hq.elim
    | cont => exact hq.elim
variable {Δ : De} {S T : As} {R : RR} {d : PyData} {ds : List PyData}
theorem evx_cG {Pr : Hp → List PyData → As → RR → Prop} {PL : List PyData → Prop} (c : CalG X.prog X.w X.K X.mg X.base k x (spM X.K Pr)) (hgd : X.A.guards = some []) (hr : Room j X.A) (hg : Gl X x) (ha : EvAX X (e :: es) Δ S PL) (hT : Has S T) (hP : ∀ G H ds, PL ds → S.p G H → Pr G ds T (rAnd T R))
    (hR : Back R := by first | exact back_x | exact back_xl | exact back_at | exact back_nl) (hk : k ≤ j := by decide)
    (hdb : (x == ("__debug__" : Str)) = false := by decide) (he : starEach (e :: es) X.env = (false, eval e X.env) :: starEach es X.env := by rfl) (hpl : (backTo pos (starEach es X.env)).any (·.1) = false := by rfl) :
    EvR X (.Call (.Name x p) (e :: es) [] pos) Δ S R := by
  obtain ⟨S', h1, h2, h3⟩ := hT
  exact ev_pe (pe_cG c hgd hr hk hg (pa_evx X _) hdb he hpl) fun σ G H Q a b c q => ⟨Δ, S, PL, G, ha, a, b, c, fun vs ds G1 H1 z g p r1 => by
    show spM X.K Pr (vs ++ []) H1 Q _
    rw [List.append_nil]
    exact ⟨G1, ds, T, _, g.sub, r1, (h1 _ _ p).2, hP G1 H1 ds z p, fun v G2 H2 g2 s2 ⟨t2, r2⟩ => q v G2 H2 (g.trans g2) (h2 _ _ ⟨S'.fr g2 (fun a o n k => s2 a o (h3 a n) k) (h1 _ _ p).1, t2⟩) (hR _ _ _ _ _ _ _ g r2)⟩⟩
theorem has_tt : Has S .tt := ⟨S, fun _ _ h => ⟨h, True.intro⟩, fun _ _ h => h.1, fun _ _ h => h⟩
/-- what can be shown -/
structure Shw (d : PyData) : Prop where
  sh : SeqAt.shaped d = true
  ok : d.showable = true
  de : d.depth ≤ 60
  ln : d.shown.length ≤ sizeLine
theorem call_repr (hgd : X.A.guards = some []) (hu : X.A.units + 64 < cLine) (h : Shw d) (hd : (∃ ds, d = .list ds) ∨ ∃ ds, d = .tuple ds) : CallD X (.builtin "repr") S [d] (rAt X.K (.str d.shown)) := by
  refine ⟨fun vs H Q => ∃ a, vs = [.ref a] ∧ Dp X.K H (.ref a) d ∧ Q (.str d.shown) H, ?_, ?_⟩
  · intro pins s σ H vs us Q I r ⟨a, e, hp, q⟩
    subst e
    rw [vals_ref1 r]
    obtain ⟨as, rd⟩ := Dp.reads I d (.ref a) (.ref a) hp rfl
    refine repr_of_reads' rd h.ok (fun z => ?_) hgd (by have := h.de; omega) (fun _ _ z => z) (fun h' u tk hk => ?_) h.ln
    · rw [PyData.hasDict_of_canLay d (SeqAt.canLay_of_shaped h.sh)] at z; cases z
    · exact ⟨.str d.shown, H, I.kept (t' := tk) hk, ⟨u, rfl⟩, q⟩
  · intro G H vs Q b c ha q
    cases ha with
    | cons h1 h2 =>
      cases h2
      have hp := At.dps h1 b h.sh
      rcases hd with ⟨ds, rfl⟩ | ⟨ds, rfl⟩
      · cases h1 with
        | lst hs ha => exact ⟨_, rfl, hp, q _ G H (.refl b) c (.str _)⟩
      · cases h1 with
        | tup hs ha => exact ⟨_, rfl, hp, q _ G H (.refl b) c (.str _)⟩
end
end DL
namespace DL
open PySem PySem.Spec PyProof.Rows L2

/-! ### instances -/
def fIx (f : Str) : List Str → Option Nat
  | [] => none
  | x :: xs => if f == x then some 0 else (fIx f xs).map (· + 1)
theorem fIx_get {f : Str} : ∀ {fs : List (Str × V)} {n : Nat}, fIx f (fs.map (·.1)) = some n → ∃ v, fs.lookup f = some v ∧ (fs.map (·.2))[n]? = some v
  | [], n, h => by cases h
  | (g, x) :: r, n, h => by
    have h : (if f == g then some 0 else (fIx f (r.map (·.1))).map (· + 1)) = some n := h
    show ∃ v, (match f == g with | true => some x | false => r.lookup f) = some v ∧ _
    cases e : f == g with
    | true =>
      rw [e] at h
      have h : some 0 = some n := h
      cases h
      exact ⟨x, rfl, rfl⟩
    | false =>
      rw [e] at h
      have h : (fIx f (r.map (·.1))).map (· + 1) = some n := h
      obtain ⟨m, hm, rfl⟩ := Option.map_eq_some_iff.mp h
      obtain ⟨v, h1, h2⟩ := fIx_get hm
      exact ⟨v, h1, h2⟩
theorem fIx_none {f : Str} : ∀ {fs : List (Str × V)}, fIx f (fs.map (·.1)) = none → fs.lookup f = none
  | [], _ => rfl
  | (g, x) :: r, h => by
    have h : (if f == g then some 0 else (fIx f (r.map (·.1))).map (· + 1)) = none := h
    show (match f == g with | true => some x | false => r.lookup f) = none
    cases e : f == g with
    | true =>
      rw [e] at h
      have h : some 0 = (none : Option Nat) := h
      cases h
    | false =>
      rw [e] at h
      have h : (fIx f (r.map (·.1))).map (· + 1) = none := h
      exact fIx_none (Option.map_eq_none_iff.mp h)
theorem putF_new {f : Str} {v : V} : ∀ {fs : List (Str × V)}, fIx f (fs.map (·.1)) = none → putF f v fs = fs ++ [(f, v)]
  | [], _ => rfl
  | (g, x) :: r, h => by
    have h : (if f == g then some 0 else (fIx f (r.map (·.1))).map (· + 1)) = none := h
    cases e : f == g with
    | true =>
      rw [e] at h
      have h : some 0 = (none : Option Nat) := h
      cases h
    | false =>
      rw [e] at h
      have h : (fIx f (r.map (·.1))).map (· + 1) = none := h
      have ne : g ≠ f := fun z => by rw [z] at e; simp at e
      show (if g = f then (g, v) :: r else (g, x) :: putF f v r) = _
      rw [if_neg ne, putF_new (Option.map_eq_none_iff.mp h)]
      rfl
def instC (K : PySem.W.Frag) (C : Addr) (ns : List Str) (ds : List PyData) (G : Hp) (o : HO) : Prop := ∃ (dx : Addr) (fs : List (Str × V)), o = .ins C dx fs ∧ fs.map (·.1) = ns ∧ Ats K G (fs.map (·.2)) ds
/-- an instance that is being made -/
def As.inst (K : PySem.W.Frag) (x C : Addr) (ns : List Str) (ds : List PyData) : As :=
  .has x (instC K C ns ds) (fun _ _ _ e h => by
    obtain ⟨dx, fs, h1, h2, h3⟩ := h
    exact ⟨dx, fs, h1, h2, h3.up e⟩) (fun _ _ h => by
    obtain ⟨_, _, h, _⟩ := h
    cases h)
section
variable {X : Cx} {o e : Expr} {es : List Expr} {Δ : De} {S T : As} {R : RR} {d : PyData} {ds es' : List PyData} {ns : List Str} {pos p apos : Pos} {f : Str} {a C x : Addr} {P : PyData → Prop} {PL : List PyData → Prop} {rest : List Stmt} {D : EndsG}
/-- o.f -/
theorem ev_fld (n : Nat) (ho : Ev X o Δ S (insD a C ns ds)) (c : Cls X.K C) (na : NoAttr X.K C f) (hd : ds[n]? = some d) (hn : fIx f ns = some n := by decide +kernel) (hb : attributeBase o f X.env (eval o X.env) = eval o X.env := by rfl) : Ev X (.Attribute o f pos) Δ S d :=
  ev_pe (pe_fld (pe_ev X o) hb) fun σ G H Q a' b c' q => ⟨Δ, S, _, G, ho, a', b, c', fun v G1 H1 g p1 r => by
    generalize hD : insD a C ns ds = D0 at r
    cases r with
    | ins hs ha =>
      injection hD with h1
      injection h1 with h1 _
      injection h1 with h1 h2
      injection h1 with h1
      injection h2 with h2
      injection h2 with h2 h3
      injection h2 with h2
      injection h3 with h3 h4
      injection h3 with h3
      injection h4 with h4 _
      injection h4 with h4
      cases Int.ofNat.inj h1
      cases Int.ofNat.inj h2
      have h3 := List.map_inj_right (f := PyData.str) (fun a b z => by injection z) |>.mp h3
      subst h4
      rw [h3] at hn
      obtain ⟨v, f1, f2⟩ := fIx_get hn
      obtain ⟨v', f3, f4⟩ := ha.get hd
      rw [f2] at f3
      cases f3
      exact ⟨_, _, _, _, v, rfl, g.sub _ _ hs, c, na, f1, q v G1 H1 g p1 f4⟩
    | _ => cases hD⟩
theorem At.ins_inv {K : PySem.W.Frag} {G : Hp} {v : V} (h : At K G v (insD a C ns ds)) : v = .ref a ∧ ∃ dx fs, G a = some (.ins C dx fs) ∧ fs.map (·.1) = ns ∧ Ats K G (fs.map (·.2)) ds := by
  generalize hD : insD a C ns ds = D0 at h
  cases h with
  | ins hs ha =>
    injection hD with h1
    injection h1 with h1 _
    injection h1 with h1 h2
    injection h1 with h1
    injection h2 with h2
    injection h2 with h2 h3
    injection h2 with h2
    injection h3 with h3 h4
    injection h3 with h3
    injection h4 with h4 _
    injection h4 with h4
    cases Int.ofNat.inj h1
    cases Int.ofNat.inj h2
    have h3 := List.map_inj_right (f := PyData.str) (fun a b z => by injection z) |>.mp h3
    subst h4
    exact ⟨rfl, _, _, hs, h3.symm, ha⟩
  | _ => cases hD
theorem At.ins_ob {K : PySem.W.Frag} {G : Hp} {v : V} (h : At K G v (insD a C ns ds)) : At K G v (ob a) := by
  rw [h.ins_inv.1]; exact .obj a
theorem EvR.ob (h : Ev X e Δ S (insD a C ns ds)) : Ev X e Δ S (ob a) := h.imp fun _ _ _ _ _ _ _ r => r.ins_ob
/-- a field of what is being made -/
theorem ev_fldM (n : Nat) (hS : S.le (.inst X.K a C ns ds)) (ho : Ev X o Δ S (ob a)) (c : Cls X.K C) (na : NoAttr X.K C f) (hd : ds[n]? = some d) (hn : fIx f ns = some n := by decide +kernel) (hb : attributeBase o f X.env (eval o X.env) = eval o X.env := by rfl) : Ev X (.Attribute o f pos) Δ S d :=
  ev_pe (pe_fld (pe_ev X o) hb) fun σ G H Q a' b c' q => ⟨Δ, S, _, G, ho, a', b, c', fun v G1 H1 g p1 r => by
    obtain ⟨_, o1, h1, dx, fs, rfl, h2, h3⟩ := hS _ _ p1
    rw [At.obj_eq r]
    rw [← h2] at hn
    obtain ⟨v, f1, f2⟩ := fIx_get hn
    obtain ⟨v', f3, f4⟩ := h3.get hd
    rw [f2] at f3
    cases f3
    exact ⟨_, _, _, _, v, rfl, h1, c, na, f1, q v G1 H1 g p1 f4⟩⟩
/-- x.f = e, f a new field -/
theorem go_fld (ho : Ev X o Δ (S.and (.inst X.K x C ns ds)) (ob x)) (he : EvX X e Δ (S.and (.inst X.K x C ns ds)) P) (c : Cls X.K C) (na : NoAttr X.K C f) (hS : ¬ S.fo x) (k : ∀ d, P d → Go X rest D Δ (S.and (.inst X.K x C (ns ++ [f]) (ds ++ [d])))) (hn : fIx f ns = none := by decide +kernel) (hl : ns.length < 1000 := by decide)
    (hs : swapsWith e (some (.Attribute o f p)) pos.line X.env = pure false := by rfl) : Go X (.Assign [.Attribute o f p] e pos :: rest) D Δ (S.and (.inst X.K x C ns ds)) :=
  go_cons (ps_fld (pe_ev X o) (pe_ev X e) hs) fun σ G H D' l a b c' => ⟨Δ, _, _, G, he, a, b, c', fun v G1 H1 g1 p1 ⟨d, z, r1⟩ => ⟨Δ, _, _, G1, ho, a.up g1.gx, g1.sub, p1, fun w G2 H2 g2 p2 r2 => by
    obtain ⟨pS, hG, o1, h1, dx, fs, rfl, h2, h3⟩ := p2
    rw [At.obj_eq r2]
    have hz : fs.length < 1000 := by have := congrArg List.length h2; rw [List.length_map] at this; omega
    refine ⟨x, C, dx, fs, rfl, h1, c, na, hz, l.nx _ _ ⟨G2, g1.gx.trans g2.gx, fun b' u q => ?_, Δ, _, k d z, a.up (g1.gx.trans g2.gx), S.stb hS (fun ⟨_, z⟩ => by cases z) pS hG (by rw [h1]; exact fun z => by cases z), hG, _, upd_same, dx, _, rfl, ?_, ?_⟩⟩
    · rw [upd_ne (ne_of_none q hG)]; exact g2.sub _ _ q
    · rw [putF_new (by rw [h2]; exact hn), List.map_append, h2]; rfl
    · rw [putF_new (by rw [h2]; exact hn), List.map_append]
      exact h3.app (.one (r1.up g2.gx))⟩⟩
/-- x.f = a new list that may change yet -/
theorem go_fldL {nm : Str} {np : Pos} (i0 : Nat) (hd0 : Δ[i0]? = some (some (DL.ob x))) (he : EvL X e Δ (S.and (.inst X.K x C ns ds)) es') (c : Cls X.K C) (na : NoAttr X.K C f) (hS : ¬ S.fo x) (k : ∀ q, ¬ S.own q → q ≠ x → Go X rest D Δ ((S.and (.acc X.K q es')).and (.inst X.K x C (ns ++ [f]) (ds ++ [ob q])))) (hn : fIx f ns = none := by decide +kernel) (hl : ns.length < 1000 := by decide)
    (hN0 : X.N[i0]? = some nm := by rfl) (hv0 : Vis X.env.scope nm := by first | exact Or.inl rfl | exact Or.inr (Or.inl rfl) | exact Or.inr (Or.inr rfl)) (hx1 : (nm == ("__debug__" : Str)) = false := by decide) (hx2 : (nm == ("__classdict__" : Str)) = false := by decide)
    (hs : swapsWith e (some (.Attribute (.Name nm np) f p)) pos.line X.env = pure false := by rfl) : Go X (.Assign [.Attribute (.Name nm np) f p] e pos :: rest) D Δ (S.and (.inst X.K x C ns ds)) :=
  go_cons (ps_fld (ta := fun σ H Q => ∃ G, EnvOk X.K G σ Δ ∧ Same G H ∧ ∀ v, At X.K G v (ob x) → Q v H) ⟨fun pins s σ H Q I ⟨G, a, b, q⟩ => by
    obtain ⟨v, z1, z2⟩ := a.2 i0 _ hd0
    exact (pe_var hN0 hv0 hx1 hx2).run pins s σ H Q I ⟨v, z1, q v z2⟩⟩ (pe_ev X e) hs) fun σ G H D' l a b c' => ⟨Δ, _, _, G, he, a, b, c', fun v G1 H1 g1 p1 ⟨q, xs, e1, e2, e3, e4, e5⟩ => ⟨G1, a.up g1.gx, g1.sub, fun w r2 => by
    subst e1
    obtain ⟨pS, hG, o1, h1, dx, fs, rfl, h2, h3⟩ := p1
    obtain ⟨pS0, hG0, o0, h0, _⟩ := c'
    have hq : q ≠ x := by rintro rfl; rw [e2] at h0; cases h0
    have nq : ¬ S.own q := not_own pS0 e2
    rw [At.obj_eq r2]
    have hz : fs.length < 1000 := by have := congrArg List.length h2; rw [List.length_map] at this; omega
    refine ⟨x, C, dx, fs, rfl, h1, c, na, hz, l.nx _ _ ⟨G1, g1.gx, fun b' u z => ?_, Δ, _, k q nq hq, a.up g1.gx, ⟨S.stb hS (fun ⟨_, z⟩ => by cases z) pS hG (by rw [h1]; exact fun z => by cases z), e3, xs, ?_, e5⟩, hG, _, upd_same, dx, _, rfl, ?_, ?_⟩⟩
    · rw [upd_ne (ne_of_none z hG)]; exact g1.sub _ _ z
    · rw [upd_ne hq]; exact e4
    · rw [putF_new (by rw [h2]; exact hn), List.map_append, h2]; rfl
    · rw [putF_new (by rw [h2]; exact hn), List.map_append]
      exact h3.app (.one (.obj q))⟩⟩
/-- x.f = a new list that may change yet -/
theorem go_fldXl {nm : Str} {np : Pos} (i0 : Nat) (hd0 : Δ[i0]? = some (some (DL.ob x))) (he : EvXl X e Δ (S.and (.inst X.K x C ns ds)) PL) (c : Cls X.K C) (na : NoAttr X.K C f) (hS : ¬ S.fo x) (k : ∀ q es', PL es' → ¬ S.own q → q ≠ x → Go X rest D Δ ((S.and (.acc X.K q es')).and (.inst X.K x C (ns ++ [f]) (ds ++ [ob q])))) (hn : fIx f ns = none := by decide +kernel) (hl : ns.length < 1000 := by decide)
    (hN0 : X.N[i0]? = some nm := by rfl) (hv0 : Vis X.env.scope nm := by first | exact Or.inl rfl | exact Or.inr (Or.inl rfl) | exact Or.inr (Or.inr rfl)) (hx1 : (nm == ("__debug__" : Str)) = false := by decide) (hx2 : (nm == ("__classdict__" : Str)) = false := by decide)
    (hs : swapsWith e (some (.Attribute (.Name nm np) f p)) pos.line X.env = pure false := by rfl) : Go X (.Assign [.Attribute (.Name nm np) f p] e pos :: rest) D Δ (S.and (.inst X.K x C ns ds)) :=
  go_cons (ps_fld (ta := fun σ H Q => ∃ G, EnvOk X.K G σ Δ ∧ Same G H ∧ ∀ v, At X.K G v (ob x) → Q v H) ⟨fun pins s σ H Q I ⟨G, a, b, q⟩ => by
    obtain ⟨v, z1, z2⟩ := a.2 i0 _ hd0
    exact (pe_var hN0 hv0 hx1 hx2).run pins s σ H Q I ⟨v, z1, q v z2⟩⟩ (pe_ev X e) hs) fun σ G H D' l a b c' => ⟨Δ, _, _, G, he, a, b, c', fun v G1 H1 g1 p1 ⟨es', hes, q, xs, e1, e2, e3, e4, e5⟩ => ⟨G1, a.up g1.gx, g1.sub, fun w r2 => by
    subst e1
    obtain ⟨pS, hG, o1, h1, dx, fs, rfl, h2, h3⟩ := p1
    obtain ⟨pS0, hG0, o0, h0, _⟩ := c'
    have hq : q ≠ x := by rintro rfl; rw [e2] at h0; cases h0
    have nq : ¬ S.own q := not_own pS0 e2
    rw [At.obj_eq r2]
    have hz : fs.length < 1000 := by have := congrArg List.length h2; rw [List.length_map] at this; omega
    refine ⟨x, C, dx, fs, rfl, h1, c, na, hz, l.nx _ _ ⟨G1, g1.gx, fun b' u z => ?_, Δ, _, k q es' hes nq hq, a.up g1.gx, ⟨S.stb hS (fun ⟨_, z⟩ => by cases z) pS hG (by rw [h1]; exact fun z => by cases z), e3, xs, ?_, e5⟩, hG, _, upd_same, dx, _, rfl, ?_, ?_⟩⟩
    · rw [upd_ne (ne_of_none z hG)]; exact g1.sub _ _ z
    · rw [upd_ne hq]; exact e4
    · rw [putF_new (by rw [h2]; exact hn), List.map_append, h2]; rfl
    · rw [putF_new (by rw [h2]; exact hn), List.map_append]
      exact h3.app (.one (.obj q))⟩⟩
/-- C(e, ..): an instance that is known then -/
theorem evx_mk {n : Str} {k j : Nat} {Pr : Hp → List PyData → As → RR → Prop} (c : C8.Mak X.prog X.w X.K X.mg X.base k n C (spM X.K Pr) []) (hr : Room j X.A) (hg : Gl X n) (ha : EvAX X (e :: es) Δ S PL)
    (hP : ∀ G H ds, PL ds → S.p G H → ∀ a, ∃ ns ds', Pr G (ob a :: ds) (.inst X.K a C [] []) (fun _ _ v G2 H2 => v = .non ∧ (As.inst X.K a C ns ds').p G2 H2) ∧ P (insD a C ns ds')) (hk : k + 1 ≤ j := by decide)
    (hdb : (n == ("__debug__" : Str)) = false := by decide) (he : starEach (e :: es) X.env = (false, eval e X.env) :: starEach es X.env := by rfl) (hpl : (backTo pos (starEach es X.env)).any (·.1) = false := by rfl) :
    EvX X (.Call (.Name n p) (e :: es) [] pos) Δ S P :=
  ev_pe (C8.pe_mk c hr hk hg (pa_evx X _) hdb he hpl) fun σ G H Q a b c' q => ⟨Δ, S, PL, G, ha, a, b, c', fun vs ds G1 H1 z g p1 r1 y dx hy hdx hne => by
    obtain ⟨ns, ds', h1, h2⟩ := hP G1 H1 ds z p1 y
    show spM X.K Pr (V.ref y :: (vs ++ [])) _ _ _
    rw [List.append_nil]
    have s1 : Same H1 (upd H1 dx (.own y)) := same_upd hdx
    have hy2 : upd H1 dx (.own y) y = none := by rw [upd_ne (Ne.symm hne)]; exact hy
    have s2 : Same H1 (upd (upd H1 dx (.own y)) y (.ins C dx [])) := s1.trans (same_upd hy2)
    have gr : Gr G1 H1 G1 (upd (upd H1 dx (.own y)) y (.ins C dx [])) := Gr.h g.sub s2
    have hGy : G1 y = none := g.sub.free hy
    refine ⟨G1, ob y :: ds, As.inst X.K y C [] [], _, g.sub.trans s2, .cons (.obj y) r1, ⟨hGy, _, upd_same, dx, [], rfl, rfl, .nil⟩, h1, fun v G2 H2 g2 fr ⟨hv, hG2, o2, e1, dx2, fs, e2, e3, e4⟩ => ?_⟩
    subst e2 e3
    have pS2 : S.p G2 H2 := S.fr g2 (fun b o n k => fr b o (fun hb => by
      have hb : b = y := hb
      subst hb
      exact not_own p1 hy (S.fo_own n)) k) (S.cl gr s2 p1)
    refine ⟨hv, q _ (upd G2 y (.ins C dx2 fs)) H2 ?_ (S.frz (not_own p1 hy) pS2 hG2 e1) ⟨_, h2, .ins upd_same (e4.up (same_upd hG2))⟩⟩
    exact ((g.trans gr).trans g2).frz (none_back g hy) hG2 e1⟩
/-- o.m(e, ..), o an instance that is known -/
theorem ev_mt {m : Str} {k j : Nat} {pl : Sem Bool} {Pr : Hp → List PyData → RR → Prop} (c : C8.Met X.prog X.w X.K X.mg X.base k C m (spP X.K Pr) []) (hr : Room j X.A) (ho : Ev X o Δ S (insD a C ns ds)) (ha : EvA X (e :: es) Δ S es') (hP : ∀ G H, S.p G H → Pr G (insD a C ns ds :: es') R)
    (hR : Back R := by first | exact back_at | exact back_nl) (hm : fIx m ns = none := by decide +kernel) (hk : k ≤ j := by decide)
    (hst : starEach (e :: es) X.env = (false, eval e X.env) :: starEach es X.env := by rfl) (hpl : (backTo pos (starEach es X.env)).any (·.1) = false := by rfl)
    (ht : eval (.Call (.Attribute o m apos) (e :: es) [] pos) X.env = (do
      let ov ← eval o X.env
      standAt apos.atName
      let (f, first) ← holding [ov] (getMethod ov m pl)
      callWith pos f first (backTo pos (starEach (e :: es) X.env)) (backToKw pos (keywordEach [] X.env))) := by rfl) :
    EvR X (.Call (.Attribute o m apos) (e :: es) [] pos) Δ S R :=
  ev_pe (C8.pe_mt (pl := pl) c hr hk (pe_ev X o) (pa_ev X _) hst hpl ht) fun σ G H Q a' b c' q => ⟨Δ, S, _, G, ho, a', b, c', fun v G1 H1 g p1 r => by
    obtain ⟨rfl, dx, fs, h1, h2, h3⟩ := r.ins_inv
    refine ⟨a, dx, fs, rfl, g.sub _ _ h1, fIx_none (by rw [h2]; exact hm), Δ, S, es', G1, ha, a'.up g.gx, g.sub, p1, fun vs G2 H2 g2 p2 r2 => ?_⟩
    show spP X.K Pr (V.ref a :: (vs ++ [])) H2 Q _
    rw [List.append_nil]
    exact ⟨G2, _ :: es', R, g2.sub, .cons (r.up g2.gx) r2, hP _ _ p2, fun v G3 H3 g3 s3 r3 => q v G3 H3 ((g.trans g2).trans g3) (S.cl g3 s3 p2) (hR _ _ _ _ _ _ _ (g.trans g2) r3)⟩⟩
theorem ev_mt0 {m : Str} {k j : Nat} {pl : Sem Bool} {Pr : Hp → List PyData → RR → Prop} (c : C8.Met X.prog X.w X.K X.mg X.base k C m (spP X.K Pr) []) (hr : Room j X.A) (ho : Ev X o Δ S (insD a C ns ds)) (hP : ∀ G H, S.p G H → Pr G [insD a C ns ds] R)
    (hR : Back R := by first | exact back_at | exact back_nl) (hm : fIx m ns = none := by decide +kernel) (hk : k ≤ j := by decide)
    (ht : eval (.Call (.Attribute o m apos) [] [] pos) X.env = (do
      let ov ← eval o X.env
      standAt apos.atName
      let (f, first) ← holding [ov] (getMethod ov m pl)
      callWith pos f first (backTo pos (starEach [] X.env)) (backToKw pos (keywordEach [] X.env))) := by rfl) :
    EvR X (.Call (.Attribute o m apos) [] [] pos) Δ S R :=
  ev_pe (C8.pe_mt0 (pl := pl) c hr hk (pe_ev X o) ht) fun σ G H Q a' b c' q => ⟨Δ, S, _, G, ho, a', b, c', fun v G1 H1 g p1 r => by
    obtain ⟨rfl, dx, fs, h1, h2, h3⟩ := r.ins_inv
    refine ⟨a, dx, fs, rfl, g.sub _ _ h1, fIx_none (by rw [h2]; exact hm), ?_⟩
    show spP X.K Pr [V.ref a] H1 Q E0
    exact ⟨G1, _, R, g.sub, .one r, hP _ _ p1, fun v G3 H3 g3 s3 r3 => q v G3 H3 (g.trans g3) (S.cl g3 s3 p1) (hR _ _ _ _ _ _ _ g r3)⟩⟩
end
end DL
namespace DL
open PySem PySem.Spec PyProof.Rows L2

/-! ### dicts, by their data -/
section
variable {κ κ' : Type} [DecidableEq κ] [DecidableEq κ']
def zk (f : κ → κ') (kvs : List (κ × PyData)) (vs : List V) : List (κ' × V) := List.zipWith (fun kv v => (f kv.1, v)) kvs vs
def dGet (kvs : List (κ × PyData)) (k : κ) : Option PyData := (kvs.find? fun kv => decide (kv.1 = k)).map (·.2)
def dPut (kvs : List (κ × PyData)) (k : κ) (d : PyData) : List (κ × PyData) := if (kvs.any fun kv => decide (kv.1 = k)) = true then kvs.map (fun kv => if kv.1 = k then (kv.1, d) else kv) else kvs ++ [(k, d)]
theorem dGet_any (k : κ) : ∀ kvs : List (κ × PyData), (kvs.any fun kv => decide (kv.1 = k)) = (dGet kvs k).isSome
  | [] => rfl
  | p :: r => by
    have ih := dGet_any k r
    by_cases e : p.1 = k
    · simp [dGet, e]
    · simp only [List.any_cons, decide_eq_false e, Bool.false_or, ih]
      simp [dGet, List.find?_cons, e]
theorem zk_len {f : κ → κ'} {kvs : List (κ × PyData)} {vs : List V} (h : kvs.length = vs.length) : (zk f kvs vs).length = kvs.length := by
  unfold zk; rw [List.length_zipWith]; omega
variable {K : PySem.W.Frag} {G : Hp} {f : κ → κ'} (hf : ∀ a b, f a = f b → a = b)
include hf in
theorem zk_get (k : κ) : ∀ {kvs : List (κ × PyData)} {vs : List V}, Ats K G vs (kvs.map (·.2)) → (dGet kvs k = none → valV (zk f kvs vs) (f k) = none) ∧ ∀ d, dGet kvs k = some d → ∃ v, valV (zk f kvs vs) (f k) = some v ∧ At K G v d
  | [], _, h => by
    cases h
    exact ⟨fun _ => rfl, fun d e => by cases e⟩
  | p :: r, _, h => by
    cases h with
    | @cons v vs _ _ h1 h2 =>
      obtain ⟨i1, i2⟩ := zk_get k h2
      show (dGet (p :: r) k = none → valV ((f p.1, v) :: zk f r vs) (f k) = none) ∧ ∀ d, dGet (p :: r) k = some d → ∃ v', valV ((f p.1, v) :: zk f r vs) (f k) = some v' ∧ At K G v' d
      by_cases e : p.1 = k
      · have e1 : dGet (p :: r) k = some p.2 := by simp [dGet, e]
        refine ⟨fun z => (by rw [e1] at z; cases z), fun d z => ⟨v, valV_pos (by rw [e]), ?_⟩⟩
        rw [e1] at z; cases z; exact h1
      · have e1 : dGet (p :: r) k = dGet r k := by simp [dGet, List.find?_cons, e]
        have e2 : valV ((f p.1, v) :: zk f r vs) (f k) = valV (zk f r vs) (f k) := valV_neg (fun z => e (hf _ _ z))
        rw [e1, e2]
        exact ⟨i1, i2⟩
include hf in
theorem zk_put {v : V} {d : PyData} {k : κ} (hv : At K G v d) {kvs : List (κ × PyData)} {vs : List V} (h : Ats K G vs (kvs.map (·.2))) : ∃ vs', putK (zk f kvs vs) (f k) v = zk f (dPut kvs k d) vs' ∧ Ats K G vs' ((dPut kvs k d).map (·.2)) := by
  have hany : ((zk f kvs vs).any fun kv => decide (kv.1 = f k)) = (kvs.any fun kv => decide (kv.1 = k)) := by
    rw [valV_any, dGet_any]
    obtain ⟨h1, h2⟩ := zk_get hf k h
    cases e : dGet kvs k with
    | none => rw [h1 e]; rfl
    | some d => obtain ⟨v, q, _⟩ := h2 d e; rw [q]; rfl
  unfold putK dPut
  rw [hany]
  split
  · have go : ∀ {kvs : List (κ × PyData)} {vs : List V}, Ats K G vs (kvs.map (·.2)) → ∃ vs', (zk f kvs vs).map (fun kv => if kv.1 = f k then (kv.1, v) else kv) = zk f (kvs.map fun kv => if kv.1 = k then (kv.1, d) else kv) vs' ∧ Ats K G vs' ((kvs.map fun kv => if kv.1 = k then (kv.1, d) else kv).map (·.2)) := by
      intro kvs
      induction kvs with
      | nil => intro vs h; cases h; exact ⟨[], rfl, .nil⟩
      | cons p r ih =>
        intro vs h
        cases h with
        | @cons u us _ _ h1 h2 =>
          obtain ⟨vs', e1, e2⟩ := ih h2
          by_cases e : p.1 = k
          · refine ⟨v :: vs', ?_, ?_⟩
            · show (if f p.1 = f k then (f p.1, v) else (f p.1, u)) :: (zk f r us).map _ = _
              rw [if_pos (by rw [e]), e1, List.map_cons, if_pos e]
              rfl
            · rw [List.map_cons, if_pos e]
              exact .cons hv e2
          · refine ⟨u :: vs', ?_, ?_⟩
            · show (if f p.1 = f k then (f p.1, v) else (f p.1, u)) :: (zk f r us).map _ = _
              rw [if_neg (fun z => e (hf _ _ z)), e1, List.map_cons, if_neg e]
              rfl
            · rw [List.map_cons, if_neg e]
              exact .cons h1 e2
    exact go h
  · have hl : kvs.length = vs.length := by have := h.len; rw [List.length_map] at this; omega
    refine ⟨vs ++ [v], ?_, ?_⟩
    · unfold zk
      rw [List.zipWith_append hl]
      rfl
    · rw [List.map_append]
      exact h.app (.one hv)
theorem dPut_len (kvs : List (κ × PyData)) (k : κ) (d : PyData) : (dPut kvs k d).length ≤ kvs.length + 1 := by
  unfold dPut
  split
  · rw [List.length_map]; omega
  · simp
theorem dGet_put (kvs : List (κ × PyData)) (k j : κ) (d : PyData) : dGet (dPut kvs k d) j = if j = k then some d else dGet kvs j := by
  have hmap : ∀ kvs : List (κ × PyData), dGet (kvs.map fun kv => if kv.1 = k then (kv.1, d) else kv) j = (dGet kvs j).map fun x => if j = k then d else x := by
    intro kvs
    induction kvs with
    | nil => rfl
    | cons p r ih =>
      unfold dGet at ih ⊢
      rw [List.map_cons]
      by_cases e : p.1 = k
      · rw [if_pos e]
        by_cases e2 : p.1 = j
        · simp [List.find?_cons, e2, e2.symm.trans e]
        · simp only [List.find?_cons, decide_eq_false e2]; exact ih
      · rw [if_neg e]
        by_cases e2 : p.1 = j
        · have : ¬ j = k := fun z => e (e2.trans z)
          simp [List.find?_cons, e2, this]
        · simp only [List.find?_cons, decide_eq_false e2]; exact ih
  have hany := dGet_any k kvs
  unfold dPut
  split
  · rename_i h
    rw [hmap]
    rw [hany] at h
    obtain ⟨x, hx⟩ := Option.isSome_iff_exists.mp h
    by_cases e : j = k
    · rw [if_pos e, e, hx, Option.map_some, if_pos rfl]
    · simp only [if_neg e]; cases dGet kvs j <;> rfl
  · rename_i h
    rw [hany] at h
    have hn : dGet kvs k = none := by simpa using h
    by_cases e : j = k
    · subst e
      rw [if_pos rfl]
      unfold dGet at hn ⊢
      rw [List.find?_append]
      have : kvs.find? (fun kv => decide (kv.1 = j)) = none := by simpa using hn
      rw [this]
      simp
    · rw [if_neg e]
      unfold dGet
      rw [List.find?_append]
      cases q : kvs.find? (fun kv => decide (kv.1 = j)) with
      | some x => rfl
      | none => simp [Ne.symm e]
end
/-! tuple keys of ints; int keys -/
def tkf (k : List Int) : List L2.Key := k.map Sum.inl
theorem tkf_inj (a b : List Int) (h : tkf a = tkf b) : a = b := (List.map_inj_right (fun _ _ z => Sum.inl.inj z)).mp h
theorem tkf_kV (k : List Int) : (tkf k).map kV = k.map V.int := by unfold tkf; rw [List.map_map]; rfl
def ikf (k : Int) : L2.Key := Sum.inl k
theorem ikf_inj (a b : Int) (h : ikf a = ikf b) : a = b := Sum.inl.inj h
def dTC (K : PySem.W.Frag) (kvs : List (List Int × PyData)) (G : Hp) (o : HO) : Prop := ∃ vs : List V, o = .dT (zk tkf kvs vs) ∧ Ats K G vs (kvs.map (·.2))
def As.dT (K : PySem.W.Frag) (p : Addr) (kvs : List (List Int × PyData)) : As :=
  .has p (dTC K kvs) (fun _ _ _ e h => by obtain ⟨vs, h1, h2⟩ := h; exact ⟨vs, h1, h2.up e⟩) (fun _ _ h => by obtain ⟨_, h, _⟩ := h; cases h)
def dKC (K : PySem.W.Frag) (kvs : List (Int × PyData)) (G : Hp) (o : HO) : Prop := ∃ vs : List V, o = .dK (zk ikf kvs vs) ∧ Ats K G vs (kvs.map (·.2))
def As.dK (K : PySem.W.Frag) (p : Addr) (kvs : List (Int × PyData)) : As :=
  .has p (dKC K kvs) (fun _ _ _ e h => by obtain ⟨vs, h1, h2⟩ := h; exact ⟨vs, h1, h2.up e⟩) (fun _ _ h => by obtain ⟨_, h, _⟩ := h; cases h)
section
variable {X : Cx} {o e : Expr} {es : List Expr} {Δ : De} {S T : As} {R : RR} {d : PyData} {ds : List PyData} {pos p apos : Pos} {q : Addr} {P : PyData → Prop} {rest : List Stmt} {D : EndsG} {k : List Int} {kvs : List (List Int × PyData)} {i : Int} {ivs : List (Int × PyData)}
theorem tup_key {K : PySem.W.Frag} {G : Hp} {v : V} (h : At K G v (.tuple (k.map .int))) : ∃ b, v = .ref b ∧ G b = some (.tup ((tkf k).map kV)) := by
  cases h with
  | tup hs ha => exact ⟨_, rfl, by rw [tkf_kV, ← Ats.of_ints ha]; exact hs⟩
theorem dT_get {G H : Hp} (h : (As.dT X.K q kvs).p G H) (e : Same G H) {v : V} (hv : At X.K G v (.tuple (k.map .int))) : (dGet kvs k = none → DGet H q v none) ∧ ∀ d, dGet kvs k = some d → ∃ u, DGet H q v (some u) ∧ At X.K G u d := by
  obtain ⟨_, o, h1, vs, rfl, h2⟩ := h
  obtain ⟨b, rfl, hb⟩ := tup_key hv
  obtain ⟨g1, g2⟩ := zk_get (f := tkf) tkf_inj k h2
  refine ⟨fun z => ?_, fun d z => ?_⟩
  · have := DGet.t h1 (e _ _ hb)
    rw [g1 z] at this
    exact this
  · obtain ⟨u, f1, f2⟩ := g2 d z
    refine ⟨u, ?_, f2⟩
    have := DGet.t h1 (e _ _ hb)
    rw [f1] at this
    exact this
/-- k in o, k not in o -/
theorem evt_dTin (hu : X.A.units + 1 < cLine) (hS : S.le (.dT X.K q kvs)) (he : Ev X e Δ S (.tuple (k.map .int))) (ho : Ev X o Δ S (ob q)) (hm : behindInMarks .In o = false := by first | exact nomark _ | rfl | with_unfolding_all rfl) : EvT X (.Compare e [.In] [o] pos) Δ S (dGet kvs k).isSome :=
  evt_pt (pt_cmp (pc_din hu (pe_ev X e) (pe_ev X o)) hm) fun σ G H Q a b c q' => two he ho a b c fun x y G1 H1 g p1 e1 e2 => by
    rw [At.obj_eq e2]
    obtain ⟨g1, g2⟩ := dT_get (hS _ _ p1) g.sub e1
    cases w : dGet kvs k with
    | none => exact ⟨_, none, rfl, g1 w, false, rfl, (by have z := q' G1 H1 g p1; rw [w] at z; exact z)⟩
    | some d => obtain ⟨u, f1, f2⟩ := g2 d w; exact ⟨_, some u, rfl, f1, true, rfl, (by have z := q' G1 H1 g p1; rw [w] at z; exact z)⟩
theorem evt_dTnotin (hu : X.A.units + 1 < cLine) (hS : S.le (.dT X.K q kvs)) (he : Ev X e Δ S (.tuple (k.map .int))) (ho : Ev X o Δ S (ob q)) (hm : behindInMarks .NotIn o = false := by first | exact nomark _ | rfl | with_unfolding_all rfl) : EvT X (.Compare e [.NotIn] [o] pos) Δ S (!(dGet kvs k).isSome) :=
  evt_pt (pt_cmp (pc_dnotin hu (pe_ev X e) (pe_ev X o)) hm) fun σ G H Q a b c q' => two he ho a b c fun x y G1 H1 g p1 e1 e2 => by
    rw [At.obj_eq e2]
    obtain ⟨g1, g2⟩ := dT_get (hS _ _ p1) g.sub e1
    cases w : dGet kvs k with
    | none => exact ⟨_, none, rfl, g1 w, true, rfl, (by have z := q' G1 H1 g p1; rw [w] at z; exact z)⟩
    | some d => obtain ⟨u, f1, f2⟩ := g2 d w; exact ⟨_, some u, rfl, f1, false, rfl, (by have z := q' G1 H1 g p1; rw [w] at z; exact z)⟩
/-- o[k] -/
theorem ev_dTget (hu : X.A.units + 1 < cLine) (hS : S.le (.dT X.K q kvs)) (ho : Ev X o Δ S (ob q)) (he : Ev X e Δ S (.tuple (k.map .int))) (hd : dGet kvs k = some d) (hs : NoSl e := by exact fun _ _ => rfl) : Ev X (.Subscript o e pos) Δ S d :=
  ev_pe (pe_dget hu (pe_ev X o) (pe_ev X e) hs) fun σ G H Q a b c q' => two ho he a b c fun x y G1 H1 g p1 e1 e2 => by
    rw [At.obj_eq e1]
    obtain ⟨u, f1, f2⟩ := (dT_get (hS _ _ p1) g.sub e2).2 d hd
    exact ⟨_, u, rfl, f1, q' u G1 H1 g p1 f2⟩
/-- o[k] = v -/
theorem go_dTput {v : Expr} (hu : X.A.units + 1 < cLine) (hv : EvX X v Δ (S.and (.dT X.K q kvs)) P) (ho : Ev X o Δ (S.and (.dT X.K q kvs)) (ob q)) (he : Ev X e Δ (S.and (.dT X.K q kvs)) (.tuple (k.map .int))) (hS : ¬ S.fo q) (hz : kvs.length < 16000000) (kk : ∀ d, P d → Go X rest D Δ (S.and (.dT X.K q (dPut kvs k d))))
    (hs : swapsWith v (some (.Subscript o e p)) pos.line X.env = pure false := by rfl) : Go X (.Assign [.Subscript o e p] v pos :: rest) D Δ (S.and (.dT X.K q kvs)) :=
  go_cons (ps_dput hu (pe_ev X o) (pe_ev X e) (pe_ev X v) hs) fun σ G H D' l a b c => ⟨Δ, _, _, G, hv, a, b, c, fun w G1 H1 g1 p1 ⟨d, z, r1⟩ => ⟨Δ, _, _, G1, ho, a.up g1.gx, g1.sub, p1, fun x G2 H2 g2 p2 r2 => ⟨Δ, _, _, G2, he, (a.up g1.gx).up g2.gx, g2.sub, p2, fun y G3 H3 g3 p3 r3 => by
    obtain ⟨pS, hG, o1, h1, vs, rfl, h2⟩ := p3
    obtain ⟨b', rfl, hb⟩ := tup_key r3
    rw [At.obj_eq r2]
    have hl : (zk tkf kvs vs).length < sizeLine := by
      rw [zk_len (by have := h2.len; rw [List.length_map] at this; omega)]
      exact Nat.lt_of_lt_of_le hz (by decide)
    obtain ⟨vs', e1, e2⟩ := zk_put (f := tkf) tkf_inj (k := k) (r1.up (g2.gx.trans g3.gx)) h2
    refine ⟨q, _, rfl, DPut.t h1 (g3.sub _ _ hb) hl, l.nx _ _ ⟨G3, (g1.gx.trans g2.gx).trans g3.gx, fun b2 u q2 => ?_, Δ, _, kk d z, ((a.up g1.gx).up g2.gx).up g3.gx, S.stb hS (fun ⟨_, z⟩ => by cases z) pS hG (by rw [h1]; exact fun z => by cases z), hG, _, upd_same, vs', by rw [e1], e2⟩⟩
    rw [upd_ne (ne_of_none q2 hG)]; exact g3.sub _ _ q2⟩⟩⟩
/-- name = {}, a dict of tuple keys -/
theorem go_newT {x : Str} {p' : Pos} (n : Nat) (hN : X.N.Nodup) (kk : ∀ q, ¬ S.own q → Go X rest D (Δ.set n (some (ob q))) (S.and (.dT X.K q []))) (hi : X.N[n]? = some x := by rfl) (hx : Loc X.env.scope x := by first | exact Or.inl rfl | exact Or.inr rfl)
    (hs : swapsWith (.Dict [] [] p) (some (.Name x p')) pos.line X.env = pure false := by rfl) (hf : X.fn x = true ∨ X.env.scope.names.lookup x = some .local := by first | exact .inl rfl | exact .inr rfl | assumption) : Go X (.Assign [.Name x p'] (.Dict [] [] p) pos :: rest) D Δ S :=
  go_cons (ps_set hN hi hx pe_dnewT hs hf) fun σ G H D' l a b c q hq => by
    have n2 := Gr.h (H2 := upd H q (.dT [])) b (same_upd hq)
    exact l.nx _ _ ⟨G, Same.refl _, n2.sub, _, _, kk q (not_own c hq), a.set (.obj q), S.cl n2 (same_upd hq) c, b.free hq, _, upd_same, [], rfl, .nil⟩
/-- list(o) -/
theorem evl_listT {x : Str} (hx : x = "list") (hc : X.calm = true) (hS : S.le (.dT X.K q kvs)) (hg : Gl X x) (hm : X.mg x = none) (ho : Ev X o Δ S (ob q)) (he : starEach [o] X.env = (false, eval o X.env) :: starEach [] X.env := by rfl) (hpl : (backTo pos (starEach [] X.env)).any (·.1) = false := by rfl) :
    EvL X (.Call (.Name x p) [o] [] pos) Δ S (kvs.map fun kv => .tuple (kv.1.map .int)) := by
  subst hx
  refine ev_pe (pe_callTy (call_list_dT hc) hg hm (by decide +kernel) (pa_cons (pe_ev X o) pa_nil he) (by decide) (by decide) he hpl) fun σ G H Q a b c q' => ⟨Δ, S, _, G, ho, a, b, c, fun v G1 H1 g p1 r => ?_⟩
  obtain ⟨hG, o1, h1, vs, rfl, h2⟩ := hS _ _ p1
  rw [At.obj_eq r]
  refine ⟨q, _, rfl, .inl h1, fun l bs hl hk => ?_⟩
  have hlen : kvs.length = vs.length := by have := h2.len; rw [List.length_map] at this; omega
  -- the keys' tuples are known from now on
  have go : ∀ (kvs : List (List Int × PyData)) (vs : List V) (bs : List Addr) (G' : Hp), kvs.length = vs.length → IsKeys H1 (zk tkf kvs vs) bs → Gr G1 H1 G' H1 → S.p G' H1 → ∃ G2, Gr G1 H1 G2 H1 ∧ S.p G2 H1 ∧ Ats X.K G2 (bs.map V.ref) (kvs.map fun kv => .tuple (kv.1.map .int)) := by
    intro kvs
    induction kvs with
    | nil =>
      intro vs bs G' hl hk gr pS
      cases hk
      exact ⟨G', gr, pS, .nil⟩
    | cons kv kvs ih =>
      intro vs bs G' hl hk gr pS
      cases vs with
      | nil => cases hl
      | cons v vs =>
        cases hk with
        | @cons _ b _ bs hb ht =>
          obtain ⟨G2, gr2, pS2, hats⟩ := ih vs bs G' (by simpa using hl) ht gr pS
          have hb : H1 b = some (.tup ((tkf kv.1).map kV)) := hb
          rw [tkf_kV] at hb
          by_cases hG2 : G2 b = none
          · have gt := Gr.tup gr2.sub hb
            have pS3 : S.p (upd G2 b (.tup (kv.1.map V.int))) H1 := by
              refine S.fr ?_ (fun _ _ _ z => z) pS2
              exact gt
            exact ⟨_, gr2.trans gt, pS3, .cons (.tup upd_same (Ats.ints kv.1)) (hats.up (same_upd hG2))⟩
          · have e : G2 b = some (.tup (kv.1.map V.int)) := by
              cases w : G2 b with
              | none => exact absurd w hG2
              | some u =>
                have := gr2.sub _ _ w
                rw [hb] at this; rw [this]
            exact ⟨G2, gr2, pS2, .cons (.tup e (Ats.ints kv.1)) hats⟩
  obtain ⟨G2, gr2, pS2, hats⟩ := go kvs vs bs G1 hlen hk (.refl g.sub) p1
  obtain ⟨g3, p3⟩ := layH (o := .lst (bs.map V.ref)) (g.trans gr2) pS2 hl
  exact q' _ _ _ g3 p3 ⟨l, _, rfl, none_back g hl, gr2.sub.free hl, upd_same, hats⟩
end
end DL
namespace DL
open PySem PySem.Spec PyProof.Rows L2
section
variable {X : Cx} {scope : Scope} {e elt tg iter : Expr} {ifs : List Expr} {Δ : De} {S : As} {ds : List PyData} {d : PyData} {pos p : Pos} {P : PyData → Prop}
/-- [elt for tg in iter] -/
theorem evl_map {α : Type} {xs : List α} {enc : α → PyData} {is : List Nat} (own : List (Str × Nat)) (g : α → PyData) (F : α → De → De) (hi : ItD X tg iter Δ S (xs.map enc)) (hc : X.calm = true) (hN : X.N.Nodup) (ok : BlkOk X.N X.env.scope scope own)
    (hz : xs.length ≤ 1000000) (his : ∀ i ∈ is, i ∈ own.map (·.2)) (htg : ∀ x ∈ xs, AllB X scope fun Y => TgS Y tg is (enc x) (F x))
    (he : ∀ D es, ¬ S.own D → ∀ x ∈ xs, AllB X scope fun Y => Ev Y elt (F x (wipeD Δ (own.map (·.2)))) (S.and (.acc X.K D es)) (g x))
    (hs : ∀ x, foldedSetIterable iter X.env x = pure x := by intro _; rfl) :
    EvL X (.ListComp elt [⟨tg, iter, [], 0⟩] scope pos) Δ S (xs.map g) :=
  (evl_lc (own := own) (fun _ => true) g F hi hc hN ok hz his htg (fun _ _ _ _ _ => fun _ _ _ _ _ => evts_nil) (fun D es hD x hx _ => he D es hD x hx) hs).isL (by rw [List.filter_eq_self.mpr fun _ _ => rfl])
/-- [elt for tg in iter if c] -/
theorem evl_fil {α : Type} {xs : List α} {enc : α → PyData} {c : Expr} {is : List Nat} (own : List (Str × Nat)) (b : α → Bool) (g : α → PyData) (F : α → De → De) (hi : ItD X tg iter Δ S (xs.map enc)) (hc : X.calm = true) (hN : X.N.Nodup) (ok : BlkOk X.N X.env.scope scope own)
    (hz : xs.length ≤ 1000000) (his : ∀ i ∈ is, i ∈ own.map (·.2)) (htg : ∀ x ∈ xs, AllB X scope fun Y => TgS Y tg is (enc x) (F x))
    (ht : ∀ D es, ¬ S.own D → ∀ x ∈ xs, AllB X scope fun Y => EvT Y c (F x (wipeD Δ (own.map (·.2)))) (S.and (.acc X.K D es)) (b x))
    (he : ∀ D es, ¬ S.own D → ∀ x ∈ xs, b x = true → AllB X scope fun Y => Ev Y elt (F x (wipeD Δ (own.map (·.2)))) (S.and (.acc X.K D es)) (g x))
    (hs : ∀ x, foldedSetIterable iter X.env x = pure x := by intro _; rfl) :
    EvL X (.ListComp elt [⟨tg, iter, [c], 0⟩] scope pos) Δ S ((xs.filter b).map g) :=
  evl_lc (own := own) b g F hi hc hN ok hz his htg (fun D es hD x hx => fun s H C cl fp => evts_one (ht D es hD x hx s H C cl fp)) he hs
section
variable {α : Type} {xs : List α}
theorem ev_all {x : Str} {b : α → Bool} (hx : x = "all") (hc : X.calm = true) (hg : Gl X x) (hm : X.mg x = none) (h : Ev X e Δ S (.list (xs.map fun x => .bool (b x)))) (he : starEach [e] X.env = (false, eval e X.env) :: starEach [] X.env := by rfl) (hpl : (backTo pos (starEach [] X.env)).any (·.1) = false := by rfl) :
    Ev X (.Call (.Name x p) [e] [] pos) Δ S (.bool (xs.all b)) := by
  subst hx
  refine EvR.is (ev_callB (cd_all (bs := xs.map b) hc) hg hm (by decide +kernel) (ea_cons (EvR.is h (by rw [List.map_map]; rfl)) ea_nil he) back_at (by decide) (by decide) he hpl) (by rw [List.all_map]; rfl)
theorem ev_any {x : Str} {b : α → Bool} (hx : x = "any") (hc : X.calm = true) (hg : Gl X x) (hm : X.mg x = none) (h : Ev X e Δ S (.list (xs.map fun x => .bool (b x)))) (he : starEach [e] X.env = (false, eval e X.env) :: starEach [] X.env := by rfl) (hpl : (backTo pos (starEach [] X.env)).any (·.1) = false := by rfl) :
    Ev X (.Call (.Name x p) [e] [] pos) Δ S (.bool (xs.any b)) := by
  subst hx
  refine EvR.is (ev_callB (cd_any (bs := xs.map b) hc) hg hm (by decide +kernel) (ea_cons (EvR.is h (by rw [List.map_map]; rfl)) ea_nil he) back_at (by decide) (by decide) he hpl) (by rw [List.any_map]; rfl)
theorem ev_sum {x : Str} {f : α → Int} (hx : x = "sum") (hc : X.calm = true) (hg : Gl X x) (hm : X.mg x = none) (h : Ev X e Δ S (.list (xs.map fun x => .int (f x)))) (he : starEach [e] X.env = (false, eval e X.env) :: starEach [] X.env := by rfl) (hpl : (backTo pos (starEach [] X.env)).any (·.1) = false := by rfl) :
    Ev X (.Call (.Name x p) [e] [] pos) Δ S (.int (xs.map f).sum) := by
  subst hx
  refine ev_callB (cd_sum (ns := xs.map f) hc) hg hm (by decide +kernel) (ea_cons (EvR.is h (by rw [List.map_map]; rfl)) ea_nil he) back_at (by decide) (by decide) he hpl
end
theorem ev_tupleC {x : Str} (hx : x = "tuple") (hg : Gl X x) (hm : X.mg x = none) (hd : d = .list ds ∨ d = .tuple ds) (h : Ev X e Δ S d) (he : starEach [e] X.env = (false, eval e X.env) :: starEach [] X.env := by rfl) (hpl : (backTo pos (starEach [] X.env)).any (·.1) = false := by rfl) :
    Ev X (.Call (.Name x p) [e] [] pos) Δ S (.tuple ds) := by
  subst hx
  exact ev_callTy (cd_tuple hd) hg hm (by decide +kernel) (ea_cons h ea_nil he) back_at (by decide) (by decide) he hpl
theorem evl_list {x : Str} (hx : x = "list") (hg : Gl X x) (hm : X.mg x = none) (hd : d = .list ds ∨ d = .tuple ds) (h : Ev X e Δ S d) (he : starEach [e] X.env = (false, eval e X.env) :: starEach [] X.env := by rfl) (hpl : (backTo pos (starEach [] X.env)).any (·.1) = false := by rfl) :
    EvL X (.Call (.Name x p) [e] [] pos) Δ S ds := by
  subst hx
  exact ev_callTy (cd_list hd) hg hm (by decide +kernel) (ea_cons h ea_nil he) back_nl (by decide) (by decide) he hpl
/-- list(what may still change) -/
theorem evl_listM {x : Str} {q : Addr} (hx : x = "list") (hg : Gl X x) (hm : X.mg x = none) (hS : S.le (.acc X.K q ds)) (h : Ev X e Δ S (ob q)) (he : starEach [e] X.env = (false, eval e X.env) :: starEach [] X.env := by rfl) (hpl : (backTo pos (starEach [] X.env)).any (·.1) = false := by rfl) :
    EvL X (.Call (.Name x p) [e] [] pos) Δ S ds := by
  subst hx
  refine ev_pe (pe_callTy call_list_of hg hm (by decide +kernel) (pa_cons (pe_ev X e) pa_nil he) (by decide) (by decide) he hpl) fun σ G H Q a b c q' => ⟨Δ, S, _, G, h, a, b, c, fun v G1 H1 g p1 r => ?_⟩
  obtain ⟨hG, xs, h1, h2⟩ := hS _ _ p1
  rw [At.obj_eq r]
  refine ⟨_, _, rfl, .inl (SqL.of h1), fun l hl => ?_⟩
  obtain ⟨g2, p2⟩ := layH (o := .lst xs) g p1 hl
  exact q' _ _ _ g2 p2 ⟨l, xs, rfl, none_back g hl, g.sub.free hl, upd_same, h2⟩
theorem evl_sorted {x : Str} (hx : x = "sorted") (hu : X.A.units + 64 < cLine) (ok : Sok ds) (hg : Gl X x) (hm : X.mg x = none) (hd : d = .list ds ∨ d = .tuple ds) (h : Ev X e Δ S d) (he : starEach [e] X.env = (false, eval e X.env) :: starEach [] X.env := by rfl) (hpl : (backTo pos (starEach [] X.env)).any (·.1) = false := by rfl) :
    EvL X (.Call (.Name x p) [e] [] pos) Δ S (srt false ds) := by
  subst hx
  exact ev_callB (cd_sorted hu ok hd) hg hm (by decide +kernel) (ea_cons h ea_nil he) back_nl (by decide) (by decide) he hpl
/-- return e, of a def that changes nothing; its promise is known -/
theorem go_rt {R : RR} {G H : Hp} {rest : List Stmt} {D : EndsG} (hD : D.rt = (retP G H R).rt) (hS : S.le (.ext G H)) (he : EvR X e Δ S R) (hR : Back R := by first | exact back_at | exact back_nl | exact back_x | exact back_xl) : Go X (.Return (some e) pos :: rest) D Δ S := go_retP he hS hD hR
end
end DL
namespace DL
open PySem PySem.Spec PyProof.Rows L2
/-- the law's bag: its state -/
structure BagS where
  c : Int
  b : Int
  n : Int
  ns : List Int
  hc : 0 ≤ c
  hb : 0 ≤ b ∧ b < 2147483647
  hn : 0 ≤ n
  hns : ∀ z ∈ ns, 0 ≤ z
def bagDs (x : BagS) : List PyData := [.int x.c, .int x.b, .int x.n, .list (x.ns.map .int)]
def As.bag (K : PySem.W.Frag) (p : Addr) : As := .ex (fun x : BagS => .acc K p (bagDs x)) (fun a => a = p) (fun a => a = p) (fun _ => rfl) (fun _ => rfl) (fun _ h => h)
/-- a def that is handed the bag first -/
def spB (K : PySem.W.Frag) (Pr : Hp → List PyData → RR → Prop) : Sp := spM K fun G ds T R => ∃ p ds' R', ds = ob p :: ds' ∧ T = As.bag K p ∧ Pr G ds' R' ∧ R = rAnd (As.bag K p) R'
def rBag (K : PySem.W.Frag) : RR := fun _ H v G2 H2 => ∃ p, v = .ref p ∧ H p = none ∧ (As.bag K p).p G2 H2
theorem back_bag {K : PySem.W.Frag} : Back (rBag K) := fun _ _ _ _ _ _ _ r ⟨p, e, h, k⟩ => ⟨p, e, none_back r h, k⟩
section
variable {X : Cx} {scope : Scope} {e a elt tg iter : Expr} {es : List Expr} {ifs : List Expr} {Δ : De} {S T : As} {R : RR} {ds : List PyData} {d : PyData} {pos p : Pos} {P : PyData → Prop} {PL : List PyData → Prop} {rest : List Stmt} {D : EndsG} {i j : Int}
theorem od_fdivW (h : CDivW i j) : OpD X (binaryOp .FloorDiv) S (.int i) (.int j) (rAt X.K (.int (i / j))) := opd_C op_fdivW h fun _ => .int _
/-- name = e, anything -/
theorem go_setG (i : Nat) {x : Str} {p' : Pos} (he : EvR X e Δ S R) (hN : X.N.Nodup) (k : ∀ G H v G2 H2, S.p G H → Gr G H G2 H2 → S.p G2 H2 → R G H v G2 H2 → ∃ d S', At X.K G2 v d ∧ S'.p G2 H2 ∧ Go X rest D (Δ.set i (some d)) S') (hi : X.N[i]? = some x := by rfl) (hx : Loc X.env.scope x := by first | exact Or.inl rfl | exact Or.inr rfl)
    (hs : swapsWith e (some (.Name x p')) pos.line X.env = pure false := by rfl) (hf : X.fn x = true ∨ X.env.scope.names.lookup x = some .local := by first | exact .inl rfl | exact .inr rfl | assumption) : Go X (.Assign [.Name x p'] e pos :: rest) D Δ S :=
  go_cons (ps_set hN hi hx (pe_ev X e) hs hf) fun σ G H D' l a b c => ⟨Δ, S, R, G, he, a, b, c, fun v G2 H2 g p r => by
    obtain ⟨d, S', e1, e2, e3⟩ := k G H v G2 H2 c g p r
    exact l.nx _ _ ⟨G2, g.gx, g.sub, _, S', e3, (a.up g.gx).set e1, e2⟩⟩
theorem go_setBag (i : Nat) {x : Str} {p' : Pos} (he : EvR X e Δ S (rBag X.K)) (hN : X.N.Nodup) (k : ∀ q, ¬ S.own q → Go X rest D (Δ.set i (some (ob q))) (S.and (.bag X.K q))) (hi : X.N[i]? = some x := by rfl) (hx : Loc X.env.scope x := by first | exact Or.inl rfl | exact Or.inr rfl)
    (hs : swapsWith e (some (.Name x p')) pos.line X.env = pure false := by rfl) (hf : X.fn x = true ∨ X.env.scope.names.lookup x = some .local := by first | exact .inl rfl | exact .inr rfl | assumption) : Go X (.Assign [.Name x p'] e pos :: rest) D Δ S :=
  go_setG i he hN (fun G H v G2 H2 c g p ⟨q, e1, e2, e3⟩ => by
    subst e1
    exact ⟨ob q, S.and (.bag X.K q), .obj q, ⟨p, e3⟩, k q (not_own c e2)⟩) hi hx hs hf
theorem bag_has {K : PySem.W.Frag} {q : Addr} (h : ¬ S.fo q) : Has (S.and (.bag K q)) (.bag K q) := has_here fun a ha e => h (by have e : a = q := e; rw [← e]; exact ha)
theorem Has.acc {K K' : PySem.W.Frag} {q r : Addr} (h : Has S (.bag K q)) (hr : r ≠ q) : Has (S.and (.acc K' r ds)) (.bag K q) := h.and fun a ha e => hr (by have ha : a = r := ha; have e : a = q := e; rw [← ha, e])
theorem Has.ne {K : PySem.W.Frag} {q r : Addr} (h : Has S (.bag K q)) (hr : ¬ S.own r) (hs : ∀ a, (As.bag K q).own a → S.own a) : r ≠ q := fun e => hr (hs r e)
/-- f(bag, ..) -/
theorem evx_cB {x : Str} {k j : Nat} {q : Addr} {Pr : Hp → List PyData → RR → Prop} (c : C8.Cal X.prog X.w X.K X.mg X.base k x (spB X.K Pr) []) (hr : Room j X.A) (hg : Gl X x) (hT : Has S (.bag X.K q)) (ha : EvAX X (e :: es) Δ S fun ds => ∃ ds', ds = ob q :: ds' ∧ PL ds') (hP : ∀ G H ds, PL ds → S.p G H → Pr G ds R)
    (hR : Back R := by first | exact back_x | exact back_xl | exact back_at | exact back_nl) (hk : k ≤ j := by decide)
    (hdb : (x == ("__debug__" : Str)) = false := by decide) (he : starEach (e :: es) X.env = (false, eval e X.env) :: starEach es X.env := by rfl) (hpl : (backTo pos (starEach es X.env)).any (·.1) = false := by rfl) :
    EvR X (.Call (.Name x p) (e :: es) [] pos) Δ S R :=
  evx_cM c hr hg ha hT (fun G H ds ⟨ds', e1, e2⟩ h => ⟨q, ds', R, e1, rfl, hP G H ds' e2 h, rfl⟩) hR hk hdb he hpl
theorem eax_bag {q : Addr} {bg : Expr} (h : Ev X bg Δ S (ob q)) (hr : EvAX X es Δ S PL) (hs : starEach (bg :: es) X.env = (false, eval bg X.env) :: starEach es X.env := by rfl) : EvAX X (bg :: es) Δ S fun ds => ∃ ds', ds = ob q :: ds' ∧ PL ds' :=
  (eax_cons (h.x (P := (· = ob q)) rfl) hr hs).xx fun ds ⟨d, ds', e1, e2, e3⟩ => ⟨ds', by rw [e1, e2], e3⟩
theorem eax_one (h : EvX X e Δ S P) (hs : starEach [e] X.env = (false, eval e X.env) :: starEach [] X.env := by rfl) : EvAX X [e] Δ S fun ds => ∃ d, ds = [d] ∧ P d :=
  (eax_cons h eax_nil hs).xx fun ds ⟨d, ds', e1, e2, e3⟩ => ⟨d, by rw [e1, e3], e2⟩
theorem evx_tupleC {x : Str} (hx : x = "tuple") (hg : Gl X x) (hm : X.mg x = none) (h : EvX X e Δ S fun d => ∃ ds, d = .list ds ∧ PL ds) (he : starEach [e] X.env = (false, eval e X.env) :: starEach [] X.env := by rfl) (hpl : (backTo pos (starEach [] X.env)).any (·.1) = false := by rfl) :
    EvX X (.Call (.Name x p) [e] [] pos) Δ S fun d => ∃ ds, d = .tuple ds ∧ PL ds := by
  subst hx
  refine evx_callTy (T := "tuple") (PL := fun ds => ∃ es, ds = [.list es] ∧ PL es) (fun ds ⟨es, e1, e2⟩ => ?_) hg hm (by decide +kernel) ((eax_one h he).xx fun ds ⟨d, e1, es, e2, e3⟩ => ⟨es, by rw [e1, e2], e3⟩) back_x (by decide) (by decide) he hpl
  subst e1
  exact (cd_tuple (.inl rfl)).x ⟨es, rfl, e2⟩
theorem ItD.is {ds' : List PyData} (h : ItD X tg iter Δ S ds) (q : ds = ds') : ItD X tg iter Δ S ds' := q ▸ h
/-- range(n) -/
theorem it_rng {n : Nat} (hg : Gl X "range") (hm : X.mg "range" = none) (h : Ev X e Δ S (.int n)) (h2 : n < 2 ^ 62) (hs' : starEach [e] X.env = (false, eval e X.env) :: starEach [] X.env := by rfl) (hs : starEach [e] X.env = [(false, eval e X.env)] := by rfl) :
    ItD X tg (.Call (.Name "range" p) [e] [] pos) Δ S ((List.range n).map fun k : Nat => .int (k : Int)) :=
  (it_range1 hg hm h (by omega) (by omega) hs' hs).is (by rw [Int.toNat_natCast]; exact List.map_congr_left fun k _ => by rw [Int.zero_add])
theorem fresh_ext {G H : Hp} {o : Addr → Prop} {q : Addr} (h : ¬ (As.extx G H o).own q) : H q = none := Classical.byContradiction h
theorem go_rtM {G H : Hp} {f : Addr → Prop} {R' : RR} (hD : D.rt = (retM G H f R).rt) (hS : S.le (.extx G H f)) (he : EvR X e Δ S R') (k : ∀ v G1 H1 G2 H2, Gr G H G1 H1 → S.p G2 H2 → R' G1 H1 v G2 H2 → R G H v G2 H2) : Go X (.Return (some e) pos :: rest) D Δ S := go_retM he hS k hD
/-- name = [elt for ..] on one line -/
theorem go_setLc {y : Str} {py : Pos} {own : List (Str × Nat)} {spos : Pos} (i : Nat) (h : LcR X elt tg iter ifs own scope Δ S R) (hc : X.calm = true) (hN : X.N.Nodup)
    (k : ∀ G H v G2 H2, S.p G H → Gr G H G2 H2 → S.p G2 H2 → R G H v G2 H2 → ∃ d S' G3, At X.K G3 v d ∧ Same G2 G3 ∧ Same G3 H2 ∧ S'.p G3 H2 ∧ Go X rest D (Δ.set i (some d)) S') (hy : X.N[i]? = some y := by rfl) (hyl : X.env.scope.names.lookup y = some .local := by rfl)
    (hsw : swapsWith (.ListComp elt [⟨tg, iter, ifs, 0⟩] scope pos) (some (.Name y py)) spos.line X.env = pure true := by rfl) (hs : ∀ x, foldedSetIterable iter X.env x = pure x := by intro _; rfl) :
    Go X (.Assign [.Name y py] (.ListComp elt [⟨tg, iter, ifs, 0⟩] scope pos) spos :: rest) D Δ S := by
  obtain ⟨wi, w1, ok, w2⟩ := h
  exact go_cons (ps_setLc hc hN hy hyl hsw w1 ok (pg_tgB X scope tg) (pts_tsB X scope ifs) (pe_evB X scope elt) hs) fun σ G H D' l a b c => w2 σ G H _ a b c fun v G2 H2 g p r => by
    obtain ⟨d, S', G3, e1, e2, e3, e4, e5⟩ := k G H v G2 H2 c g p r
    exact l.nx _ _ ⟨G3, g.gx.trans e2, e3, _, S', e5, ((a.up g.gx).up e2).set e1, e4⟩
/-- .. a list that is known then -/
theorem go_setLcF {y : Str} {py : Pos} {own : List (Str × Nat)} {spos : Pos} (i : Nat) (h : LcR X elt tg iter ifs own scope Δ S (rNl X.K ds)) (hc : X.calm = true) (hN : X.N.Nodup) (k : Go X rest D (Δ.set i (some (.list ds))) S) (hy : X.N[i]? = some y := by rfl) (hyl : X.env.scope.names.lookup y = some .local := by rfl)
    (hsw : swapsWith (.ListComp elt [⟨tg, iter, ifs, 0⟩] scope pos) (some (.Name y py)) spos.line X.env = pure true := by rfl) (hs : ∀ x, foldedSetIterable iter X.env x = pure x := by intro _; rfl) :
    Go X (.Assign [.Name y py] (.ListComp elt [⟨tg, iter, ifs, 0⟩] scope pos) spos :: rest) D Δ S :=
  go_setLc i h hc hN (fun G H v G2 H2 c g p ⟨q, xs, e1, e2, e3, e4, e5⟩ => by
    subst e1
    refine ⟨.list ds, S, upd G2 q (.lst xs), .lst upd_same (e5.up (same_upd e3)), same_upd e3, fun b u z => ?_, S.frz (not_own c e2) p e3 e4, k⟩
    by_cases hb : b = q
    · subst hb; rw [upd_same] at z; cases z; exact e4
    · rw [upd_ne hb] at z; exact g.sub b u z) hy hyl hsw hs
theorem go_setLcX {y : Str} {py : Pos} {own : List (Str × Nat)} {spos : Pos} (i : Nat) (h : LcR X elt tg iter ifs own scope Δ S (rXl X.K PL)) (hc : X.calm = true) (hN : X.N.Nodup) (k : ∀ ds, PL ds → Go X rest D (Δ.set i (some (.list ds))) S) (hy : X.N[i]? = some y := by rfl) (hyl : X.env.scope.names.lookup y = some .local := by rfl)
    (hsw : swapsWith (.ListComp elt [⟨tg, iter, ifs, 0⟩] scope pos) (some (.Name y py)) spos.line X.env = pure true := by rfl) (hs : ∀ x, foldedSetIterable iter X.env x = pure x := by intro _; rfl) :
    Go X (.Assign [.Name y py] (.ListComp elt [⟨tg, iter, ifs, 0⟩] scope pos) spos :: rest) D Δ S :=
  go_setLc i h hc hN (fun G H v G2 H2 c g p ⟨ds, hds, q, xs, e1, e2, e3, e4, e5⟩ => by
    subst e1
    refine ⟨.list ds, S, upd G2 q (.lst xs), .lst upd_same (e5.up (same_upd e3)), same_upd e3, fun b u z => ?_, S.frz (not_own c e2) p e3 e4, k ds hds⟩
    by_cases hb : b = q
    · subst hb; rw [upd_same] at z; cases z; exact e4
    · rw [upd_ne hb] at z; exact g.sub b u z) hy hyl hsw hs
/-! data that can be compared -/
theorem shaped_ints (ns : List Int) : SeqAt.shaped (.list (ns.map .int)) = true := by
  have h1 : ∀ ns : List Int, PyData.canLayAll0 (ns.map .int) = true := fun ns => by
    induction ns with
    | nil => rfl
    | cons n ns ih => simpa [PyData.canLayAll0, PyData.canLay0] using ih
  have h2 : ∀ ns : List Int, PyData.depthAll (ns.map .int) = 0 := fun ns => by
    induction ns with
    | nil => rfl
    | cons n ns ih => simp [PyData.depthAll, PyData.depth, ih]
  unfold SeqAt.shaped
  simp [PyData.canLay0, h1, PyData.depth, h2]
theorem shaped_nil : SeqAt.shaped (.list []) = true := shaped_ints []
theorem eqv_nil (ds : List PyData) : PyData.eqv (.list ds) (.list []) = ds.isEmpty := by
  cases ds <;> simp [PyData.eqv, PyData.eqvAll]
end
end DL
namespace DL
open PySem
/-- a tuple's parts -/
def unT : PyData → List PyData
  | .tuple ds => ds
  | _ => []
end DL
namespace DL
open PySem PySem.Spec PyProof.Rows L2

/-! ### more of dicts -/
/-- dicts that are known, and locked -/
def DFT (K : PySem.W.Frag) (p : Addr) (kvs : List (List Int × PyData)) (G : Hp) : Prop := ∃ (od : Obj) (vs : List V), G p = some (.frz od (.dT (zk tkf kvs vs))) ∧ Ats K G vs (kvs.map (·.2))
theorem DFT.up {K : PySem.W.Frag} {p : Addr} {kvs : List (List Int × PyData)} {G G' : Hp} (h : DFT K p kvs G) (e : Same G G') : DFT K p kvs G' := by obtain ⟨od, vs, h1, h2⟩ := h; exact ⟨od, vs, e _ _ h1, h2.up e⟩
def DFK (K : PySem.W.Frag) (p : Addr) (kvs : List (Int × PyData)) (G : Hp) : Prop := ∃ (od : Obj) (vs : List V), G p = some (.frz od (.dK (zk ikf kvs vs))) ∧ Ats K G vs (kvs.map (·.2))
theorem DFK.up {K : PySem.W.Frag} {p : Addr} {kvs : List (Int × PyData)} {G G' : Hp} (h : DFK K p kvs G) (e : Same G G') : DFK K p kvs G' := by obtain ⟨od, vs, h1, h2⟩ := h; exact ⟨od, vs, e _ _ h1, h2.up e⟩
def As.dfT (K : PySem.W.Frag) (p : Addr) (kvs : List (List Int × PyData)) : As := .fact (DFT K p kvs) fun _ _ e h => h.up e
def As.dfK (K : PySem.W.Frag) (p : Addr) (kvs : List (Int × PyData)) : As := .fact (DFK K p kvs) fun _ _ e h => h.up e
def rDT (K : PySem.W.Frag) (kvs : List (List Int × PyData)) : RR := fun _ _ v G2 _ => ∃ p, v = .ref p ∧ DFT K p kvs G2
def rDK (K : PySem.W.Frag) (kvs : List (Int × PyData)) : RR := fun _ _ v G2 _ => ∃ p, v = .ref p ∧ DFK K p kvs G2
section
variable {X : Cx} {o e : Expr} {es : List Expr} {Δ : De} {S T : As} {R : RR} {d : PyData} {ds : List PyData} {pos p apos cpos tpos : Pos} {q : Addr} {P : PyData → Prop} {sts rest : List Stmt} {D : EndsG} {k : List Int} {kvs : List (List Int × PyData)} {i : Int} {ivs : List (Int × PyData)}
/-- the dict at q is known from now on -/
theorem go_lockT (hS : ¬ S.own q) (h : Go X sts D Δ (S.and (.dfT X.K q kvs))) : Go X sts D Δ (S.and (.dT X.K q kvs)) := by
  rintro pins s σ G H I a b ⟨pS, hG, o1, h1, vs, rfl, h2⟩
  obtain ⟨od, J⟩ := I.lock h1 True.intro
  have sub : Same (upd G q (.frz od (.dT (zk tkf kvs vs)))) (upd H q (.frz od (.dT (zk tkf kvs vs)))) := fun b' v z => by
    by_cases hb : b' = q
    · subst hb; rw [upd_same] at z ⊢; exact z
    · rw [upd_ne hb] at z ⊢; exact b b' v z
  have pS2 : S.p G (upd H q (.frz od (.dT (zk tkf kvs vs)))) := S.stb (As.nf hS) (fun ⟨_, z⟩ => by cases z) pS hG (by rw [h1]; exact fun z => by cases z)
  have pS3 := S.frz hS pS2 hG upd_same
  exact wpAny_mono (h pins s σ _ _ J (a.up (same_upd hG)) sub ⟨pS3, od, vs, upd_same, h2.up (same_upd hG)⟩) (fun _ _ z => SP.le (EndsG.le (same_upd hG)) z) fun _ _ z => z
theorem go_lockK (hS : ¬ S.own q) (h : Go X sts D Δ (S.and (.dfK X.K q ivs))) : Go X sts D Δ (S.and (.dK X.K q ivs)) := by
  rintro pins s σ G H I a b ⟨pS, hG, o1, h1, vs, rfl, h2⟩
  obtain ⟨od, J⟩ := I.lock h1 True.intro
  have sub : Same (upd G q (.frz od (.dK (zk ikf ivs vs)))) (upd H q (.frz od (.dK (zk ikf ivs vs)))) := fun b' v z => by
    by_cases hb : b' = q
    · subst hb; rw [upd_same] at z ⊢; exact z
    · rw [upd_ne hb] at z ⊢; exact b b' v z
  have pS2 : S.p G (upd H q (.frz od (.dK (zk ikf ivs vs)))) := S.stb (As.nf hS) (fun ⟨_, z⟩ => by cases z) pS hG (by rw [h1]; exact fun z => by cases z)
  have pS3 := S.frz hS pS2 hG upd_same
  exact wpAny_mono (h pins s σ _ _ J (a.up (same_upd hG)) sub ⟨pS3, od, vs, upd_same, h2.up (same_upd hG)⟩) (fun _ _ z => SP.le (EndsG.le (same_upd hG)) z) fun _ _ z => z
theorem EvR.dT (h : Ev X e Δ S (DL.ob q)) (hS : S.le (.dfT X.K q kvs)) : EvR X e Δ S (rDT X.K kvs) := h.imp fun G H v G2 H2 g p r => ⟨q, At.obj_eq r, hS _ _ p⟩
theorem EvR.dK (h : Ev X e Δ S (DL.ob q)) (hS : S.le (.dfK X.K q ivs)) : EvR X e Δ S (rDK X.K ivs) := h.imp fun G H v G2 H2 g p r => ⟨q, At.obj_eq r, hS _ _ p⟩
theorem zk_at {κ κ' : Type} {f : κ → κ'} {K : PySem.W.Frag} {G : Hp} : ∀ {kvs : List (κ × PyData)} {vs : List V} {i : Nat} {kv : κ × PyData}, Ats K G vs (kvs.map (·.2)) → kvs[i]? = some kv → ∃ v, (zk f kvs vs)[i]? = some (f kv.1, v) ∧ At K G v kv.2
  | [], _, i, kv, _, e => by simp at e
  | p :: r, _, i, kv, h, e => by
    cases h with
    | @cons v vs _ _ h1 h2 =>
      cases i with
      | zero => cases (show some p = some kv from e); exact ⟨v, rfl, h1⟩
      | succ i => exact zk_at (i := i) h2 e
/-- for .. in d.items(), of int keys -/
theorem it_itemsK {elts : List Expr} {kk : Nat} (h : EvR X e Δ S (rDK X.K ivs)) (hbase : attributeBase e "items" X.env (eval e X.env) = eval e X.env := by rfl) (hline : (apos.endLine == cpos.line) = true := by rfl) :
    ItD X (.Tuple elts kk tpos) (.Call (.Attribute e "items" apos) [] [] cpos) Δ S (ivs.map fun kv => .tuple [.int kv.1, kv.2]) :=
  ⟨_, pi_items (pe_ev X e) hbase hline, fun σ G H R a b c q => ⟨Δ, S, _, G, h, a, b, c, fun v G1 H1 g p1 ⟨d, e1, od, vs, h1, h2⟩ => by
    subst e1
    have hl : (zk ikf ivs vs).length = ivs.length := zk_len (by have := h2.len; rw [List.length_map] at this; omega)
    refine ⟨d, od, _, rfl, g.sub _ _ h1, q _ G1 H1 g p1 ⟨fun G2 H2 s1 s2 => ⟨s2 _ _ (s1 _ _ h1), by rw [hl, List.length_map]; exact Nat.le_refl _⟩, fun i d2 G2 H2 s1 s2 e2 => ?_⟩⟩
    rw [List.getElem?_map] at e2
    cases w : ivs[i]? with
    | none => rw [w] at e2; cases e2
    | some kv =>
      rw [w] at e2
      cases e2
      obtain ⟨u, f1, f2⟩ := zk_at (f := ikf) h2 w
      refine ⟨⟨s2 _ _ (s1 _ _ h1), (List.getElem?_eq_some_iff.mp f1).1⟩, fun x H' y => ?_⟩
      obtain ⟨T, k, u', e3, rfl, hT, rfl⟩ := y
      rw [f1] at e3
      cases e3
      exact ⟨upd G2 T (.tup [.int kv.1, u]), .new s2 hT, same_upd hT, .tup upd_same (.cons (.int _) (.one ((f2.up s1).up (same_upd (s2.free hT)))))⟩⟩⟩

/-! items of a dict of tuple keys -/
def ItiT (d : Addr) (o : Obj) (kvs : List (List L2.Key × V)) : It :=
  ⟨fun i H => H d = some (.frz o (.dT kvs)) ∧ i < kvs.length, fun i H x H' => ∃ T k v b, kvs[i]? = some (k, v) ∧ x = .ref T ∧ H T = none ∧ H b = some (.tup (k.map kV)) ∧ H' = upd H T (.tup [.ref b, v]), fun i H => H d = some (.frz o (.dT kvs)) ∧ kvs.length ≤ i⟩
theorem frzT2 {pins : List (Addr × Obj)} {σ : L2.St} {H : Hp} {s : Shared} {d : Addr} {o : Obj} {kvs : List (List L2.Key × V)} (I : Inv X pins σ H s) (h : H d = some (.frz o (.dT kvs))) :
    (d == sysModules) = false ∧ ∃ (es : Array DictEntry) (ep : Nat), DT.Raw s.heap d es ep ∧ o.data = .dict es ep ∧ es.size = kvs.length ∧
      ∀ (i : Nat) (k : List L2.Key) (v : V), kvs[i]? = some (k, v) → ∃ (en : DictEntry) (b : Addr), es[i]? = some en ∧ en.key = .ref b ∧ H b = some (.tup (k.map kV)) ∧ RelV v en.val := by
  obtain ⟨hd, z, hs, xs, pr, o', es, ep, ho, hx, hdt, he, _⟩ := I.hok d _ h
  rw [hd] at ho
  cases ho
  refine ⟨hs, es, ep, ⟨o, hd, hx, hdt⟩, hdt, ?_, fun i k v e => ?_⟩
  · have l1 : es.size = xs.length := size_of_entries he
    have l2 : kvs.length = xs.length := Paired.length pr
    omega
  · obtain ⟨b, hb, e1, e2, e3⟩ := paired_get pr e
    have q := entry_at he i
    rw [hb] at q
    exact ⟨_, b.2.1, q, rfl, e2, e3⟩
theorem turn_itemsT {P : Program} {w : World} {K : PySem.W.Frag} {d : Addr} {o : Obj} {es : Array DictEntry} {ep : Nat} {kvs : List (List L2.Key × V)} {elts : List Expr} {kk : Nat} {tpos : Pos} (it : Addr) (hod : o.data = .dict es ep) (hsz : es.size = kvs.length) :
    Turn P w K (.Tuple elts kk tpos) (ItiT d o kvs) [it] it (fun i h => ∃ ok ov, IsItemIter h it d i es.size ep ok ov) where
  mem := by simp
  obj := fun i h st b hb => by
    have e : b = it := by simpa using hb
    subst e
    obtain ⟨ok, ov, e⟩ := st
    exact ⟨_, e, fun v z => nomatch z⟩
  keep := fun i h h' st k => let ⟨ok, ov, e⟩ := st; ⟨ok, ov, k it (by simp) _ e⟩
  item := by
    intro X hP hw hK hc i pins s σ H E I hf st hg
    subst hP hw hK
    obtain ⟨hd, hi⟩ := hg
    obtain ⟨hs, es', ep', raw, hdt, hsz', ent⟩ := frzT2 I hd
    obtain ⟨rfl, rfl⟩ := dict_ep hod hdt
    obtain ⟨⟨k, v⟩, hkv⟩ : ∃ p, kvs[i]? = some p := ⟨kvs[i], List.getElem?_eq_getElem hi⟩
    obtain ⟨en, b, e1, e2, e3, e4⟩ := ent i k v hkv
    obtain ⟨ok, ov, he⟩ := st
    have hlt : it < s.heap.objs.size := Heap.lt_size he
    have hi2 : i < es'.size := by rw [hsz]; exact hi
    have hen : es'[i] = en := by
      rw [Array.getElem?_eq_getElem hi2] at e1; exact Option.some.inj e1
    refine DT.nextI he raw hi2 fun h' ho hT hz hk => ?_
    rw [hen] at ho hT
    refine ⟨_, rfl, wpAny_letOwnedTupleGo_items (s := { s with heap := h' }) ho fun h'' he' sb => ?_⟩
    have hT2 : h''.get? s.heap.objs.size = some { cls := .type "tuple", data := .seq #[en.key, en.val] } := (sb.2 _ (Nat.ne_of_gt hlt)).trans hT
    have new : ObjOk X.prog X.w (upd H s.heap.objs.size (.tup [.ref b, v])) h'' s.heap.objs.size (.tup [.ref b, v]) :=
      ⟨by show 2 ≤ sizeLine; decide, [en.key, en.val], .cons e2 (.cons e4 .nil), ⟨_, hT2, rfl, _, rfl⟩⟩
    have I1 : Inv X pins σ (upd H s.heap.objs.size (.tup [.ref b, v])) { s with heap := h'' } :=
      I.turnedNew (t' := s.toks) (ch := [it]) (fun b ob hb e => (sb.2 b (by simpa using hb)).trans (hk b ob (by simpa using hb) e)) hf (Nat.le_refl _) new
    refine ⟨.ref s.heap.objs.size, _, I1, rfl, ⟨_, k, v, b, hkv, rfl, I.hok.fresh (Nat.le_refl _), e3, rfl⟩, ⟨_, _, he'⟩, fun b hb => ?_⟩
    have e : b = it := by simpa using hb
    rw [e, upd_ne (Nat.ne_of_lt hlt)]
    exact (hf it (by simp)).1
  done := by
    intro X hP hw hK hc i pins s σ H E I hf st hg
    subst hP hw hK
    obtain ⟨hd, hi⟩ := hg
    obtain ⟨f0, f1, f2, f3, f4, f5⟩ := hf it (by simp)
    obtain ⟨hs, es', ep', raw, hdt, hsz', ent⟩ := frzT2 I hd
    obtain ⟨rfl, rfl⟩ := dict_ep hod hdt
    obtain ⟨ok, ov, he⟩ := st
    exact DT.endI (I.ok.hd hc) he raw (by rw [hsz]; exact hi) fun h' eb => ⟨rfl, I.turned (t' := s.toks) (fun b ob hb e => eb b ob hb e) f0 f1 f3 f4 f5⟩
  self := fun A i s Q E st h => let ⟨_, _, e⟩ := st; PySem.W.kcp_self e h
def iItemsT (td : TE) : TI := fun σ H R => td σ H fun x H1 => ∃ d o kvs, x = .ref d ∧ H1 d = some (.frz o (.dT kvs)) ∧ R (ItiT d o kvs) H1
theorem pi_itemsT {td : TE} {elts : List Expr} {kk : Nat} (he : PE X e td) (hbase : attributeBase e "items" X.env (eval e X.env) = eval e X.env := by rfl) (hline : (apos.endLine == cpos.line) = true := by rfl) :
    PI X (.Tuple elts kk tpos) (.Call (.Attribute e "items" apos) [] [] cpos) (iItemsT td) := by
  refine ⟨fun pins s σ H R I h => ?_⟩
  refine wpAny_Call_method (T := "dict") (id := "dict.items") hbase rfl hline F.plainAttrs_dict F.slot_dict_items F.type_dict_items (thn (he.run pins s σ H _ I h) fun u s1 ⟨x, H1, I1, rx, d, o, kvs, ex, hd, q⟩ => ?_)
  subst ex
  obtain rfl : u = Value.ref d := rx
  obtain ⟨hs, es, ep, raw, hdt, hsz, ent⟩ := frzT2 I1 hd
  refine ⟨raw.typeIs, fun b q => by cases q; obtain ⟨ob, h1, h2, _⟩ := id raw; exact ⟨ob, h1, h2.2.1⟩, ?_⟩
  have I2 : Inv X pins σ H1 { s1 with heap := s1.heap.push { cls := .type "dict_items", data := .fields #[.ref d] } } := I1.kept (t' := s1.toks) fun b ob q => Heap.get?_push_of_some _ q
  have fin : wpAny (model X.prog X.w) X.A (pyIter (.ref s1.heap.objs.size)) (PIE X pins σ (.Tuple elts kk tpos) R) X.xe { s1 with heap := s1.heap.push { cls := .type "dict_items", data := .fields #[.ref d] } } :=
    DT.iterI ⟨_, Heap.get?_push_size _ rfl, rfl, rfl⟩ (raw.push _) (pi_one (tk := s1.toks) I2 _ (turn_itemsT _ hdt hsz) ⟨.none, .none, Heap.get?_push_size _ rfl⟩ q)
  show wpAny _ _ (callWith cpos (.builtin "dict.items") [.ref d] [] []) _ X.xe s1
  exact method_meetsIn F.slot_dict_items F.entry_dict_items rfl (PySem.evalArgs_none ⟨rfl, raw.typeIs, F.args_dict_items_1 _, _, DT.meetsItems (es := es) (ep := ep) hs, ⟨raw, fin⟩⟩)
theorem it_itemsT {elts : List Expr} {kk : Nat} (h : EvR X e Δ S (rDT X.K kvs)) (hbase : attributeBase e "items" X.env (eval e X.env) = eval e X.env := by rfl) (hline : (apos.endLine == cpos.line) = true := by rfl) :
    ItD X (.Tuple elts kk tpos) (.Call (.Attribute e "items" apos) [] [] cpos) Δ S (kvs.map fun kv => .tuple [.tuple (kv.1.map .int), kv.2]) :=
  ⟨_, pi_itemsT (pe_ev X e) hbase hline, fun σ G H R a b c q => ⟨Δ, S, _, G, h, a, b, c, fun v G1 H1 g p1 ⟨d, e1, od, vs, h1, h2⟩ => by
    subst e1
    have hl : (zk tkf kvs vs).length = kvs.length := zk_len (by have := h2.len; rw [List.length_map] at this; omega)
    refine ⟨d, od, _, rfl, g.sub _ _ h1, q _ G1 H1 g p1 ⟨fun G2 H2 s1 s2 => ⟨s2 _ _ (s1 _ _ h1), by rw [hl, List.length_map]; exact Nat.le_refl _⟩, fun i d2 G2 H2 s1 s2 e2 => ?_⟩⟩
    rw [List.getElem?_map] at e2
    cases w : kvs[i]? with
    | none => rw [w] at e2; cases e2
    | some kv =>
      rw [w] at e2
      cases e2
      obtain ⟨u, f1, f2⟩ := zk_at (f := tkf) h2 w
      refine ⟨⟨s2 _ _ (s1 _ _ h1), (List.getElem?_eq_some_iff.mp f1).1⟩, fun x H' y => ?_⟩
      obtain ⟨T, k, u', b2, e3, rfl, hT, hb, rfl⟩ := y
      rw [f1] at e3
      cases e3
      rw [tkf_kV] at hb
      -- the key's tuple is known from now on
      have fin : ∀ G3, Gr G2 H2 G3 H2 → G3 b2 = some (.tup (kv.1.map V.int)) → ∃ G', Gr G2 H2 G' (upd H2 T (.tup [.ref b2, u])) ∧ Same H2 (upd H2 T (.tup [.ref b2, u])) ∧ At X.K G' (.ref T) (.tuple [.tuple (kv.1.map .int), kv.2]) := fun G3 g3 e =>
        ⟨upd G3 T (.tup [.ref b2, u]), g3.trans (.new g3.sub hT), same_upd hT, .tup upd_same (.cons (.tup (same_upd (g3.sub.free hT) _ _ e) (Ats.ints _)) (.one ((f2.up (s1.trans g3.gx)).up (same_upd (g3.sub.free hT)))))⟩
      cases w2 : G2 b2 with
      | none => exact fin _ (Gr.tup s2 hb) upd_same
      | some u2 =>
        have := s2 _ _ w2
        rw [hb] at this
        cases this
        exact fin G2 (.refl s2) w2⟩⟩

/-! setdefault -/
theorem mt_setdef : MtR X "dict.setdefault" (fun x xs H Q => ∃ (a : Addr) (kvs : List (L2.Key × V)) (k : L2.Key) (v : V), x = .ref a ∧ xs = [kV k, v] ∧ H a = some (.dK kvs) ∧ kvs.length < sizeLine ∧ (∀ u, valV kvs k = some u → Q u H) ∧ (valV kvs k = none → Q v (upd H a (.dK (putK kvs k v))))) := by
  intro pins s σ H x xs v us Q I rx rxs h
  obtain ⟨a, kvs, k, y, rfl, rfl, ha, hz, q1, q2⟩ := h
  cases rx
  obtain ⟨u1, u2, rfl, r1, r2⟩ := vals2 rxs
  obtain ⟨z, hd, vs, rel, dd⟩ := dk_of I.hok ha
  refine call_meetsIn PySem.F.slot_dict_setdefault dd.typeIs PySem.F.entry_dict_setdefault (PySem.F.args_dict_setdefault_3 _ _ _) (kt_meets_setdefault (mixKind X.prog X.w) a (kV_is r1) hd u2) ⟨vs, dd, by rw [← rel.length]; exact z, fun w hw => ?_, fun hn h' dd' hs => ?_⟩
  · have r := rel.val k
    rw [hw] at r
    cases ev : valV kvs k with
    | none => rw [ev] at r; exact (show False from r).elim
    | some v0 => rw [ev] at r; exact ⟨v0, H, I.tok _, r, q1 v0 ev⟩
  · have r := rel.val k
    rw [hn] at r
    have e : valV kvs k = none := by
      cases ev : valV kvs k with
      | none => rfl
      | some v0 => rw [ev] at r; exact (show False from r).elim
    have hl : (putK kvs k y).length ≤ sizeLine := by have := length_putK kvs k y; omega
    have he : ∃ q, h'.get? a = some q := let ⟨q, _, _, hq, _⟩ := dd'; ⟨q, hq⟩
    exact ⟨y, _, d_write I (by rw [ha]; exact True.intro) hs he (dk_new hl hd (rel.put k r2) dd'), r2, q2 e⟩
def dDef (ivs : List (Int × PyData)) (i : Int) (d : PyData) : List (Int × PyData) := if (dGet ivs i).isSome then ivs else ivs ++ [(i, d)]
theorem dDef_put {ivs : List (Int × PyData)} {i : Int} {d : PyData} (h : dGet ivs i = none) : dPut ivs i d = ivs ++ [(i, d)] := by
  unfold dPut
  rw [dGet_any, h]
  rfl
/-- o.setdefault(i, d), as a statement -/
theorem go_sdef {e2 : Expr} (ho : Ev X o Δ (S.and (.dK X.K q ivs)) (ob q)) (he : Ev X e Δ (S.and (.dK X.K q ivs)) (.int i)) (hv : Ev X e2 Δ (S.and (.dK X.K q ivs)) d) (hS : ¬ S.fo q) (hz : ivs.length < 16000000) (kk : Go X rest D Δ (S.and (.dK X.K q (dDef ivs i d))))
    (hbase : attributeBase o "setdefault" X.env (eval o X.env) = eval o X.env := by rfl)
    (hfew : ((backTo cpos (starEach [e, e2] X.env)).all (fun x => !x.1) && (backToKw cpos (keywordEach [] X.env)).all (fun x => x.1.isSome) && decide ([e, e2].length + ([] : List Keyword).length + (if ([] : List Keyword).isEmpty then 0 else 1) < 30)) = true := by rfl)
    (hline : (apos.endLine == cpos.line) = true := by rfl) (hs' : starEach [e, e2] X.env = (false, eval e X.env) :: starEach [e2] X.env := by rfl) (hs2 : starEach [e2] X.env = (false, eval e2 X.env) :: starEach [] X.env := by rfl) (hplain : (backTo cpos (starEach [e2] X.env)).any (·.1) = false := by rfl)
    (hs : swapsWith (.Call (.Attribute o "setdefault" apos) [e, e2] [] cpos) none pos.line X.env = pure false := by rfl) : Go X (.Expr (.Call (.Attribute o "setdefault" apos) [e, e2] [] cpos) pos :: rest) D Δ (S.and (.dK X.K q ivs)) :=
  go_cons (ps_expr (pe_bm PySem.F.plainAttrs_dict PySem.F.slot_dict_setdefault PySem.F.type_dict_setdefault mt_setdef (pe_ev X o) (pa_cons (pe_ev X e) (pa_cons (pe_ev X e2) pa_nil hs2) hs') hbase hfew hline hs' hplain) hs) fun σ G H D' l a b c => ⟨Δ, _, _, G, ho, a, b, c, fun v G1 H1 g1 p1 r1 => by
    rw [At.obj_eq r1]
    obtain ⟨_, _, o1, h1, vs1, rfl, _⟩ := id p1
    refine ⟨.inr (.inr (.inl ⟨rfl, .inl ⟨_, h1⟩⟩)), Δ, _, _, G1, he, a.up g1.gx, g1.sub, p1, fun w G2 H2 g2 p2 r2 => ⟨Δ, _, _, G2, hv, (a.up g1.gx).up g2.gx, g2.sub, p2, fun y G3 H3 g3 p3 r3 => ?_⟩⟩
    cases r2
    obtain ⟨pS, hG, o2, h2, vs, rfl, h3⟩ := p3
    have hlen : (zk ikf ivs vs).length = ivs.length := zk_len (by have := h3.len; rw [List.length_map] at this; omega)
    obtain ⟨z1, z2⟩ := zk_get (f := ikf) ikf_inj i h3
    refine ⟨q, _, ikf i, y, rfl, rfl, h2, by rw [hlen]; exact Nat.lt_of_lt_of_le hz (by decide), fun u hu => ?_, fun hn => ?_⟩
    · have e : dDef ivs i d = ivs := by
        unfold dDef
        cases w : dGet ivs i with
        | none => rw [z1 w] at hu; cases hu
        | some _ => rfl
      rw [e] at kk
      exact l.nx _ _ ⟨G3, (g1.gx.trans g2.gx).trans g3.gx, g3.sub, Δ, _, kk, ((a.up g1.gx).up g2.gx).up g3.gx, pS, hG, _, h2, vs, rfl, h3⟩
    · have e : dGet ivs i = none := by
        cases w : dGet ivs i with
        | none => rfl
        | some d => obtain ⟨v, e, _⟩ := z2 d w; rw [hn] at e; cases e
      obtain ⟨vs', e1, e2⟩ := zk_put (f := ikf) ikf_inj (k := i) r3 h3
      have e3 : dDef ivs i d = dPut ivs i d := by unfold dDef; rw [e, dDef_put e]; rfl
      rw [e3] at kk
      refine l.nx _ _ ⟨G3, (g1.gx.trans g2.gx).trans g3.gx, fun b2 u q2 => ?_, Δ, _, kk, ((a.up g1.gx).up g2.gx).up g3.gx, S.stb hS (fun ⟨_, z⟩ => by cases z) pS hG (by rw [h2]; exact fun z => by cases z), hG, _, upd_same, vs', by rw [e1], e2⟩
      rw [upd_ne (ne_of_none q2 hG)]; exact g3.sub _ _ q2⟩
/-- name = {}, a dict of int keys -/
theorem go_newK {x : Str} {p' : Pos} (n : Nat) (hN : X.N.Nodup) (kk : ∀ q, ¬ S.own q → Go X rest D (Δ.set n (some (ob q))) (S.and (.dK X.K q []))) (hi : X.N[n]? = some x := by rfl) (hx : Loc X.env.scope x := by first | exact Or.inl rfl | exact Or.inr rfl)
    (hs : swapsWith (.Dict [] [] p) (some (.Name x p')) pos.line X.env = pure false := by rfl) (hf : X.fn x = true ∨ X.env.scope.names.lookup x = some .local := by first | exact .inl rfl | exact .inr rfl | assumption) : Go X (.Assign [.Name x p'] (.Dict [] [] p) pos :: rest) D Δ S :=
  go_cons (ps_set hN hi hx pe_dnewK hs hf) fun σ G H D' l a b c q hq => by
    have n2 := Gr.h (H2 := upd H q (.dK [])) b (same_upd hq)
    exact l.nx _ _ ⟨G, Same.refl _, n2.sub, _, _, kk q (not_own c hq), a.set (.obj q), S.cl n2 (same_upd hq) c, b.free hq, _, upd_same, [], rfl, .nil⟩
end
end DL
namespace DL
open PySem PySem.Spec PyProof.Rows L2
/-- a new dict of int keys; of tuple keys -/
def rNK (K : PySem.W.Frag) (kvs : List (Int × PyData)) : RR := fun _ H v G2 H2 => ∃ p, v = .ref p ∧ H p = none ∧ (As.dK K p kvs).p G2 H2
def rNT (K : PySem.W.Frag) (kvs : List (List Int × PyData)) : RR := fun _ H v G2 H2 => ∃ p, v = .ref p ∧ H p = none ∧ (As.dT K p kvs).p G2 H2
theorem back_nk {K : PySem.W.Frag} {kvs : List (Int × PyData)} : Back (rNK K kvs) := fun _ _ _ _ _ _ _ r ⟨p, e, h, k⟩ => ⟨p, e, none_back r h, k⟩
theorem back_nt {K : PySem.W.Frag} {kvs : List (List Int × PyData)} : Back (rNT K kvs) := fun _ _ _ _ _ _ _ r ⟨p, e, h, k⟩ => ⟨p, e, none_back r h, k⟩
section
variable {X : Cx} {scope : Scope} {o e kx vx tg iter : Expr} {ifs : List Expr} {Δ : De} {S T : As} {R : RR} {d : PyData} {ds : List PyData} {pos p : Pos} {q : Addr} {k : List Int} {kvs : List (List Int × PyData)} {ivs : List (Int × PyData)}
theorem dK_len {K : PySem.W.Frag} {G H : Hp} (h : (As.dK K q ivs).p G H) : ∃ vs, H q = some (.dK (zk ikf ivs vs)) ∧ Ats K G vs (ivs.map (·.2)) ∧ (zk ikf ivs vs).length = ivs.length := by
  obtain ⟨_, o, h1, vs, rfl, h2⟩ := h
  exact ⟨vs, h1, h2, zk_len (by have := h2.len; rw [List.length_map] at this; omega)⟩
/-- {k: v for tg in iter} -/
theorem ev_dc {α : Type} {xs : List α} {enc : α → PyData} {is : List Nat} (own : List (Str × Nat)) (kf : α → Int) (gf : α → PyData) (F : α → De → De) (hi : ItD X tg iter Δ S (xs.map enc)) (hc : X.calm = true) (hN : X.N.Nodup) (ok : BlkOk X.N X.env.scope scope own)
    (hz : xs.length ≤ 1000000) (his : ∀ i ∈ is, i ∈ own.map (·.2)) (htg : ∀ x ∈ xs, AllB X scope fun Y => TgS Y tg is (enc x) (F x))
    (hk : ∀ D es, ¬ S.own D → ∀ x ∈ xs, AllB X scope fun Y => Ev Y kx (F x (wipeD Δ (own.map (·.2)))) (S.and (.dK X.K D es)) (.int (kf x)))
    (hv : ∀ D es, ¬ S.own D → ∀ x ∈ xs, AllB X scope fun Y => Ev Y vx (F x (wipeD Δ (own.map (·.2)))) (S.and (.dK X.K D es)) (gf x))
    (hs : ∀ x, foldedSetIterable iter X.env x = pure x := by intro _; rfl) :
    EvR X (.DictComp kx vx [⟨tg, iter, [], 0⟩] scope pos) Δ S (rNK X.K (xs.foldl (fun acc x => dPut acc (kf x) (gf x)) [])) := by
  obtain ⟨wi, w1, w2⟩ := hi
  refine ev_pe (pe_dc hc hN w1 ok (pg_tgB X scope tg) (pts_tsB X scope []) (pe_evB X scope kx) (pe_evB X scope vx) hs) fun σ G H Q ha hb hcS q => ?_
  refine w2 σ G H _ ha hb hcS fun J G1 H1 g1 p1 W D hD => ?_
  have hO : ¬ S.own D := not_own p1 hD
  have hG1 : G1 D = none := g1.sub.free hD
  refine ⟨fun i m H' => m = xs.length - i ∧ i ≤ xs.length ∧ ∃ G' es, Gr G H G' H' ∧ Same G1 G' ∧ es = (xs.take i).foldl (fun acc x => dPut acc (kf x) (gf x)) [] ∧ es.length ≤ i ∧ (S.and (.dK X.K D es)).p G' H', ⟨xs.length, by simp, Nat.zero_le _, G1, [], ?_⟩, ?_⟩
  · obtain ⟨g2, p2⟩ := layH (S := S) (o := .dK []) g1 p1 hD
    exact ⟨g2, Same.refl _, rfl, Nat.le_refl _, p2, hG1, _, upd_same, [], rfl, .nil⟩
  rintro i m H' ⟨rfl, hle, G', es, g2, s1, hes, hln, p2⟩
  have pS : S.p G' H' := p2.1
  by_cases hlt : i < xs.length
  · obtain ⟨x, hx⟩ : ∃ x, xs[i]? = some x := ⟨xs[i], List.getElem?_eq_getElem hlt⟩
    have hmem : x ∈ xs := List.mem_of_getElem? hx
    have hxd : (xs.map enc)[i]? = some (enc x) := by rw [List.getElem?_map, hx]; rfl
    obtain ⟨j1, j2⟩ := W.go i (enc x) G' H' s1 g2.sub hxd
    refine .inr ⟨j1, fun H'' => i + 1 ≤ xs.length ∧ ∃ G' es, Gr G H G' H'' ∧ Same G1 G' ∧ es = (xs.take (i + 1)).foldl (fun acc x => dPut acc (kf x) (gf x)) [] ∧ es.length ≤ i + 1 ∧ (S.and (.dK X.K D es)).p G' H'', fun H'' ⟨h1, h2⟩ => ⟨xs.length - (i + 1), by omega, rfl, h1, h2⟩, fun v H'' y => ?_⟩
    obtain ⟨G3, g3, s3, a3⟩ := j2 v H'' y
    have p3 : (S.and (.dK X.K D es)).p G3 H'' := As.cl _ g3 s3 p2
    refine ⟨wipeD Δ (own.map (·.2)), is, enc x, F x, G3, htg x hmem, (ha.up (g2.gx.trans g3.gx)).wipe _, g3.sub, a3, fun σ' e' w' => ⟨?_, ?_⟩⟩
    · rw [w' _ his, wipe_wipe]
    refine ⟨_, _, true, G3, fun _ _ _ _ _ => evts_nil, e', g3.sub, p3, fun G4 H4 g4 p4 => ?_⟩
    refine iteT ⟨_, _, rAt X.K (.int (kf x)), G4, (fun s H C cl fp => hk D _ hO x hmem s H C cl fp), e'.up g4.gx, g4.sub, p4, fun y G5 H5 g5 p5 r5 => ⟨_, _, rAt X.K (gf x), G5, (fun s H C cl fp => hv D _ hO x hmem s H C cl fp), (e'.up g4.gx).up g5.gx, g5.sub, p5, fun z G6 H6 g6 p6 r6 => ?_⟩⟩
    cases r5
    obtain ⟨pS6, hG6, o6, h6, vs, rfl, hats⟩ := p6
    have hl : (zk ikf es vs).length = es.length := zk_len (by have := hats.len; rw [List.length_map] at this; omega)
    obtain ⟨vs', e1, e2⟩ := zk_put (f := ikf) ikf_inj (k := kf x) r6 hats
    refine ⟨_, ikf (kf x), rfl, h6, by rw [hl]; exact Nat.lt_of_le_of_lt hln (Nat.lt_of_lt_of_le hlt (Nat.le_trans hz (by decide))), hlt, G6, dPut es (kf x) (gf x), ?_, (((s1.trans g3.gx).trans g4.gx).trans g5.gx).trans g6.gx, ?_, ?_, S.stb (As.nf hO) (fun ⟨_, z⟩ => by cases z) pS6 hG6 (by rw [h6]; exact fun z => by cases z), hG6, _, upd_same, vs', by rw [e1], e2⟩
    · refine ((((g2.trans g3).trans g4).trans g5).trans g6).trans ⟨Same.refl _, fun b u q => ?_, fun _ q k => absurd q k, fun b o q => ?_⟩
      · rw [upd_ne (ne_of_none q hG6)]; exact g6.sub b u q
      · by_cases hb : b = D
        · subst hb; exact ⟨_, upd_same, fun ⟨_, z⟩ => by cases z⟩
        · exact ⟨o, by rw [upd_ne hb]; exact q, fun z => z⟩
    · rw [take_some hx, List.foldl_append, ← hes]; rfl
    · have := dPut_len es (kf x) (gf x); omega
  · have e : i = xs.length := by omega
    subst e
    have h2 := W.stop G' H' s1 g2.sub
    rw [List.length_map] at h2
    rw [List.take_length] at hes
    subst hes
    exact .inl ⟨h2, q _ G' H' g2 p2.1 ⟨D, rfl, none_back g1 hD, p2.2⟩⟩
/-- list(a new dict) -/
theorem evl_listNK {x : Str} (hx : x = "list") (hc : X.calm = true) (hg : Gl X x) (hm : X.mg x = none) (h : EvR X e Δ S (rNK X.K ivs)) (he : starEach [e] X.env = (false, eval e X.env) :: starEach [] X.env := by rfl) (hpl : (backTo pos (starEach [] X.env)).any (·.1) = false := by rfl) :
    EvL X (.Call (.Name x p) [e] [] pos) Δ S (ivs.map fun kv => .int kv.1) := by
  subst hx
  refine ev_pe (pe_callTy (call_list_dK hc) hg hm (by decide +kernel) (pa_cons (pe_ev X e) pa_nil he) (by decide) (by decide) he hpl) fun σ G H Q a b c q' => ⟨Δ, S, _, G, h, a, b, c, fun v G1 H1 g p1 ⟨r, e1, e2, e3⟩ => ?_⟩
  subst e1
  obtain ⟨vs, h1, h2, hl⟩ := dK_len e3
  refine ⟨r, _, rfl, h1, fun l hl' => ?_⟩
  obtain ⟨g3, p3⟩ := layH (o := .lst ((zk ikf ivs vs).map fun kv => kV kv.1)) g p1 hl'
  refine q' _ _ _ g3 p3 ⟨l, _, rfl, none_back g hl', g.sub.free hl', upd_same, ?_⟩
  have go : ∀ (ivs : List (Int × PyData)) (vs : List V), ivs.length = vs.length → Ats X.K G1 ((zk ikf ivs vs).map fun kv => kV kv.1) (ivs.map fun kv => .int kv.1) := by
    intro ivs
    induction ivs with
    | nil => intro vs _; exact .nil
    | cons kv r ih =>
      intro vs hl
      cases vs with
      | nil => cases hl
      | cons v vs => exact .cons (.int kv.1) (ih vs (by simpa using hl))
  exact go ivs vs (by have := h2.len; rw [List.length_map] at this; omega)
/-- list(a dict that may still change) -/
theorem evl_listK {x : Str} (hx : x = "list") (hc : X.calm = true) (hg : Gl X x) (hm : X.mg x = none) (hS : S.le (.dK X.K q ivs)) (h : Ev X e Δ S (ob q)) (he : starEach [e] X.env = (false, eval e X.env) :: starEach [] X.env := by rfl) (hpl : (backTo pos (starEach [] X.env)).any (·.1) = false := by rfl) :
    EvL X (.Call (.Name x p) [e] [] pos) Δ S (ivs.map fun kv => .int kv.1) := by
  subst hx
  refine ev_pe (pe_callTy (call_list_dK hc) hg hm (by decide +kernel) (pa_cons (pe_ev X e) pa_nil he) (by decide) (by decide) he hpl) fun σ G H Q a b c q' => ⟨Δ, S, _, G, h, a, b, c, fun v G1 H1 g p1 r1 => ?_⟩
  rw [At.obj_eq r1]
  obtain ⟨vs, h1, h2, hl⟩ := dK_len (hS _ _ p1)
  refine ⟨q, _, rfl, h1, fun l hl' => ?_⟩
  obtain ⟨g3, p3⟩ := layH (o := .lst ((zk ikf ivs vs).map fun kv => kV kv.1)) g p1 hl'
  refine q' _ _ _ g3 p3 ⟨l, _, rfl, none_back g hl', g.sub.free hl', upd_same, ?_⟩
  have go : ∀ (ivs : List (Int × PyData)) (vs : List V), ivs.length = vs.length → Ats X.K G1 ((zk ikf ivs vs).map fun kv => kV kv.1) (ivs.map fun kv => .int kv.1) := by
    intro ivs
    induction ivs with
    | nil => intro vs _; exact .nil
    | cons kv r ih =>
      intro vs hl
      cases vs with
      | nil => cases hl
      | cons v vs => exact .cons (.int kv.1) (ih vs (by simpa using hl))
  exact go ivs vs (by have := h2.len; rw [List.length_map] at this; omega)

/-! {k: v}, k a tuple -/
def tDisp1T (tk tv : TE) : TE := fun σ H Q => ∀ p, H p = none → tk σ (upd H p (.dT [])) fun x H1 => tv σ H1 fun y H2 => H2 p = some (.dT []) ∧ ∃ (b : Addr) (k : List L2.Key), x = .ref b ∧ H2 b = some (.tup (k.map kV)) ∧ Q (.ref p) (upd H2 p (.dT [(k, y)]))
theorem pe_disp1T {k v : Expr} {tk tv : TE} (hu : X.A.units + 1 < cLine) (hk : PE X k tk) (hv : PE X v tv) : PE X (.Dict [some k] [v] pos) (tDisp1T tk tv) := by
  refine ⟨fun pins s σ H Q I q => ?_⟩
  have hn := I.hok.fresh (Nat.le_refl s.heap.objs.size)
  have I1 := I.laid (a := s.heap.objs.size) (o := .dT []) (h' := s.heap.push { cls := .type "dict", data := .dict #[] }) (t' := s.toks) (fun _ _ q => Heap.get?_push_of_some _ q) (Nat.le_refl _) (dt_empty s.heap I.big)
  rw [arm_eval_Dict, zip_pairTrees [some k] [v] X.env pos rfl rfl, dictDisplay_pairs _ (by simp [pairTrees]) (by simp [pairTrees])]
  refine wpAny_bind (wpAny_standAt (wpAny_bind (wpAny_subDictH (knd := tupleKind (mixKind X.prog X.w)) (show X.A.units < cLine by omega) (by simp [pairTrees]) ?_)))
  refine pairTrees_cons_walk (thn (hk.run pins _ σ _ _ I1 (q _ hn)) fun kv s2 ⟨x, H1, I2, rx, q1⟩ => thn (hv.run pins s2 σ H1 _ I2 q1) fun vv s3 ⟨y, H2, I3, ry, h0, b, key, ex, hb, q2⟩ => ?_)
  subst ex
  cases (show kv = Value.ref b from rx)
  refine pairTrees_nil_walk ?_
  obtain ⟨z, hd, xs', rel, dd⟩ := dt_of I3.hok h0
  cases rel
  refine ⟨[(key, b, vv)], ⟨rfl, rfl, key_of I3.hok hb, trivial⟩, dd, fun h' tk hm hs => wpAny_pure ?_⟩
  obtain ⟨o, es, ep, hq, h2, h3, h4, _, h5⟩ := hm
  refine ⟨.ref s.heap.objs.size, _, d_write (ob := .dT [(key, y)]) (t' := tk) I3 (by rw [h0]; exact True.intro) hs ⟨o, hq⟩ ⟨by show 1 ≤ sizeLine; decide, hd, [(key, b, vv)], .cons ⟨rfl, ?_, ry⟩ .nil, o, es, ep, hq, h2, h3, h4, h5⟩, rfl, q2⟩
  show (upd H2 s.heap.objs.size (.dT [(key, y)])) b = some (.tup (key.map kV))
  rw [upd_ne (ne_of hb h0 (fun z => nomatch z))]
  exact hb
/-- name = {k: v}, a dict of tuple keys -/
theorem go_new1T {x : Str} {p' : Pos} {kx vx : Expr} (n : Nat) (hu : X.A.units + 1 < cLine) (hN : X.N.Nodup) (hk : ∀ q, ¬ S.own q → Ev X kx Δ (S.and (.dT X.K q [])) (.tuple (k.map .int))) (hv : ∀ q, ¬ S.own q → Ev X vx Δ (S.and (.dT X.K q [])) d) {rest : List Stmt} {D : EndsG} (kk : ∀ q, ¬ S.own q → Go X rest D (Δ.set n (some (ob q))) (S.and (.dT X.K q [(k, d)]))) (hi : X.N[n]? = some x := by rfl) (hx : Loc X.env.scope x := by first | exact Or.inl rfl | exact Or.inr rfl)
    (hs : swapsWith (.Dict [some kx] [vx] p) (some (.Name x p')) pos.line X.env = pure false := by rfl) (hf : X.fn x = true ∨ X.env.scope.names.lookup x = some .local := by first | exact .inl rfl | exact .inr rfl | assumption) : Go X (.Assign [.Name x p'] (.Dict [some kx] [vx] p) pos :: rest) D Δ S :=
  go_cons (ps_set hN hi hx (pe_disp1T hu (pe_ev X kx) (pe_ev X vx)) hs hf) fun σ G H D' l a b c q hq => by
    have n2 := Gr.h (H2 := upd H q (.dT [])) b (same_upd hq)
    have hO := not_own c hq
    refine ⟨Δ, _, _, G, hk q hO, a, n2.sub, ⟨S.cl n2 (same_upd hq) c, b.free hq, _, upd_same, [], rfl, .nil⟩, fun v G1 H1 g1 p1 r1 => ⟨Δ, _, _, G1, hv q hO, a.up g1.gx, g1.sub, p1, fun w G2 H2 g2 p2 r2 => ?_⟩⟩
    obtain ⟨pS, hG, o1, h1, vs, rfl, h2⟩ := p2
    cases h2
    obtain ⟨b', rfl, hb⟩ := tup_key r1
    refine ⟨h1, b', tkf k, rfl, g2.sub _ _ (g2.gx _ _ hb), l.nx _ _ ⟨G2, g1.gx.trans g2.gx, fun b2 u q2 => ?_, _, _, kk q hO, ((a.up g1.gx).up g2.gx).set (.obj q), S.stb (As.nf hO) (fun ⟨_, z⟩ => by cases z) pS hG (by rw [h1]; exact fun z => by cases z), hG, _, upd_same, [w], rfl, .one r2⟩⟩
    rw [upd_ne (ne_of_none q2 hG)]; exact g2.sub _ _ q2
end
end DL
namespace DL
open PySem PySem.Spec PyProof.Rows L2
section
variable {X : Cx} {S : As} {ds es : List PyData} {d : PyData} {a b : Expr} {Δ : De} {pos : Pos}
/-- xs + ys -/
theorem od_catL (h : ds.length + es.length ≤ 1000000) : OpD X (binaryOp .Add) S (.list ds) (.list es) (rNl X.K (ds ++ es)) :=
  ⟨_, op_cat, fun G H x y Q b c h1 h2 q => by
    cases h1 with
    | lst hs ha =>
      cases h2 with
      | lst hs' ha' =>
        refine ⟨_, _, _, _, rfl, rfl, b _ _ hs, b _ _ hs', by rw [ha.len, ha'.len]; exact Nat.le_trans h (by decide), fun p hp => ?_⟩
        obtain ⟨g2, p2⟩ := layH (o := .lst _) (.refl b) c hp
        exact q _ _ _ g2 p2 ⟨p, _, rfl, hp, b.free hp, upd_same, ha.app ha'⟩⟩
/-- [d] * n -/
theorem od_repL {n : Nat} (h : n ≤ 1000000) : OpD X (binaryOp .Mult) S (.list [d]) (.int n) (rNl X.K (List.replicate n d)) :=
  ⟨_, op_rep, fun G H x y Q b c h1 h2 q => by
    cases h1 with
    | lst hs ha =>
      cases ha with
      | @cons v vs _ _ h1 h3 =>
        cases h3
        cases h2
        refine ⟨_, _, _, rfl, rfl, b _ _ hs, by omega, by omega, by simp; exact Nat.le_trans h (by decide), fun p hp => ?_⟩
        obtain ⟨g2, p2⟩ := layH (o := .lst (List.replicate (n : Int).toNat [v]).flatten) (.refl b) c hp
        refine q _ _ _ g2 p2 ⟨p, _, rfl, hp, b.free hp, upd_same, ?_⟩
        rw [Int.toNat_natCast]
        have go : ∀ n : Nat, Ats X.K G (List.replicate n [v]).flatten (List.replicate n d) := fun n => by
          induction n with
          | zero => exact .nil
          | succ n ih => rw [List.replicate_succ, List.flatten_cons, List.replicate_succ]; exact .cons h1 ih
        exact go n⟩
end
end DL
namespace DL
open PySem PySem.Spec PyProof.Rows L2
section
variable {X : Cx} {o e a b : Expr} {es : List Expr} {Δ : De} {S T : As} {R : RR} {d d1 : PyData} {ds es' : List PyData} {ns : List Str} {pos p apos cpos p' : Pos} {f : Str} {r C x : Addr} {P : PyData → Prop} {PL : List PyData → Prop} {rest : List Stmt} {D : EndsG}
theorem go_fld1 (ho : Ev X o Δ (S.and (.inst X.K x C ns ds)) (ob x)) (he : Ev X e Δ (S.and (.inst X.K x C ns ds)) d) (c : Cls X.K C) (na : NoAttr X.K C f) (hS : ¬ S.fo x) (k : Go X rest D Δ (S.and (.inst X.K x C (ns ++ [f]) (ds ++ [d])))) (hn : fIx f ns = none := by decide +kernel) (hl : ns.length < 1000 := by decide)
    (hs : swapsWith e (some (.Attribute o f p)) pos.line X.env = pure false := by rfl) : Go X (.Assign [.Attribute o f p] e pos :: rest) D Δ (S.and (.inst X.K x C ns ds)) :=
  go_fld (P := fun d' => d' = d) ho (EvR.x he rfl) c na hS (fun d' h => by rw [h]; exact k) hn hl hs
/-- {}, whatever it becomes -/
theorem evx_dict0 (h : ∀ p, P (ob p)) : EvX X (.Dict [] [] pos) Δ S P :=
  ev_pe pe_dnewK fun σ G H Q a b c q p hp => by
    have n2 := Gr.h (H2 := upd H p (.dK [])) b (same_upd hp)
    exact q _ G _ n2 (S.cl n2 (same_upd hp) c) ⟨ob p, h p, .obj p⟩
/-- o.m(e, ..), o an instance that is being made -/
theorem evx_mtM {m : Str} {k j : Nat} {pl : Sem Bool} {Pr : Hp → List PyData → As → RR → Prop} (c : C8.Met X.prog X.w X.K X.mg X.base k C m (spM X.K Pr) []) (hr : Room j X.A) (ho : Ev X o Δ S (ob r)) (hi : S.le (.inst X.K r C ns ds)) (ha : EvAX X (e :: es) Δ S PL) (hT : Has S T) (hP : ∀ G H ds', PL ds' → S.p G H → Pr G (ob r :: ds') T (rAnd T R))
    (hR : Back R := by first | exact back_x | exact back_at | exact back_nl) (hm : fIx m ns = none := by decide +kernel) (hk : k ≤ j := by decide)
    (hst : starEach (e :: es) X.env = (false, eval e X.env) :: starEach es X.env := by rfl) (hpl : (backTo pos (starEach es X.env)).any (·.1) = false := by rfl)
    (ht : eval (.Call (.Attribute o m apos) (e :: es) [] pos) X.env = (do
      let ov ← eval o X.env
      standAt apos.atName
      let (f, first) ← holding [ov] (getMethod ov m pl)
      callWith pos f first (backTo pos (starEach (e :: es) X.env)) (backToKw pos (keywordEach [] X.env))) := by rfl) :
    EvR X (.Call (.Attribute o m apos) (e :: es) [] pos) Δ S R := by
  obtain ⟨S', h1, h2, h3⟩ := hT
  exact ev_pe (C8.pe_mt (pl := pl) c hr hk (pe_ev X o) (pa_evx X _) hst hpl ht) fun σ G H Q a' b c' q => ⟨Δ, S, _, G, ho, a', b, c', fun v G1 H1 g p1 r1 => by
    obtain ⟨_, o1, e1, dx, fs, rfl, e2, e3⟩ := hi _ _ p1
    refine ⟨r, dx, fs, At.obj_eq r1, e1, fIx_none (by rw [e2]; exact hm), Δ, S, PL, G1, ha, a'.up g.gx, g.sub, p1, fun vs ds' G2 H2 z g2 p2 r2 => ?_⟩
    show spM X.K Pr (v :: (vs ++ [])) H2 Q E0
    rw [List.append_nil]
    exact ⟨G2, ob r :: ds', T, _, g2.sub, .cons (r1.up g2.gx) r2, (h1 _ _ p2).2, hP _ _ ds' z p2, fun v G3 H3 g3 s3 ⟨t3, r3⟩ => q v G3 H3 ((g.trans g2).trans g3) (h2 _ _ ⟨S'.fr g3 (fun a o n k => s3 a o (h3 a n) k) (h1 _ _ p2).1, t3⟩) (hR _ _ _ _ _ _ _ (g.trans g2) r3)⟩⟩
/-- o.m(e, ..), o known, what it changes is kept -/
theorem evx_mtK {m : Str} {k j : Nat} {pl : Sem Bool} {Pr : Hp → List PyData → As → RR → Prop} (c : C8.Met X.prog X.w X.K X.mg X.base k C m (spM X.K Pr) []) (hr : Room j X.A) (ho : Ev X o Δ S (insD r C ns ds)) (ha : EvAX X (e :: es) Δ S PL) (hT : Has S T) (hP : ∀ G H ds', PL ds' → S.p G H → Pr G (insD r C ns ds :: ds') T (rAnd T R))
    (hR : Back R := by first | exact back_x | exact back_at | exact back_nl) (hm : fIx m ns = none := by decide +kernel) (hk : k ≤ j := by decide)
    (hst : starEach (e :: es) X.env = (false, eval e X.env) :: starEach es X.env := by rfl) (hpl : (backTo pos (starEach es X.env)).any (·.1) = false := by rfl)
    (ht : eval (.Call (.Attribute o m apos) (e :: es) [] pos) X.env = (do
      let ov ← eval o X.env
      standAt apos.atName
      let (f, first) ← holding [ov] (getMethod ov m pl)
      callWith pos f first (backTo pos (starEach (e :: es) X.env)) (backToKw pos (keywordEach [] X.env))) := by rfl) :
    EvR X (.Call (.Attribute o m apos) (e :: es) [] pos) Δ S R := by
  obtain ⟨S', h1, h2, h3⟩ := hT
  exact ev_pe (C8.pe_mt (pl := pl) c hr hk (pe_ev X o) (pa_evx X _) hst hpl ht) fun σ G H Q a' b c' q => ⟨Δ, S, _, G, ho, a', b, c', fun v G1 H1 g p1 r1 => by
    obtain ⟨rfl, dx, fs, e1, e2, e3⟩ := r1.ins_inv
    refine ⟨r, dx, fs, rfl, g.sub _ _ e1, fIx_none (by rw [e2]; exact hm), Δ, S, PL, G1, ha, a'.up g.gx, g.sub, p1, fun vs ds' G2 H2 z g2 p2 r2 => ?_⟩
    show spM X.K Pr (V.ref r :: (vs ++ [])) H2 Q E0
    rw [List.append_nil]
    exact ⟨G2, _ :: ds', T, _, g2.sub, .cons (r1.up g2.gx) r2, (h1 _ _ p2).2, hP _ _ ds' z p2, fun v G3 H3 g3 s3 ⟨t3, r3⟩ => q v G3 H3 ((g.trans g2).trans g3) (h2 _ _ ⟨S'.fr g3 (fun a o n k => s3 a o (h3 a n) k) (h1 _ _ p2).1, t3⟩) (hR _ _ _ _ _ _ _ (g.trans g2) r3)⟩⟩
/-- name = o.m() -/
theorem go_setMt0 {m y : Str} {k j : Nat} {pl : Sem Bool} {Pr : Hp → List PyData → As → RR → Prop} (i : Nat) (c : C8.Met X.prog X.w X.K X.mg X.base k C m (spM X.K Pr) []) (hr : Room j X.A) (ho : Ev X o Δ (S.and T) (insD r C ns ds)) (hT : ∀ a, S.fo a → ¬ T.fo a) (hP : ∀ G H, (S.and T).p G H → Pr G [insD r C ns ds] T R) (hN : X.N.Nodup)
    (kk : ∀ G H v G2 H2, S.p G2 H2 → R G H v G2 H2 → ∃ d S', At X.K G2 v d ∧ S'.p G2 H2 ∧ Go X rest D (Δ.set i (some d)) S') (hm : fIx m ns = none := by decide +kernel) (hk : k ≤ j := by decide)
    (ht : eval (.Call (.Attribute o m apos) [] [] cpos) X.env = (do
      let ov ← eval o X.env
      standAt apos.atName
      let (f, first) ← holding [ov] (getMethod ov m pl)
      callWith cpos f first (backTo cpos (starEach [] X.env)) (backToKw cpos (keywordEach [] X.env))) := by rfl)
    (hi : X.N[i]? = some y := by rfl) (hx : Loc X.env.scope y := by first | exact Or.inl rfl | exact Or.inr rfl)
    (hs : swapsWith (.Call (.Attribute o m apos) [] [] cpos) (some (.Name y p')) pos.line X.env = pure false := by rfl) (hf : X.fn y = true ∨ X.env.scope.names.lookup y = some .local := by first | exact .inl rfl | exact .inr rfl | assumption) :
    Go X (.Assign [.Name y p'] (.Call (.Attribute o m apos) [] [] cpos) pos :: rest) D Δ (S.and T) :=
  go_cons (ps_set hN hi hx (C8.pe_mt0 (pl := pl) c hr hk (pe_ev X o) ht) hs hf) fun σ G H D' l a b c' => ⟨Δ, _, _, G, ho, a, b, c', fun v G1 H1 g p1 r1 => by
    obtain ⟨rfl, dx, fs, e1, e2, e3⟩ := r1.ins_inv
    refine ⟨r, dx, fs, rfl, g.sub _ _ e1, fIx_none (by rw [e2]; exact hm), ?_⟩
    refine ⟨G1, _, T, R, g.sub, .one r1, p1.2, hP _ _ p1, fun v G2 H2 g2 s2 r2 => ?_⟩
    obtain ⟨d, S', h1, h2, h3⟩ := kk _ _ _ _ _ (S.fr g2 (fun a o n k => s2 a o (hT a n) k) p1.1) r2
    exact l.nx _ _ ⟨G2, g.gx.trans g2.gx, g2.sub, _, S', h3, (a.up (g.gx.trans g2.gx)).set h1, h2⟩⟩
/-- name = C(e, ..), an instance that is known then, with what it holds -/
theorem go_setMk {n y : Str} {k j : Nat} {Pr : Hp → List PyData → As → RR → Prop} {Rm : Addr → RR} (i : Nat) (c : C8.Mak X.prog X.w X.K X.mg X.base k n C (spM X.K Pr) []) (hr : Room j X.A) (hg : Gl X n) (ha : EvA X (e :: es) Δ S ds) (hP : ∀ G H, S.p G H → ∀ a, Pr G (ob a :: ds) (.inst X.K a C [] []) (Rm a)) (hN : X.N.Nodup)
    (kk : ∀ a G H v G2 H2, ¬ S.own a → (∀ b, H b = none → ¬ S.own b) → S.p G2 H2 → Rm a G H v G2 H2 → v = .non ∧ ∃ ns ds' S', ¬ S'.own a ∧ S'.p G2 H2 ∧ (As.inst X.K a C ns ds').p G2 H2 ∧ Go X rest D (Δ.set i (some (insD a C ns ds'))) S') (hk : k + 1 ≤ j := by decide)
    (hdb : (n == ("__debug__" : Str)) = false := by decide) (he : starEach (e :: es) X.env = (false, eval e X.env) :: starEach es X.env := by rfl) (hpl : (backTo cpos (starEach es X.env)).any (·.1) = false := by rfl)
    (hi : X.N[i]? = some y := by rfl) (hx : Loc X.env.scope y := by first | exact Or.inl rfl | exact Or.inr rfl)
    (hs : swapsWith (.Call (.Name n p) (e :: es) [] cpos) (some (.Name y p')) pos.line X.env = pure false := by rfl) (hf : X.fn y = true ∨ X.env.scope.names.lookup y = some .local := by first | exact .inl rfl | exact .inr rfl | assumption) :
    Go X (.Assign [.Name y p'] (.Call (.Name n p) (e :: es) [] cpos) pos :: rest) D Δ S :=
  go_cons (ps_set hN hi hx (C8.pe_mk c hr hk hg (pa_ev X _) hdb he hpl) hs hf) fun σ G H D' l a b c' => ⟨Δ, S, ds, G, ha, a, b, c', fun vs G1 H1 g p1 r1 z dx hy hdx hne => by
    show spM X.K Pr (V.ref z :: (vs ++ [])) _ _ _
    rw [List.append_nil]
    have s1 : Same H1 (upd H1 dx (.own z)) := same_upd hdx
    have hy2 : upd H1 dx (.own z) z = none := by rw [upd_ne (Ne.symm hne)]; exact hy
    have s2 : Same H1 (upd (upd H1 dx (.own z)) z (.ins C dx [])) := s1.trans (same_upd hy2)
    have gr : Gr G1 H1 G1 (upd (upd H1 dx (.own z)) z (.ins C dx [])) := Gr.h g.sub s2
    have hGy : G1 z = none := g.sub.free hy
    refine ⟨G1, ob z :: ds, As.inst X.K z C [] [], Rm z, g.sub.trans s2, .cons (.obj z) r1, ⟨hGy, _, upd_same, dx, [], rfl, rfl, .nil⟩, hP _ _ p1 z, fun v G2 H2 g2 fr r2 => ?_⟩
    have pS2 : S.p G2 H2 := S.fr g2 (fun b o n k => fr b o (fun hb => by
      have hb : b = z := hb
      subst hb
      exact not_own p1 hy (S.fo_own n)) k) (S.cl gr s2 p1)
    obtain ⟨hv, ns, ds', S', n1, n2, ⟨hG2, o2, e1, dx2, fs, e2, e3, e4⟩, n4⟩ := kk z _ _ v G2 H2 (not_own p1 hy) (fun b hb => not_own (S.cl gr s2 p1) hb) pS2 r2
    subst e2 e3
    refine ⟨hv, l.nx _ _ ⟨upd G2 z (.ins C dx2 fs), (g.gx.trans g2.gx).trans (same_upd hG2), fun b' u w => ?_, _, S', n4, ((a.up (g.gx.trans g2.gx)).up (same_upd hG2)).set (.ins upd_same (e4.up (same_upd hG2))), S'.frz n1 n2 hG2 e1⟩⟩
    by_cases hb : b' = z
    · subst hb; rw [upd_same] at w; cases w; exact e1
    · rw [upd_ne hb] at w; exact g2.sub b' u w⟩
/-- a, b = e1, {} -/
theorem go_parK {x y : Str} {px py pt pt2 pd : Pos} {kt k2} (i j : Nat) (ha : Ev X a Δ S d1) (hc : X.calm = true) (hN : X.N.Nodup) (k : ∀ q : Addr, ¬ S.own q → Go X rest D ((Δ.set i (some d1)).set j (some (ob q))) (S.and (.dK X.K q []))) (hij : i ≠ j := by decide) (hi : X.N[i]? = some x := by rfl) (hj : X.N[j]? = some y := by rfl)
    (hx : X.env.scope.names.lookup x = some .local := by rfl) (hy : X.env.scope.names.lookup y = some .local := by rfl) (hw : swappedStores [.Tuple [.Name x px, .Name y py] kt pt] (.Tuple [a, .Dict [] [] pd] k2 pt2) X.env = pure (some [x, y]) := by rfl)
    (hs : swapsWithSole [.Tuple [.Name x px, .Name y py] kt pt] (.Tuple [a, .Dict [] [] pd] k2 pt2) pos.line X.env = pure false := by rfl) (hs1 : starEach [a, .Dict [] [] pd] X.env = (false, eval a X.env) :: starEach [.Dict [] [] pd] X.env := by rfl) (hs2 : starEach [.Dict [] [] pd] X.env = (false, eval (.Dict [] [] pd) X.env) :: starEach [] X.env := by rfl) :
    Go X (.Assign [.Tuple [.Name x px, .Name y py] kt pt] (.Tuple [a, .Dict [] [] pd] k2 pt2) pos :: rest) D Δ S :=
  go_cons (ps_par hc hN hi hj hij hx hy (pa_cons (pe_ev X a) (pa_cons pe_dnewK pa_nil hs2) hs1) hw hs) fun σ G H D' l a' b' c' => ⟨Δ, S, _, G, ha, a', b', c', fun v G1 H1 g1 p1 r1 q hq => by
    have n2 := Gr.h (H2 := upd H1 q (.dK [])) g1.sub (same_upd hq)
    exact ⟨v, _, rfl, l.nx _ _ ⟨G1, g1.gx, n2.sub, _, _, k q (not_own p1 hq), ((a'.up g1.gx).set r1).set (.obj q), S.cl n2 (same_upd hq) p1, g1.sub.free hq, _, upd_same, [], rfl, .nil⟩⟩⟩
theorem eqv_ints (xs ys : List Int) : PyData.eqv (.list (xs.map .int)) (.list (ys.map .int)) = decide (xs = ys) := by
  have go : ∀ xs ys : List Int, PyData.eqvAll (xs.map .int) (ys.map .int) = decide (xs = ys) := by
    intro xs
    induction xs with
    | nil => intro ys; cases ys <;> simp [PyData.eqvAll]
    | cons x xs ih =>
      intro ys
      cases ys with
      | nil => simp [PyData.eqvAll]
      | cons y ys =>
        rw [List.map_cons, List.map_cons, PyData.eqvAll, ih]
        have : PyData.eqv (.int x) (.int y) = decide (x = y) := by
          rw [PyData.eqv]
          by_cases h : x = y <;> simp [h]
        rw [this]
        by_cases h : x = y <;> simp [h]
  rw [PyData.eqv]
  exact go xs ys
end
end DL
namespace DL
open PySem PySem.Spec PyProof.Rows L2
section
variable {X : Cx} {e : Expr} {Δ : De} {S : As} {apos cpos tpos : Pos}
theorem it_itemsKX {PI : List (Int × PyData) → Prop} {elts : List Expr} {kk : Nat} (h : EvR X e Δ S fun G H v G2 H2 => ∃ ivs, PI ivs ∧ rDK X.K ivs G H v G2 H2) (hbase : attributeBase e "items" X.env (eval e X.env) = eval e X.env := by rfl) (hline : (apos.endLine == cpos.line) = true := by rfl) :
    ItDX X (.Tuple elts kk tpos) (.Call (.Attribute e "items" apos) [] [] cpos) Δ S fun ds => ∃ ivs, PI ivs ∧ ds = ivs.map fun kv => .tuple [.int kv.1, kv.2] :=
  ⟨_, pi_items (pe_ev X e) hbase hline, fun σ G H R a b c q => ⟨Δ, S, _, G, h, a, b, c, fun v G1 H1 g p1 ⟨ivs, hPI, d, e1, od, vs, h1, h2⟩ => by
    subst e1
    have hl : (zk ikf ivs vs).length = ivs.length := zk_len (by have := h2.len; rw [List.length_map] at this; omega)
    refine ⟨d, od, _, rfl, g.sub _ _ h1, q _ _ G1 H1 ⟨ivs, hPI, rfl⟩ g p1 ⟨fun G2 H2 s1 s2 => ⟨s2 _ _ (s1 _ _ h1), by rw [hl, List.length_map]; exact Nat.le_refl _⟩, fun i d2 G2 H2 s1 s2 e2 => ?_⟩⟩
    rw [List.getElem?_map] at e2
    cases w : ivs[i]? with
    | none => rw [w] at e2; cases e2
    | some kv =>
      rw [w] at e2
      cases e2
      obtain ⟨u, f1, f2⟩ := zk_at (f := ikf) h2 w
      refine ⟨⟨s2 _ _ (s1 _ _ h1), (List.getElem?_eq_some_iff.mp f1).1⟩, fun x H' y => ?_⟩
      obtain ⟨T, k, u', e3, rfl, hT, rfl⟩ := y
      rw [f1] at e3
      cases e3
      exact ⟨upd G2 T (.tup [.int kv.1, u]), .new s2 hT, same_upd hT, .tup upd_same (.cons (.int _) (.one ((f2.up s1).up (same_upd (s2.free hT)))))⟩⟩⟩
end
end DL
namespace DL
open PySem PySem.Spec PyProof.Rows L2
section
variable {X : Cx} {e elt tg iter : Expr} {Δ : De} {S : As} {pos p : Pos} {i j : Int}
theorem od_pow (h : CPow i j) : OpD X (binaryOp .Pow) S (.int i) (.int j) (rAt X.K (.int (i ^ j.toNat))) := opd_C op_pow h fun _ => .int _
theorem itx_xx {P P' : List PyData → Prop} (h : ItDX X tg iter Δ S P) (k : ∀ ds, P ds → P' ds) : ItDX X tg iter Δ S P' := by
  obtain ⟨wi, h1, h2⟩ := h
  exact ⟨wi, h1, fun σ G H R a b c q => h2 σ G H R a b c fun ds J G1 H1 z g p w => q ds J G1 H1 (k ds z) g p w⟩
def intTo (m : Int) (d : PyData) : Prop := ∃ i : Int, d = .int i ∧ 0 ≤ i ∧ i < m
theorem itx_rng {m : Int} (hg : Gl X "range") (hm : X.mg "range" = none) (h : EvX X e Δ S (intTo m)) (h2 : m ≤ 2 ^ 62) (hs' : starEach [e] X.env = (false, eval e X.env) :: starEach [] X.env := by rfl) (hs : starEach [e] X.env = [(false, eval e X.env)] := by rfl) :
    ItDX X tg (.Call (.Name "range" p) [e] [] pos) Δ S fun ds => ∃ xs : List Nat, (∃ n : Nat, xs = List.range n ∧ (n : Int) < m) ∧ ds = xs.map fun k : Nat => .int (k : Int) :=
  itx_xx (itx_range1 (PN := fun n => (n : Int) < m) hg hm (EvR.xx h fun d ⟨i, hd, h0, h1⟩ => ⟨i.toNat, by rw [hd, Int.toNat_of_nonneg h0], by omega, by omega⟩) hs' hs) fun ds ⟨n, hn, hd⟩ => ⟨List.range n, ⟨n, rfl, hn⟩, hd⟩
/-- over a list that is told by a property -/
theorem itx_list {α : Type} {enc : α → PyData} {PX : List α → Prop} {P : PyData → Prop} (h : EvX X e Δ S P) (k : ∀ d, P d → ∃ xs : List α, PX xs ∧ d = .list (xs.map enc)) : ItDX X tg e Δ S fun ds => ∃ xs, PX xs ∧ ds = xs.map enc :=
  ⟨_, pi_list (pe_ev X e), fun σ G H R a b c q => ⟨Δ, S, _, G, h, a, b, c, fun v G1 H1 g p ⟨d, hd, r⟩ => by
    obtain ⟨xs, hX, rfl⟩ := k d hd
    cases r with
    | lst hs hd =>
      have hs : SqL X.K G1 _ _ := SqL.of hs
      refine ⟨_, rfl, ⟨_, g.sub.seq hs⟩, q _ _ G1 H1 ⟨xs, hX, rfl⟩ g p ⟨fun G2 H2 s1 s2 => ⟨_, s2.seq (s1.seq hs), by rw [hd.len]; exact Nat.le_refl _⟩, fun i d G2 H2 s1 s2 e1 => ?_⟩⟩
      obtain ⟨v, f1, f2⟩ := hd.get e1
      refine ⟨⟨_, v, s2.seq (s1.seq hs), f1⟩, fun x H' y => ?_⟩
      obtain ⟨rfl, y⟩ := y
      have := y _ (s2.seq (s1.seq hs))
      rw [f1] at this; cases this
      exact ⟨G2, .refl s2, Same.refl _, f2.up s1⟩⟩⟩
section
variable {ifs : List Expr} {scope : Scope} {rest : List Stmt} {D : EndsG}
/-- name = [elt for ..] on one line, a list that is told by a property and that may change -/
theorem go_setLcM {PL : List PyData → Prop} {y : Str} {py : Pos} {own : List (Str × Nat)} {spos : Pos} (i : Nat) (h : LcR X elt tg iter ifs own scope Δ S (rXl X.K PL)) (hc : X.calm = true) (hN : X.N.Nodup) (k : ∀ (q : Addr) (ds : List PyData), ¬ S.own q → PL ds → Go X rest D (Δ.set i (some (ob q))) (S.and (.acc X.K q ds))) (hy : X.N[i]? = some y := by rfl) (hyl : X.env.scope.names.lookup y = some .local := by rfl)
    (hsw : swapsWith (.ListComp elt [⟨tg, iter, ifs, 0⟩] scope pos) (some (.Name y py)) spos.line X.env = pure true := by rfl) (hs : ∀ x, foldedSetIterable iter X.env x = pure x := by intro _; rfl) :
    Go X (.Assign [.Name y py] (.ListComp elt [⟨tg, iter, ifs, 0⟩] scope pos) spos :: rest) D Δ S :=
  go_setLc i h hc hN (fun G H v G2 H2 c g p ⟨ds, hds, q, xs, e1, e2, e3, e4, e5⟩ => by
    subst e1
    exact ⟨ob q, S.and (.acc X.K q ds), G2, .obj q, Same.refl _, g.sub, ⟨p, e3, xs, e4, e5⟩, k q ds (not_own c e2) hds⟩) hy hyl hsw hs
end
end
end DL
namespace DL
open PySem PySem.Spec PyProof.Rows L2
/-- what the row asks of the run -/
def EndsTrue (st : Shared) (r : Except Value Flow) (t : Shared) : Prop := r = .ok (.ret (.bool true)) ∧ OldK st.heap t.heap ∧ t.os = st.os ∧ AllBare t.gens
/-- the law's own call, for a def that wants to know that no guard stands -/
theorem run_law {P : Program} {w : World} {K : PySem.W.Frag} {mg mb : Str → Option Value} {sp : Sp} {fd : FuncData} {st : Shared} {fa a : Addr} {x : Str} {k : Nat} {us : List Value} {ns : List Int} (kin : K.In st.heap) (g1 : st.heap.Ns mainGlobals mg) (g2 : st.heap.Ns builtinsNs mb) (g3 : ∀ y : Str, y ≠ "__name__" → mb y = bootBuiltins y) (g4 : st.heap.NoLimit) (g5 : st.gens = #[])
    (ao : st.heap.get? a = some { cls := .type "list", data := .seq us.toArray }) (areI : IntsAre us ns) (few : ns.length ≤ sizeLine) (room : Room k callerA) (F : ∀ b0 : Heap, K.In b0 → b0.Ns mainGlobals mg → FnG P w K mg b0 k fa fd [x] sp) (bind : ∀ (s : Shared) (u : Value), BindsTo s fd ⟨[u], []⟩ [(x, u)])
    (hsp : ∀ T : Hp, SqL K T a (ns.map V.int) → sp [.ref a] T (fun v _ => v = .bl true) fun _ _ _ => False) : codeAny (model P w) callerA (.call (.ref fa) ⟨[.ref a], []⟩) (EndsTrue st) st := by
  have lens := areI.length
  have vals := vals_ints areI
  obtain ⟨T, hT⟩ : ∃ T : Hp, ∀ b, T b = if b = a ∧ K.lookup a = none then some (.frz { cls := .type "list", data := .seq us.toArray } (.lst (ns.map V.int))) else none := ⟨_, fun _ => rfl⟩
  have only : ∀ {b u}, T b = some u → b = a ∧ K.lookup a = none ∧ u = .frz { cls := .type "list", data := .seq us.toArray } (.lst (ns.map V.int)) := by
    intro b u e
    rw [hT] at e
    split at e
    · rename_i h; exact ⟨h.1, h.2, (Option.some.inj e).symm⟩
    · cases e
  have tracked : HOk P w T st.heap := by
    intro b u e
    obtain ⟨rfl, _, rfl⟩ := only e
    exact ⟨ao, by rw [List.length_map]; exact few, us, _, vals, ao⟩
  have below : ∀ {b : Addr} {o : Obj}, T b = none → st.heap.get? b = some o → (hidT st.heap T).get? b = some o := fun n e => hidT_get e n
  have names : ∀ {b : Addr} {m : Str → Option Value}, st.heap.Ns b m → (hidT st.heap T).Ns b m := by
    rintro b m ⟨o, es, ep, e, d, r⟩
    refine ⟨o, es, ep, below ?_ e, d, r⟩
    cases z : T b with
    | none => rfl
    | some u =>
      obtain ⟨rfl, _, _⟩ := only z
      rw [ao] at e
      cases e
      cases d
  have kin0 : K.In (hidT st.heap T) := by
    intro b o e
    refine below ?_ (kin b o e)
    cases z : T b with
    | none => rfl
    | some u =>
      obtain ⟨rfl, n, _⟩ := only z
      rw [n] at e
      cases e
  have script : SqL K T a (ns.map V.int) := by
    cases z : K.lookup a with
    | none => exact .inl (.inr ⟨{ cls := .type "list", data := .seq us.toArray }, by rw [hT, if_pos ⟨rfl, z⟩]⟩)
    | some o =>
      have e := kin a o z
      rw [ao] at e
      cases e
      refine .inr ⟨_, us.toArray, _, z, rfl, rfl, rfl, ?_, ?_⟩
      · rw [List.size_toArray, lens]; exact few
      · simpa using vals
  obtain ⟨mc, f1, f2⟩ := g4
  have hE : Env0 P w K mg (hidT st.heap T) callerA [] st T := ⟨rfl, ⟨kin0, names g1, ⟨mb, names g2, g3⟩, ⟨mc, names f1, f2⟩⟩, (fun _ _ e => of_hidT e), Nat.le_of_eq (hidT_size _ _), trivial, (fun b z => by cases z), tracked, .of_eq g5⟩
  refine codeAny_mono ((F _ kin0 (names g1)).go callerA [] st T ⟨[.ref a], []⟩ [.ref a] [.ref a] _ _ rfl room hE (bind st (.ref a)) (.cons rfl .nil) (hsp T script)) fun r t h => ?_
  cases r with
  | error e => exact h.elim
  | ok fl =>
    cases fl with
    | next => exact h.elim
    | brk => exact h.elim
    | cont => exact h.elim
    | ret u =>
      obtain ⟨v, T2, os, bare, un, ok2, rv, q⟩ := h
      have q : v = .bl true := q
      subst q
      obtain rfl : u = Value.bool true := rv
      refine ⟨rfl, OldK.of_keep fun b o e => ?_, os, bare⟩
      cases z : T b with
      | none => exact un.keep b o e z (by rintro ⟨⟩) (by simp)
      | some y =>
        obtain ⟨rfl, _, rfl⟩ := only z
        obtain ⟨e2, _⟩ := ok2 b _ (un.frzs b _ _ z)
        rw [ao] at e
        cases e
        exact e2
/-- what k_head leaves, from such a def's promise -/
theorem walkG {l : PySem.W.OpenLaw} {n k : Nat} {q : Program} {x : Str} {loose : List Str} {XP : (Str → Option Value) → Heap → Prop} {YP : World → Heap → Prop} {d : DefRec} {K : Params → PySem.W.Frag} {sp : World → Sp} (most : l.most = some n) (le : n ≤ sizeLine) (nodef : d.params.defaults = []) (room : Room k callerA) (kin : ∀ (w : World) (h : Heap), YP w h → (K w.params).In h)
    (F : ∀ (w : World) (mg : Str → Option Value) (fa : Addr) (h : Heap), (K w.params).In h → h.Ns mainGlobals mg → mg d.name = some (.ref fa) → ∃ fd : FuncData, (∀ (s : Shared) (u : Value), BindsTo s fd ⟨[u], []⟩ [(x, u)]) ∧ ∀ b0 : Heap, (K w.params).In b0 → b0.Ns mainGlobals mg → FnG l.prog w (K w.params) mg b0 k fa fd [x] (sp w))
    (hsp : ∀ (w : World) (T : Hp) (a : Addr) (ns : List Int), SqL (K w.params) T a (ns.map V.int) → sp w [.ref a] T (fun v _ => v = .bl true) fun _ _ _ => False) : PySem.W.WalkO q loose XP YP l.row.toRowW d [] (fun f vs => PySem.call f vs) := by
  refine Att.attach_call most nodef fun w s0 st mg mb fa o pm cd doc a us ns G Y ho hd hcd hmg ao areI hl hg => ?_
  obtain ⟨fd, hb, hF⟩ := F w mg fa _ (kin w _ Y) G.T.g hmg
  exact run_law (kin w _ Y) G.T.g G.T.b G.T.builtins G.T.nolimit hg ao areI (Nat.le_trans hl le) room hF hb fun T => hsp w T a ns
end DL
namespace Pk
open PySem L2 DL
def top (i : Nat) : Stmt := PySem.Challenge.pw_packedseats_k81_met_sets_by_sets.main.body.getD i (.Pass ⟨0, 0, 0, 0⟩)
def clsB : Stmt → List Stmt
  | .ClassDef (body := b) .. => b
  | _ => []
def inTop (i j : Nat) : Stmt := (clsB (top i)).getD j (.Pass ⟨0, 0, 0, 0⟩)
abbrev s_wall : Stmt := top 0
abbrev s_meets_bound : Stmt := top 2
abbrev s_meets : Stmt := top 3
abbrev s_is_integer : Stmt := top 5
abbrev s_is_between : Stmt := top 6
abbrev s_rooms_of : Stmt := top 8
abbrev s_bits_of : Stmt := top 10
abbrev s_members : Stmt := top 11
abbrev s_greatest_only : Stmt := top 13
abbrev s_different : Stmt := top 14
abbrev s_missed_by : Stmt := top 15
abbrev s_sessions_of : Stmt := top 16
abbrev s_Rounds_init : Stmt := inTop 17 0
abbrev s_Rounds_met : Stmt := inTop 17 1
abbrev s_Rounds_advance : Stmt := inTop 17 2
abbrev s_Rounds_whole : Stmt := inTop 17 3
abbrev s_Rounds_sets : Stmt := inTop 17 4
abbrev s_Rounds_plan : Stmt := inTop 17 5
abbrev s_Rounds_reference : Stmt := inTop 17 6
abbrev s_met_sets : Stmt := top 18
abbrev s_Wrong_init : Stmt := inTop 21 0
abbrev s_are_weights : Stmt := top 27
abbrev s_are_quotas : Stmt := top 28
abbrev s_Council_init : Stmt := inTop 29 0
abbrev s_Council_weights : Stmt := inTop 29 1
abbrev s_Council_quotas : Stmt := inTop 29 2
abbrev s_Council_total : Stmt := inTop 29 3
abbrev s_Council_width : Stmt := inTop 29 4
abbrev s_Council_allowance : Stmt := inTop 29 5
abbrev s_Council_mirrored : Stmt := inTop 29 6
abbrev s_Council_part : Stmt := inTop 29 7
abbrev s_Council_eq : Stmt := inTop 29 8
abbrev s_Council_len : Stmt := inTop 29 9
abbrev s_Council_repr : Stmt := inTop 29 10
abbrev s_law_bag : Stmt := top 31
abbrev s_law_take : Stmt := top 32
abbrev s_law_alike : Stmt := top 33
abbrev s_law_council : Stmt := top 34
abbrev s_law_made : Stmt := top 35
abbrev s_law_meets : Stmt := top 36
abbrev s_law_rooms : Stmt := top 37
abbrev s_law_row : Stmt := top 38
abbrev s_law_sides : Stmt := top 39
abbrev s_law_within : Stmt := top 40
abbrev s_law_seatings : Stmt := top 41
abbrev s_law_great_rows : Stmt := top 42
abbrev s_law_greatest : Stmt := top 43
abbrev s_law_met : Stmt := top 44
abbrev s_law_next_sets : Stmt := top 45
abbrev s_law_set_levels : Stmt := top 46
abbrev s_law_small_wish : Stmt := top 47
abbrev s_law_plans : Stmt := top 48
abbrev s_law_right : Stmt := top 49
abbrev s_law : Stmt := top 50
end Pk
namespace Pk
open PySem L2 DL
/-! ### data -/
structure Bd where
  col : Nat
  least : Bool
  val : Int
  deriving DecidableEq
abbrev Sd := Nat × Bool
def wayS (b : Bool) : Str := if b then "least" else "most"
theorem wayS_eq (b : Bool) : decide (wayS b = ("least" : Str)) = b := by cases b <;> decide +kernel
def bdD (b : Bd) : PyData := .tuple [.int b.col, .str (wayS b.least), .int b.val]
def sdD (s : Sd) : PyData := .tuple [.int s.1, .str (wayS s.2)]
def rowD (r : List Int) : PyData := .tuple (r.map .int)
def intsD (r : List Int) : PyData := .list (r.map .int)
def bdsD (bs : List Bd) : PyData := .list (bs.map bdD)
def sdsD (bs : List Sd) : PyData := .list (bs.map sdD)
def meetsB (r : List Int) (b : Bd) : Bool := if b.least then decide (b.val ≤ r.getD b.col 0) else decide (r.getD b.col 0 ≤ b.val)
def meetsV (r : List Int) (bs : List Bd) : Bool := bs.all (meetsB r)
/-- the names of the built-ins that the text uses -/
def bnames : List Str := ["all", "any", "range", "len", "zip", "sum", "list", "tuple", "sorted", "int", "isinstance", "bool", "abs", "max", "min", "repr", "enumerate", "set"]
abbrev BN (mg : Str → Option Value) : Prop := ∀ x ∈ bnames, mg x = none
abbrev CalP (P : Program) (w : World) (K : PySem.W.Frag) (mg : Str → Option Value) (base : Heap) (k : Nat) (x : Str) (pr : Hp → List PyData → RR → Prop) : Prop := C8.Cal P w K mg base k x (spP K pr) []
section
variable {P : Program} {w : World} {K : PySem.W.Frag} {mg : Str → Option Value} {base : Heap}
theorem sc_meets_bound : FnScope ["row", "bound", "column", "way", "value"] ["row", "bound"] (defScope s_meets_bound) := ⟨rfl, rfl, rfl, by decide +kernel, rfl, by decide +kernel, by decide +kernel⟩
def pr_meets_bound (K : PySem.W.Frag) : Hp → List PyData → RR → Prop := fun _ ds R => ∃ (r : List Int) (b : Bd), ds = [rowD r, bdD b] ∧ b.col < r.length ∧ R = rAt K (.bool (meetsB r b))
theorem ix_row {r : List Int} {c : Nat} (h : c < r.length) : atI (r.map PyData.int) (c : Int) = some (.int (r.getD c 0)) := by
  refine atI_nat' ?_
  rw [List.getElem?_map, List.getElem?_eq_getElem h]
  simp [List.getD, h]
theorem ok_meets_bound {f : Addr} {fd : FuncData} (F : Fun K "meets_bound" "meets_bound" s_meets_bound f fd) : FnOk P w K mg base CX0 1 f fd ["row", "bound"] (spP K (pr_meets_bound K)) := by
  refine fun_go F sc_meets_bound (by rintro G ds R ⟨r, b, rfl, _⟩; rfl) ?_
  rintro cdv A outer s H0 E G H ds R hr ⟨r, b, rfl, hc, rfl⟩
  refine go_asg (ev_v 1 rfl) (tg_tup sc_meets_bound.nd rfl (nm_cons 2 (nm_cons 3 (nm_cons 4 .nil)))) ?_
  refine go_if ((evt_cmp od_eqS (ev_v 3 rfl) ev_str).is (wayS_eq _)) (fun h => ?_) (fun h => ?_)
  · refine go_retP (EvR.is (ev_cmp od_ge (ev_ix (ixd_tup (ix_row hc)) (ev_v 0 rfl) (ev_v 2 rfl)) (ev_v 4 rfl)) ?_) as_l
    unfold meetsB
    rw [if_pos h]
  · refine go_nil' ?_
    refine go_retP (EvR.is (ev_cmp od_le (ev_ix (ixd_tup (ix_row hc)) (ev_v 0 rfl) (ev_v 2 rfl)) (ev_v 4 rfl)) ?_) as_l
    unfold meetsB
    rw [if_neg (by rw [h]; decide)]
theorem sc_meets : FnScope ["row", "wish", "bound"] ["row", "wish"] (defScope s_meets) := ⟨rfl, rfl, rfl, by decide +kernel, rfl, by decide +kernel, by decide +kernel⟩
def pr_meets (K : PySem.W.Frag) : Hp → List PyData → RR → Prop := fun _ ds R => ∃ (r : List Int) (bs : List Bd), ds = [rowD r, bdsD bs] ∧ bs.length ≤ 1000 ∧ (∀ b ∈ bs, b.col < r.length) ∧ R = rAt K (.bool (meetsV r bs))
theorem ok_meets {f : Addr} {fd : FuncData} (F : Fun K "meets" "meets" s_meets f fd) (B : BN mg) (c1 : CalP P w K mg base 1 "meets_bound" (pr_meets_bound K)) : FnOk P w K mg base CX0 2 f fd ["row", "wish"] (spP K (pr_meets K)) := by
  refine fun_go F sc_meets (by rintro G ds R ⟨r, b, rfl, _⟩; rfl) ?_
  rintro cdv A outer s H0 E G H ds R hr ⟨r, bs, rfl, hl, hc, rfl⟩
  refine go_rt rfl as_l (ev_all rfl rfl rfl (B "all" (by decide +kernel)) (EvR.frz ?_))
  exact evl_map [("bound", 2)] _ (fun b Δ => Δ.set 2 (some (bdD b))) (it_list (ev_v 1 rfl)) rfl sc_meets.nd (blkOk_by (N := ["row", "wish", "bound"]) (sc := defScope s_meets) (by decide +kernel)) (by omega) (is := [2]) (by decide) (fun b hb => fun _ _ _ _ _ => tg_name 2 sc_meets.nd)
      (fun D es hD b hb => fun _ _ _ _ _ => ev_c c1 hr rfl (ea_cons (ev_v 0 rfl) (ea_cons (ev_v 2 rfl) ea_nil)) (fun _ _ _ => ⟨r, b, rfl, hc b hb, rfl⟩))
end
end Pk
namespace Pk
open PySem L2 DL
abbrev CalM (P : Program) (w : World) (K : PySem.W.Frag) (mg : Str → Option Value) (base : Heap) (k : Nat) (x : Str) (pr : Hp → List PyData → As → RR → Prop) : Prop := C8.Cal P w K mg base k x (spM K pr) []
abbrev CalB (P : Program) (w : World) (K : PySem.W.Frag) (mg : Str → Option Value) (base : Heap) (k : Nat) (x : Str) (pr : Hp → List PyData → RR → Prop) : Prop := C8.Cal P w K mg base k x (spB K pr) []
abbrev MetP (P : Program) (w : World) (K : PySem.W.Frag) (mg : Str → Option Value) (base : Heap) (k : Nat) (C : Addr) (x : Str) (pr : Hp → List PyData → RR → Prop) : Prop := C8.Met P w K mg base k C x (spP K pr) []
section
variable {P : Program} {w : World} {K : PySem.W.Frag} {mg : Str → Option Value} {base : Heap}
/-! ### whole numbers -/
theorem sc_is_integer : FnScope ["thing"] ["thing"] (defScope s_is_integer) := ⟨rfl, rfl, rfl, by decide +kernel, rfl, by decide +kernel, by decide +kernel⟩
def pr_is_integer (K : PySem.W.Frag) : Hp → List PyData → RR → Prop := fun _ ds R => ∃ i : Int, ds = [.int i] ∧ R = rAt K (.bool true)
theorem ok_is_integer {f : Addr} {fd : FuncData} (F : Fun K "is_integer" "is_integer" s_is_integer f fd) (B : BN mg) : FnOk P w K mg base CX0 1 f fd ["thing"] (spP K (pr_is_integer K)) := by
  refine fun_go F sc_is_integer (by rintro G ds R ⟨i, rfl, _⟩; rfl) ?_
  rintro cdv A outer s H0 E G H ds R hr ⟨i, rfl, rfl⟩
  refine go_rt rfl as_l (ev_and (k := true) (k' := true) (ev_isi (t := "int") (tn := "int") rfl rfl (B _ (by decide +kernel)) rfl (B _ (by decide +kernel)) (by decide +kernel) (ev_v 0 rfl) rfl (by decide +kernel)) fun _ => ev_one ?_)
  exact ev_not (k := false) (ev_isi (t := "int") (tn := "bool") rfl rfl (B _ (by decide +kernel)) rfl (B _ (by decide +kernel)) (by decide +kernel) (ev_v 0 rfl) rfl (by decide +kernel))
theorem sc_is_between : FnScope ["thing", "least", "greatest"] ["thing", "least", "greatest"] (defScope s_is_between) := ⟨rfl, rfl, rfl, by decide +kernel, rfl, by decide +kernel, by decide +kernel⟩
def pr_is_between (K : PySem.W.Frag) : Hp → List PyData → RR → Prop := fun _ ds R => ∃ i l g : Int, ds = [.int i, .int l, .int g] ∧ R = rAt K (.bool (decide (l ≤ i) && decide (i ≤ g)))
theorem ok_is_between {f : Addr} {fd : FuncData} (F : Fun K "is_between" "is_between" s_is_between f fd) (c1 : CalP P w K mg base 1 "is_integer" (pr_is_integer K)) : FnOk P w K mg base CX0 2 f fd ["thing", "least", "greatest"] (spP K (pr_is_between K)) := by
  refine fun_go F sc_is_between (by rintro G ds R ⟨i, l, g, rfl, _⟩; rfl) ?_
  rintro cdv A outer s H0 E G H ds R hr ⟨i, l, g, rfl, rfl⟩
  refine go_rt rfl as_l (ev_and (k := true) (ev_c c1 hr rfl (ea_cons (ev_v 0 rfl) ea_nil) fun _ _ _ => ⟨i, rfl, rfl⟩) fun _ => ev_one ?_)
  exact ev_chain od_le (fun _ => od_le) ⟨_, op_le⟩ (ev_v 1 rfl) (ev_v 0 rfl) (ev_v 2 rfl)
/-! ### bits -/
def bitsV (n : Nat) : List Int := (List.range n).map fun k => (2 : Int) ^ k
theorem bitsV_len (n : Nat) : (bitsV n).length = n := by simp [bitsV]
theorem sc_bits_of : FnScope ["many", "found", "index"] ["many"] (defScope s_bits_of) := ⟨rfl, rfl, rfl, by decide +kernel, rfl, by decide +kernel, by decide +kernel⟩
def pr_bits_of (K : PySem.W.Frag) : Hp → List PyData → RR → Prop := fun _ ds R => ∃ n : Nat, ds = [.int n] ∧ n ≤ 10000 ∧ R = rNl K ((bitsV n).map .int)
theorem ok_bits_of {f : Addr} {fd : FuncData} (F : Fun K "bits_of" "bits_of" s_bits_of f fd) (B : BN mg) : FnOk P w K mg base CX0 1 f fd ["many"] (spP K (pr_bits_of K)) := by
  refine fun_go F sc_bits_of (by rintro G ds R ⟨n, rfl, _⟩; rfl) ?_
  rintro cdv A outer s H0 E G H ds R hr ⟨n, rfl, hn, rfl⟩
  have hu := hr.units
  refine go_setL 1 (evl_lst ea_nil) sc_bits_of.nd fun q hq => ?_
  have hqH : H q = none := fresh_ext fun z => hq (.inl z)
  refine go_for (α := Nat) (xs := List.range n) (enc := fun k => .int (k : Int)) (is := [2]) (fun k Δ => Δ.set 2 (some (.int (k : Int)))) (it_rng rfl (B _ (by decide +kernel)) (ev_v 0 rfl) (by omega)) (fun k hk => tg_name 2 sc_bits_of.nd) rfl PassesOwn.never
    (fun i Δ' S' => ∃ o, Δ' = [some (.int n), some (ob q), o] ∧ S' = (((As.ext G H).and (.fact (Same G) fun _ _ e h => h.trans e)).and (.acc K q ((bitsV i).map .int)))) ⟨none, rfl, rfl⟩ ?_ ?_
  · rintro i k _ _ hk ⟨o, rfl, rfl⟩
    have hi : i < n := by have := (List.getElem?_eq_some_iff.mp hk).1; simpa using this
    have hke : k = i := by
      rw [List.getElem?_range hi] at hk; cases hk; rfl
    subst hke
    refine go_app (d := .int (2 ^ k)) (ev_v 1 rfl) ?_ (As.nf hq) (by simp [bitsV]; omega) ?_
    · refine ev_if (k := decide (k = 0)) (EvT.is (evt_cmpF (of_eqD hu (shaped_ints _) shaped_nil) (EvR.mu (ev_v 1 rfl) as_r) (EvR.m (EvR.frz (evl_lst ea_nil)))) ?_) (fun h => ?_) (fun h => ?_)
      · rw [eqv_nil]
        cases k with
        | zero => rfl
        | succ k => simp [bitsV, List.range_succ]
      · have : k = 0 := by simpa using h
        subst this
        exact ev_int
      · have hk0 : k ≠ 0 := by simpa using h
        refine EvR.is (ev_op (od_mul (.inl ⟨by decide, by decide⟩)) ev_int (ev_ixM (d := .int (2 ^ (k - 1))) (i := -1) as_r ?_ (ev_v 1 rfl) (ev_un ud_neg ev_int))) ?_
        · refine atI_last ?_
          rw [List.length_map, bitsV_len, List.getElem?_map]
          unfold bitsV
          rw [List.getElem?_map, List.getElem?_range (by omega)]
          rfl
        · obtain ⟨m, rfl⟩ : ∃ m, k = m + 1 := ⟨k - 1, by omega⟩
          show PyData.int (2 * 2 ^ m) = .int (2 ^ (m + 1))
          rw [Int.pow_succ, Int.mul_comm]
    · refine go_turn ⟨some (.int (k : Int)), rfl, ?_⟩
      congr 1
      unfold bitsV
      rw [List.range_succ, List.map_append, List.map_append]
      rfl
  · rintro _ _ ⟨o, rfl, rfl⟩
    rw [List.length_range]
    exact go_retA (ev_v 1 rfl) (as_and (as_l.trans as_l) as_r) hqH
/-- the items whose bit the mask has -/
def membersV {α : Type} (xs : List α) (m : Int) : List α := ((xs.zip (bitsV xs.length)).filter fun z => !decide (Builtin.bitAnd m z.2 = 0)).map (·.1)
theorem membersV_map {α β : Type} (f : α → β) (xs : List α) (m : Int) : membersV (xs.map f) m = (membersV xs m).map f := by
  unfold membersV
  rw [List.length_map, List.zip_map_left, List.filter_map, List.map_map, List.map_map]
  rfl
theorem sc_members : FnScope ["items", "mask", "item", "bit"] ["items", "mask"] (defScope s_members) := ⟨rfl, rfl, rfl, by decide +kernel, rfl, by decide +kernel, by decide +kernel⟩
def pr_members (K : PySem.W.Frag) : Hp → List PyData → RR → Prop := fun _ ds R => ∃ (xs : List PyData) (m : Int), ds = [.list xs, .int m] ∧ xs.length ≤ 10000 ∧ R = rNl K (membersV xs m)
theorem zip_enc {β : Type} (f : β → PyData) (xs : List PyData) (ys : List β) : ((xs.zip (ys.map f)).map fun z => PyData.tuple [z.1, z.2]) = (xs.zip ys).map fun z => .tuple [z.1, f z.2] := by
  rw [List.zip_map_right, List.map_map]
  rfl
theorem ok_members {f : Addr} {fd : FuncData} (F : Fun K "members" "members" s_members f fd) (B : BN mg) (c1 : CalP P w K mg base 1 "bits_of" (pr_bits_of K)) : FnOk P w K mg base CX0 2 f fd ["items", "mask"] (spP K (pr_members K)) := by
  refine fun_go F sc_members (by rintro G ds R ⟨i, m, rfl, _⟩; rfl) ?_
  rintro cdv A outer s H0 E G H ds R hr ⟨xs, m, rfl, hl, rfl⟩
  refine go_rt rfl as_l ?_
  refine evl_fil (α := PyData × Int) [("item", 2), ("bit", 3)] (fun z => !decide (Builtin.bitAnd m z.2 = 0)) (·.1) (enc := fun z => .tuple [z.1, .int z.2]) (is := [2, 3]) (fun z Δ => sets Δ [2, 3] [z.1, .int z.2]) ?_ rfl sc_members.nd (blkOk_by (N := ["items", "mask", "item", "bit"]) (sc := defScope s_members) (by decide +kernel)) ?_ (by decide) ?_ ?_ ?_
  · refine ItD.is (it_zip false false rfl (B _ (by decide +kernel)) (ev_v 0 rfl) (EvR.frz (ev_c c1 hr rfl (ea_cons (ev_len rfl rfl (B _ (by decide +kernel)) (EvR.m (ev_v 0 rfl))) ea_nil) fun _ _ _ => ⟨xs.length, rfl, hl, rfl⟩))) (zip_enc _ _ _)
  · rw [List.length_zip]; omega
  · exact fun z hz => fun _ _ _ _ _ => tg_tup sc_members.nd rfl (nm_cons 2 (nm_cons 3 .nil))
  · exact fun D es hD z hz => fun _ _ _ _ _ => evt_cmp od_neI (ev_op od_and (ev_v 1 rfl) (ev_v 3 rfl)) ev_int
  · exact fun D es hD z hz _ => fun _ _ _ _ _ => ev_v 2 rfl
end
end Pk
namespace Pk
open PySem L2 DL
/-! ### councils -/
structure Cn where
  ws : List Int
  qs : List Int
  deriving DecidableEq
structure CnOk (c : Cn) : Prop where
  w2 : 2 ≤ c.ws.length
  w7 : c.ws.length ≤ 7
  w : ∀ x ∈ c.ws, 1 ≤ x ∧ x ≤ 1000000
  q1 : 1 ≤ c.qs.length
  q6 : c.qs.length ≤ 6
  q : ∀ x ∈ c.qs, 1 ≤ x ∧ x ≤ c.ws.sum
def cnNs : List Str := ["seat_weights", "column_quotas"]
def cnD (Cc a : Addr) (c : Cn) : PyData := insD a Cc cnNs [intsD c.ws, intsD c.qs]
/-- what the walk asks of the class Council -/
structure CF (K : PySem.W.Frag) (Cc : Addr) : Prop where
  cl : Cls K Cc
  n1 : NoAttr K Cc "seat_weights"
  n2 : NoAttr K Cc "column_quotas"
def roomV (c : Cn) (s : Sd) : Int := if s.2 then c.qs.getD s.1 0 - 1 else c.ws.sum - c.qs.getD s.1 0
abbrev GI (mg : Str → Option Value) (x : Str) (i : Int) : Prop := ∃ u, mg x = some u ∧ RelV (.int i) u
section
variable {P : Program} {w : World} {K : PySem.W.Frag} {mg : Str → Option Value} {base : Heap} {Cc : Addr}
theorem ev_gi {X : Cx} {x : Str} {i : Int} {Δ : De} {S : As} {pos : Pos} (hg : Gl X x) (h : GI X.mg x i) (hd : (x == ("__debug__" : Str)) = false := by decide) : Ev X (.Name x pos) Δ S (.int i) := by
  obtain ⟨u, hm, r⟩ := h
  exact ev_gl hg hm r (fun _ _ _ => .int i) hd
theorem sc_are_weights : FnScope ["thing", "weight"] ["thing"] (defScope s_are_weights) := ⟨rfl, rfl, rfl, by decide +kernel, rfl, by decide +kernel, by decide +kernel⟩
def pr_are_weights (K : PySem.W.Frag) : Hp → List PyData → RR → Prop := fun _ ds R => ∃ ws : List Int, ds = [intsD ws] ∧ 2 ≤ ws.length ∧ ws.length ≤ 7 ∧ (∀ x ∈ ws, 1 ≤ x ∧ x ≤ 1000000) ∧ R = rAt K (.bool true)
theorem ok_are_weights {f : Addr} {fd : FuncData} (F : Fun K "are_weights" "are_weights" s_are_weights f fd) (B : BN mg) (g1 : GI mg "LEAST_SEATS" 2) (g2 : GI mg "MOST_SEATS" 7) (g3 : GI mg "MOST_WEIGHT" 1000000) (c1 : CalP P w K mg base 2 "is_between" (pr_is_between K)) : FnOk P w K mg base CX0 3 f fd ["thing"] (spP K (pr_are_weights K)) := by
  refine fun_go F sc_are_weights (by rintro G ds R ⟨i, rfl, _⟩; rfl) ?_
  rintro cdv A outer s H0 E G H ds R hr ⟨ws, rfl, h2, h7, hw, rfl⟩
  have l1 : decide ((2 : Int) ≤ ((ws.map PyData.int).length : Nat)) = true := by rw [List.length_map]; exact decide_eq_true (by omega)
  have l2 : decide (((ws.map PyData.int).length : Nat) ≤ (7 : Int)) = true := by rw [List.length_map]; exact decide_eq_true (by omega)
  refine go_if (k := false) (EvT.is (evt_w (evw_or (k := false) (k' := false) (EvT.is (evt_not (k := true) (evt_val (ev_isi (t := "list") (tn := "list") rfl rfl (B _ (by decide +kernel)) rfl (B _ (by decide +kernel)) (by decide +kernel) (ev_v 0 rfl) rfl (by decide +kernel)))) rfl) fun _ => evw_or1 (EvT.is (evt_not (evt_chain od_le (fun _ => od_le) ⟨_, op_le⟩ (ev_gi rfl g1) (ev_len rfl rfl (B _ (by decide +kernel)) (EvR.m (ev_v 0 rfl))) (ev_gi rfl g2))) (by rw [l1, l2]; rfl)))) rfl) (fun h => by cases h) (fun _ => go_nil' ?_)
  refine go_rt rfl as_l (EvR.is (ev_all (b := fun x => decide (1 ≤ x) && decide (x ≤ 1000000)) (xs := ws) rfl rfl rfl (B _ (by decide +kernel)) (EvR.frz ?_)) ?_)
  · exact evl_map [("weight", 1)] _ (fun x Δ => Δ.set 1 (some (.int x))) (it_list (ev_v 0 rfl)) rfl sc_are_weights.nd (blkOk_by (N := ["thing", "weight"]) (sc := defScope s_are_weights) (by decide +kernel)) (by omega) (is := [1]) (by decide) (fun b hb => fun _ _ _ _ _ => tg_name 1 sc_are_weights.nd)
      (fun D es hD b hb => fun _ _ _ _ _ => ev_c c1 hr rfl (ea_cons (ev_v 1 rfl) (ea_cons ev_int (ea_cons (ev_gi rfl g3) ea_nil))) (fun _ _ _ => ⟨b, 1, 1000000, rfl, rfl⟩))
  · rw [List.all_eq_true.mpr fun x hx => by simp [hw x hx]]
theorem sc_are_quotas : FnScope ["thing", "total", "quota"] ["thing", "total"] (defScope s_are_quotas) := ⟨rfl, rfl, rfl, by decide +kernel, rfl, by decide +kernel, by decide +kernel⟩
def pr_are_quotas (K : PySem.W.Frag) : Hp → List PyData → RR → Prop := fun _ ds R => ∃ (qs : List Int) (t : Int), ds = [intsD qs, .int t] ∧ 1 ≤ qs.length ∧ qs.length ≤ 6 ∧ (∀ x ∈ qs, 1 ≤ x ∧ x ≤ t) ∧ R = rAt K (.bool true)
theorem ok_are_quotas {f : Addr} {fd : FuncData} (F : Fun K "are_quotas" "are_quotas" s_are_quotas f fd) (B : BN mg) (g2 : GI mg "MOST_COLUMNS" 6) (c1 : CalP P w K mg base 2 "is_between" (pr_is_between K)) : FnOk P w K mg base CX0 3 f fd ["thing", "total"] (spP K (pr_are_quotas K)) := by
  refine fun_go F sc_are_quotas (by rintro G ds R ⟨i, t, rfl, _⟩; rfl) ?_
  rintro cdv A outer s H0 E G H ds R hr ⟨ws, t, rfl, h2, h7, hw, rfl⟩
  have l1 : decide ((1 : Int) ≤ ((ws.map PyData.int).length : Nat)) = true := by rw [List.length_map]; exact decide_eq_true (by omega)
  have l2 : decide (((ws.map PyData.int).length : Nat) ≤ (6 : Int)) = true := by rw [List.length_map]; exact decide_eq_true (by omega)
  refine go_if (k := false) (EvT.is (evt_w (evw_or (k := false) (k' := false) (EvT.is (evt_not (k := true) (evt_val (ev_isi (t := "list") (tn := "list") rfl rfl (B _ (by decide +kernel)) rfl (B _ (by decide +kernel)) (by decide +kernel) (ev_v 0 rfl) rfl (by decide +kernel)))) rfl) fun _ => evw_or1 (EvT.is (evt_not (evt_chain od_le (fun _ => od_le) ⟨_, op_le⟩ ev_int (ev_len rfl rfl (B _ (by decide +kernel)) (EvR.m (ev_v 0 rfl))) (ev_gi rfl g2))) (by rw [l1, l2]; rfl)))) rfl) (fun h => by cases h) (fun _ => go_nil' ?_)
  refine go_rt rfl as_l (EvR.is (ev_all (b := fun x => decide (1 ≤ x) && decide (x ≤ t)) (xs := ws) rfl rfl rfl (B _ (by decide +kernel)) (EvR.frz ?_)) ?_)
  · exact evl_map [("quota", 2)] _ (fun x Δ => Δ.set 2 (some (.int x))) (it_list (ev_v 0 rfl)) rfl sc_are_quotas.nd (blkOk_by (N := ["thing", "total", "quota"]) (sc := defScope s_are_quotas) (by decide +kernel)) (by omega) (is := [2]) (by decide) (fun b hb => fun _ _ _ _ _ => tg_name 2 sc_are_quotas.nd)
      (fun D es hD b hb => fun _ _ _ _ _ => ev_c c1 hr rfl (ea_cons (ev_v 2 rfl) (ea_cons ev_int (ea_cons (ev_v 1 rfl) ea_nil))) (fun _ _ _ => ⟨b, 1, t, rfl, rfl⟩))
  · rw [List.all_eq_true.mpr fun x hx => by simp [hw x hx]]
theorem sc_cinit : FnScope ["self", "weights", "quotas"] ["self", "weights", "quotas"] (defScope s_Council_init) := ⟨rfl, rfl, rfl, by decide +kernel, rfl, by decide +kernel, by decide +kernel⟩
def pr_cinit (K : PySem.W.Frag) (Cc : Addr) : Hp → List PyData → As → RR → Prop := fun _ ds T R => ∃ (a : Addr) (c : Cn), ds = [ob a, intsD c.ws, intsD c.qs] ∧ CnOk c ∧ T = As.inst K a Cc [] [] ∧ R = fun _ _ v G2 H2 => v = .non ∧ (As.inst K a Cc cnNs [intsD c.ws, intsD c.qs]).p G2 H2
theorem ok_cinit {f : Addr} {fd : FuncData} (F : Fun K "__init__" "Council.__init__" s_Council_init f fd) (B : BN mg) (C : CF K Cc) (c1 : CalP P w K mg base 3 "are_weights" (pr_are_weights K)) (c2 : CalP P w K mg base 3 "are_quotas" (pr_are_quotas K)) : FnOk P w K mg base CX0 4 f fd ["self", "weights", "quotas"] (spM K (pr_cinit K Cc)) := by
  refine fun_goM F sc_cinit (by rintro G ds T R ⟨a, c, rfl, _⟩; rfl) ?_
  rintro cdv A outer s H0 E G H ds T R hr ⟨a, c, rfl, hc, rfl, rfl⟩
  refine go_if (k := false) (evt_not (k := true) (evt_val (ev_c c1 hr rfl (ea_cons (ev_v 1 rfl) ea_nil) fun _ _ _ => ⟨c.ws, rfl, hc.w2, hc.w7, hc.w, rfl⟩))) (fun h => by cases h) (fun _ => go_nil' ?_)
  refine go_if (k := false) (evt_not (k := true) (evt_val (ev_c c2 hr rfl (ea_cons (ev_v 2 rfl) (ea_cons (ev_sum (xs := c.ws) (f := id) rfl rfl rfl (B _ (by decide +kernel)) (ev_v 1 rfl)) ea_nil)) fun _ _ _ => ⟨c.qs, c.ws.sum, by rw [List.map_id], hc.q1, hc.q6, hc.q, rfl⟩))) (fun h => by cases h) (fun _ => go_nil' ?_)
  have hfo : ¬ ((As.extx G H (As.inst K a Cc [] []).fo).and (.fact (Same G) fun _ _ e h => h.trans e)).fo a := fun z => z.elim (fun z => z.2 rfl) fun z => z
  refine go_fld (P := (· = intsD c.ws)) (ev_v 0 rfl) (EvR.x (EvR.frz (evl_list rfl rfl (B _ (by decide +kernel)) (.inl rfl) (ev_v 1 rfl))) rfl) C.cl C.n1 hfo (fun d hd => ?_)
  subst hd
  refine go_fld (P := (· = intsD c.qs)) (ev_v 0 rfl) (EvR.x (EvR.frz (evl_list rfl rfl (B _ (by decide +kernel)) (.inl rfl) (ev_v 2 rfl))) rfl) C.cl C.n2 hfo (fun d hd => ?_)
  subst hd
  exact go_nil fun σ G2 H2 _ _ p => ⟨G2, p.1.1, rfl, p.2⟩
theorem sc_cweights : FnScope ["self"] ["self"] (defScope s_Council_weights) := ⟨rfl, rfl, rfl, by decide +kernel, rfl, by decide +kernel, by decide +kernel⟩
def pr_cweights (K : PySem.W.Frag) (Cc : Addr) : Hp → List PyData → RR → Prop := fun _ ds R => ∃ (a : Addr) (c : Cn), ds = [cnD Cc a c] ∧ R = rNl K (c.ws.map .int)
theorem ok_cweights {f : Addr} {fd : FuncData} (F : Fun K "weights" "Council.weights" s_Council_weights f fd) (B : BN mg) (C : CF K Cc) : FnOk P w K mg base CX0 1 f fd ["self"] (spP K (pr_cweights K Cc)) := by
  refine fun_go F sc_cweights (by rintro G ds R ⟨a, c, rfl, _⟩; rfl) ?_
  rintro cdv A outer s H0 E G H ds R hr ⟨a, c, rfl, rfl⟩
  exact go_rt rfl as_l (evl_list rfl rfl (B _ (by decide +kernel)) (.inl rfl) (ev_fld 0 (ev_v 0 rfl) C.cl C.n1 rfl))
theorem sc_ctotal : FnScope ["self"] ["self"] (defScope s_Council_total) := ⟨rfl, rfl, rfl, by decide +kernel, rfl, by decide +kernel, by decide +kernel⟩
def pr_ctotal (K : PySem.W.Frag) (Cc : Addr) : Hp → List PyData → RR → Prop := fun _ ds R => ∃ (a : Addr) (c : Cn), ds = [cnD Cc a c] ∧ R = rAt K (.int c.ws.sum)
theorem ok_ctotal {f : Addr} {fd : FuncData} (F : Fun K "total" "Council.total" s_Council_total f fd) (B : BN mg) (C : CF K Cc) : FnOk P w K mg base CX0 1 f fd ["self"] (spP K (pr_ctotal K Cc)) := by
  refine fun_go F sc_ctotal (by rintro G ds R ⟨a, c, rfl, _⟩; rfl) ?_
  rintro cdv A outer s H0 E G H ds R hr ⟨a, c, rfl, rfl⟩
  exact go_rt rfl as_l (EvR.is (ev_sum (xs := c.ws) (f := id) rfl rfl rfl (B _ (by decide +kernel)) (ev_fld 0 (ev_v 0 rfl) C.cl C.n1 rfl)) (by rw [List.map_id]))
theorem sc_callow : FnScope ["self", "side", "column", "way"] ["self", "side"] (defScope s_Council_allowance) := ⟨rfl, rfl, rfl, by decide +kernel, rfl, by decide +kernel, by decide +kernel⟩
def pr_callow (K : PySem.W.Frag) (Cc : Addr) : Hp → List PyData → RR → Prop := fun _ ds R => ∃ (a : Addr) (c : Cn) (sd : Sd), ds = [cnD Cc a c, sdD sd] ∧ sd.1 < c.qs.length ∧ R = rAt K (.int (roomV c sd))
theorem ok_callow {f : Addr} {fd : FuncData} (F : Fun K "allowance" "Council.allowance" s_Council_allowance f fd) (C : CF K Cc) (c1 : MetP P w K mg base 1 Cc "total" (pr_ctotal K Cc)) : FnOk P w K mg base CX0 2 f fd ["self", "side"] (spP K (pr_callow K Cc)) := by
  refine fun_go F sc_callow (by rintro G ds R ⟨a, c, sd, rfl, _⟩; rfl) ?_
  rintro cdv A outer s H0 E G H ds R hr ⟨a, c, sd, rfl, hs, rfl⟩
  refine go_asg (ev_v 1 rfl) (tg_tup sc_callow.nd rfl (nm_cons 2 (nm_cons 3 .nil))) ?_
  refine go_if (EvT.is (evt_cmp od_eqS (ev_v 3 rfl) ev_str) (wayS_eq _)) (fun h => ?_) (fun h => go_nil' ?_)
  · refine go_rt rfl as_l (EvR.is (ev_op od_sub (ev_ix (ixd_list (ix_row hs)) (ev_fld 1 (ev_v 0 rfl) C.cl C.n2 rfl) (ev_v 2 rfl)) ev_int) ?_)
    unfold roomV
    rw [if_pos h]
  · refine go_rt rfl as_l (EvR.is (ev_op od_sub (ev_mt0 c1 hr (ev_v 0 rfl) fun _ _ _ => ⟨a, c, rfl, rfl⟩) (ev_ix (ixd_list (ix_row hs)) (ev_fld 1 (ev_v 0 rfl) C.cl C.n2 rfl) (ev_v 2 rfl))) ?_)
    unfold roomV
    rw [if_neg (by rw [h]; decide)]
theorem sc_rooms_of : FnScope ["council", "sides", "side"] ["council", "sides"] (defScope s_rooms_of) := ⟨rfl, rfl, rfl, by decide +kernel, rfl, by decide +kernel, by decide +kernel⟩
def pr_rooms_of (K : PySem.W.Frag) (Cc : Addr) : Hp → List PyData → RR → Prop := fun _ ds R => ∃ (a : Addr) (c : Cn) (sds : List Sd), ds = [cnD Cc a c, sdsD sds] ∧ sds.length ≤ 10000 ∧ (∀ sd ∈ sds, sd.1 < c.qs.length) ∧ R = rNl K ((sds.map (roomV c)).map .int)
theorem ok_rooms_of {f : Addr} {fd : FuncData} (F : Fun K "rooms_of" "rooms_of" s_rooms_of f fd) (C : CF K Cc) (c1 : MetP P w K mg base 2 Cc "allowance" (pr_callow K Cc)) : FnOk P w K mg base CX0 3 f fd ["council", "sides"] (spP K (pr_rooms_of K Cc)) := by
  refine fun_go F sc_rooms_of (by rintro G ds R ⟨a, c, sd, rfl, _⟩; rfl) ?_
  rintro cdv A outer s H0 E G H ds R hr ⟨a, c, sds, rfl, hl, hs, rfl⟩
  refine go_rt rfl as_l (EvR.isL (evl_map [("side", 2)] (fun sd => .int (roomV c sd)) (fun x Δ => Δ.set 2 (some (sdD x))) (it_list (ev_v 1 rfl)) rfl sc_rooms_of.nd (blkOk_by (N := ["council", "sides", "side"]) (sc := defScope s_rooms_of) (by decide +kernel)) (by omega) (is := [2]) (by decide) (fun b hb => fun _ _ _ _ _ => tg_name 2 sc_rooms_of.nd) ?_) (by rw [List.map_map]; rfl))
  exact fun D es hD b hb => fun _ _ _ _ _ => ev_mt c1 hr (ev_v 0 rfl) (ea_cons (ev_v 2 rfl) ea_nil) fun _ _ _ => ⟨a, c, b, rfl, hs b hb, rfl⟩
end
end Pk
namespace Pk
open PySem L2 DL
section
variable {P : Program} {w : World} {K : PySem.W.Frag} {mg : Str → Option Value} {base : Heap} {Cc : Addr}
/-! ### the bag -/
theorem sc_bag : FnScope ["script", "cell"] ["script"] (defScope s_law_bag) := ⟨rfl, rfl, rfl, by decide +kernel, rfl, by decide +kernel, by decide +kernel⟩
def pr_bag (K : PySem.W.Frag) : Hp → List PyData → RR → Prop := fun _ ds R => ∃ ns : List Int, ds = [scrD (ns.map .int)] ∧ R = rBag K
theorem ok_bag {f : Addr} {fd : FuncData} (F : Fun K "_law_bag" "_law_bag" s_law_bag f fd) (B : BN mg) : FnOk P w K mg base CX0 1 f fd ["script"] (spP K (pr_bag K)) := by
  refine fun_go F sc_bag (by rintro G ds R ⟨i, rfl, _⟩; rfl) ?_
  rintro cdv A outer s H0 E G H ds R hr ⟨ns, rfl, rfl⟩
  have hcut : (cutD (ns.map PyData.int) none (some 63)).length ≤ 63 := by
    unfold cutD
    rw [List.length_take]
    have : HT.sIx (ns.map PyData.int).length (ns.map PyData.int).length (some 63) ≤ 63 := by
      unfold HT.sIx
      simp
      omega
    omega
  have hcutE : cutD (ns.map PyData.int) none (some 63) = (cutD ns none (some 63)).map PyData.int := by
    unfold cutD
    rw [List.length_map, List.map_take, List.map_drop]
  refine go_retP (R := rBag K) (EvR.imp (evl_lst (ea_cons ev_int (ea_cons ev_int (ea_cons ev_int (ea_cons (EvR.frz (evl_map (xs := cutD ns none (some 63)) [("cell", 1)] (fun x => .int ((x.natAbs : Nat) : Int)) (fun x Δ => Δ.set 1 (some (.int x))) (it_list (EvR.frz (EvR.isL (ev_sl sld_scr (ev_v 0 rfl) eo_none (eo_some ev_int)) hcutE))) rfl sc_bag.nd (blkOk_by (N := ["script", "cell"]) (sc := defScope s_law_bag) (by decide +kernel)) (by rw [hcutE, List.length_map] at hcut; omega) (is := [1]) (by decide) (fun b hb => fun _ _ _ _ _ => tg_name 1 sc_bag.nd)
      (fun D es hD b hb => fun _ _ _ _ _ => ev_callB cd_abs rfl (B _ (by decide +kernel)) (by decide +kernel) (ea_cons (ev_v 1 rfl) ea_nil)))) ea_nil))))) ?_) as_l rfl back_bag
  rintro G1 H1 v G2 H2 g p ⟨q, xs, rfl, h1, h2, h3, h4⟩
  refine ⟨q, rfl, h1, ⟨0, 1234567891, 0, (cutD ns none (some 63)).map fun x => ((x.natAbs : Nat) : Int), by decide, by decide, by decide, ?_⟩, h2, xs, h3, ?_⟩
  · intro z hz
    obtain ⟨y, _, rfl⟩ := List.mem_map.mp hz
    omega
  · unfold bagDs
    rw [List.map_map]
    exact h4
def intIn (m : Int) (d : PyData) : Prop := ∃ i : Int, d = .int i ∧ 0 ≤ i ∧ i < m
theorem sc_take : FnScope ["bag", "many", "cell", "value", "first", "second"] ["bag", "many"] (defScope s_law_take) := ⟨rfl, rfl, rfl, by decide +kernel, rfl, by decide +kernel, by decide +kernel⟩
def pr_take (K : PySem.W.Frag) : Hp → List PyData → RR → Prop := fun _ ds R => ∃ m : Int, ds = [.int m] ∧ 0 < m ∧ m.natAbs.log2 < 9000 ∧ R = rX K (intIn m)
theorem ok_take {f : Addr} {fd : FuncData} (F : Fun K "_law_take" "_law_take" s_law_take f fd) (B : BN mg) : FnOk P w K mg base CX0 1 f fd ["bag", "many"] (spB K (pr_take K)) := by
  refine fun_goM F sc_take (by rintro G ds T R ⟨p, ds', R', rfl, _, ⟨m, rfl, _⟩, _⟩; rfl) ?_
  rintro cdv A outer s H0 E G H ds T R hr ⟨p, ds', R', rfl, rfl, ⟨m, rfl, hm, hm2, rfl⟩, rfl⟩
  have hfo : ¬ ((As.extx G H (As.bag K p).fo).and (.fact (Same G) fun _ _ e h => h.trans e)).fo p := fun z => z.elim (fun z => z.2 rfl) fun z => z
  refine go_ex (T := fun x : BagS => As.acc K p (bagDs x)) fun x => ?_
  -- what comes behind the drawing of a cell
  have rest : ∀ (o : Option PyData) (x : BagS), Go (cxOf CX0 P w K mg base ["bag", "many", "cell", "value", "first", "second"] "_law_take" (defScope s_law_take) f cdv A outer s H0 E).nox ((defBody s_law_take).drop 1) (retM G H (As.bag K p).fo (rAnd (As.bag K p) (rX K (intIn m)))) [some (ob p), some (.int m), o, none, none, none] (((As.extx G H (As.bag K p).fo).and (.fact (Same G) fun _ _ e h => h.trans e)).and (.acc K p (bagDs x))) := by
    intro o x
    refine go_if (EvT.is (evt_cmp od_gt (ev_ixM as_r (by rfl) (ev_v 0 rfl) ev_int) ev_int) rfl) (fun h => ?_) (fun h => go_nil' ?_)
    · refine go_set 3 (ev_op (od_mod hm) (ev_ixM as_r (by rfl) (ev_v 0 rfl) ev_int) (ev_v 1 rfl)) sc_take.nd ?_
      refine go_setIx (n := 0) (ev_v 0 rfl) ev_int (EvR.x (P := (· = .int (x.c / m))) (ev_op (od_fdivW ⟨hm, hm2⟩) (ev_ixM as_r (by rfl) (ev_v 0 rfl) ev_int) (ev_v 1 rfl)) rfl) hfo rfl fun d hd => ?_
      subst hd
      refine go_rtM rfl (as_l.trans as_l) (ev_v 3 rfl) fun v G1 H1 G2 H2 g p r => ⟨⟨⟨x.c / m, x.b, x.n, x.ns, Int.ediv_nonneg x.hc (by omega), x.hb, x.hn, x.hns⟩, p.2⟩, _, ⟨x.c % m, rfl, Int.emod_nonneg _ (by omega), Int.emod_lt_of_pos _ hm⟩, r⟩
    · have hb1 : 0 ≤ x.b := x.hb.1
      have hb2 : x.b < 2147483647 := x.hb.2
      refine go_set 4 (ev_op (od_mod (by decide)) (ev_op (od_mul (.inr ⟨by decide, by decide⟩)) (ev_op od_add (ev_ixM as_r (by rfl) (ev_v 0 rfl) ev_int) ev_int) ev_int) ev_int) sc_take.nd ?_
      have f1 : 0 ≤ (x.b + 1) * 39373 % 1000000007 := Int.emod_nonneg _ (by decide)
      have f2 : (x.b + 1) * 39373 % 1000000007 < 1000000007 := Int.emod_lt_of_pos _ (by decide)
      refine go_set 5 (ev_op (od_mod (by decide)) (ev_op (od_mul (.inr ⟨by decide, by decide⟩)) (ev_op (od_mod (by decide)) (ev_op (od_mul (.inl ⟨by omega, by omega⟩)) (ev_v 4 rfl) (ev_v 4 rfl)) ev_int) ev_int) ev_int) sc_take.nd ?_
      generalize (x.b + 1) * 39373 % 1000000007 * ((x.b + 1) * 39373 % 1000000007) % 998244353 * 30011 % 998244353 = second
      refine go_if (EvT.is (evt_cmp od_gt (ev_v 1 rfl) ev_int) rfl) (fun h => ?_) (fun h => go_nil' ?_)
      · refine go_rtM rfl (as_l.trans as_l) (ev_op (od_mod hm) (ev_op od_add (ev_op (od_mul (.inr ⟨by decide, by decide⟩)) (ev_v 5 rfl) ev_int) (ev_v 4 rfl)) (ev_v 1 rfl)) fun v G1 H1 G2 H2 g p r => ⟨⟨x, p.2⟩, _, ⟨_, rfl, Int.emod_nonneg _ (by omega), Int.emod_lt_of_pos _ hm⟩, r⟩
      · refine go_rtM rfl (as_l.trans as_l) (ev_op (od_mod hm) (ev_op (od_fdivW ⟨by decide, by decide +kernel⟩) (ev_v 5 rfl) ev_int) (ev_v 1 rfl)) fun v G1 H1 G2 H2 g p r => ⟨⟨x, p.2⟩, _, ⟨_, rfl, Int.emod_nonneg _ (by omega), Int.emod_lt_of_pos _ hm⟩, r⟩
  refine go_if (EvT.is (evt_cmp od_eqI (ev_ixM as_r (by rfl) (ev_v 0 rfl) ev_int) ev_int) rfl) (fun h => ?_) (fun h => go_nil' (rest none x))
  have hc0 : x.c = 0 := by simpa using h
  refine go_set 2 ev_int sc_take.nd ?_
  -- with the cell that was drawn
  have mid : ∀ cell : Int, 0 ≤ cell → Go (cxOf CX0 P w K mg base ["bag", "many", "cell", "value", "first", "second"] "_law_take" (defScope s_law_take) f cdv A outer s H0 E).nox ((match defBody s_law_take with | (.If _ b _ _) :: _ => b | _ => []).drop 2) ((retM G H (As.bag K p).fo (rAnd (As.bag K p) (rX K (intIn m)))).th (cxOf CX0 P w K mg base ["bag", "many", "cell", "value", "first", "second"] "_law_take" (defScope s_law_take) f cdv A outer s H0 E).nox ((defBody s_law_take).drop 1)) [some (ob p), some (.int m), some (.int cell), none, none, none] (((As.extx G H (As.bag K p).fo).and (.fact (Same G) fun _ _ e h => h.trans e)).and (.acc K p (bagDs x))) := by
    intro cell hcell
    refine go_augIx (n := 2) (m := x.n) ip_add (ev_v 0 rfl) ev_int ev_int hfo rfl rfl ?_
    have last : ∀ c : Int, 0 ≤ c → Go (cxOf CX0 P w K mg base ["bag", "many", "cell", "value", "first", "second"] "_law_take" (defScope s_law_take) f cdv A outer s H0 E).nox ((match defBody s_law_take with | (.If _ b _ _) :: _ => b | _ => []).drop 4) ((retM G H (As.bag K p).fo (rAnd (As.bag K p) (rX K (intIn m)))).th (cxOf CX0 P w K mg base ["bag", "many", "cell", "value", "first", "second"] "_law_take" (defScope s_law_take) f cdv A outer s H0 E).nox ((defBody s_law_take).drop 1)) [some (ob p), some (.int m), some (.int cell), none, none, none] (((As.extx G H (As.bag K p).fo).and (.fact (Same G) fun _ _ e h => h.trans e)).and (.acc K p [.int c, .int x.b, .int (x.n + 1), .list (x.ns.map .int)])) := by
      intro c hc
      refine go_setIx (n := 1) (ev_v 0 rfl) ev_int (EvR.x (P := fun d => ∃ b, d = .int b ∧ 0 ≤ b ∧ b < 2147483647) (ev_op (od_mod (by decide)) (ev_op od_add (ev_op od_add (ev_op (od_mul (.inr ⟨by decide, by decide⟩)) (ev_ixM as_r (by rfl) (ev_v 0 rfl) ev_int) ev_int) (ev_op (od_mod (by decide)) (ev_v 2 rfl) ev_int)) (ev_op (od_mul (.inl ⟨by decide, by decide⟩)) ev_int (ev_ixM as_r (by rfl) (ev_v 0 rfl) ev_int))) ev_int) ⟨_, rfl, Int.emod_nonneg _ (by decide), Int.emod_lt_of_pos _ (by decide)⟩) hfo rfl fun d hd => ?_
      obtain ⟨b, rfl, hb⟩ := hd
      exact go_nil' (rest (some (.int cell)) ⟨c, b, x.n + 1, x.ns, hc, hb, by have := x.hn; omega, x.hns⟩)
    refine go_if (EvT.is (evt_cmp od_ge (ev_v 2 rfl) ev_int) rfl) (fun h => ?_) (fun h => go_nil' (last x.c x.hc))
    refine go_setIx (n := 0) (ev_v 0 rfl) ev_int (EvR.x (P := (· = .int cell)) (ev_v 2 rfl) rfl) hfo rfl fun d hd => ?_
    subst hd
    exact go_nil' (last cell hcell)
  refine go_if (EvT.is (evt_cmp od_lt (ev_ixM as_r (by rfl) (ev_v 0 rfl) ev_int) (ev_len rfl rfl (B _ (by decide +kernel)) (EvR.m (ev_ixM (d := .list (x.ns.map .int)) as_r (by rfl) (ev_v 0 rfl) ev_int)))) rfl) (fun h => ?_) (fun h => go_nil' (mid 0 (by decide)))
  have hlt : x.n < (x.ns.length : Int) := by
    have := of_decide_eq_true h
    rwa [List.length_map] at this
  have hn := x.hn
  obtain ⟨z, hz⟩ : ∃ z, x.ns[x.n.toNat]? = some z := ⟨_, List.getElem?_eq_getElem (by omega)⟩
  refine go_set 2 (ev_ix (ixd_list (d := .int z) ?_) (ev_ixM (d := .list (x.ns.map .int)) as_r (by rfl) (ev_v 0 rfl) ev_int) (ev_ixM as_r (by rfl) (ev_v 0 rfl) ev_int)) sc_take.nd ?_
  · have e : x.n = ((x.n.toNat : Nat) : Int) := by omega
    rw [e]
    refine atI_nat' ?_
    rw [List.getElem?_map, hz]
    rfl
  · exact go_nil' (mid z (x.hns z (List.mem_of_getElem? hz)))
end
end Pk
namespace Pk
open PySem L2 DL
section
variable {P : Program} {w : World} {K : PySem.W.Frag} {mg : Str → Option Value} {base : Heap} {Cc : Addr}
theorem all2_ints {α : Type} {m : Int} {xs : List α} {ds : List PyData} (h : All2 (fun _ => intIn m) xs ds) : ∃ r : List Int, ds = r.map .int ∧ r.length = xs.length ∧ ∀ x ∈ r, 0 ≤ x ∧ x < m := by
  obtain ⟨r, e, hr⟩ := coded (enc := PyData.int) (P := fun x => 0 ≤ x ∧ x < m) (h.right (P := intIn m) fun _ _ z => z)
  exact ⟨r, e, by rw [h.len, e, List.length_map], hr⟩
theorem bag_fo {G H : Hp} {p : Addr} : ¬ ((As.extx G H (As.bag K p).fo).and (.fact (Same G) fun _ _ e h => h.trans e)).fo p := fun z => z.elim (fun z => z.2 rfl) fun z => z
/-- small enough to be drawn -/
theorem log_ok {m : Int} (h0 : 0 < m) (h : m ≤ 2000000000000000000) : m.natAbs.log2 < 9000 := by
  refine Nat.lt_of_le_of_lt (m := 63) ?_ (by decide)
  have hm : m.natAbs ≠ 0 := by omega
  exact Nat.le_of_lt_succ ((Nat.log2_lt hm).mpr (by omega))
theorem sc_row : FnScope ["bag", "width", "top", "column"] ["bag", "width", "top"] (defScope s_law_row) := ⟨rfl, rfl, rfl, by decide +kernel, rfl, by decide +kernel, by decide +kernel⟩
def RowIn (w : Nat) (t : Int) (d : PyData) : Prop := ∃ r : List Int, d = rowD r ∧ r.length = w ∧ ∀ x ∈ r, 0 ≤ x ∧ x ≤ t
def pr_row (K : PySem.W.Frag) : Hp → List PyData → RR → Prop := fun _ ds R => ∃ (w : Nat) (t : Int), ds = [.int w, .int t] ∧ w ≤ 1000 ∧ 0 ≤ t ∧ t ≤ 1000000000000000000 ∧ R = rX K (RowIn w t)
theorem ok_row {f : Addr} {fd : FuncData} (F : Fun K "_law_row" "_law_row" s_law_row f fd) (B : BN mg) (c1 : CalB P w K mg base 1 "_law_take" (pr_take K)) : FnOk P w K mg base CX0 2 f fd ["bag", "width", "top"] (spB K (pr_row K)) := by
  refine fun_goM F sc_row (by rintro G ds T R ⟨p, ds', R', rfl, _, ⟨m, t, rfl, _⟩, _⟩; rfl) ?_
  rintro cdv A outer s H0 E G H ds T R hr ⟨p, ds', R', rfl, rfl, ⟨wd, t, rfl, hw, ht, ht2, rfl⟩, rfl⟩
  refine go_rtM (R' := rX K (RowIn wd t)) rfl (as_l.trans as_l) (EvR.xx (evx_tupleC (PL := fun ds => ∃ xs : List Nat, xs = List.range wd ∧ All2 (fun _ => intIn (t + 1)) xs ds) rfl rfl (B _ (by decide +kernel)) (EvR.xfrz ?_ fun ds h => ⟨ds, rfl, h⟩)) ?_) fun v G1 H1 G2 H2 g p r => ⟨p.2, r⟩
  · refine evl_lcX (own := [("column", 3)]) (is := [3]) (enc := fun k : Nat => .int (k : Int)) (PX := fun xs => xs = List.range wd) (fun _ => intIn (t + 1)) (fun k Δ => Δ.set 3 (some (.int (k : Int)))) (ItD.x (it_rng rfl (B _ (by decide +kernel)) (ev_v 1 rfl) (by omega)) ⟨_, rfl, rfl⟩) rfl sc_row.nd (blkOk_by (N := ["bag", "width", "top", "column"]) (sc := defScope s_law_row) (by decide +kernel)) ?_ (by decide) ?_ ?_
    · rintro _ rfl; rw [List.length_range]; omega
    · exact fun xs _ k hk => fun _ _ _ _ _ => tg_name 3 sc_row.nd
    · rintro _ rfl D es hD k hk
      exact fun _ _ _ _ _ => evx_cB c1 hr rfl (Has.acc (bag_has bag_fo) fun e => hD (.inr e)) (eax_bag (ev_v 0 rfl) (EvA.x (PL := (· = [.int (t + 1)])) (ea_cons (ev_op od_add (ev_v 2 rfl) ev_int) ea_nil) rfl)) fun _ _ ds hds _ => ⟨t + 1, hds, by omega, log_ok (by omega) (by omega), rfl⟩
  · rintro d ⟨ds, rfl, xs, rfl, h⟩
    obtain ⟨r, rfl, hl, hr⟩ := all2_ints h
    exact ⟨r, rfl, by rw [hl, List.length_range], fun x hx => ⟨(hr x hx).1, by have := (hr x hx).2; omega⟩⟩
theorem sc_alike : FnScope ["found", "due"] ["found", "due"] (defScope s_law_alike) := ⟨rfl, rfl, rfl, by decide +kernel, rfl, by decide +kernel, by decide +kernel⟩
def pr_alike (K : PySem.W.Frag) : Hp → List PyData → As → RR → Prop := fun _ ds T R => ∃ d, ds = [.list d, .list d] ∧ Shw (.list d) ∧ T = .tt ∧ R = rAnd .tt (rAt K (.bool true))
theorem ok_alike {f : Addr} {fd : FuncData} (F : Fun K "_law_alike" "_law_alike" s_law_alike f fd) (B : BN mg) : FnG P w K mg base 1 f fd ["found", "due"] (spM K (pr_alike K)) := by
  refine fn_goG F sc_alike (by rintro G ds T R ⟨d, rfl, _⟩; rfl) ?_
  rintro cdv A outer s H0 E G H ds T R hr hgd ⟨d, rfl, hd, rfl, rfl⟩
  have hu := hr.units
  refine go_rtM (R' := rAt K (.bool true)) rfl (as_l.trans as_l) (EvR.is (ev_and (k := true) (k' := true) (ev_cmpF (u := .bl (PyData.eqv (.list d) (.list d))) (of_eqD hu hd.sh hd.sh) (EvR.m (ev_v 0 rfl)) (EvR.m (ev_v 1 rfl)) ?_) fun _ => ev_one (EvR.is (ev_cmp od_eqS (ev_callB (call_repr hgd hu hd (.inl ⟨_, rfl⟩)) rfl (B _ (by decide +kernel)) (by decide +kernel) (ea_cons (ev_v 0 rfl) ea_nil)) (ev_callB (call_repr hgd hu hd (.inl ⟨_, rfl⟩)) rfl (B _ (by decide +kernel)) (by decide +kernel) (ea_cons (ev_v 1 rfl) ea_nil))) ?_)) rfl) fun v G1 H1 G2 H2 g p r => ⟨p.2, r⟩
  · intro G; rw [SeqAt.eqv_refl _ (SeqAt.canLay_of_shaped hd.sh)]; exact .bl true
  · rw [decide_eq_true rfl]
theorem sc_made : FnScope ["parts"] ["parts"] (defScope s_law_made) := ⟨rfl, rfl, rfl, by decide +kernel, rfl, by decide +kernel, by decide +kernel⟩
def cpD (c : Cn) : PyData := .tuple [intsD c.ws, intsD c.qs]
def IsCn (Cc : Addr) (c : Cn) (d : PyData) : Prop := ∃ a, d = cnD Cc a c
def pr_made (K : PySem.W.Frag) (Cc : Addr) : Hp → List PyData → RR → Prop := fun _ ds R => ∃ c : Cn, ds = [cpD c] ∧ CnOk c ∧ R = rX K (IsCn Cc c)
theorem ok_made {f : Addr} {fd : FuncData} (F : Fun K "_law_made" "_law_made" s_law_made f fd) (B : BN mg) (c1 : C8.Mak P w K mg base 4 "Council" Cc (spM K (pr_cinit K Cc)) []) : FnOk P w K mg base CX0 6 f fd ["parts"] (spP K (pr_made K Cc)) := by
  refine fun_go F sc_made (by rintro G ds R ⟨c, rfl, _⟩; rfl) ?_
  rintro cdv A outer s H0 E G H ds R hr ⟨c, rfl, hc, rfl⟩
  refine go_rt rfl as_l (evx_mk c1 hr rfl (PL := (· = [intsD c.ws, intsD c.qs])) (EvA.x (ea_cons (EvR.frz (evl_list rfl rfl (B _ (by decide +kernel)) (.inl rfl) (ev_ix (ixd_tup (d := intsD c.ws) (i := 0) rfl) (ev_v 0 rfl) ev_int))) (ea_cons (EvR.frz (evl_list rfl rfl (B _ (by decide +kernel)) (.inl rfl) (ev_ix (ixd_tup (d := intsD c.qs) (i := 1) rfl) (ev_v 0 rfl) ev_int))) ea_nil)) rfl) ?_)
  rintro G1 H1 ds rfl _ a
  exact ⟨cnNs, [intsD c.ws, intsD c.qs], ⟨a, c, rfl, hc, rfl, rfl⟩, a, rfl⟩
theorem sc_council : FnScope ["bag", "width", "most", "seats", "way", "weights", "total", "quotas", "column", "some", "k"] ["bag", "width", "most"] (defScope s_law_council) := ⟨rfl, rfl, rfl, by decide +kernel, rfl, by decide +kernel, by decide +kernel⟩
def CnIn (wd most : Nat) (d : PyData) : Prop := ∃ c : Cn, d = cpD c ∧ CnOk c ∧ c.ws.length ≤ most ∧ c.qs.length = wd
def pr_council (K : PySem.W.Frag) : Hp → List PyData → RR → Prop := fun _ ds R => ∃ wd most : Nat, ds = [.int wd, .int most] ∧ 1 ≤ wd ∧ wd ≤ 6 ∧ 2 ≤ most ∧ most ≤ 7 ∧ R = rX K (CnIn wd most)
end
end Pk
namespace Pk
open PySem L2 DL
section
variable {P : Program} {w : World} {K : PySem.W.Frag} {mg : Str → Option Value} {base : Heap} {Cc : Addr}
theorem sum_ge : ∀ {ws : List Int}, (∀ x ∈ ws, 1 ≤ x) → (ws.length : Int) ≤ ws.sum
  | [], _ => by simp
  | w :: ws, h => by
    have := sum_ge (ws := ws) fun x hx => h x (List.mem_cons_of_mem _ hx)
    have := h w List.mem_cons_self
    simp only [List.sum_cons, List.length_cons]
    omega
theorem sum_le {m : Int} : ∀ {ws : List Int}, (∀ x ∈ ws, x ≤ m) → ws.sum ≤ ws.length * m
  | [], _ => by simp
  | w :: ws, h => by
    have := sum_le (ws := ws) fun x hx => h x (List.mem_cons_of_mem _ hx)
    have := h w List.mem_cons_self
    simp only [List.sum_cons, List.length_cons]
    have e : ((ws.length + 1 : Nat) : Int) * m = ws.length * m + m := by rw [Int.natCast_add, Int.add_mul]; simp
    omega
theorem way_ok {w : Int} (h : 0 ≤ w ∧ w < 5) : ∃ m : Int, atI [PyData.int 1, .int 1, .int 2, .int 5, .int 1000000] w = some (.int m) ∧ 1 ≤ m ∧ m ≤ 1000000 := by
  obtain ⟨n, rfl⟩ : ∃ n : Nat, w = n := ⟨w.toNat, by omega⟩
  have hn : n < 5 := by omega
  match n, hn with
  | 0, _ => exact ⟨1, rfl, by decide, by decide⟩
  | 1, _ => exact ⟨1, rfl, by decide, by decide⟩
  | 2, _ => exact ⟨2, rfl, by decide, by decide⟩
  | 3, _ => exact ⟨5, rfl, by decide, by decide⟩
  | 4, _ => exact ⟨1000000, rfl, by decide, by decide⟩
theorem some_ok {i a b t : Int} (h : 0 ≤ i ∧ i < 4) {P : Int → Prop} (h0 : P a) (h1 : P b) (h2 : P 1) (h3 : P t) : ∃ m : Int, atI [PyData.int a, .int b, .int 1, .int t] i = some (.int m) ∧ P m := by
  obtain ⟨n, rfl⟩ : ∃ n : Nat, i = n := ⟨i.toNat, by omega⟩
  have hn : n < 4 := by omega
  match n, hn with
  | 0, _ => exact ⟨a, rfl, h0⟩
  | 1, _ => exact ⟨b, rfl, h1⟩
  | 2, _ => exact ⟨1, rfl, h2⟩
  | 3, _ => exact ⟨t, rfl, h3⟩
def n_council : List Str := ["bag", "width", "most", "seats", "way", "weights", "total", "quotas", "column", "some", "k"]
theorem ok_council {f : Addr} {fd : FuncData} (F : Fun K "_law_council" "_law_council" s_law_council f fd) (B : BN mg) (c1 : CalB P w K mg base 1 "_law_take" (pr_take K)) : FnOk P w K mg base CX0 2 f fd ["bag", "width", "most"] (spB K (pr_council K)) := by
  refine fun_goM F sc_council (by rintro G ds T R ⟨p, ds', R', rfl, _, ⟨m, t, rfl, _⟩, _⟩; rfl) ?_
  rintro cdv A outer s H0 E G H ds T R hr ⟨p, ds', R', rfl, rfl, ⟨wd, most, rfl, hw, hw6, hm2, hm7, rfl⟩, rfl⟩
  -- seats, way
  refine go_asgX (P := fun d => ∃ (n : Nat) (y : Int), d = .tuple [.int n, .int y] ∧ (2 ≤ n ∧ n ≤ most) ∧ 0 ≤ y ∧ y < 5) (is := [3, 4]) (f := fun d Δ => sets Δ [3, 4] (unT d)) (evx_tup (PL := fun ds => ∃ (n : Nat) (y : Int), ds = [.int n, .int y] ∧ (2 ≤ n ∧ n ≤ most) ∧ 0 ≤ y ∧ y < 5) ?_ ?_) ?_ fun d hd => ?_
  · refine EvAX.xx (eax_cons (P := fun d => ∃ n : Nat, d = .int n ∧ 2 ≤ n ∧ n ≤ most) (evx_op (P1 := (· = .int 2)) (P2 := intIn ((most : Int) - 1)) (EvR.x ev_int rfl) (evx_cB c1 hr rfl (bag_has bag_fo) (eax_bag (ev_v 0 rfl) (EvA.x (PL := (· = [.int ((most : Int) - 1)])) (ea_cons (ev_op od_sub (ev_v 2 rfl) ev_int) ea_nil) rfl)) fun _ _ ds hds _ => ⟨_, hds, by omega, log_ok (by omega) (by omega), rfl⟩) ?_) (eax_one (P := intIn 5) (evx_cB c1 hr rfl (bag_has bag_fo) (eax_bag (ev_v 0 rfl) (EvA.x (PL := (· = [.int 5])) (ea_cons ev_int ea_nil) rfl)) fun _ _ ds hds _ => ⟨_, hds, by decide, by decide +kernel, rfl⟩))) ?_
    · rintro _ _ rfl ⟨i, rfl, h0, h1⟩
      exact od_add.x ⟨(2 + i).toNat, by rw [Int.toNat_of_nonneg (by omega)], by omega, by omega⟩
    · rintro ds ⟨d, ds', rfl, ⟨n, rfl, hn⟩, _, rfl, y, rfl, hy⟩
      exact ⟨n, y, rfl, hn, hy⟩
  · rintro ds ⟨n, y, rfl, h⟩
    exact ⟨by simp, n, y, rfl, h⟩
  · rintro d ⟨n, y, rfl, h⟩
    exact tg_tup sc_council.nd rfl (nm_cons 3 (nm_cons 4 .nil))
  obtain ⟨n, y, rfl, hn, hy⟩ := hd
  -- weights
  refine go_setLcX 5 (lclX (own := [("k", 10)]) (is := [10]) (enc := fun k : Nat => .int (k : Int)) (PX := fun xs => xs = List.range n) (fun _ d => ∃ x : Int, d = .int x ∧ 1 ≤ x ∧ x ≤ 1000000) (fun k Δ => Δ.set 10 (some (.int (k : Int)))) (ItD.x (it_rng rfl (B _ (by decide +kernel)) (ev_v 3 rfl) (by omega)) ⟨_, rfl, rfl⟩) (blkOk_by (N := n_council) (sc := defScope s_law_council) (by decide +kernel)) ?_ (by decide) ?_ ?_) rfl sc_council.nd fun ds hds => ?_
  · rintro _ rfl; rw [List.length_range]; omega
  · exact fun xs _ k hk => fun _ _ _ _ _ => tg_name 10 sc_council.nd
  · rintro _ rfl D es hD k hk
    obtain ⟨m, e, hm1, hm2⟩ := way_ok hy
    refine fun _ _ _ _ _ => evx_op (P1 := (· = .int 1)) (P2 := intIn m) (EvR.x ev_int rfl) (evx_cB c1 hr rfl (Has.acc (bag_has bag_fo) fun e => hD (.inr e)) (eax_bag (ev_v 0 rfl) (EvA.x (PL := (· = [.int m])) (ea_cons (ev_ix (ixd_list e) (EvR.frz (evl_lst (ea_cons ev_int (ea_cons ev_int (ea_cons ev_int (ea_cons ev_int (ea_cons ev_int ea_nil))))))) (ev_v 4 rfl)) ea_nil) rfl)) fun _ _ ds hds _ => ⟨m, hds, by omega, log_ok (by omega) (by omega), rfl⟩) ?_
    rintro _ _ rfl ⟨i, rfl, h0, h1⟩
    exact od_add.x ⟨_, rfl, by omega, by omega⟩
  obtain ⟨ws, rfl, hl, hws⟩ : ∃ ws : List Int, ds = ws.map .int ∧ ws.length = n ∧ ∀ x ∈ ws, 1 ≤ x ∧ x ≤ 1000000 := by
    obtain ⟨xs, rfl, h⟩ := hds
    obtain ⟨r, e, hr⟩ := coded (enc := PyData.int) (P := fun x => 1 ≤ x ∧ x ≤ 1000000) (h.right fun _ _ z => z)
    refine ⟨r, e, ?_, hr⟩
    have := h.len
    rw [e, List.length_map, List.length_range] at this
    exact this.symm
  have ht1 : (2 : Int) ≤ ws.sum := by have := sum_ge (ws := ws) fun x hx => (hws x hx).1; omega
  have ht2 : ws.sum ≤ 7000000 := by
    have := sum_le (m := 1000000) (ws := ws) fun x hx => (hws x hx).2
    rw [hl] at this
    have : (n : Int) ≤ 7 := by omega
    omega
  refine go_set 6 (ev_sum (xs := ws) (f := id) rfl rfl rfl (B _ (by decide +kernel)) (ev_v 5 rfl)) sc_council.nd ?_
  rw [List.map_id]
  refine go_setL 7 (evl_lst ea_nil) sc_council.nd fun q hq => ?_
  have hqp : q ≠ p := fun e => hq (.inr e)
  refine go_for (α := Nat) (xs := List.range wd) (enc := fun k => .int (k : Int)) (is := [8]) (fun k Δ => Δ.set 8 (some (.int (k : Int)))) (it_rng rfl (B _ (by decide +kernel)) (ev_v 1 rfl) (by omega)) (fun k hk => tg_name 8 sc_council.nd) rfl PassesOwn.never
    (fun i Δ' S' => ∃ (o1 o2 : Option PyData) (qs : List Int), qs.length = i ∧ (∀ x ∈ qs, 1 ≤ x ∧ x ≤ ws.sum) ∧ Δ' = [some (ob p), some (.int wd), some (.int most), some (.int n), some (.int y), some (intsD ws), some (.int ws.sum), some (ob q), o1, o2, none] ∧ S' = ((((As.extx G H (As.bag K p).fo).and (.fact (Same G) fun _ _ e h => h.trans e)).and (.bag K p)).and (.acc K q (qs.map .int)))) ⟨none, none, [], rfl, by simp, rfl, rfl⟩ ?_ ?_
  · rintro i k _ _ hk ⟨o1, o2, qs, hqs, hqr, rfl, rfl⟩
    refine go_setX 9 (P := fun d => ∃ x : Int, d = .list [.int (ws.sum / 2 + 1), .int x, .int 1, .int ws.sum] ∧ 1 ≤ x ∧ x ≤ ws.sum) (EvR.xfrz (evx_lst (PL := fun ds => ∃ x : Int, ds = [.int (ws.sum / 2 + 1), .int x, .int 1, .int ws.sum] ∧ 1 ≤ x ∧ x ≤ ws.sum) (EvAX.xx (eax_cons (P := (· = .int (ws.sum / 2 + 1))) (EvR.x (ev_op od_add (ev_op (od_fdiv ⟨by decide, by decide⟩) (ev_v 6 rfl) ev_int) ev_int) rfl) (eax_cons (P := fun d => ∃ x : Int, d = .int x ∧ 1 ≤ x ∧ x ≤ ws.sum) (evx_op (P1 := (· = .int 1)) (P2 := intIn ws.sum) (EvR.x ev_int rfl) (evx_cB c1 hr rfl (Has.acc (bag_has bag_fo) hqp) (eax_bag (ev_v 0 rfl) (EvA.x (PL := (· = [.int ws.sum])) (ea_cons (ev_v 6 rfl) ea_nil) rfl)) fun _ _ ds hds _ => ⟨_, hds, by omega, log_ok (by omega) (by omega), rfl⟩) ?_) (EvA.x (PL := (· = [.int 1, .int ws.sum])) (ea_cons ev_int (ea_cons (ev_v 6 rfl) ea_nil)) rfl))) ?_) ?_) ?_) sc_council.nd fun d hd => ?_
    · rintro _ _ rfl ⟨i, rfl, h0, h1⟩
      exact od_add.x ⟨_, rfl, by omega, by omega⟩
    · rintro ds ⟨d, ds', rfl, rfl, d2, ds2, rfl, ⟨x, rfl, hx⟩, rfl⟩
      exact ⟨x, rfl, hx⟩
    · rintro ds ⟨x, rfl, _⟩; simp
    · rintro ds ⟨x, rfl, hx⟩; exact ⟨x, rfl, hx⟩
    obtain ⟨x, rfl, hx1, hx2⟩ := hd
    refine go_appX (P := fun d => ∃ x : Int, d = .int x ∧ 1 ≤ x ∧ x ≤ ws.sum) (ev_v 7 rfl) (evx_ix (P1 := (· = .list [.int (ws.sum / 2 + 1), .int x, .int 1, .int ws.sum])) (P2 := intIn 4) (EvR.x (ev_v 9 rfl) rfl) (evx_op (P1 := intIn 4) (P2 := fun d => d = .int 0 ∨ d = .int 1) (evx_callB (id := "max") (PL := fun ds => ∃ i : Int, ds = [.int 0, .int i] ∧ i < 4) ?_ rfl (B _ (by decide +kernel)) (by decide +kernel) (EvAX.xx (eax_cons (P := (· = .int 0)) (EvR.x ev_int rfl) (eax_one (P := fun d => ∃ i : Int, d = .int i ∧ i < 4) (evx_op (P1 := intIn 6) (P2 := (· = .int 2)) (evx_cB c1 hr rfl (Has.acc (bag_has bag_fo) hqp) (eax_bag (ev_v 0 rfl) (EvA.x (PL := (· = [.int 6])) (ea_cons ev_int ea_nil) rfl)) fun _ _ ds hds _ => ⟨_, hds, by decide, by decide +kernel, rfl⟩) (EvR.x ev_int rfl) ?_))) ?_)) (EvR.x (P := fun d => d = .int 0 ∨ d = .int 1) (ev_callTy (T := "int") (cd_intB (k := decide (0 < y))) rfl (B _ (by decide +kernel)) (by decide +kernel) (ea_cons (ev_cmp od_gt (ev_v 4 rfl) ev_int) ea_nil)) ?_) ?_) ?_) (As.nf hq) (by rw [List.length_map, hqs]; have := (List.getElem?_eq_some_iff.mp hk).1; rw [List.length_range] at this; omega) fun d hd => ?_
    · rintro ds ⟨i, rfl, hi⟩
      exact (cd_max2 rfl).x ⟨_, rfl, by omega, by omega⟩
    · rintro _ _ ⟨i, rfl, h0, h1⟩ rfl
      exact od_sub.x ⟨_, rfl, by omega⟩
    · rintro ds ⟨d, ds', rfl, rfl, d2, rfl, i, rfl, hi⟩
      exact ⟨i, rfl, hi⟩
    · split
      · exact .inr rfl
      · exact .inl rfl
    · rintro _ _ ⟨i, rfl, h0, h1⟩ (rfl | rfl)
      · exact (od_mul (.inr ⟨by decide, by decide⟩)).x ⟨_, rfl, by omega, by omega⟩
      · exact (od_mul (.inr ⟨by decide, by decide⟩)).x ⟨_, rfl, by omega, by omega⟩
    · rintro _ _ rfl ⟨i, rfl, h0, h1⟩
      obtain ⟨m, e, hm⟩ := some_ok (P := fun m => 1 ≤ m ∧ m ≤ ws.sum) (a := ws.sum / 2 + 1) (b := x) (t := ws.sum) ⟨h0, h1⟩ ⟨by omega, by omega⟩ ⟨hx1, hx2⟩ ⟨by omega, by omega⟩ ⟨by omega, by omega⟩
      exact (ixd_list e).x ⟨m, rfl, hm⟩
    obtain ⟨z, rfl, hz⟩ := hd
    refine go_turn ⟨_, _, qs ++ [z], by simp [hqs], ?_, rfl, by rw [List.map_append]; rfl⟩
    intro v hv
    rcases List.mem_append.mp hv with h | h
    · exact hqr v h
    · rw [List.mem_singleton.mp h]; exact hz
  · rintro _ _ ⟨o1, o2, qs, hqs, hqr, rfl, rfl⟩
    rw [List.length_range] at hqs
    refine go_frz 7 hq rfl ?_
    refine go_rtM rfl (as_l.trans as_l) (ev_tup (ea_cons (ev_v 5 rfl) (ea_cons (ev_v 7 rfl) ea_nil))) fun v G1 H1 G2 H2 g p r => ⟨p.2, _, ⟨⟨ws, qs⟩, rfl, ⟨by show 2 ≤ ws.length; omega, by show ws.length ≤ 7; omega, hws, by show 1 ≤ qs.length; omega, by show qs.length ≤ 6; omega, hqr⟩, by show ws.length ≤ most; omega, hqs⟩, r⟩
end
end Pk
namespace Pk
open PySem L2 DL
/-! ### the program's rounds, in plain Lean -/
def srtI (ms : List Int) : List Int := ms.mergeSort fun a b => decide (a ≤ b)
theorem srt_ints (ms : List Int) : srt false (ms.map PyData.int) = (srtI ms).map PyData.int := by
  rw [srt_map]
  unfold srtI
  rw [W.dataLe_int (fun b : Int => b)]
theorem sok_ints {ms : List Int} (h : ms.length ≤ 1000000) : Sok (ms.map PyData.int) :=
  ⟨W.AllAlike.of fun _ _ => rfl, W.Sortable.others fun _ => ⟨(fun z => by cases z), (fun _ z => by cases z)⟩, (fun d hd => by obtain ⟨i, _, rfl⟩ := List.mem_map.mp hd; simp [PyData.depth]), by rw [List.length_map]; exact h⟩
theorem fil_pos {α : Type} {p : α → Bool} {x : α} (l : List α) (h : p x = true) : (l ++ [x]).filter p = l.filter p ++ [x] := by rw [List.filter_append, List.filter_cons_of_pos h, List.filter_nil]
theorem fil_neg {α : Type} {p : α → Bool} {x : α} (l : List α) (h : p x = false) : (l ++ [x]).filter p = l.filter p := by rw [List.filter_append, List.filter_cons_of_neg (by simp [h]), List.filter_nil, List.append_nil]
def below (m o : Int) : Bool := !decide (m = o) && decide (Builtin.bitAnd m o = m)
def greatestV (ms : List Int) : List Int := (srtI ms).filter fun m => !ms.any fun o => below m o
def differentV (ms : List Int) : List Int := (ms.foldl (fun acc m => dPut acc m (.bool true)) ([] : List (Int × PyData))).map (·.1)
def missedV (m : Int) (missed : List Int) (w : Int) (bits : List Int) : List Int := (missed.zip bits).map fun z => z.1 + w * (if Builtin.bitAnd m z.2 = 0 then 1 else 0)
section
variable {P : Program} {w : World} {K : PySem.W.Frag} {mg : Str → Option Value} {base : Heap} {Cc : Addr}
theorem sc_greatest_only : FnScope ["masks", "found", "mask", "other"] ["masks"] (defScope s_greatest_only) := ⟨rfl, rfl, rfl, by decide +kernel, rfl, by decide +kernel, by decide +kernel⟩
def pr_greatest_only (K : PySem.W.Frag) : Hp → List PyData → RR → Prop := fun _ ds R => ∃ ms : List Int, ds = [intsD ms] ∧ ms.length ≤ 100000 ∧ R = rNl K ((greatestV ms).map .int)
theorem ok_greatest_only {f : Addr} {fd : FuncData} (F : Fun K "greatest_only" "greatest_only" s_greatest_only f fd) (B : BN mg) : FnOk P w K mg base CX0 1 f fd ["masks"] (spP K (pr_greatest_only K)) := by
  refine fun_go F sc_greatest_only (by rintro G ds R ⟨n, rfl, _⟩; rfl) ?_
  rintro cdv A outer s H0 E G H ds R hr ⟨ms, rfl, hl, rfl⟩
  have hu := hr.units
  refine go_setL 1 (evl_lst ea_nil) sc_greatest_only.nd fun q hq => ?_
  have hqH : H q = none := fresh_ext fun z => hq (.inl z)
  have hsl : (srtI ms).length = ms.length := List.length_mergeSort ..
  refine go_for (α := Int) (xs := srtI ms) (enc := .int) (is := [2]) (fun k Δ => Δ.set 2 (some (.int k))) (ItD.is (it_list (EvR.frz (evl_sorted rfl hu (sok_ints (by omega)) rfl (B _ (by decide +kernel)) (.inl rfl) (ev_v 0 rfl)))) (srt_ints ms)) (fun k hk => tg_name 2 sc_greatest_only.nd) rfl PassesOwn.never
    (fun i Δ' S' => ∃ o, Δ' = [some (intsD ms), some (ob q), o, none] ∧ S' = (((As.ext G H).and (.fact (Same G) fun _ _ e h => h.trans e)).and (.acc K q ((((srtI ms).take i).filter fun m => !ms.any fun o => below m o).map .int)))) ⟨none, rfl, rfl⟩ ?_ ?_
  · rintro i m _ _ hk ⟨o, rfl, rfl⟩
    have tk : (srtI ms).take (i + 1) = (srtI ms).take i ++ [m] := take_some hk
    refine go_if (k := !ms.any fun o => below m o) (evt_not (evt_val (ev_any rfl rfl rfl (B _ (by decide +kernel)) (EvR.frz (evl_map [("other", 3)] (fun o => .bool (below m o)) (fun b Δ => Δ.set 3 (some (.int b))) (it_list (ev_v 0 rfl)) rfl sc_greatest_only.nd (blkOk_by (N := ["masks", "found", "mask", "other"]) (sc := defScope s_greatest_only) (by decide +kernel)) (by omega) (is := [3]) (by decide) (fun b hb => fun _ _ _ _ _ => tg_name 3 sc_greatest_only.nd)
      (fun D es hD b hb => fun _ _ _ _ _ => ev_and (ev_cmp od_neI (ev_v 2 rfl) (ev_v 3 rfl)) fun _ => ev_one (ev_cmp od_eqI (ev_op od_and (ev_v 2 rfl) (ev_v 3 rfl)) (ev_v 2 rfl)))))))) (fun h => ?_) (fun h => ?_)
    · refine go_app (ev_v 1 rfl) (ev_v 2 rfl) (As.nf hq) (by rw [List.length_map]; exact Nat.lt_of_le_of_lt (List.length_filter_le _ _) (by rw [List.length_take]; omega)) (go_nil' (go_turn ⟨_, rfl, ?_⟩))
      rw [tk, fil_pos (p := fun m => !ms.any fun o => below m o) _ h, List.map_append]
      rfl
    · refine go_nil' (go_turn ⟨_, rfl, ?_⟩)
      rw [tk, fil_neg (p := fun m => !ms.any fun o => below m o) _ h]
  · rintro _ _ ⟨o, rfl, rfl⟩
    rw [List.take_length]
    exact go_retA (ev_v 1 rfl) (as_and (as_l.trans as_l) as_r) hqH
theorem sc_different : FnScope ["masks", "mask"] ["masks"] (defScope s_different) := ⟨rfl, rfl, rfl, by decide +kernel, rfl, by decide +kernel, by decide +kernel⟩
def pr_different (K : PySem.W.Frag) : Hp → List PyData → RR → Prop := fun _ ds R => ∃ ms : List Int, ds = [intsD ms] ∧ ms.length ≤ 100000 ∧ R = rNl K ((differentV ms).map .int)
theorem ok_different {f : Addr} {fd : FuncData} (F : Fun K "different" "different" s_different f fd) (B : BN mg) : FnOk P w K mg base CX0 1 f fd ["masks"] (spP K (pr_different K)) := by
  refine fun_go F sc_different (by rintro G ds R ⟨n, rfl, _⟩; rfl) ?_
  rintro cdv A outer s H0 E G H ds R hr ⟨ms, rfl, hl, rfl⟩
  refine go_rt rfl as_l (EvR.isL (evl_listNK rfl rfl rfl (B _ (by decide +kernel)) (ev_dc [("mask", 1)] (fun m : Int => m) (fun _ => .bool true) (fun b Δ => Δ.set 1 (some (.int b))) (it_list (ev_v 0 rfl)) rfl sc_different.nd (blkOk_by (N := ["masks", "mask"]) (sc := defScope s_different) (by decide +kernel)) (by omega) (is := [1]) (by decide) (fun b hb => fun _ _ _ _ _ => tg_name 1 sc_different.nd) (fun D es hD b hb => fun _ _ _ _ _ => ev_v 1 rfl) (fun D es hD b hb => fun _ _ _ _ _ => ev_bl))) ?_)
  unfold differentV
  rw [List.map_map]
  rfl
theorem sc_missed_by : FnScope ["mask", "missed", "weight", "bits", "held", "bit"] ["mask", "missed", "weight", "bits"] (defScope s_missed_by) := ⟨rfl, rfl, rfl, by decide +kernel, rfl, by decide +kernel, by decide +kernel⟩
def pr_missed_by (K : PySem.W.Frag) : Hp → List PyData → RR → Prop := fun _ ds R => ∃ (m : Int) (missed : List Int) (w : Int) (bits : List Int), ds = [.int m, rowD missed, .int w, intsD bits] ∧ missed.length ≤ 1000 ∧ R = rAt K (rowD (missedV m missed w bits))
theorem ok_missed_by {f : Addr} {fd : FuncData} (F : Fun K "missed_by" "missed_by" s_missed_by f fd) (B : BN mg) : FnOk P w K mg base CX0 1 f fd ["mask", "missed", "weight", "bits"] (spP K (pr_missed_by K)) := by
  refine fun_go F sc_missed_by (by rintro G ds R ⟨m, ms, w, b, rfl, _⟩; rfl) ?_
  rintro cdv A outer s H0 E G H ds R hr ⟨m, missed, wt, bits, rfl, hl, rfl⟩
  refine go_rt rfl as_l (ev_tupleC rfl rfl (B _ (by decide +kernel)) (.inl rfl) (EvR.frz (EvR.isL (evl_map (α := Int × Int) (xs := missed.zip bits) (enc := fun z => .tuple [.int z.1, .int z.2]) [("held", 4), ("bit", 5)] (fun z => .int (z.1 + wt * (if Builtin.bitAnd m z.2 = 0 then 1 else 0))) (fun z Δ => sets Δ [4, 5] [.int z.1, .int z.2]) (ItD.is (it_zip true false rfl (B _ (by decide +kernel)) (ev_v 1 rfl) (ev_v 3 rfl)) ?_) rfl sc_missed_by.nd (blkOk_by (N := ["mask", "missed", "weight", "bits", "held", "bit"]) (sc := defScope s_missed_by) (by decide +kernel)) (by rw [List.length_zip]; omega) (is := [4, 5]) (by decide) (fun b hb => fun _ _ _ _ _ => tg_tup sc_missed_by.nd rfl (nm_cons 4 (nm_cons 5 .nil)))
    (fun D es hD z hz => fun _ _ _ _ _ => EvR.is (ev_op od_add (ev_v 4 rfl) (ev_op (od_mul ?_) (ev_v 2 rfl) (ev_callTy (T := "int") (cd_intB (k := decide (Builtin.bitAnd m z.2 = 0))) rfl (B _ (by decide +kernel)) (by decide +kernel) (ea_cons (ev_cmp od_eqI (ev_op od_and (ev_v 0 rfl) (ev_v 5 rfl)) ev_int) ea_nil)))) ?_)) ?_)))
  · rw [List.zip_map, List.map_map]; rfl
  · split <;> exact .inr ⟨by decide, by decide⟩
  · by_cases h : Builtin.bitAnd m z.2 = 0
    · simp [h]
    · simp [h]
  · unfold missedV
    rw [List.map_map]
    rfl
end
end Pk
namespace Pk
open PySem L2 DL
/-! ### sessions, by masks -/
def addK {κ : Type} [DecidableEq κ] (ks : List κ) (k : κ) : List κ := if k ∈ ks then ks else ks ++ [k]
theorem addK_len {κ : Type} [DecidableEq κ] (ks : List κ) (k : κ) : (addK ks k).length ≤ ks.length + 1 := by
  unfold addK; split
  · omega
  · simp
theorem dGet_mem {κ : Type} [DecidableEq κ] (kvs : List (κ × PyData)) (k : κ) : (dGet kvs k).isSome = decide (k ∈ kvs.map (·.1)) := by
  rw [← dGet_any]
  induction kvs with
  | nil => rfl
  | cons p r ih =>
    rw [List.any_cons, ih, List.map_cons]
    by_cases h : p.1 = k
    · simp [h]
    · have : ¬ k = p.1 := fun z => h z.symm
      simp [h, this]
theorem dPut_keys {κ : Type} [DecidableEq κ] {kvs : List (κ × PyData)} {k : κ} {d : PyData} (h : (dGet kvs k).isSome = false) : (dPut kvs k d) = kvs ++ [(k, d)] := by
  unfold dPut
  rw [dGet_any, h]
  rfl
def capV (more rooms : List Int) : List Int := (more.zip rooms).map fun z => min z.1 (z.2 + 1)
def stepK (bits rooms level : List Int) (w : Int) (ks : List (List Int)) : List (List Int) := ks.foldl (fun acc missed => level.foldl (fun acc m => addK acc (capV (missedV m missed w bits) rooms)) acc) []
def statesK (bits rooms level ws : List Int) (n : Nat) : List (List Int) := ws.foldl (fun ks w => stepK bits rooms level w ks) [List.replicate n 0]
def wholeV (bits missed rooms : List Int) : Int := (((bits.zip (missed.zip rooms)).filter fun z => decide (z.2.1 ≤ z.2.2)).map (·.1)).sum
def roomsV (c : Cn) (bs : List Bd) : List Int := bs.map fun b => roomV c (b.col, b.least)
def sessV (c : Cn) (level : List Int) (bs : List Bd) : List Int := (statesK (bitsV bs.length) (roomsV c bs) level c.ws bs.length).foldl (fun acc missed => addK acc (wholeV (bitsV bs.length) missed (roomsV c bs))) []
/-- values of a dict of plans -/
def Lsts {κ : Type} (kvs : List (κ × PyData)) : Prop := ∀ kv ∈ kvs, ∃ ms : List PyData, kv.2 = .list ms ∧ ms.length ≤ 100
theorem fold_len {κ α : Type} [DecidableEq κ] (f : α → κ) : ∀ (l : List α) (acc : List κ), (l.foldl (fun acc a => addK acc (f a)) acc).length ≤ acc.length + l.length
  | [], acc => Nat.le_refl _
  | a :: l, acc => by
    have h1 := fold_len f l (addK acc (f a))
    have h2 := addK_len acc (f a)
    rw [List.foldl_cons, List.length_cons]
    omega
theorem step_len (bits rooms level : List Int) (w : Int) : ∀ (ks acc : List (List Int)), (ks.foldl (fun acc missed => level.foldl (fun acc m => addK acc (capV (missedV m missed w bits) rooms)) acc) acc).length ≤ acc.length + ks.length * level.length
  | [], acc => by simp
  | k :: ks, acc => by
    have h1 := step_len bits rooms level w ks (level.foldl (fun acc m => addK acc (capV (missedV m k w bits) rooms)) acc)
    have h2 := fold_len (fun m => capV (missedV m k w bits) rooms) level acc
    rw [List.foldl_cons, List.length_cons, Nat.add_mul, Nat.one_mul]
    omega
section
variable {P : Program} {w : World} {K : PySem.W.Frag} {mg : Str → Option Value} {base : Heap} {Cc : Addr}
theorem bd_cut (b : Bd) : PyData.tuple (cutD [PyData.int (b.col : Int), .str (wayS b.least), .int b.val] none (some 2)) = sdD (b.col, b.least) := rfl
def n_sess : List Str := ["council", "level", "bounds", "bits", "rooms", "states", "weight", "later", "missed", "masks", "mask", "more", "found", "whole", "bound", "held", "room", "bit"]
theorem sc_sess : FnScope n_sess ["council", "level", "bounds"] (defScope s_sessions_of) := ⟨rfl, rfl, rfl, by decide +kernel, rfl, by decide +kernel, by decide +kernel⟩
def rSess (K : PySem.W.Frag) (ks : List Int) : RR := fun G H v G2 H2 => ∃ ivs : List (Int × PyData), ivs.map (·.1) = ks ∧ Lsts ivs ∧ rDK K ivs G H v G2 H2
def pr_sess (K : PySem.W.Frag) (Cc : Addr) : Hp → List PyData → RR → Prop := fun _ ds R => ∃ (a : Addr) (c : Cn) (level : List Int) (bs : List Bd), ds = [cnD Cc a c, intsD level, bdsD bs] ∧ c.ws.length ≤ 50 ∧ bs.length ≤ 100 ∧ (∀ b ∈ bs, b.col < c.qs.length) ∧ (level.length + 1) ^ c.ws.length ≤ 15000000 ∧ R = rSess K (sessV c level bs)
theorem keys_app {κ : Type} (kvs : List (κ × PyData)) (k : κ) (d : PyData) : (kvs ++ [(k, d)]).map (·.1) = kvs.map (·.1) ++ [k] := by simp
theorem zip_ii (xs ys : List Int) : ((xs.map PyData.int).zip (ys.map PyData.int)).map (fun z => PyData.tuple [z.1, z.2]) = (xs.zip ys).map fun z => .tuple [.int z.1, .int z.2] := by
  rw [List.zip_map, List.map_map]; rfl
theorem zip_iii (xs ys zs : List Int) : ((xs.map PyData.int).zip ((ys.map PyData.int).zip (zs.map PyData.int))).map (fun z => PyData.tuple [z.1, z.2.1, z.2.2]) = (xs.zip (ys.zip zs)).map fun z => .tuple [.int z.1, .int z.2.1, .int z.2.2] := by
  rw [List.zip_map, List.zip_map, List.map_map]; rfl
theorem missedV_len (m : Int) (ms : List Int) (w : Int) (bits : List Int) : (missedV m ms w bits).length ≤ ms.length := by
  unfold missedV; rw [List.length_map, List.length_zip]; omega
theorem capV_len (ms rooms : List Int) : (capV ms rooms).length ≤ ms.length := by
  unfold capV; rw [List.length_map, List.length_zip]; omega
/-- what is known of the states' dict -/
structure StOk (n i : Nat) (kvs : List (List Int × PyData)) : Prop where
  len : ∀ kv ∈ kvs, kv.1.length ≤ n
  vals : ∀ kv ∈ kvs, ∃ ms : List PyData, kv.2 = .list ms ∧ ms.length ≤ i
theorem ok_sess {f : Addr} {fd : FuncData} (F : Fun K "sessions_of" "sessions_of" s_sessions_of f fd) (B : BN mg) (c1 : CalP P w K mg base 1 "bits_of" (pr_bits_of K)) (c2 : CalP P w K mg base 3 "rooms_of" (pr_rooms_of K Cc)) (c3 : CalP P w K mg base 1 "missed_by" (pr_missed_by K)) (m1 : MetP P w K mg base 1 Cc "weights" (pr_cweights K Cc)) : FnOk P w K mg base CX0 4 f fd ["council", "level", "bounds"] (spP K (pr_sess K Cc)) := by
  refine fun_go F sc_sess (by rintro G ds R ⟨a, c, l, bs, rfl, _⟩; rfl) ?_
  rintro cdv A outer s H0 E G H ds R hr ⟨a, c, level, bs, rfl, hcl, hbl, hbc, hsz, rfl⟩
  have hu := hr.units
  have hu1 : (A.deeper (PyProof.Rows.envOfC (Str.ofString "sessions_of") (defScope s_sessions_of) s.heap.objs.size f cdv)).units + 1 < cLine := by omega
  refine go_par 3 4 (d1 := intsD (bitsV bs.length)) (d2 := intsD (roomsV c bs)) (EvR.frz (ev_c c1 hr rfl (ea_cons (ev_len rfl rfl (B _ (by decide +kernel)) (EvR.m (ev_v 2 rfl))) ea_nil) fun _ _ _ => ⟨bs.length, by rw [List.length_map], by omega, rfl⟩)) (EvR.frz (EvR.isL (ev_c c2 hr rfl (ea_cons (ev_v 0 rfl) (ea_cons (EvR.frz (EvR.isL (evl_map [("bound", 14)] (fun b => sdD (b.col, b.least)) (fun b Δ => Δ.set 14 (some (bdD b))) (it_list (ev_v 2 rfl)) rfl sc_sess.nd (blkOk_by (N := n_sess) (sc := defScope s_sessions_of) (by decide +kernel)) (by omega) (is := [14]) (by decide) (fun b hb => fun _ _ _ _ _ => tg_name 14 sc_sess.nd)
    (fun D es hD b hb => fun _ _ _ _ _ => EvR.is (ev_sl sld_tup (ev_v 14 rfl) eo_none (eo_some ev_int)) (bd_cut b))) (?_ : _ = (bs.map fun b => (b.col, b.least)).map sdD))) ea_nil)) fun _ _ _ => ⟨a, c, bs.map fun b => (b.col, b.least), rfl, by rw [List.length_map]; omega, ?_, rfl⟩) ?_)) rfl sc_sess.nd ?_
  · rw [List.map_map]; rfl
  · intro sd hsd
    obtain ⟨b, hb, rfl⟩ := List.mem_map.mp hsd
    exact hbc b hb
  · unfold roomsV; rw [List.map_map, List.map_map, List.map_map]; rfl
  refine go_new1T (k := List.replicate bs.length 0) (d := .list []) 5 hu1 sc_sess.nd ?_ ?_ ?_
  · exact fun q hq => EvR.is (ev_tupleC rfl rfl (B _ (by decide +kernel)) (.inl rfl) (EvR.frz (ev_op (od_repL (n := bs.length) (by omega)) (EvR.frz (evl_lst (ea_cons ev_int ea_nil))) (EvR.is (ev_len rfl rfl (B _ (by decide +kernel)) (EvR.m (ev_v 2 rfl))) (by rw [List.length_map]))))) (by rw [List.map_replicate])
  · exact fun q hq => EvR.frz (evl_lst ea_nil)
  intro q hq
  refine go_lockT hq ?_
  generalize hS0 : ((As.ext G H).and (.fact (Same G) fun _ _ e h => h.trans e)) = S0 at hq ⊢
  have hE : S0.le (.ext G H) := by rw [← hS0]; exact as_l
  refine go_for (α := Int) (xs := c.ws) (enc := .int) (is := [6]) (fun k Δ => Δ.set 6 (some (.int k))) (it_list (EvR.frz (ev_mt0 m1 hr (ev_v 0 rfl) fun _ _ _ => ⟨a, c, rfl, rfl⟩))) (fun k hk => tg_name 6 sc_sess.nd) rfl PassesOwn.never
    (fun i Δ' S' => ∃ (q : Addr) (kvs : List (List Int × PyData)) (o6 o7 o8 o9 o10 o11 : Option PyData), Δ' = [some (cnD Cc a c), some (intsD level), some (bdsD bs), some (intsD (bitsV bs.length)), some (intsD (roomsV c bs)), some (ob q), o6, o7, o8, o9, o10, o11, none, none, none, none, none, none] ∧ S' = S0.and (.dfT K q kvs) ∧
      kvs.map (·.1) = (c.ws.take i).foldl (fun ks w => stepK (bitsV bs.length) (roomsV c bs) level w ks) [List.replicate bs.length 0] ∧ StOk bs.length i kvs ∧ kvs.length ≤ (level.length + 1) ^ i)
    ⟨q, _, none, none, none, none, none, none, rfl, rfl, rfl, ⟨by simp, by simp⟩, by simp⟩ ?_ ?_
  · rintro i wt _ _ hk ⟨q, kvs, o6, o7, o8, o9, o10, o11, rfl, rfl, hkeys, hok, hlen⟩
    have hi : i < c.ws.length := (List.getElem?_eq_some_iff.mp hk).1
    have hpow : (level.length + 1) ^ (i + 1) ≤ 15000000 := Nat.le_trans (Nat.pow_le_pow_right (by omega) hi) hsz
    have hbig : kvs.length * level.length ≤ 15000000 := by
      refine Nat.le_trans ?_ hpow
      rw [Nat.pow_succ]
      exact Nat.mul_le_mul hlen (by omega)
    refine go_newT 7 sc_sess.nd fun q2 hq2 => ?_
    refine go_for (α := List Int × PyData) (xs := kvs) (enc := fun kv => .tuple [.tuple (kv.1.map .int), kv.2]) (is := [8, 9]) (fun kv Δ => sets Δ [8, 9] [rowD kv.1, kv.2]) (it_itemsT (EvR.dT (ev_v 5 rfl) (as_l.trans as_r))) (fun kv hkv => tg_tup sc_sess.nd rfl (nm_cons 8 (nm_cons 9 .nil))) rfl PassesOwn.never
      (fun j Δ' S' => ∃ (lat : List (List Int × PyData)) (o8 o9 o10 o11 : Option PyData), Δ' = [some (cnD Cc a c), some (intsD level), some (bdsD bs), some (intsD (bitsV bs.length)), some (intsD (roomsV c bs)), some (ob q), some (.int wt), some (ob q2), o8, o9, o10, o11, none, none, none, none, none, none] ∧ S' = (S0.and (.dfT K q kvs)).and (.dT K q2 lat) ∧
        lat.map (·.1) = ((kvs.map (·.1)).take j).foldl (fun acc missed => level.foldl (fun acc m => addK acc (capV (missedV m missed wt (bitsV bs.length)) (roomsV c bs))) acc) [] ∧ StOk bs.length (i + 1) lat ∧ lat.length ≤ j * level.length)
      ⟨[], o8, o9, o10, o11, rfl, rfl, rfl, ⟨by simp, by simp⟩, by simp⟩ ?_ ?_
    · rintro j ⟨missed, mv⟩ _ _ hkv ⟨lat, o8, o9, o10, o11, rfl, rfl, hlk, hlok, hll⟩
      have hmem := List.mem_of_getElem? hkv
      have hj : j < kvs.length := (List.getElem?_eq_some_iff.mp hkv).1
      obtain ⟨ms, hms, hmsl⟩ := hok.vals _ hmem
      have hms : mv = .list ms := hms
      subst hms
      have hmn : missed.length ≤ bs.length := hok.len _ hmem
      have hkt : (kvs.map (·.1)).take (j + 1) = (kvs.map (·.1)).take j ++ [missed] := take_some (by rw [List.getElem?_map, hkv]; rfl)
      refine go_for (α := Int) (xs := level) (enc := .int) (is := [10]) (fun k Δ => Δ.set 10 (some (.int k))) (it_list (ev_v 1 rfl)) (fun k hk => tg_name 10 sc_sess.nd) rfl PassesOwn.never
        (fun t Δ' S' => ∃ (lat2 : List (List Int × PyData)) (o10 o11 : Option PyData), Δ' = [some (cnD Cc a c), some (intsD level), some (bdsD bs), some (intsD (bitsV bs.length)), some (intsD (roomsV c bs)), some (ob q), some (.int wt), some (ob q2), some (rowD missed), some (.list ms), o10, o11, none, none, none, none, none, none] ∧ S' = (S0.and (.dfT K q kvs)).and (.dT K q2 lat2) ∧
          lat2.map (·.1) = (level.take t).foldl (fun acc m => addK acc (capV (missedV m missed wt (bitsV bs.length)) (roomsV c bs))) (lat.map (·.1)) ∧ StOk bs.length (i + 1) lat2 ∧ lat2.length ≤ lat.length + t)
        ⟨lat, o10, o11, rfl, rfl, rfl, hlok, Nat.le_refl _⟩ ?_ ?_
      · rintro t mask _ _ hmk ⟨lat2, o10, o11, rfl, rfl, hk2, hok2, hl2⟩
        have ht : t < level.length := (List.getElem?_eq_some_iff.mp hmk).1
        have htk : level.take (t + 1) = level.take t ++ [mask] := take_some hmk
        refine go_set 11 (ev_c c3 hr rfl (ea_cons (ev_v 10 rfl) (ea_cons (ev_v 8 rfl) (ea_cons (ev_v 6 rfl) (ea_cons (ev_v 3 rfl) ea_nil)))) fun _ _ _ => ⟨mask, missed, wt, bitsV bs.length, rfl, by omega, rfl⟩) sc_sess.nd ?_
        refine go_set 11 (d := rowD (capV (missedV mask missed wt (bitsV bs.length)) (roomsV c bs))) (ev_tupleC rfl rfl (B _ (by decide +kernel)) (.inl rfl) (EvR.frz (EvR.isL (evl_map (α := Int × Int) (xs := (missedV mask missed wt (bitsV bs.length)).zip (roomsV c bs)) (enc := fun z => .tuple [.int z.1, .int z.2]) [("held", 15), ("room", 16)] (fun z => .int (min z.1 (z.2 + 1))) (fun z Δ => sets Δ [15, 16] [.int z.1, .int z.2]) (ItD.is (it_zip true false rfl (B _ (by decide +kernel)) (ev_v 11 rfl) (ev_v 4 rfl)) (zip_ii _ _)) rfl sc_sess.nd (blkOk_by (N := n_sess) (sc := defScope s_sessions_of) (by decide +kernel)) (by rw [List.length_zip]; have := missedV_len mask missed wt (bitsV bs.length); omega) (is := [15, 16]) (by decide) (fun b hb => fun _ _ _ _ _ => tg_tup sc_sess.nd rfl (nm_cons 15 (nm_cons 16 .nil)))
          (fun D es hD z hz => fun _ _ _ _ _ => ev_callB (cd_min2 rfl) rfl (B _ (by decide +kernel)) (by decide +kernel) (ea_cons (ev_v 15 rfl) (ea_cons (ev_op od_add (ev_v 16 rfl) ev_int) ea_nil)))) ?_))) sc_sess.nd ?_
        · unfold capV; rw [List.map_map]; rfl
        generalize hmore : capV (missedV mask missed wt (bitsV bs.length)) (roomsV c bs) = more
        have hmorel : more.length ≤ bs.length := by
          rw [← hmore]
          exact Nat.le_trans (capV_len _ _) (Nat.le_trans (missedV_len _ _ _ _) hmn)
        refine go_if (evt_dTnotin hu1 as_r (ev_v 11 rfl) (ev_v 7 rfl)) (fun h => ?_) (fun h => ?_)
        · have hno : (dGet lat2 more).isSome = false := by simpa using h
          have hjl : j * level.length + level.length ≤ kvs.length * level.length := by
            rw [← Nat.succ_mul]; exact Nat.mul_le_mul_right _ hj
          refine go_dTput (P := (· = .list (ms ++ [.int mask]))) hu1 (EvR.x (EvR.frz (ev_op (od_catL (by simp; omega)) (ev_v 9 rfl) (EvR.frz (evl_lst (ea_cons (ev_v 10 rfl) ea_nil))))) rfl) (ev_v 7 rfl) (ev_v 11 rfl) (As.nf hq2) (by omega) fun d hd => ?_
          subst hd
          refine go_nil' (go_turn ⟨_, _, _, rfl, rfl, ?_, ⟨?_, ?_⟩, ?_⟩)
          · rw [dPut_keys hno, keys_app, htk, List.foldl_append, ← hk2]
            show _ = addK (lat2.map (·.1)) (capV (missedV mask missed wt (bitsV bs.length)) (roomsV c bs))
            rw [hmore]
            unfold addK
            rw [dGet_mem] at hno
            rw [if_neg (by simpa using hno)]
          · rw [dPut_keys hno]
            intro kv hkv
            rcases List.mem_append.mp hkv with z | z
            · exact hok2.len kv z
            · rw [List.mem_singleton.mp z]; exact hmorel
          · rw [dPut_keys hno]
            intro kv hkv
            rcases List.mem_append.mp hkv with z | z
            · exact hok2.vals kv z
            · rw [List.mem_singleton.mp z]; exact ⟨_, rfl, by simp; omega⟩
          · rw [dPut_keys hno, List.length_append]; simp; omega
        · have hyes : (dGet lat2 more).isSome = true := by simpa using h
          refine go_nil' (go_turn ⟨lat2, _, _, rfl, rfl, ?_, hok2, by omega⟩)
          rw [htk, List.foldl_append, ← hk2]
          show _ = addK (lat2.map (·.1)) (capV (missedV mask missed wt (bitsV bs.length)) (roomsV c bs))
          rw [hmore]
          unfold addK
          rw [dGet_mem] at hyes
          rw [if_pos (by simpa using hyes)]
      · rintro _ _ ⟨lat2, o10, o11, rfl, rfl, hk2, hok2, hl2⟩
        rw [List.take_length] at hk2
        refine go_turn ⟨lat2, _, _, _, _, rfl, rfl, ?_, hok2, by rw [Nat.succ_mul]; omega⟩
        rw [hk2, hkt, List.foldl_append, ← hlk]
        rfl
    · rintro _ _ ⟨lat, o8, o9, o10, o11, rfl, rfl, hlk, hlok, hll⟩
      refine go_lockT hq2 ?_
      refine go_set 5 (ev_v 7 rfl) sc_sess.nd ?_
      refine Go.le (go_turn ⟨q2, lat, _, _, _, _, _, _, rfl, rfl, ?_, hlok, ?_⟩) (as_mono as_l as_refl)
      · rw [take_some hk, List.foldl_append, ← hkeys]
        rw [List.take_of_length_le (by rw [List.length_map]; omega)] at hlk
        exact hlk
      · refine Nat.le_trans hll ?_
        rw [Nat.pow_succ]
        exact Nat.mul_le_mul hlen (by omega)
  · rintro _ _ ⟨q, kvs, o6, o7, o8, o9, o10, o11, rfl, rfl, hkeys, hok, hlen⟩
    rw [List.take_length] at hkeys
    refine go_newK 12 sc_sess.nd fun q2 hq2 => ?_
    refine go_for (α := List Int × PyData) (xs := kvs) (enc := fun kv => .tuple [.tuple (kv.1.map .int), kv.2]) (is := [8, 9]) (fun kv Δ => sets Δ [8, 9] [rowD kv.1, kv.2]) (it_itemsT (EvR.dT (ev_v 5 rfl) (as_l.trans as_r))) (fun kv hkv => tg_tup sc_sess.nd rfl (nm_cons 8 (nm_cons 9 .nil))) rfl PassesOwn.never
      (fun j Δ' S' => ∃ (fnd : List (Int × PyData)) (o8 o9 o13 : Option PyData), Δ' = [some (cnD Cc a c), some (intsD level), some (bdsD bs), some (intsD (bitsV bs.length)), some (intsD (roomsV c bs)), some (ob q), o6, o7, o8, o9, o10, o11, some (ob q2), o13, none, none, none, none] ∧ S' = (S0.and (.dfT K q kvs)).and (.dK K q2 fnd) ∧
        fnd.map (·.1) = ((kvs.map (·.1)).take j).foldl (fun acc missed => addK acc (wholeV (bitsV bs.length) missed (roomsV c bs))) [] ∧ Lsts fnd ∧ fnd.length ≤ j)
      ⟨[], o8, o9, none, rfl, rfl, rfl, (fun kv h => by cases h), Nat.le_refl _⟩ ?_ ?_
    · rintro j ⟨missed, mv⟩ _ _ hkv ⟨fnd, o8, o9, o13, rfl, rfl, hfk, hfl, hfn⟩
      have hmem := List.mem_of_getElem? hkv
      have hj : j < kvs.length := (List.getElem?_eq_some_iff.mp hkv).1
      obtain ⟨ms, hms, hmsl⟩ := hok.vals _ hmem
      have hms : mv = .list ms := hms
      subst hms
      have hmn : missed.length ≤ bs.length := hok.len _ hmem
      have hkt : (kvs.map (·.1)).take (j + 1) = (kvs.map (·.1)).take j ++ [missed] := take_some (by rw [List.getElem?_map, hkv]; rfl)
      have hlt : kvs.length ≤ 15000000 := Nat.le_trans hlen hsz
      refine go_set 13 (d := .int (wholeV (bitsV bs.length) missed (roomsV c bs))) (ev_sum (f := fun z : Int × Int × Int => z.1) rfl rfl rfl (B _ (by decide +kernel)) (EvR.frz (evl_fil (α := Int × Int × Int) (xs := (bitsV bs.length).zip (missed.zip (roomsV c bs))) (enc := fun z => .tuple [.int z.1, .int z.2.1, .int z.2.2]) [("bit", 17), ("held", 15), ("room", 16)] (fun z => decide (z.2.1 ≤ z.2.2)) (fun z => .int z.1) (fun z Δ => sets Δ [17, 15, 16] [.int z.1, .int z.2.1, .int z.2.2]) (ItD.is (it_zip3 false true false rfl (B _ (by decide +kernel)) (ev_v 3 rfl) (ev_v 8 rfl) (ev_v 4 rfl)) (zip_iii _ _ _)) rfl sc_sess.nd (blkOk_by (N := n_sess) (sc := defScope s_sessions_of) (by decide +kernel)) (by rw [List.length_zip, bitsV_len]; omega) (is := [17, 15, 16]) (by decide) (fun b hb => fun _ _ _ _ _ => tg_tup sc_sess.nd rfl (nm_cons 17 (nm_cons 15 (nm_cons 16 .nil))))
        (fun D es hD z hz => fun _ _ _ _ _ => evt_cmp od_le (ev_v 15 rfl) (ev_v 16 rfl)) (fun D es hD z hz _ => fun _ _ _ _ _ => ev_v 17 rfl)))) sc_sess.nd ?_
      refine go_sdef (ev_v 12 rfl) (ev_v 13 rfl) (ev_v 9 rfl) (As.nf hq2) (by omega) ?_
      refine go_turn ⟨_, _, _, _, rfl, rfl, ?_, ?_, ?_⟩
      · rw [hkt, List.foldl_append, ← hfk]
        show (dDef fnd _ _).map (·.1) = addK (fnd.map (·.1)) (wholeV (bitsV bs.length) missed (roomsV c bs))
        unfold dDef addK
        rw [dGet_mem]
        by_cases h : wholeV (bitsV bs.length) missed (roomsV c bs) ∈ fnd.map (·.1)
        · rw [if_pos (by simpa using h), if_pos h]
        · rw [if_neg (by simpa using h), if_neg h, keys_app]
      · unfold dDef
        split
        · exact hfl
        · intro kv hkv
          rcases List.mem_append.mp hkv with z | z
          · exact hfl kv z
          · rw [List.mem_singleton.mp z]; exact ⟨ms, rfl, by omega⟩
      · unfold dDef
        split
        · omega
        · rw [List.length_append]; simp; omega
    · rintro _ _ ⟨fnd, o8, o9, o13, rfl, rfl, hfk, hfl, hfn⟩
      refine go_lockK hq2 ?_
      refine go_rt (R := rSess K (sessV c level bs)) rfl ((as_l.trans as_l).trans hE) (EvR.imp (EvR.dK (ev_v 12 rfl) as_r) fun G H v G2 H2 g p r => ⟨fnd, ?_, hfl, r⟩) fun _ _ _ _ _ _ _ _ h => h
      rw [hfk, List.take_of_length_le (by rw [List.length_map]; exact Nat.le_refl _), hkeys]
      rfl
end
end Pk
namespace Pk
open PySem L2 DL
/-! ### rounds -/
def metV (bs : List Bd) (r : List Int) : Int := ((((bitsV bs.length).zip bs).filter fun z => meetsV r [z.2]).map (·.1)).sum
def srtB (bs : List Bd) : List Bd := bs.mergeSort (W.dataLe false bdD)
def rowsD (rows : List (List Int)) : PyData := .list (rows.map rowD)
def cnsD (Cc : Addr) (cs : List (Addr × Cn)) : PyData := .list (cs.map fun z => cnD Cc z.1 z.2)
def rdN3 : List Str := ["its_rows", "its_councils", "its_bounds"]
def rdNs : List Str := ["its_rows", "its_councils", "its_bounds", "its_levels", "its_ways"]
def rdD (Cr a q1 q2 : Addr) (dR dC : PyData) (bs : List Bd) : PyData := insD a Cr rdNs [dR, dC, bdsD bs, ob q1, ob q2]
structure RF (K : PySem.W.Frag) (Cr : Addr) : Prop where
  cl : Cls K Cr
  n1 : NoAttr K Cr "its_rows"
  n2 : NoAttr K Cr "its_councils"
  n3 : NoAttr K Cr "its_bounds"
  n4 : NoAttr K Cr "its_levels"
  n5 : NoAttr K Cr "its_ways"
def level0 (bs : List Bd) (rows : List (List Int)) : List Int := greatestV (differentV (rows.map (metV bs)))
def waysV (cs : List Cn) (bs : List Bd) (last : List Int) : List Int := cs.foldl (fun acc c => (sessV c last bs).foldl addK acc) []
def levelV (cs : List Cn) (bs : List Bd) (last : List Int) : List Int := greatestV (differentV (last ++ waysV cs bs last))
def advV (cs : List Cn) (bs : List Bd) (last : List Int) : Option (List Int) := if last = [] then none else if levelV cs bs last = last then none else some (levelV cs bs last)
/-- the levels from l on -/
inductive Lvls (cs : List Cn) (bs : List Bd) : List Int → List (List Int) → Prop
  | stop {l : List Int} (h : advV cs bs l = none) : Lvls cs bs l [l]
  | next {l l' : List Int} {ls : List (List Int)} (h : advV cs bs l = some l') (t : Lvls cs bs l' ls) : Lvls cs bs l (l :: ls)
theorem bdsD_shaped (bs : List Bd) : True := trivial
theorem sok_bds {bs : List Bd} (h : bs.length ≤ 1000000) : Sok (bs.map bdD) :=
  ⟨W.AllAlike.of fun _ _ => rfl, W.Sortable.tuples fun b => ⟨_, _, rfl⟩, (fun d hd => by obtain ⟨i, _, rfl⟩ := List.mem_map.mp hd; simp [bdD, PyData.depth, PyData.depthAll]), by rw [List.length_map]; exact h⟩
theorem dPut_len' {κ : Type} [DecidableEq κ] : ∀ (ms : List κ) (acc : List (κ × PyData)), (ms.foldl (fun acc m => dPut acc m (.bool true)) acc).length ≤ acc.length + ms.length
  | [], acc => Nat.le_refl _
  | m :: ms, acc => by
    have h1 := dPut_len' ms (dPut acc m (.bool true))
    have h2 := dPut_len acc m (.bool true)
    rw [List.foldl_cons, List.length_cons]
    omega
theorem different_len (ms : List Int) : (differentV ms).length ≤ ms.length := by
  unfold differentV
  rw [List.length_map]
  have := dPut_len' ms []
  simpa using this
section
variable {P : Program} {w : World} {K : PySem.W.Frag} {mg : Str → Option Value} {base : Heap} {Cc Cr : Addr}
abbrev MetM (P : Program) (w : World) (K : PySem.W.Frag) (mg : Str → Option Value) (base : Heap) (k : Nat) (C : Addr) (x : Str) (pr : Hp → List PyData → As → RR → Prop) : Prop := C8.Met P w K mg base k C x (spM K pr) []
theorem sc_rmet : FnScope ["self", "row", "bits", "bit", "bound"] ["self", "row"] (defScope s_Rounds_met) := ⟨rfl, rfl, rfl, by decide +kernel, rfl, by decide +kernel, by decide +kernel⟩
def pr_rmet (K : PySem.W.Frag) (Cr : Addr) : Hp → List PyData → As → RR → Prop := fun _ ds T R => ∃ (a : Addr) (r : List Int) (bs : List Bd) (dR dC : PyData), ds = [ob a, rowD r] ∧ bs.length ≤ 1000 ∧ (∀ b ∈ bs, b.col < r.length) ∧ T = As.inst K a Cr rdN3 [dR, dC, bdsD bs] ∧ R = rAnd T (rAt K (.int (metV bs r)))
theorem ok_rmet {f : Addr} {fd : FuncData} (F : Fun K "met" "Rounds.met" s_Rounds_met f fd) (B : BN mg) (C : RF K Cr) (c1 : CalP P w K mg base 1 "bits_of" (pr_bits_of K)) (c2 : CalP P w K mg base 2 "meets" (pr_meets K)) : FnOk P w K mg base CX0 3 f fd ["self", "row"] (spM K (pr_rmet K Cr)) := by
  refine fun_goM F sc_rmet (by rintro G ds T R ⟨a, r, bs, dR, dC, rfl, _⟩; rfl) ?_
  rintro cdv A outer s H0 E G H ds T R hr ⟨a, r, bs, dR, dC, rfl, hl, hb, rfl, rfl⟩
  refine go_set 2 (EvR.frz (ev_c c1 hr rfl (ea_cons (ev_len rfl rfl (B _ (by decide +kernel)) (EvR.m (ev_fldM (ns := rdN3) (ds := [dR, dC, bdsD bs]) 2 as_r (ev_v 0 rfl) C.cl C.n3 rfl))) ea_nil) fun _ _ _ => ⟨bs.length, by rw [List.length_map], by omega, rfl⟩)) sc_rmet.nd ?_
  refine go_rtM (R' := rAt K (.int (metV bs r))) rfl (as_l.trans as_l) (ev_sum (f := fun z : Int × Bd => z.1) (xs := ((bitsV bs.length).zip bs).filter fun z : Int × Bd => meetsV r [z.2]) rfl rfl rfl (B _ (by decide +kernel)) (EvR.frz (evl_fil (α := Int × Bd) (xs := (bitsV bs.length).zip bs) (enc := fun z => .tuple [.int z.1, bdD z.2]) [("bit", 3), ("bound", 4)] (fun z : Int × Bd => meetsV r [z.2]) (fun z : Int × Bd => .int z.1) (fun z Δ => sets Δ [3, 4] [.int z.1, bdD z.2]) (ItD.is (it_zip false false rfl (B _ (by decide +kernel)) (ev_v 2 rfl) (ev_fldM (ns := rdN3) (ds := [dR, dC, bdsD bs]) 2 as_r (ev_v 0 rfl) C.cl C.n3 rfl)) ?_) rfl sc_rmet.nd (blkOk_by (N := ["self", "row", "bits", "bit", "bound"]) (sc := defScope s_Rounds_met) (by decide +kernel)) (by rw [List.length_zip, bitsV_len]; omega) (is := [3, 4]) (by decide) (fun z hz => fun _ _ _ _ _ => tg_tup sc_rmet.nd rfl (nm_cons 3 (nm_cons 4 .nil))) (fun D es hD z hz => fun _ _ _ _ _ => evt_val (ev_c c2 hr rfl (ea_cons (ev_v 1 rfl) (ea_cons (EvR.frz (evl_lst (ea_cons (ev_v 4 rfl) ea_nil))) ea_nil)) fun _ _ _ => ⟨r, [z.2], rfl, by simp, ?_, rfl⟩)) (fun D es hD z hz _ => fun _ _ _ _ _ => ev_v 3 rfl)))) fun v G1 H1 G2 H2 g p r => ⟨p.2, r⟩
  · rw [List.zip_map, List.map_map]; rfl
  · intro b hb'
    rw [List.mem_singleton.mp hb']
    exact hb _ (List.of_mem_zip hz).2
theorem sc_rinit : FnScope ["self", "rows", "councils", "wish", "row"] ["self", "rows", "councils", "wish"] (defScope s_Rounds_init) := ⟨rfl, rfl, rfl, by decide +kernel, rfl, by decide +kernel, by decide +kernel⟩
/-- what a new Rounds holds -/
def rRd (K : PySem.W.Frag) (Cr a : Addr) (dR dC : PyData) (bs : List Bd) (l0 : List Int) : RR := fun _ H v G2 H2 => v = .non ∧ ∃ (q1 q2 : Addr) (wd : PyData), H q1 = none ∧ H q2 = none ∧ q1 ≠ q2 ∧ q1 ≠ a ∧ q2 ≠ a ∧ (As.inst K a Cr rdNs [dR, dC, bdsD bs, ob q1, ob q2]).p G2 H2 ∧ (As.acc K q1 [intsD l0]).p G2 H2 ∧ (As.acc K q2 [wd]).p G2 H2
def pr_rinit (K : PySem.W.Frag) (Cr : Addr) : Hp → List PyData → As → RR → Prop := fun _ ds T R => ∃ (a : Addr) (rows : List (List Int)) (dC : PyData) (wish : List Bd), ds = [ob a, rowsD rows, dC, bdsD wish] ∧ rows.length ≤ 10000 ∧ wish.length ≤ 1000 ∧ (∀ r ∈ rows, ∀ b ∈ wish, b.col < r.length) ∧ T = As.inst K a Cr [] [] ∧ R = rRd K Cr a (rowsD rows) dC (srtB wish) (level0 (srtB wish) rows)
theorem ok_rinit {f : Addr} {fd : FuncData} (F : Fun K "__init__" "Rounds.__init__" s_Rounds_init f fd) (B : BN mg) (C : RF K Cr) (c1 : CalP P w K mg base 1 "greatest_only" (pr_greatest_only K)) (c2 : CalP P w K mg base 1 "different" (pr_different K)) (m1 : MetM P w K mg base 3 Cr "met" (pr_rmet K Cr)) : FnOk P w K mg base CX0 4 f fd ["self", "rows", "councils", "wish"] (spM K (pr_rinit K Cr)) := by
  refine fun_goM F sc_rinit (by rintro G ds T R ⟨a, rows, dC, wish, rfl, _⟩; rfl) ?_
  rintro cdv A outer s H0 E G H ds T R hr ⟨a, rows, dC, wish, rfl, hrl, hwl, hb, rfl, rfl⟩
  have hu := hr.units
  have hfo : ¬ ((As.extx G H (As.inst K a Cr [] []).fo).and (.fact (Same G) fun _ _ e h => h.trans e)).fo a := fun z => z.elim (fun z => z.2 rfl) fun z => z
  have hsl : (srtB wish).length = wish.length := List.length_mergeSort ..
  have hsm : ∀ b ∈ srtB wish, b ∈ wish := fun b hb => (List.mergeSort_perm wish _).mem_iff.mp hb
  refine go_fld1 (ev_v 0 rfl) (ev_v 1 rfl) C.cl C.n1 hfo ?_
  refine go_fld1 (ev_v 0 rfl) (ev_v 2 rfl) C.cl C.n2 hfo ?_
  refine go_fld1 (d := bdsD (srtB wish)) (ev_v 0 rfl) (EvR.is (EvR.frz (evl_sorted rfl hu (sok_bds (by omega)) rfl (B _ (by decide +kernel)) (.inl rfl) (ev_v 3 rfl))) (by rw [srt_map]; rfl)) C.cl C.n3 hfo ?_
  generalize hS0 : ((As.extx G H (As.inst K a Cr [] []).fo).and (.fact (Same G) fun _ _ e h => h.trans e)) = S0 at hfo ⊢
  have hE : S0.le (.extx G H fun x => x = a) := by rw [← hS0]; exact as_l
  have hown : ∀ q, ¬ S0.own q → H q = none := fun q hq => fresh_ext (o := fun x => x = a) fun z => hq (by rw [← hS0]; exact .inl z)
  refine go_fldL (es' := [intsD (level0 (srtB wish) rows)]) 0 rfl (evl_lst (ea_cons (EvR.frz (ev_c c1 hr rfl (ea_cons (EvR.frz (ev_c c2 hr rfl (ea_cons (EvR.frz (EvR.isL (evl_map [("row", 4)] (fun r => .int (metV (srtB wish) r)) (fun r Δ => Δ.set 4 (some (rowD r))) (it_list (ev_v 1 rfl)) rfl sc_rinit.nd (blkOk_by (N := ["self", "rows", "councils", "wish", "row"]) (sc := defScope s_Rounds_init) (by decide +kernel)) (by omega) (is := [4]) (by decide) (fun r hr => fun _ _ _ _ _ => tg_name 4 sc_rinit.nd)
      (fun D es hD r hrm => fun _ _ _ _ _ => evx_mtM (T := As.inst K a Cr rdN3 [rowsD rows, dC, bdsD (srtB wish)]) (ds := [rowsD rows, dC, bdsD (srtB wish)]) m1 hr (ev_v 0 rfl) (as_l.trans as_r) (EvA.x (PL := (· = [rowD r])) (ea_cons (ev_v 4 rfl) ea_nil) rfl) (Has.and (has_here fun x hx e => hfo (by have e : x = a := e; rw [← e]; exact hx)) fun x hx e => hD (.inr (by have hx : x = D := hx; rw [← hx]; exact e))) fun _ _ ds' hds _ => ⟨a, r, srtB wish, rowsD rows, dC, by rw [hds], by omega, fun b hb' => hb r hrm b (hsm b hb'), rfl, rfl⟩)) (?_ : _ = (rows.map (metV (srtB wish))).map .int))) ea_nil) fun _ _ _ => ⟨_, rfl, by rw [List.length_map]; omega, rfl⟩)) ea_nil) fun _ _ _ => ⟨_, rfl, by have := different_len (rows.map (metV (srtB wish))); rw [List.length_map] at this; omega, rfl⟩)) ea_nil)) C.cl C.n4 hfo (fun q1 hq1 hq1a => ?_)
  · rw [List.map_map]; rfl
  · have hfo2 : ¬ (S0.and (.acc K q1 [intsD (level0 (srtB wish) rows)])).fo a := fun z => z.elim hfo fun z => hq1a (by exact z.symm)
    refine go_fldXl (PL := fun ds => ∃ d, ds = [d]) 0 rfl (evx_lst (PL := fun ds => ∃ d, ds = [d]) (EvAX.xx (eax_one (P := fun _ => True) (evx_dict0 fun _ => trivial)) fun ds ⟨d, e, _⟩ => ⟨d, e⟩) fun ds ⟨d, e⟩ => by rw [e]; simp) C.cl C.n5 hfo2 (fun q2 wds hwd hq2 hq2a => ?_)
    obtain ⟨wd, rfl⟩ := hwd
    refine go_nil fun σ G2 H2 _ _ p => ⟨G2, hE _ _ p.1.1.1, rfl, q1, q2, wd, hown q1 hq1, hown q2 fun z => hq2 (.inl z), fun e => hq2 (.inr e.symm), hq1a, hq2a, p.2, p.1.1.2, p.1.2⟩
end
end Pk
namespace Pk
open PySem L2 DL
theorem addK_le {κ : Type} [DecidableEq κ] : ∀ (l acc : List κ), acc.length ≤ (l.foldl addK acc).length
  | [], acc => Nat.le_refl _
  | a :: l, acc => by
    have h1 := addK_le l (addK acc a)
    have h2 : acc.length ≤ (addK acc a).length := by unfold addK; split <;> simp
    rw [List.foldl_cons]; omega
theorem ways_le (bs : List Bd) (last : List Int) : ∀ (cs : List Cn) (acc : List Int), acc.length ≤ (cs.foldl (fun acc c => (sessV c last bs).foldl addK acc) acc).length
  | [], acc => Nat.le_refl _
  | c :: cs, acc => by
    have h1 := ways_le bs last cs ((sessV c last bs).foldl addK acc)
    have h2 := addK_le (sessV c last bs) acc
    rw [List.foldl_cons]; omega
/-- what a round asks of its level -/
structure AdvOk (cs : List Cn) (bs : List Bd) (last : List Int) : Prop where
  bl : bs.length ≤ 100
  len : last.length ≤ 10000
  ways : (waysV cs bs last).length ≤ 10000
  cn : ∀ c ∈ cs, c.ws.length ≤ 50 ∧ (∀ b ∈ bs, b.col < c.qs.length) ∧ (last.length + 1) ^ c.ws.length ≤ 15000000
section
variable {P : Program} {w : World} {K : PySem.W.Frag} {mg : Str → Option Value} {base : Heap} {Cc Cr : Addr}
def n_adv : List Str := ["self", "last", "ways", "index", "council", "mask", "masks", "level"]
theorem sc_radv : FnScope n_adv ["self"] (defScope s_Rounds_advance) := ⟨rfl, rfl, rfl, by decide +kernel, rfl, by decide +kernel, by decide +kernel⟩
def rAdv (K : PySem.W.Frag) (q1 q2 : Addr) (lv : List (List Int)) (wds : List PyData) (o : Option (List Int)) : RR := fun _ _ v G2 H2 => match o with
  | none => At K G2 v (.bool false) ∧ ((As.acc K q1 (lv.map intsD)).and (As.acc K q2 wds)).p G2 H2
  | some l => At K G2 v (.bool true) ∧ ∃ wd, ((As.acc K q1 ((lv ++ [l]).map intsD)).and (As.acc K q2 (wds ++ [wd]))).p G2 H2
def pr_radv (K : PySem.W.Frag) (Cc Cr : Addr) : Hp → List PyData → As → RR → Prop := fun _ ds T R => ∃ (a q1 q2 : Addr) (dR : PyData) (cs : List (Addr × Cn)) (bs : List Bd) (lv : List (List Int)) (last : List Int) (wds : List PyData), ds = [rdD Cr a q1 q2 dR (cnsD Cc cs) bs] ∧ q1 ≠ q2 ∧ lv.getLast? = some last ∧ lv.length ≤ 1000 ∧ wds.length ≤ 1000 ∧ cs.length ≤ 1000 ∧ AdvOk (cs.map (·.2)) bs last ∧
  T = (As.acc K q1 (lv.map intsD)).and (As.acc K q2 wds) ∧ R = rAdv K q1 q2 lv wds (advV (cs.map (·.2)) bs last)
theorem getLast_ix {α : Type} {l : List α} {x : α} (h : l.getLast? = some x) : l[l.length - 1]? = some x := by rw [List.getLast?_eq_getElem?] at h; exact h
theorem ok_radv {f : Addr} {fd : FuncData} (F : Fun K "advance" "Rounds.advance" s_Rounds_advance f fd) (B : BN mg) (C : RF K Cr) (c1 : CalP P w K mg base 1 "greatest_only" (pr_greatest_only K)) (c2 : CalP P w K mg base 1 "different" (pr_different K)) (c3 : CalP P w K mg base 4 "sessions_of" (pr_sess K Cc)) : FnOk P w K mg base CX0 5 f fd ["self"] (spM K (pr_radv K Cc Cr)) := by
  refine fun_goM F sc_radv (by rintro G ds T R ⟨a, q1, q2, dR, cs, bs, lv, last, wds, rfl, _⟩; rfl) ?_
  rintro cdv A outer s H0 E G H ds T R hr ⟨a, q1, q2, dR, cs, bs, lv, last, wds, rfl, hq, hlast, hlv, hwds, hcs, hok, rfl, rfl⟩
  have hu := hr.units
  have hf1 : ¬ ((As.extx G H ((As.acc K q1 (lv.map intsD)).and (As.acc K q2 wds)).fo).and (.fact (Same G) fun _ _ e h => h.trans e)).fo q1 := fun z => z.elim (fun z => z.2 (.inl rfl)) fun z => z
  have hf2 : ¬ ((As.extx G H ((As.acc K q1 (lv.map intsD)).and (As.acc K q2 wds)).fo).and (.fact (Same G) fun _ _ e h => h.trans e)).fo q2 := fun z => z.elim (fun z => z.2 (.inr rfl)) fun z => z
  generalize hS0 : ((As.extx G H ((As.acc K q1 (lv.map intsD)).and (As.acc K q2 wds)).fo).and (.fact (Same G) fun _ _ e h => h.trans e)) = S0 at hf1 hf2 ⊢
  have hE : S0.le (.extx G H ((As.acc K q1 (lv.map intsD)).and (As.acc K q2 wds)).fo) := by rw [← hS0]; exact as_l
  refine go_parK 1 2 (d1 := intsD last) (ev_ixM (i := -1) (as_r.trans as_l) (atI_last ?_) (ev_fld (ns := rdNs) 3 (ev_v 0 rfl) C.cl C.n4 rfl) (ev_un ud_neg ev_int)) rfl sc_radv.nd fun q3 hq3 => ?_
  · rw [List.length_map, List.getElem?_map, getLast_ix hlast]; rfl
  have h31 : q3 ≠ q1 := fun e => hq3 (.inr (.inl e))
  have h32 : q3 ≠ q2 := fun e => hq3 (.inr (.inr e))
  refine go_if (EvT.is (evt_cmpF (of_eqD hu (shaped_ints _) shaped_nil) (EvR.m (ev_v 1 rfl)) (EvR.m (EvR.frz (evl_lst ea_nil)))) (eqv_nil _)) (fun h => ?_) (fun h => go_nil' ?_)
  · have e : last = [] := by cases last with | nil => rfl | cons _ _ => cases h
    refine go_rtM rfl ((as_l.trans as_l).trans hE) ev_bl fun v G1 H1 G2 H2 g p r => ?_
    have : advV (cs.map (·.2)) bs last = none := by unfold advV; rw [if_pos e]
    rw [this]
    exact ⟨r, p.1.2⟩
  have hne : last ≠ [] := fun e => by rw [e] at h; cases h
  refine go_for (α := (Addr × Cn) × Nat) (xs := cs.zipIdx) (enc := fun z => .tuple [.int (z.2 : Nat), cnD Cc z.1.1 z.1.2]) (is := [3, 4]) (fun z Δ => sets Δ [3, 4] [.int (z.2 : Nat), cnD Cc z.1.1 z.1.2]) (ItD.is (it_enum rfl (B _ (by decide +kernel)) (ev_fld (ns := rdNs) 1 (ev_v 0 rfl) C.cl C.n2 rfl)) ?_) (fun z hz => tg_tup sc_radv.nd rfl (nm_cons 3 (nm_cons 4 .nil))) rfl PassesOwn.never
    (fun i Δ' S' => ∃ (wv : List (Int × PyData)) (o3 o4 o5 o6 : Option PyData), Δ' = [some (rdD Cr a q1 q2 dR (cnsD Cc cs) bs), some (intsD last), some (ob q3), o3, o4, o5, o6, none] ∧ S' = (S0.and ((As.acc K q1 (lv.map intsD)).and (As.acc K q2 wds))).and (.dK K q3 wv) ∧ wv.map (·.1) = ((cs.map (·.2)).take i).foldl (fun acc c => (sessV c last bs).foldl addK acc) [])
    ⟨[], none, none, none, none, rfl, rfl, rfl⟩ ?_ ?_
  · rw [List.zipIdx_map, List.map_map]; rfl
  · rintro i ⟨⟨ca, c⟩, idx⟩ _ _ hz ⟨wv, o3, o4, o5, o6, rfl, rfl, hwv⟩
    have hzi : cs[i]? = some (ca, c) := by
      rw [List.getElem?_zipIdx] at hz
      cases q : cs[i]? with
      | none => rw [q] at hz; cases hz
      | some y => rw [q] at hz; cases hz; rfl
    have hcm : c ∈ cs.map (·.2) := List.mem_map.mpr ⟨_, List.mem_of_getElem? hzi, rfl⟩
    obtain ⟨hc1, hc2, hc3⟩ := hok.cn c hcm
    have htk : (cs.map (·.2)).take (i + 1) = (cs.map (·.2)).take i ++ [c] := take_some (by rw [List.getElem?_map, hzi]; rfl)
    refine go_forX (α := Int × PyData) (enc := fun kv => .tuple [.int kv.1, kv.2]) (is := [5, 6]) (PX := fun ivs => ivs.map (·.1) = sessV c last bs ∧ Lsts ivs) (fun kv Δ => sets Δ [5, 6] [.int kv.1, kv.2]) (it_itemsKX (PI := fun ivs => ivs.map (·.1) = sessV c last bs ∧ Lsts ivs) (EvR.imp (ev_c c3 hr rfl (ea_cons (ev_v 4 rfl) (ea_cons (ev_v 1 rfl) (ea_cons (ev_fld (ns := rdNs) 2 (ev_v 0 rfl) C.cl C.n3 rfl) ea_nil))) (fun _ _ _ => ⟨ca, c, last, bs, rfl, hc1, hok.bl, hc2, hc3, rfl⟩) (hR := fun _ _ _ _ _ _ _ _ h => h)) fun G H v G2 H2 g p ⟨ivs, h1, h2, h3⟩ => ⟨ivs, ⟨h1, h2⟩, h3⟩)) (fun ivs _ kv hkv => tg_tup sc_radv.nd rfl (nm_cons 5 (nm_cons 6 .nil))) rfl PassesOwn.never
      (fun ivs j Δ' S' => ∃ (wv2 : List (Int × PyData)) (o5 o6 : Option PyData), Δ' = [some (rdD Cr a q1 q2 dR (cnsD Cc cs) bs), some (intsD last), some (ob q3), some (.int (idx : Nat)), some (cnD Cc ca c), o5, o6, none] ∧ S' = (S0.and ((As.acc K q1 (lv.map intsD)).and (As.acc K q2 wds))).and (.dK K q3 wv2) ∧ wv2.map (·.1) = ((ivs.map (·.1)).take j).foldl addK (wv.map (·.1)))
      (fun ivs _ => ⟨wv, o5, o6, rfl, rfl, rfl⟩) ?_ ?_
    · rintro ivs ⟨hi1, hi2⟩ j ⟨m, mv⟩ _ _ hkv ⟨wv2, o5, o6, rfl, rfl, hw2⟩
      have hjt : (ivs.map (·.1)).take (j + 1) = (ivs.map (·.1)).take j ++ [m] := take_some (by rw [List.getElem?_map, hkv]; rfl)
      have hsmall : wv2.length ≤ 10000 := by
        have e1 : wv2.length = (wv2.map (·.1)).length := by simp
        have e2 : ((ivs.map (·.1)).take j ++ (ivs.map (·.1)).drop j) = ivs.map (·.1) := List.take_append_drop ..
        have e3 := addK_le ((ivs.map (·.1)).drop j) (wv2.map (·.1))
        have e4 : ((ivs.map (·.1)).drop j).foldl addK (wv2.map (·.1)) = (sessV c last bs).foldl addK (wv.map (·.1)) := by rw [hw2, ← List.foldl_append, e2, hi1]
        have e5 := ways_le bs last ((cs.map (·.2)).drop (i + 1)) ((sessV c last bs).foldl addK (wv.map (·.1)))
        have e6 : ((cs.map (·.2)).drop (i + 1)).foldl (fun acc c => (sessV c last bs).foldl addK acc) ((sessV c last bs).foldl addK (wv.map (·.1))) = waysV (cs.map (·.2)) bs last := by
          unfold waysV
          conv => rhs; rw [← List.take_append_drop (i + 1) (cs.map (·.2))]
          rw [List.foldl_append, htk, List.foldl_append, ← hwv]
          rfl
        rw [e4] at e3
        rw [e6] at e5
        have := hok.ways
        omega
      refine go_sdef (ev_v 2 rfl) (ev_v 5 rfl) (ev_tup (ea_cons (ev_v 3 rfl) (ea_cons (ev_v 6 rfl) ea_nil))) (As.nf hq3) (by omega) ?_
      refine go_turn ⟨_, _, _, rfl, rfl, ?_⟩
      rw [hjt, List.foldl_append, ← hw2]
      show (dDef wv2 m _).map (·.1) = addK (wv2.map (·.1)) m
      unfold dDef addK
      rw [dGet_mem]
      by_cases h : m ∈ wv2.map (·.1)
      · rw [if_pos (by simpa using h), if_pos h]
      · rw [if_neg (by simpa using h), if_neg h, keys_app]
    · rintro ivs ⟨hi1, hi2⟩ _ _ ⟨wv2, o5, o6, rfl, rfl, hw2⟩
      refine go_turn ⟨wv2, _, _, _, _, rfl, rfl, ?_⟩
      rw [hw2, List.take_of_length_le (by rw [List.length_map]; exact Nat.le_refl _), hi1, htk, List.foldl_append, ← hwv]
      rfl
  · rintro _ _ ⟨wv, o3, o4, o5, o6, rfl, rfl, hwv⟩
    have hwv2 : wv.map (·.1) = waysV (cs.map (·.2)) bs last := by
      rw [hwv, List.take_of_length_le (by rw [List.length_zipIdx, List.length_map]; exact Nat.le_refl _)]; rfl
    have hwl : wv.length ≤ 10000 := by
      have := congrArg List.length hwv2
      rw [List.length_map] at this
      have := hok.ways
      omega
    have hlen := hok.len
    refine go_set 7 (d := intsD (levelV (cs.map (·.2)) bs last)) (EvR.frz (ev_c c1 hr rfl (ea_cons (EvR.frz (ev_c c2 hr rfl (ea_cons ?cat ea_nil) fun _ _ _ => ⟨_, rfl, by rw [List.length_append, ← hwv2, List.length_map]; omega, rfl⟩)) ea_nil) fun _ _ _ => ⟨_, rfl, by have := different_len (last ++ waysV (cs.map (·.2)) bs last); rw [List.length_append, ← hwv2, List.length_map] at this; rw [← hwv2]; omega, rfl⟩)) sc_radv.nd ?_
    case cat =>
      refine EvR.frz (EvR.isL (ds := last.map .int ++ wv.map fun kv => .int kv.1) ?_ (by rw [← hwv2, List.map_append, List.map_map]; rfl))
      refine ev_op (od_catL (by rw [List.length_map, List.length_map]; omega)) (ev_v 1 rfl) (EvR.frz ?_)
      exact evl_listK rfl rfl rfl (B _ (by decide +kernel)) as_r (ev_v 2 rfl)
    refine go_if (EvT.is (evt_cmpF (of_eqD hu (shaped_ints _) (shaped_ints _)) (EvR.m (ev_v 7 rfl)) (EvR.m (ev_v 1 rfl))) (eqv_ints _ _)) (fun h => ?_) (fun h => go_nil' ?_)
    · refine go_rtM rfl ((as_l.trans as_l).trans hE) ev_bl fun v G1 H1 G2 H2 g p r => ?_
      have : advV (cs.map (·.2)) bs last = none := by unfold advV; rw [if_neg hne, if_pos (of_decide_eq_true h)]
      rw [this]
      exact ⟨r, p.1.2⟩
    have hadv : advV (cs.map (·.2)) bs last = some (levelV (cs.map (·.2)) bs last) := by unfold advV; rw [if_neg hne, if_neg (of_decide_eq_false h)]
    rw [hadv]
    refine Go.le (T := ((S0.and (.dK K q3 wv)).and (As.acc K q2 wds)).and (As.acc K q1 (lv.map intsD))) ?_ fun G H z => ⟨⟨⟨z.1.1, z.2⟩, z.1.2.2⟩, z.1.2.1⟩
    refine go_app (ev_fld (ns := rdNs) 3 (ev_v 0 rfl) C.cl C.n4 rfl) (ev_v 7 rfl) (fun z => z.elim (fun z => z.elim hf1 fun z => h31 (by exact z.symm)) fun z => hq (by exact z)) (by rw [List.length_map]; omega) ?_
    refine Go.le (T := ((S0.and (.dK K q3 wv)).and (As.acc K q1 (lv.map intsD ++ [intsD (levelV (cs.map (·.2)) bs last)]))).and (As.acc K q2 wds)) ?_ fun G H z => ⟨⟨z.1.1, z.2⟩, z.1.2⟩
    refine go_app (ev_fld (ns := rdNs) 4 (ev_v 0 rfl) C.cl C.n5 rfl) (ev_v 2 rfl) (fun z => z.elim (fun z => z.elim hf2 fun z => h32 (by exact z.symm)) fun z => hq (by exact z.symm)) (by omega) ?_
    refine go_rtM rfl (((as_l.trans as_l).trans as_l).trans hE) ev_bl fun v G1 H1 G2 H2 g p r => ⟨r, _, ?_, p.2⟩
    rw [List.map_append]
    exact p.1.2
end
end Pk
namespace Pk
open PySem L2 DL
/-- a level's sets, in order -/
def setsD (bs : List Bd) (l : List Int) : List PyData := srt false (l.map fun m => bdsD (membersV bs m))
theorem alike_bds : ∀ xs ys : List Bd, W.alikeAll (xs.map bdD) (ys.map bdD) = true
  | [], _ => by simp [W.alikeAll]
  | _ :: _, [] => by simp [W.alikeAll]
  | x :: xs, y :: ys => by
    rw [List.map_cons, List.map_cons, W.alikeAll, alike_bds xs ys]
    rfl
theorem depth_bds : ∀ xs : List Bd, PyData.depthAll (xs.map bdD) ≤ 1
  | [] => by simp [PyData.depthAll]
  | x :: xs => by
    have := depth_bds xs
    simp only [List.map_cons, PyData.depthAll, bdD, PyData.depth]
    omega
theorem sok_sets {ss : List (List Bd)} (h : ss.length ≤ 1000000) : Sok (ss.map bdsD) :=
  ⟨W.AllAlike.of fun a b => by show W.alike (.list _) (.list _) = true; rw [W.alike]; exact alike_bds a b, W.Sortable.others fun _ => ⟨(fun z => by cases z), (fun _ z => by cases z)⟩, (fun d hd => by
    obtain ⟨i, _, rfl⟩ := List.mem_map.mp hd
    have := depth_bds i
    simp only [bdsD, PyData.depth]
    omega), by rw [List.length_map]; exact h⟩
section
variable {P : Program} {w : World} {K : PySem.W.Frag} {mg : Str → Option Value} {base : Heap} {Cc Cr : Addr}
theorem sc_rsets : FnScope ["self", "level", "mask"] ["self", "level"] (defScope s_Rounds_sets) := ⟨rfl, rfl, rfl, by decide +kernel, rfl, by decide +kernel, by decide +kernel⟩
def pr_rsets (K : PySem.W.Frag) (Cr : Addr) : Hp → List PyData → As → RR → Prop := fun _ ds T R => ∃ (a q1 q2 : Addr) (dR dC : PyData) (bs : List Bd) (lv : List (List Int)) (i : Nat) (l : List Int), ds = [rdD Cr a q1 q2 dR dC bs, .int i] ∧ lv[i]? = some l ∧ l.length ≤ 10000 ∧ bs.length ≤ 1000 ∧ T = As.acc K q1 (lv.map intsD) ∧ R = rAnd T (rNl K (setsD bs l))
theorem ok_rsets {f : Addr} {fd : FuncData} (F : Fun K "sets" "Rounds.sets" s_Rounds_sets f fd) (B : BN mg) (C : RF K Cr) (c1 : CalP P w K mg base 2 "members" (pr_members K)) : FnOk P w K mg base CX0 3 f fd ["self", "level"] (spM K (pr_rsets K Cr)) := by
  refine fun_goM F sc_rsets (by rintro G ds T R ⟨a, q1, q2, dR, dC, bs, lv, i, l, rfl, _⟩; rfl) ?_
  rintro cdv A outer s H0 E G H ds T R hr ⟨a, q1, q2, dR, dC, bs, lv, i, l, rfl, hi, hl, hb, rfl, rfl⟩
  have hu := hr.units
  refine go_rtM (R' := rNl K (setsD bs l)) rfl (as_l.trans as_l) (EvR.isL (ds := srt false ((l.map fun m => membersV bs m).map bdsD)) (evl_sorted rfl hu (sok_sets (by rw [List.length_map]; omega)) rfl (B _ (by decide +kernel)) (.inl rfl) (EvR.frz ?_)) (by unfold setsD; rw [List.map_map]; rfl)) fun v G1 H1 G2 H2 g p r => ⟨p.2, back_nl _ _ _ _ _ _ _ g r⟩
  refine EvR.isL (evl_map [("mask", 2)] (fun m : Int => bdsD (membersV bs m)) (fun m Δ => Δ.set 2 (some (.int m))) (it_list (ev_ixM (d := intsD l) (i := (i : Int)) as_r (atI_nat' ?_) (ev_fld (ns := rdNs) 3 (ev_v 0 rfl) C.cl C.n4 rfl) (ev_v 1 rfl))) rfl sc_rsets.nd (blkOk_by (N := ["self", "level", "mask"]) (sc := defScope s_Rounds_sets) (by decide +kernel)) (by omega) (is := [2]) (by decide) (fun m hm => fun _ _ _ _ _ => tg_name 2 sc_rsets.nd) (fun D es hD m hm => fun _ _ _ _ _ => EvR.is (EvR.frz (ev_c c1 hr rfl (ea_cons (ev_fld (ns := rdNs) 2 (ev_v 0 rfl) C.cl C.n3 rfl) (ea_cons (ev_v 2 rfl) ea_nil)) fun _ _ _ => ⟨bs.map bdD, m, rfl, by rw [List.length_map]; omega, rfl⟩)) (by rw [membersV_map]; rfl))) ?_
  · rw [List.getElem?_map, hi]; rfl
  · rw [List.map_map]; rfl
theorem sc_met_sets : FnScope ["rows", "councils", "wish", "rounds", "grown", "level"] ["rows", "councils", "wish"] (defScope s_met_sets) := ⟨rfl, rfl, rfl, by decide +kernel, rfl, by decide +kernel, by decide +kernel⟩
def pr_met_sets (K : PySem.W.Frag) (Cc : Addr) : Hp → List PyData → RR → Prop := fun _ ds R => ∃ (rows : List (List Int)) (cs : List (Addr × Cn)) (wish : List Bd) (lv : List (List Int)), ds = [rowsD rows, cnsD Cc cs, bdsD wish] ∧ rows.length ≤ 10000 ∧ cs.length ≤ 1000 ∧ wish.length ≤ 100 ∧ (∀ r ∈ rows, ∀ b ∈ wish, b.col < r.length) ∧
  Lvls (cs.map (·.2)) (srtB wish) (level0 (srtB wish) rows) lv ∧ lv.length ≤ 500 ∧ (∀ l ∈ lv, AdvOk (cs.map (·.2)) (srtB wish) l) ∧ R = rNl K (lv.map fun l => .list (setsD (srtB wish) l))
def grownT (Δ : De) : Bool := match Δ[4]? with
  | some (some (PyData.bool b)) => b
  | _ => false
theorem Lvls.ne {cs : List Cn} {bs : List Bd} {l : List Int} {ls : List (List Int)} (h : Lvls cs bs l ls) : ∃ r, ls = l :: r := by cases h with | stop _ => exact ⟨[], rfl⟩ | next _ t => exact ⟨_, rfl⟩
theorem ok_met_sets {f : Addr} {fd : FuncData} (F : Fun K "met_sets" "met_sets" s_met_sets f fd) (B : BN mg) (C : RF K Cr) (c1 : C8.Mak P w K mg base 4 "Rounds" Cr (spM K (pr_rinit K Cr)) []) (m1 : MetM P w K mg base 5 Cr "advance" (pr_radv K Cc Cr)) (m2 : MetM P w K mg base 3 Cr "sets" (pr_rsets K Cr)) : FnOk P w K mg base CX0 6 f fd ["rows", "councils", "wish"] (spP K (pr_met_sets K Cc)) := by
  refine fun_go F sc_met_sets (by rintro G ds R ⟨rows, cs, wish, lv, rfl, _⟩; rfl) ?_
  rintro cdv A outer s H0 E G H ds R hr ⟨rows, cs, wish, lv, rfl, hrl, hcl, hwl, hcol, hlv, hlvl, hok, rfl⟩
  have hsl : (srtB wish).length = wish.length := List.length_mergeSort ..
  generalize hS0 : ((As.ext G H).and (.fact (Same G) fun _ _ e h => h.trans e)) = S0
  have hE : S0.le (.ext G H) := by rw [← hS0]; exact as_l
  refine go_setMk 3 c1 hr rfl (ea_cons (ev_v 0 rfl) (ea_cons (ev_v 1 rfl) (ea_cons (ev_v 2 rfl) ea_nil))) (Rm := fun a => rRd K Cr a (rowsD rows) (cnsD Cc cs) (srtB wish) (level0 (srtB wish) rows)) (fun _ _ _ a => ⟨a, rows, cnsD Cc cs, wish, rfl, hrl, by omega, hcol, rfl, rfl⟩) sc_met_sets.nd fun a G1 H1 v G2 H2 ha hnew pS hR => ?_
  obtain ⟨hv, q1, q2, wd, h1, h2, h12, h1a, h2a, hi, hp1, hp2⟩ := hR
  refine ⟨hv, rdNs, [rowsD rows, cnsD Cc cs, bdsD (srtB wish), ob q1, ob q2], (S0.and ((As.acc K q1 ([level0 (srtB wish) rows].map intsD)).and (As.acc K q2 [wd]))), fun z => z.elim ha fun z => z.elim (fun z => h1a (by exact z.symm)) fun z => h2a (by exact z.symm), ⟨pS, hp1, hp2⟩, hi, ?_⟩
  have hq1 := hnew q1 h1
  have hq2 := hnew q2 h2
  have hfo : ∀ (l1 l2 : List PyData) x, S0.fo x → ¬ ((As.acc K q1 l1).and (As.acc K q2 l2)).fo x := fun l1 l2 x hx z => z.elim (fun e => hq1 (by have e : x = q1 := e; rw [← e]; exact S0.fo_own hx)) fun e => hq2 (by have e : x = q2 := e; rw [← e]; exact S0.fo_own hx)
  refine go_set 4 ev_bl sc_met_sets.nd ?_
  refine go_while (W := fun m Δ S => ∃ (done rest : List (List Int)) (wds : List PyData) (g : Bool), Δ = [some (rowsD rows), some (cnsD Cc cs), some (bdsD wish), some (rdD Cr a q1 q2 (rowsD rows) (cnsD Cc cs) (srtB wish)), some (.bool g), none] ∧ S = S0.and ((As.acc K q1 (done.map intsD)).and (As.acc K q2 wds)) ∧ wds.length = done.length ∧ lv = done ++ rest ∧
      (g = true → m = rest.length + 1 ∧ ∃ l, done.getLast? = some l ∧ Lvls (cs.map (·.2)) (srtB wish) l (l :: rest)) ∧ (g = false → m = 0 ∧ rest = [])) (T := fun Δ _ => grownT Δ) lv.length ?_ ?_ PassesOwn.never ?_ ?_
  · obtain ⟨r, e⟩ := hlv.ne
    refine ⟨[level0 (srtB wish) rows], r, [wd], true, rfl, rfl, rfl, e, fun _ => ⟨by rw [e, List.length_cons], level0 (srtB wish) rows, rfl, by rw [← e]; exact hlv⟩, fun z => by cases z⟩
  · rintro m _ _ ⟨done, rest, wds, g, rfl, rfl, _⟩
    exact evt_val (ev_v 4 rfl)
  · rintro m _ _ ⟨done, rest, wds, g, rfl, rfl, hwd, hsplit, hg, _⟩ hT
    have hg1 : g = true := hT
    subst hg1
    obtain ⟨hm, l, hl, hL⟩ := hg rfl
    have hdl : done.length ≤ lv.length := by rw [hsplit, List.length_append]; omega
    have hlm : l ∈ lv := by rw [hsplit]; exact List.mem_append_left _ (List.mem_of_getLast? hl)
    refine go_setMt0 4 m1 hr (ev_v 3 rfl) (hfo _ _) (fun _ _ _ => ⟨a, q1, q2, rowsD rows, cs, srtB wish, done, l, wds, rfl, h12, hl, by omega, by omega, hcl, hok l hlm, rfl, rfl⟩) sc_met_sets.nd fun G1 H1 v G2 H2 pS hR => ?_
    cases hL with
    | stop h =>
      rw [h] at hR
      exact ⟨.bool false, S0.and ((As.acc K q1 (done.map intsD)).and (As.acc K q2 wds)), hR.1, ⟨pS, hR.2⟩, go_turn ⟨0, by omega, done, [], wds, false, rfl, rfl, hwd, hsplit, (fun z => by cases z), fun _ => ⟨rfl, rfl⟩⟩⟩
    | @next _ l' ls h t =>
      rw [h] at hR
      obtain ⟨hv1, wd2, hp⟩ := hR
      obtain ⟨r2, e2⟩ := t.ne
      refine ⟨.bool true, S0.and ((As.acc K q1 ((done ++ [l']).map intsD)).and (As.acc K q2 (wds ++ [wd2]))), hv1, ⟨pS, hp⟩, go_turn ⟨r2.length + 1, by rw [hm, e2, List.length_cons]; omega, done ++ [l'], r2, wds ++ [wd2], true, rfl, rfl, by simp [hwd], by rw [hsplit, e2, List.append_assoc]; rfl, fun _ => ⟨rfl, l', by simp, by rw [← e2]; exact t⟩, fun z => by cases z⟩⟩
  · rintro m _ _ ⟨done, rest, wds, g, rfl, rfl, hwd, hsplit, _, hg⟩ hT
    have hg1 : g = false := hT
    subst hg1
    obtain ⟨_, rfl⟩ := hg rfl
    rw [List.append_nil] at hsplit
    subst hsplit
    refine go_rt rfl (as_l.trans hE) (EvR.isL (evl_map (xs := List.range lv.length) [("level", 5)] (fun i : Nat => .list (setsD (srtB wish) (lv.getD i []))) (fun i Δ => Δ.set 5 (some (.int (i : Nat)))) (it_rng rfl (B _ (by decide +kernel)) (EvR.is (ev_len rfl rfl (B _ (by decide +kernel)) (EvR.mu (ev_fld (ns := rdNs) 3 (ev_v 3 rfl) C.cl C.n4 rfl) (as_r.trans as_l))) (by rw [List.length_map])) (by omega)) rfl sc_met_sets.nd (blkOk_by (N := ["rows", "councils", "wish", "rounds", "grown", "level"]) (sc := defScope s_met_sets) (by decide +kernel)) (by rw [List.length_range]; omega) (is := [5]) (by decide) (fun m hm => fun _ _ _ _ _ => tg_name 5 sc_met_sets.nd) (fun D es hD i hi => fun _ _ _ _ _ => EvR.frz (evx_mtK (T := As.acc K q1 (lv.map intsD)) m2 hr (ev_v 3 rfl) (EvA.x (PL := (· = [.int (i : Nat)])) (ea_cons (ev_v 5 rfl) ea_nil) rfl) ?_ fun _ _ ds' hds _ => ⟨a, q1, q2, rowsD rows, cnsD Cc cs, srtB wish, lv, i, lv.getD i [], by rw [hds]; rfl, ?_, ?_, by omega, rfl, rfl⟩))) ?_)
    · refine Has.and ⟨S0.and (As.acc K q2 wds), fun G H z => ⟨⟨z.1, z.2.2⟩, z.2.1⟩, fun G H z => ⟨z.1.1, z.2, z.1.2⟩, fun x hx e => ?_⟩ fun x hx e => hD (.inr (.inl (by have hx : x = D := hx; rw [← hx]; exact e)))
      have e : x = q1 := e
      exact hx.elim (fun z => hq1 (by rw [← e]; exact S0.fo_own z)) fun z => h12 (by have z : x = q2 := z; rw [← e, z])
    · have : i < lv.length := by simpa using hi
      rw [List.getElem?_eq_getElem this]; simp [List.getD, this]
    · have : i < lv.length := by simpa using hi
      have h : lv.getD i [] ∈ lv := by simp [List.getD, this]
      exact (hok _ h).len
    · refine List.ext_getElem (by simp) fun i h1 h2 => ?_
      have : i < lv.length := by simpa using h1
      simp [List.getD, this]
end
end Pk
namespace Pk
open PySem L2 DL
theorem wayS_most (b : Bool) : decide (wayS b = ("most" : Str)) = !b := by cases b <;> decide +kernel
theorem eqv_str (x y : Str) : PyData.eqv (.str x) (.str y) = decide (x = y) := by
  rw [PyData.eqv]
  by_cases h : x = y <;> simp [h]
theorem eqv_int (x y : Int) : PyData.eqv (.int x) (.int y) = decide (x = y) := by
  rw [PyData.eqv]
  by_cases h : x = y <;> simp [h]
theorem wayS_inj (a b : Bool) : decide (wayS a = wayS b) = decide (a = b) := by cases a <;> cases b <;> decide +kernel
theorem eqv_bd (a b : Bd) : PyData.eqv (bdD a) (bdD b) = decide (a = b) := by
  unfold bdD
  simp only [PyData.eqv, PyData.eqvAll, Bool.and_true]
  rw [show ((a.col : Int) == (b.col : Int)) = decide (a.col = b.col) by
    by_cases h : a.col = b.col
    · simp [h]
    · have : ¬ (a.col : Int) = (b.col : Int) := by omega
      simp [h, this]]
  have e2 : (wayS a.least == wayS b.least) = decide (a.least = b.least) := by rw [← wayS_inj]; by_cases h : wayS a.least = wayS b.least <;> simp [h]
  have e3 : (a.val == b.val) = decide (a.val = b.val) := by by_cases h : a.val = b.val <;> simp [h]
  rw [e2, e3]
  obtain ⟨c1, l1, v1⟩ := a
  obtain ⟨c2, l2, v2⟩ := b
  simp only [Bd.mk.injEq]
  by_cases h1 : c1 = c2 <;> by_cases h2 : l1 = l2 <;> by_cases h3 : v1 = v2 <;> simp [h1, h2, h3]
theorem eqvAll_bds : ∀ xs ys : List Bd, PyData.eqvAll (xs.map bdD) (ys.map bdD) = decide (xs = ys)
  | [], ys => by cases ys <;> simp [PyData.eqvAll]
  | x :: xs, [] => by simp [PyData.eqvAll]
  | x :: xs, y :: ys => by
    rw [List.map_cons, List.map_cons, PyData.eqvAll, eqv_bd, eqvAll_bds xs ys]
    by_cases h : x = y <;> simp [h]
theorem eqv_bds (xs ys : List Bd) : PyData.eqv (bdsD xs) (bdsD ys) = decide (xs = ys) := by
  unfold bdsD; rw [PyData.eqv]; exact eqvAll_bds xs ys
theorem eqvAll_sets : ∀ xs ys : List (List Bd), PyData.eqvAll (xs.map bdsD) (ys.map bdsD) = decide (xs = ys)
  | [], ys => by cases ys <;> simp [PyData.eqvAll]
  | x :: xs, [] => by simp [PyData.eqvAll]
  | x :: xs, y :: ys => by
    rw [List.map_cons, List.map_cons, PyData.eqvAll, eqv_bds, eqvAll_sets xs ys]
    by_cases h : x = y <;> simp [h]
theorem eqv_sets (xs ys : List (List Bd)) : PyData.eqv (.list (xs.map bdsD)) (.list (ys.map bdsD)) = decide (xs = ys) := by rw [PyData.eqv]; exact eqvAll_sets xs ys
theorem strOk_way (b : Bool) : PyData.strOk (wayS b) = true := by cases b <;> decide +kernel
theorem canLay_bd (b : Bd) : (bdD b).canLay0 = true := by
  unfold bdD
  simp [PyData.canLay0, PyData.canLayAll0, strOk_way]
theorem canLay_bds : ∀ xs : List Bd, PyData.canLayAll0 (xs.map bdD) = true
  | [] => rfl
  | x :: xs => by rw [List.map_cons, PyData.canLayAll0, canLay_bds xs, canLay_bd]; rfl
theorem shaped_bd (b : Bd) : SeqAt.shaped (bdD b) = true := by
  unfold SeqAt.shaped
  rw [canLay_bd]
  unfold bdD
  simp [PyData.depth, PyData.depthAll]
theorem shaped_bds (xs : List Bd) : SeqAt.shaped (bdsD xs) = true := by
  have h := depth_bds xs
  have h2 : (bdsD xs).depth = 1 + PyData.depthAll (xs.map bdD) := by unfold bdsD; rw [PyData.depth] <;> omega
  unfold SeqAt.shaped
  rw [Bool.and_eq_true, decide_eq_true_eq]
  exact ⟨by unfold bdsD; rw [PyData.canLay0, canLay_bds], by omega⟩
theorem canLay_sets : ∀ xs : List (List Bd), PyData.canLayAll0 (xs.map bdsD) = true
  | [] => rfl
  | x :: xs => by rw [List.map_cons, PyData.canLayAll0, canLay_sets xs]; unfold bdsD; rw [PyData.canLay0, canLay_bds]; rfl
theorem depth_sets : ∀ xs : List (List Bd), PyData.depthAll (xs.map bdsD) ≤ 2
  | [] => by simp [PyData.depthAll]
  | x :: xs => by
    have h1 := depth_sets xs
    have h2 := depth_bds x
    simp only [List.map_cons, PyData.depthAll, bdsD, PyData.depth] at h1 ⊢
    omega
theorem shaped_sets (xs : List (List Bd)) : SeqAt.shaped (.list (xs.map bdsD)) = true := by
  have h := depth_sets xs
  have h2 : (PyData.list (xs.map bdsD)).depth = 1 + PyData.depthAll (xs.map bdsD) := by rw [PyData.depth] <;> omega
  unfold SeqAt.shaped
  rw [Bool.and_eq_true, decide_eq_true_eq]
  exact ⟨by rw [PyData.canLay0, canLay_sets], by omega⟩
theorem any_bd (b : Bd) (xs : List Bd) : ((xs.map bdD).any fun z => PyData.eqv z (bdD b)) = decide (b ∈ xs) := by
  induction xs with
  | nil => rfl
  | cons x xs ih =>
    rw [List.map_cons, List.any_cons, ih, eqv_bd]
    by_cases h : x = b
    · simp [h]
    · have : ¬ b = x := fun e => h e.symm
      simp [h, this]
theorem any_set (b : List Bd) (xs : List (List Bd)) : ((xs.map bdsD).any fun z => PyData.eqv z (bdsD b)) = decide (b ∈ xs) := by
  induction xs with
  | nil => rfl
  | cons x xs ih =>
    rw [List.map_cons, List.any_cons, ih, eqv_bds]
    by_cases h : x = b
    · simp [h]
    · have : ¬ b = x := fun e => h e.symm
      simp [h, this]
def stsD (ss : List (List Bd)) : PyData := .list (ss.map bdsD)
section
variable {P : Program} {w : World} {K : PySem.W.Frag} {mg : Str → Option Value} {base : Heap} {Cc Cr : Addr}
theorem sc_lmeets : FnScope ["row", "wish", "column", "way", "value"] ["row", "wish"] (defScope s_law_meets) := ⟨rfl, rfl, rfl, by decide +kernel, rfl, by decide +kernel, by decide +kernel⟩
theorem ok_lmeets {f : Addr} {fd : FuncData} (F : Fun K "_law_meets" "_law_meets" s_law_meets f fd) : FnOk P w K mg base CX0 1 f fd ["row", "wish"] (spP K (pr_meets K)) := by
  refine fun_go F sc_lmeets (by rintro G ds R ⟨r, b, rfl, _⟩; rfl) ?_
  rintro cdv A outer s H0 E G H ds R hr ⟨r, bs, rfl, hl, hc, rfl⟩
  refine go_for (α := Bd) (xs := bs) (enc := bdD) (is := [2, 3, 4]) (fun b Δ => sets Δ [2, 3, 4] [.int b.col, .str (wayS b.least), .int b.val]) (it_list (ev_v 1 rfl)) (fun b hb => tg_tup sc_lmeets.nd rfl (nm_cons 2 (nm_cons 3 (nm_cons 4 .nil)))) rfl PassesOwn.never
    (fun i Δ' S' => (∃ o2 o3 o4, Δ' = [some (rowD r), some (bdsD bs), o2, o3, o4]) ∧ S' = ((As.ext G H).and (.fact (Same G) fun _ _ e h => h.trans e)) ∧ meetsV r (bs.take i) = true) ⟨⟨none, none, none, rfl⟩, rfl, rfl⟩ ?_ ?_
  · rintro i b _ _ hk ⟨⟨o2, o3, o4, rfl⟩, rfl, hm⟩
    have hbm := List.mem_of_getElem? hk
    have hb := hc b hbm
    refine go_if (k := !meetsB r b) (EvT.is (evt_w (evw_or (k := b.least && decide (r.getD b.col 0 < b.val)) (k' := !b.least && decide (b.val < r.getD b.col 0)) (evt_w (evw_and (EvT.is (evt_cmp od_eqS (ev_v 3 rfl) ev_str) (wayS_eq _)) fun _ => evw_and1 (evt_cmp od_lt (ev_ix (ixd_tup (ix_row hb)) (ev_v 0 rfl) (ev_v 2 rfl)) (ev_v 4 rfl)))) fun _ => evw_or1 (evt_w (evw_and (EvT.is (evt_cmp od_eqS (ev_v 3 rfl) ev_str) (wayS_most _)) fun _ => evw_and1 (evt_cmp od_gt (ev_ix (ixd_tup (ix_row hb)) (ev_v 0 rfl) (ev_v 2 rfl)) (ev_v 4 rfl)))))) ?_) (fun h => ?_) (fun h => ?_)
    · unfold meetsB
      generalize r.getD b.col 0 = x
      cases b.least with
      | true =>
        by_cases h : x < b.val
        · have h' : ¬ b.val ≤ x := by omega
          simp [h, h']
        · have h' : b.val ≤ x := by omega
          simp [h, h']
      | false =>
        by_cases h : b.val < x
        · have h' : ¬ x ≤ b.val := by omega
          simp [h, h']
        · have h' : x ≤ b.val := by omega
          simp [h, h']
    · refine go_rt rfl as_l (EvR.is ev_bl ?_)
      have : meetsV r bs = false := by
        unfold meetsV
        rw [List.all_eq_false]
        exact ⟨b, hbm, by simpa using h⟩
      rw [this]
    · refine go_nil' (go_turn ⟨⟨_, _, _, rfl⟩, rfl, ?_⟩)
      rw [take_some hk]
      unfold meetsV at hm ⊢
      rw [List.all_append, hm]
      simp at h
      simp [h]
  · rintro _ _ ⟨⟨o2, o3, o4, rfl⟩, rfl, hm⟩
    rw [List.take_length] at hm
    exact go_rt rfl as_l (EvR.is ev_bl (by rw [hm]))
theorem sc_lrooms : FnScope ["parts", "sides", "weights", "quotas", "side"] ["parts", "sides"] (defScope s_law_rooms) := ⟨rfl, rfl, rfl, by decide +kernel, rfl, by decide +kernel, by decide +kernel⟩
def pr_lrooms (K : PySem.W.Frag) : Hp → List PyData → RR → Prop := fun _ ds R => ∃ (c : Cn) (sds : List Sd), ds = [cpD c, sdsD sds] ∧ sds.length ≤ 10000 ∧ (∀ sd ∈ sds, sd.1 < c.qs.length) ∧ R = rNl K ((sds.map (roomV c)).map .int)
theorem ok_lrooms {f : Addr} {fd : FuncData} (F : Fun K "_law_rooms" "_law_rooms" s_law_rooms f fd) (B : BN mg) : FnOk P w K mg base CX0 1 f fd ["parts", "sides"] (spP K (pr_lrooms K)) := by
  refine fun_go F sc_lrooms (by rintro G ds R ⟨c, sd, rfl, _⟩; rfl) ?_
  rintro cdv A outer s H0 E G H ds R hr ⟨c, sds, rfl, hl, hs, rfl⟩
  refine go_asg (ev_v 0 rfl) (tg_tup sc_lrooms.nd rfl (nm_cons 2 (nm_cons 3 .nil))) ?_
  refine go_rt rfl as_l (EvR.isL (evl_map [("side", 4)] (fun sd => .int (roomV c sd)) (fun x Δ => Δ.set 4 (some (sdD x))) (it_list (ev_v 1 rfl)) rfl sc_lrooms.nd (blkOk_by (N := ["parts", "sides", "weights", "quotas", "side"]) (sc := defScope s_law_rooms) (by decide +kernel)) (by omega) (is := [4]) (by decide) (fun b hb => fun _ _ _ _ _ => tg_name 4 sc_lrooms.nd) ?_) (by rw [List.map_map]; rfl))
  refine fun D es hD sd hsd => fun _ _ _ _ _ => ev_ix (d1 := .list [.int (c.ws.sum - c.qs.getD sd.1 0), .int (c.qs.getD sd.1 0 - 1)]) (d2 := .int (if sd.2 then 1 else 0)) (ixd_list ?_) (EvR.frz (evl_lst (ea_cons (ev_op od_sub (EvR.is (ev_sum (xs := c.ws) (f := id) rfl rfl rfl (B _ (by decide +kernel)) (ev_v 2 rfl)) (by rw [List.map_id])) (ev_ix (ixd_list (ix_row (hs sd hsd))) (ev_v 3 rfl) (ev_ix (ixd_tup (d := .int sd.1) (i := 0) rfl) (ev_v 4 rfl) ev_int))) (ea_cons (ev_op od_sub (ev_ix (ixd_list (ix_row (hs sd hsd))) (ev_v 3 rfl) (ev_ix (ixd_tup (d := .int sd.1) (i := 0) rfl) (ev_v 4 rfl) ev_int)) ev_int) ea_nil)))) (EvR.is (ev_callTy (T := "int") (cd_intB (k := sd.2)) rfl (B _ (by decide +kernel)) (by decide +kernel) (ea_cons (EvR.is (ev_cmp od_eqS (ev_ix (ixd_tup (d := .str (wayS sd.2)) (i := 1) rfl) (ev_v 4 rfl) ev_int) ev_str) (by rw [wayS_eq])) ea_nil)) rfl)
  unfold roomV
  cases sd.2 <;> rfl
theorem sc_lwithin : FnScope ["some", "other", "item"] ["some", "other"] (defScope s_law_within) := ⟨rfl, rfl, rfl, by decide +kernel, rfl, by decide +kernel, by decide +kernel⟩
def withinV (xs ys : List Bd) : Bool := xs.all fun x => decide (x ∈ ys)
def pr_lwithin (K : PySem.W.Frag) : Hp → List PyData → RR → Prop := fun _ ds R => ∃ xs ys : List Bd, ds = [bdsD xs, bdsD ys] ∧ xs.length ≤ 10000 ∧ R = rAt K (.bool (withinV xs ys))
theorem ok_lwithin {f : Addr} {fd : FuncData} (F : Fun K "_law_within" "_law_within" s_law_within f fd) (B : BN mg) : FnOk P w K mg base CX0 1 f fd ["some", "other"] (spP K (pr_lwithin K)) := by
  refine fun_go F sc_lwithin (by rintro G ds R ⟨c, sd, rfl, _⟩; rfl) ?_
  rintro cdv A outer s H0 E G H ds R hr ⟨xs, ys, rfl, hl, rfl⟩
  have hu := hr.un
  refine go_rt rfl as_l (ev_all (xs := xs) (b := fun x => decide (x ∈ ys)) rfl rfl rfl (B _ (by decide +kernel)) (EvR.frz (evl_map [("item", 2)] (fun x => .bool (decide (x ∈ ys))) (fun x Δ => Δ.set 2 (some (bdD x))) (it_list (ev_v 0 rfl)) rfl sc_lwithin.nd (blkOk_by (N := ["some", "other", "item"]) (sc := defScope s_law_within) (by decide +kernel)) (by omega) (is := [2]) (by decide) (fun b hb => fun _ _ _ _ _ => tg_name 2 sc_lwithin.nd) (fun D es hD x hx => fun _ _ _ _ _ => ev_cmpF (u := .bl ((ys.map bdD).any fun z => PyData.eqv z (bdD x))) (of_in (by show (A.deeper _).units + 65 < cLine; omega) (shaped_bd x) (shaped_bds ys)) (EvR.m (ev_v 2 rfl)) (EvR.m (ev_v 1 rfl)) ?_))))
  intro G
  rw [any_bd]
  exact .bl _
end
end Pk
namespace Pk
open PySem L2 DL
def seatsV {α : Type} (xs : List α) : Nat → List (List α)
  | 0 => [[]]
  | n + 1 => (seatsV xs n).flatMap fun one => xs.map fun x => one ++ [x]
theorem seatsV_map {α β : Type} (f : α → β) (xs : List α) : ∀ n, seatsV (xs.map f) n = (seatsV xs n).map (List.map f)
  | 0 => rfl
  | n + 1 => by
    unfold seatsV
    rw [seatsV_map f xs n, List.flatMap_map, List.map_flatMap]
    congr 1
    funext one
    rw [List.map_map, List.map_map]
    congr 1
    funext x
    simp
theorem seatsV_len {α : Type} (xs : List α) : ∀ n, (seatsV xs n).length = xs.length ^ n
  | 0 => rfl
  | n + 1 => by
    unfold seatsV
    rw [List.length_flatMap]
    have : ((seatsV xs n).map fun one => (xs.map fun x => one ++ [x]).length) = (seatsV xs n).map fun _ => xs.length := by simp
    rw [this, List.map_const', List.sum_replicate_nat, seatsV_len xs n, Nat.pow_succ]
theorem seatsV_each {α : Type} (xs : List α) : ∀ n, ∀ s ∈ seatsV xs n, s.length = n ∧ ∀ x ∈ s, x ∈ xs
  | 0, s, h => by
    rw [List.mem_singleton.mp h]; simp
  | n + 1, s, h => by
    unfold seatsV at h
    obtain ⟨one, h1, h2⟩ := List.mem_flatMap.mp h
    obtain ⟨x, hx, rfl⟩ := List.mem_map.mp h2
    obtain ⟨h3, h4⟩ := seatsV_each xs n one h1
    refine ⟨by simp [h3], fun y hy => ?_⟩
    rcases List.mem_append.mp hy with z | z
    · exact h4 y z
    · rw [List.mem_singleton.mp z]; exact hx
def srtS (ss : List (List Bd)) : List (List Bd) := ss.mergeSort (W.dataLe false bdsD)
def largerV (ss : List (List Bd)) (one : List Bd) : List (List Bd) := ss.filter fun o => !decide (o = one) && withinV one o
def lgreatV (ss : List (List Bd)) : List (List Bd) := (srtS ss).foldl (fun acc one => if (!decide (one ∈ acc) && decide (largerV ss one = [])) = true then acc ++ [one] else acc) []
def lmetV (rows : List (List Int)) (wish : List Bd) : List (List Bd) := rows.map fun r => (srtB wish).filter fun b => meetsV r [b]
def lweight (ws : List Int) (seats : List (List Bd)) (b : Bd) : Int := (((List.range seats.length).filter fun k => !decide (b ∈ seats.getD k [])).map fun k => ws.getD k 0).sum
def lsomeV (c : Cn) (bs : List Bd) (seats : List (List Bd)) : List Bd := bs.filter fun b => decide (lweight c.ws seats b ≤ roomV c (b.col, b.least))
def lnewV (cs : List Cn) (bs : List Bd) (level : List (List Bd)) : List (List Bd) := cs.foldl (fun acc c => (seatsV level c.ws.length).foldl (fun acc seats => addK acc (lsomeV c bs seats)) acc) level
def lnextV (cs : List Cn) (bs : List Bd) (level : List (List Bd)) : List (List Bd) := lgreatV (lnewV cs bs level)
section
variable {P : Program} {w : World} {K : PySem.W.Frag} {mg : Str → Option Value} {base : Heap} {Cc Cr : Addr}
theorem sc_lseat : FnScope ["rows", "many", "found", "seat", "longer", "one", "row"] ["rows", "many"] (defScope s_law_seatings) := ⟨rfl, rfl, rfl, by decide +kernel, rfl, by decide +kernel, by decide +kernel⟩
def pr_lseat (K : PySem.W.Frag) : Hp → List PyData → RR → Prop := fun _ ds R => ∃ (xs : List PyData) (n : Nat), ds = [.list xs, .int n] ∧ n ≤ 500 ∧ (xs.length + 1) ^ n ≤ 15000000 ∧ xs.length ≤ 10000 ∧ R = rAt K (.list ((seatsV xs n).map .tuple))
theorem ok_lseat {f : Addr} {fd : FuncData} (F : Fun K "_law_seatings" "_law_seatings" s_law_seatings f fd) (B : BN mg) : FnOk P w K mg base CX0 1 f fd ["rows", "many"] (spP K (pr_lseat K)) := by
  refine fun_go F sc_lseat (by rintro G ds R ⟨c, sd, rfl, _⟩; rfl) ?_
  rintro cdv A outer s H0 E G H ds R hr ⟨xs, n, rfl, hn, hsz, hxl, rfl⟩
  generalize hS0 : ((As.ext G H).and (.fact (Same G) fun _ _ e h => h.trans e)) = S0
  have hE : S0.le (.ext G H) := by rw [← hS0]; exact as_l
  refine go_set 2 (d := .list [.tuple []]) (EvR.frz (evl_lst (ea_cons (ev_tup ea_nil) ea_nil))) sc_lseat.nd ?_
  refine go_for (α := Nat) (xs := List.range n) (enc := fun k => .int (k : Int)) (is := [3]) (fun k Δ => Δ.set 3 (some (.int (k : Int)))) (it_rng rfl (B _ (by decide +kernel)) (ev_v 1 rfl) (by omega)) (fun k hk => tg_name 3 sc_lseat.nd) rfl PassesOwn.never
    (fun i Δ' S' => ∃ (o3 o4 o5 : Option PyData), Δ' = [some (.list xs), some (.int n), some (.list ((seatsV xs i).map .tuple)), o3, o4, o5, none] ∧ S0 = S') ⟨none, none, none, rfl, rfl⟩ ?_ ?_
  · rintro i k _ _ hk ⟨o3, o4, o5, rfl, rfl⟩
    have hi : i < n := by have := (List.getElem?_eq_some_iff.mp hk).1; simpa using this
    have hpow : xs.length ^ (i + 1) ≤ 15000000 := Nat.le_trans (Nat.pow_le_pow_left (Nat.le_succ _) _) (Nat.le_trans (Nat.pow_le_pow_right (by omega) hi) hsz)
    refine go_setL 4 (evl_lst ea_nil) sc_lseat.nd fun q hq => ?_
    refine go_for (α := List PyData) (xs := seatsV xs i) (enc := .tuple) (is := [5]) (fun one Δ => Δ.set 5 (some (.tuple one))) (it_list (ev_v 2 rfl)) (fun k hk => tg_name 5 sc_lseat.nd) rfl PassesOwn.never
      (fun j Δ' S' => ∃ (o5 : Option PyData), Δ' = [some (.list xs), some (.int n), some (.list ((seatsV xs i).map .tuple)), some (.int (k : Nat)), some (ob q), o5, none] ∧ S' = S0.and (.acc K q ((((seatsV xs i).take j).flatMap fun one => xs.map fun x => one ++ [x]).map .tuple))) ⟨o5, rfl, rfl⟩ ?_ ?_
    · rintro j one _ _ hj ⟨o5, rfl, rfl⟩
      have hjl : j < (seatsV xs i).length := (List.getElem?_eq_some_iff.mp hj).1
      have htk : (seatsV xs i).take (j + 1) = (seatsV xs i).take j ++ [one] := take_some hj
      have h1 := (seatsV_each xs i one (List.mem_of_getElem? hj)).1
      have hfl : ∀ l : List (List PyData), (l.flatMap fun one => xs.map fun x => one ++ [x]).length = l.length * xs.length := fun l => by
        rw [List.length_flatMap]
        have : (l.map fun one => (xs.map fun x => one ++ [x]).length) = l.map fun _ => xs.length := by simp
        rw [this, List.map_const', List.sum_replicate_nat]
      have hb : (j + 1) * xs.length ≤ 15000000 := by
        refine Nat.le_trans (Nat.mul_le_mul_right _ hjl) ?_
        rw [seatsV_len, ← Nat.pow_succ]
        exact hpow
      refine go_extend (ev_v 4 rfl) (evl_map [("row", 6)] (fun x => .tuple (one ++ [x])) (fun x Δ => Δ.set 6 (some x)) (ItD.is (it_list (ev_v 0 rfl)) (List.map_id xs).symm) rfl sc_lseat.nd (blkOk_by (N := ["rows", "many", "found", "seat", "longer", "one", "row"]) (sc := defScope s_law_seatings) (by decide +kernel)) (by omega) (is := [6]) (by decide) (fun x hx => fun _ _ _ _ _ => tg_name 6 sc_lseat.nd) (fun D es hD x hx => fun _ _ _ _ _ => ev_op (od_catT (by simp; omega)) (ev_v 5 rfl) (ev_tup (ea_cons (ev_v 6 rfl) ea_nil)))) (As.nf hq) (by
          rw [List.length_map, List.length_map, hfl, List.length_take, Nat.min_eq_left (by omega)]
          rw [Nat.succ_mul] at hb
          omega) ?_
      refine go_turn ⟨_, rfl, ?_⟩
      rw [htk, List.flatMap_append, List.map_append]
      simp only [List.flatMap_cons, List.flatMap_nil, List.append_nil, List.map_map]
      rfl
    · rintro _ _ ⟨o5, rfl, rfl⟩
      rw [List.take_length]
      refine go_frz 4 hq rfl ?_
      refine go_set 2 (ev_v 4 rfl) sc_lseat.nd (go_turn ⟨_, _, _, rfl, rfl⟩)
  · rintro _ _ ⟨o3, o4, o5, rfl, rfl⟩
    rw [List.length_range]
    exact go_rt rfl hE (ev_v 2 rfl)
end
end Pk
namespace Pk
open PySem L2 DL
theorem srt_sets (ss : List (List Bd)) : srt false (ss.map bdsD) = (srtS ss).map bdsD := srt_map false bdsD ss
def stepG (ss : List (List Bd)) (acc : List (List Bd)) (one : List Bd) : List (List Bd) := if (!decide (one ∈ acc) && decide (largerV ss one = [])) = true then acc ++ [one] else acc
theorem stepG_len (ss : List (List Bd)) : ∀ (l acc : List (List Bd)), (l.foldl (stepG ss) acc).length ≤ acc.length + l.length
  | [], acc => Nat.le_refl _
  | a :: l, acc => by
    have h1 := stepG_len ss l (stepG ss acc a)
    have h2 : (stepG ss acc a).length ≤ acc.length + 1 := by unfold stepG; split <;> simp
    rw [List.foldl_cons, List.length_cons]; omega
/-- the body's last expression, its comprehension's scope -/
def lcSc : Expr → Scope
  | .ListComp _ _ sc _ => sc
  | _ => ⟨.function, [], false, false, []⟩
def retE : Stmt → Expr
  | .Return (some e) _ => e
  | _ => .Constant .none 0 ⟨0, 0, 0, 0⟩
def rlSc (outer inner : Scope) : Scope := { inner with names := inner.names.map fun (n, k) => if (k == NameKind.free && outer.kind == .function && outer.names.lookup n == some .cell) then (n, NameKind.cell) else (n, k) }
section
variable {P : Program} {w : World} {K : PySem.W.Frag} {mg : Str → Option Value} {base : Heap} {Cc Cr : Addr}
theorem sc_lgreat : FnScope ["sets", "found", "one", "larger", "other"] ["sets"] (defScope s_law_greatest) := ⟨rfl, rfl, rfl, by decide +kernel, rfl, by decide +kernel, by decide +kernel⟩
def pr_lgreat (K : PySem.W.Frag) : Hp → List PyData → RR → Prop := fun _ ds R => ∃ ss : List (List Bd), ds = [stsD ss] ∧ ss.length ≤ 500000 ∧ (∀ s ∈ ss, s.length ≤ 1000) ∧ R = rNl K ((lgreatV ss).map bdsD)
theorem ok_lgreat {f : Addr} {fd : FuncData} (F : Fun K "_law_greatest" "_law_greatest" s_law_greatest f fd) (B : BN mg) (c1 : CalP P w K mg base 1 "_law_within" (pr_lwithin K)) : FnOk P w K mg base CX0 2 f fd ["sets"] (spP K (pr_lgreat K)) := by
  refine fun_go F sc_lgreat (by rintro G ds R ⟨c, rfl, _⟩; rfl) ?_
  rintro cdv A outer s H0 E G H ds R hr ⟨ss, rfl, hl, hsm, rfl⟩
  have hu := hr.units
  have hu65 : (A.deeper (PyProof.Rows.envOfC (Str.ofString "_law_greatest") (defScope s_law_greatest) s.heap.objs.size f cdv)).units + 65 < cLine := by have := hr.un; omega
  have hS0 : ∃ S0, ((As.ext G H).and (.fact (Same G) fun _ _ e h => h.trans e)) = S0 := ⟨_, rfl⟩
  obtain ⟨S0, hS0⟩ := hS0
  rw [hS0]
  have hE : S0.le (.ext G H) := by rw [← hS0]; exact as_l
  refine go_setL 1 (evl_lst ea_nil) sc_lgreat.nd fun q hq => ?_
  have hqH : H q = none := fresh_ext fun z => hq (by rw [← hS0]; exact .inl z)
  have hsl : (srtS ss).length = ss.length := List.length_mergeSort ..
  have hsmem : ∀ s ∈ srtS ss, s ∈ ss := fun s hs => (List.mergeSort_perm ss _).mem_iff.mp hs
  refine go_for (α := List Bd) (xs := srtS ss) (enc := bdsD) (is := [2]) (fun k Δ => Δ.set 2 (some (bdsD k))) (ItD.is (it_list (EvR.frz (evl_sorted rfl hu (sok_sets (by omega)) rfl (B _ (by decide +kernel)) (.inl rfl) (ev_v 0 rfl)))) (srt_sets ss)) (fun k hk => tg_name 2 sc_lgreat.nd) rfl PassesOwn.never
    (fun i Δ' S' => ∃ (o2 o3 : Option PyData), Δ' = [some (stsD ss), some (ob q), o2, o3, none] ∧ S' = S0.and (.acc K q ((((srtS ss).take i).foldl (stepG ss) []).map bdsD))) ⟨none, none, rfl, rfl⟩ ?_ ?_
  · rintro i one _ _ hk ⟨o2, o3, rfl, rfl⟩
    have hone := hsm one (hsmem one (List.mem_of_getElem? hk))
    have hil : i < ss.length := by rw [← hsl]; exact (List.getElem?_eq_some_iff.mp hk).1
    have tk : (srtS ss).take (i + 1) = (srtS ss).take i ++ [one] := take_some hk
    have hlen := stepG_len ss ((srtS ss).take i) []
    rw [List.length_take, List.length_nil] at hlen
    refine go_setLcF 3 (lcl (own := [("other", 4)]) (is := [4]) (fun o => !decide (o = one) && withinV one o) bdsD (fun o Δ => Δ.set 4 (some (bdsD o))) (it_list (ev_v 0 rfl)) (blkOk_by (N := ["sets", "found", "one", "larger", "other"]) (sc := defScope s_law_greatest) (by decide +kernel)) (by omega) (by decide) (fun b hb => fun _ _ _ _ _ => tg_name 4 sc_lgreat.nd) (fun D es hD o ho => fun _ _ _ _ _ => evts_one (EvT.is (evt_w (evw_and (evt_cmpF (of_neD hu (shaped_bds o) (shaped_bds one)) (EvR.m (ev_v 4 rfl)) (EvR.m (ev_v 2 rfl))) fun _ => evw_and1 (evt_val (ev_c c1 hr rfl (ea_cons (ev_v 2 rfl) (ea_cons (ev_v 4 rfl) ea_nil)) fun _ _ _ => ⟨one, o, rfl, by omega, rfl⟩)))) (by rw [eqv_bds]))) (fun D es hD o ho _ => fun _ _ _ _ _ => ev_v 4 rfl)) rfl sc_lgreat.nd ?_
    refine go_if (k := !decide (one ∈ ((srtS ss).take i).foldl (stepG ss) []) && decide (largerV ss one = [])) (EvT.is (evt_w (evw_and (evt_cmpF (of_notIn hu65 (shaped_bds one) (shaped_sets _)) (EvR.m (ev_v 2 rfl)) (EvR.mu (ev_v 1 rfl) as_r)) fun _ => evw_and1 (evt_cmpF (of_eqD hu (shaped_sets (largerV ss one)) shaped_nil) (EvR.m (ev_v 3 rfl)) (EvR.m (EvR.frz (evl_lst ea_nil)))))) ?_) (fun h => ?_) (fun h => ?_)
    · rw [any_set, eqv_nil]
      cases largerV ss one <;> simp
    · refine go_app (ev_v 1 rfl) (ev_v 2 rfl) (As.nf hq) (by rw [List.length_map]; omega) (go_nil' (go_turn ⟨_, _, rfl, ?_⟩))
      rw [tk, List.foldl_append]
      show _ = S0.and (.acc K q ((stepG ss (((srtS ss).take i).foldl (stepG ss) []) one).map bdsD))
      unfold stepG at h ⊢
      rw [if_pos h, List.map_append]
      rfl
    · refine go_nil' (go_turn ⟨_, _, rfl, ?_⟩)
      rw [tk, List.foldl_append]
      show _ = S0.and (.acc K q ((stepG ss (((srtS ss).take i).foldl (stepG ss) []) one).map bdsD))
      unfold stepG at h ⊢
      rw [if_neg (by rw [h]; decide)]
  · rintro _ _ ⟨o2, o3, rfl, rfl⟩
    rw [List.take_length]
    exact go_retA (ev_v 1 rfl) (as_and (as_l.trans hE) as_r) hqH
theorem sc_lmet : FnScope ["rows", "wish", "bounds", "row", "bound"] ["rows", "wish"] (defScope s_law_met) := ⟨rfl, rfl, rfl, by decide +kernel, rfl, by decide +kernel, by decide +kernel⟩
def pr_lmet (K : PySem.W.Frag) : Hp → List PyData → RR → Prop := fun _ ds R => ∃ (rows : List (List Int)) (wish : List Bd), ds = [rowsD rows, bdsD wish] ∧ rows.length ≤ 10000 ∧ wish.length ≤ 1000 ∧ (∀ r ∈ rows, ∀ b ∈ wish, b.col < r.length) ∧ R = rNl K ((lmetV rows wish).map bdsD)
theorem ok_lmet {f : Addr} {fd : FuncData} (F : Fun K "_law_met" "_law_met" s_law_met f fd) (B : BN mg) (c1 : CalP P w K mg base 1 "_law_meets" (pr_meets K)) : FnOk P w K mg base CX0 2 f fd ["rows", "wish"] (spP K (pr_lmet K)) := by
  refine fun_go F sc_lmet (by rintro G ds R ⟨c, c2, rfl, _⟩; rfl) ?_
  rintro cdv A outer s H0 E G H ds R hr ⟨rows, wish, rfl, hrl, hwl, hcol, rfl⟩
  have hu := hr.units
  have hsl : (srtB wish).length = wish.length := List.length_mergeSort ..
  have hsm : ∀ b ∈ srtB wish, b ∈ wish := fun b hb => (List.mergeSort_perm wish _).mem_iff.mp hb
  refine go_set 2 (d := bdsD (srtB wish)) (EvR.is (EvR.frz (evl_sorted rfl hu (sok_bds (by omega)) rfl (B _ (by decide +kernel)) (.inl rfl) (ev_v 1 rfl))) (by rw [srt_map]; rfl)) sc_lmet.nd ?_
  refine go_rt rfl as_l (EvR.isL (evl_map [("row", 3)] (fun r => bdsD ((srtB wish).filter fun b => meetsV r [b])) (fun r Δ => Δ.set 3 (some (rowD r))) (it_list (ev_v 0 rfl)) rfl sc_lmet.nd (blkOk_by (N := ["rows", "wish", "bounds", "row", "bound"]) (sc := defScope s_law_met) (by decide +kernel)) (by omega) (is := [3]) (by decide) (fun b hb => fun _ _ _ _ _ => tg_name 3 sc_lmet.nd) ?_) ?_)
  · refine fun D es hD r hrm => fun _ _ _ _ _ => EvR.frz (evl_fil [("bound", 4)] (fun b => meetsV r [b]) bdD (fun b Δ => Δ.set 4 (some (bdD b))) (it_list (ev_v 2 rfl)) rfl sc_lmet.nd (blkOk_by (N := ["rows", "wish", "bounds", "row", "bound"]) (sc := rlSc (defScope s_law_met) (lcSc (retE ((defBody s_law_met).getD 1 (.Pass ⟨0, 0, 0, 0⟩))))) (by decide +kernel)) (by omega) (is := [4]) (by decide) (fun b hb => fun _ _ _ _ _ => tg_name 4 sc_lmet.nd) (fun D es hD b hb => fun _ _ _ _ _ => evt_val (ev_c c1 hr rfl (ea_cons (ev_v 3 rfl) (ea_cons (EvR.frz (evl_lst (ea_cons (ev_v 4 rfl) ea_nil))) ea_nil)) fun _ _ _ => ⟨r, [b], rfl, by simp, fun b' hb' => by rw [List.mem_singleton.mp hb']; exact hcol r hrm b (hsm b hb), rfl⟩)) (fun D es hD b hb _ => fun _ _ _ _ _ => ev_v 4 rfl))
  · unfold lmetV; rw [List.map_map]; rfl
end
end Pk
namespace Pk
open PySem L2 DL
/-- the law's levels from l on -/
inductive LLv (cs : List Cn) (bs : List Bd) : List (List Bd) → List (List (List Bd)) → Prop
  | stop {l : List (List Bd)} (h : lnextV cs bs l = l) : LLv cs bs l [l]
  | next {l : List (List Bd)} {ls : List (List (List Bd))} (h : lnextV cs bs l ≠ l) (t : LLv cs bs (lnextV cs bs l) ls) : LLv cs bs l (l :: ls)
theorem LLv.ne {cs : List Cn} {bs : List Bd} {l : List (List Bd)} {ls : List (List (List Bd))} (h : LLv cs bs l ls) : ∃ r, ls = l :: r := by cases h with | stop _ => exact ⟨[], rfl⟩ | next _ t => exact ⟨_, rfl⟩
structure LOk (cs : List Cn) (bs : List Bd) (level : List (List Bd)) : Prop where
  len : level.length ≤ 10000
  each : ∀ s ∈ level, s.length ≤ 1000
  new : (lnewV cs bs level).length ≤ 500000
  cn : ∀ c ∈ cs, c.ws.length ≤ 50 ∧ (∀ b ∈ bs, b.col < c.qs.length) ∧ (level.length + 1) ^ c.ws.length ≤ 15000000
section
variable {P : Program} {w : World} {K : PySem.W.Frag} {mg : Str → Option Value} {base : Heap} {Cc Cr : Addr}
def plansD (cs : List Cn) : PyData := .list (cs.map cpD)
def n_lnext : List Str := ["plans", "wish", "level", "bounds", "found", "parts", "rooms", "seats", "some", "bound", "room", "k"]
theorem sc_lnext : FnScope n_lnext ["plans", "wish", "level"] (defScope s_law_next_sets) := ⟨rfl, rfl, rfl, by decide +kernel, rfl, by decide +kernel, by decide +kernel⟩
def pr_lnext (K : PySem.W.Frag) : Hp → List PyData → RR → Prop := fun _ ds R => ∃ (cs : List Cn) (wish : List Bd) (level : List (List Bd)), ds = [plansD cs, bdsD wish, stsD level] ∧ wish.length ≤ 100 ∧ LOk cs (srtB wish) level ∧ R = rNl K ((lnextV cs (srtB wish) level).map bdsD)
theorem lnew_le (bs : List Bd) (level : List (List Bd)) : ∀ (cs : List Cn) (acc : List (List Bd)), acc.length ≤ (cs.foldl (fun acc c => (seatsV level c.ws.length).foldl (fun acc seats => addK acc (lsomeV c bs seats)) acc) acc).length
  | [], acc => Nat.le_refl _
  | c :: cs, acc => by
    have go : ∀ (l : List (List (List Bd))) (acc : List (List Bd)), acc.length ≤ (l.foldl (fun acc seats => addK acc (lsomeV c bs seats)) acc).length := by
      intro l
      induction l with
      | nil => intro acc; exact Nat.le_refl _
      | cons a l ih =>
        intro acc
        have h2 : acc.length ≤ (addK acc (lsomeV c bs a)).length := by unfold addK; split <;> simp
        exact Nat.le_trans h2 (ih _)
    exact Nat.le_trans (go _ _) (lnew_le bs level cs _)
theorem lnew_each {cs : List Cn} {bs : List Bd} {level : List (List Bd)} {n : Nat} (h : ∀ s ∈ level, s.length ≤ n) (hb : bs.length ≤ n) : ∀ s ∈ lnewV cs bs level, s.length ≤ n := by
  unfold lnewV
  have go1 : ∀ (c : Cn) (l : List (List (List Bd))) (acc : List (List Bd)), (∀ s ∈ acc, s.length ≤ n) → ∀ s ∈ l.foldl (fun acc seats => addK acc (lsomeV c bs seats)) acc, s.length ≤ n := by
    intro c l
    induction l with
    | nil => intro acc h; exact h
    | cons a l ih =>
      intro acc h
      refine ih _ fun s hs => ?_
      have hs : s ∈ addK acc (lsomeV c bs a) := hs
      unfold addK at hs
      split at hs
      · exact h s hs
      · rcases List.mem_append.mp hs with z | z
        · exact h s z
        · rw [List.mem_singleton.mp z]
          exact Nat.le_trans (List.length_filter_le _ _) hb
  have go2 : ∀ (cs : List Cn) (acc : List (List Bd)), (∀ s ∈ acc, s.length ≤ n) → ∀ s ∈ cs.foldl (fun acc c => (seatsV level c.ws.length).foldl (fun acc seats => addK acc (lsomeV c bs seats)) acc) acc, s.length ≤ n := by
    intro cs
    induction cs with
    | nil => intro acc h; exact h
    | cons c cs ih => intro acc h; exact ih _ (go1 c _ acc h)
  exact go2 cs level h
theorem seatD_shaped (s : List (List Bd)) : True := trivial
theorem ok_lnext {f : Addr} {fd : FuncData} (F : Fun K "_law_next_sets" "_law_next_sets" s_law_next_sets f fd) (B : BN mg) (c1 : CalP P w K mg base 1 "_law_rooms" (pr_lrooms K)) (c2 : CalP P w K mg base 1 "_law_seatings" (pr_lseat K)) (c3 : CalP P w K mg base 2 "_law_greatest" (pr_lgreat K)) : FnOk P w K mg base CX0 3 f fd ["plans", "wish", "level"] (spP K (pr_lnext K)) := by
  refine fun_go F sc_lnext (by rintro G ds R ⟨c, c2, c3, rfl, _⟩; rfl) ?_
  rintro cdv A outer s H0 E G H ds R hr ⟨cs, wish, level, rfl, hwl, hok, rfl⟩
  have hu := hr.units
  have hu65 : (A.deeper (PyProof.Rows.envOfC (Str.ofString "_law_next_sets") (defScope s_law_next_sets) s.heap.objs.size f cdv)).units + 65 < cLine := by have := hr.un; omega
  obtain ⟨S0, hS0⟩ : ∃ S0, ((As.ext G H).and (.fact (Same G) fun _ _ e h => h.trans e)) = S0 := ⟨_, rfl⟩
  rw [hS0]
  have hE : S0.le (.ext G H) := by rw [← hS0]; exact as_l
  have hsl : (srtB wish).length = wish.length := List.length_mergeSort ..
  refine go_parL 3 4 (d1 := bdsD (srtB wish)) (ds := level.map bdsD) (EvR.is (EvR.frz (evl_sorted rfl hu (sok_bds (by omega)) rfl (B _ (by decide +kernel)) (.inl rfl) (ev_v 1 rfl))) (by rw [srt_map]; rfl)) (evl_list rfl rfl (B _ (by decide +kernel)) (.inl rfl) (ev_v 2 rfl)) rfl sc_lnext.nd fun q hq => ?_
  have hqH : H q = none := fresh_ext fun z => hq (by rw [← hS0]; exact .inl z)
  generalize hbs : srtB wish = bs at hok hsl ⊢
  have hall := lnew_each (cs := cs) (bs := bs) (level := level) (n := 1000) hok.each (by omega)
  refine go_for (α := Cn) (xs := cs) (enc := cpD) (is := [5]) (fun c Δ => Δ.set 5 (some (cpD c))) (it_list (ev_v 0 rfl)) (fun k hk => tg_name 5 sc_lnext.nd) rfl PassesOwn.never
    (fun i Δ' S' => ∃ (o5 o6 o7 o8 o9 o10 : Option PyData), Δ' = [some (plansD cs), some (bdsD wish), some (stsD level), some (bdsD bs), some (ob q), o5, o6, o7, o8, o9, o10, none] ∧ S' = S0.and (.acc K q (((cs.take i).foldl (fun acc c => (seatsV level c.ws.length).foldl (fun acc seats => addK acc (lsomeV c bs seats)) acc) level).map bdsD))) ⟨none, none, none, none, none, none, rfl, rfl⟩ ?_ ?_
  · rintro i c _ _ hk ⟨o5, o6, o7, o8, o9, o10, rfl, rfl⟩
    have hcm := List.mem_of_getElem? hk
    obtain ⟨hc1, hc2, hc3⟩ := hok.cn c hcm
    have tk : cs.take (i + 1) = cs.take i ++ [c] := take_some hk
    generalize hF0 : (cs.take i).foldl (fun acc c => (seatsV level c.ws.length).foldl (fun acc seats => addK acc (lsomeV c bs seats)) acc) level = F0
    refine go_set 6 (d := intsD (bs.map fun b => roomV c (b.col, b.least))) (EvR.is (EvR.frz (ev_c c1 hr rfl (ea_cons (ev_v 5 rfl) (ea_cons (EvR.frz ?cut) ea_nil)) fun _ _ _ => ⟨c, bs.map fun b => (b.col, b.least), rfl, by rw [List.length_map]; omega, ?_, rfl⟩)) (by simp only [intsD, List.map_map]; rfl)) sc_lnext.nd ?_
    case cut =>
      exact EvR.isL (evl_map [("bound", 9)] (fun b => sdD (b.col, b.least)) (fun b Δ => Δ.set 9 (some (bdD b))) (it_list (ev_v 3 rfl)) rfl sc_lnext.nd (blkOk_by (N := n_lnext) (sc := defScope s_law_next_sets) (by decide +kernel)) (by omega) (is := [9]) (by decide) (fun b hb => fun _ _ _ _ _ => tg_name 9 sc_lnext.nd) (fun D es hD b hb => fun _ _ _ _ _ => EvR.is (ev_sl sld_tup (ev_v 9 rfl) eo_none (eo_some ev_int)) (bd_cut b))) (by rw [List.map_map]; rfl)
    · intro sd hsd
      obtain ⟨b, hb, rfl⟩ := List.mem_map.mp hsd
      exact hc2 b hb
    refine go_for (α := List (List Bd)) (xs := seatsV level c.ws.length) (enc := fun s => .tuple (s.map bdsD)) (is := [7]) (fun s Δ => Δ.set 7 (some (.tuple (s.map bdsD)))) (ItD.is (it_list (ev_c c2 hr rfl (ea_cons (ev_v 2 rfl) (ea_cons (ev_len rfl rfl (B _ (by decide +kernel)) (EvR.m (ev_ix (ixd_tup (d := intsD c.ws) (i := 0) rfl) (ev_v 5 rfl) ev_int))) ea_nil)) fun _ _ _ => ⟨level.map bdsD, c.ws.length, by rw [List.length_map]; rfl, by omega, by rw [List.length_map]; exact hc3, by rw [List.length_map]; exact hok.len, rfl⟩)) (by rw [seatsV_map, List.map_map]; rfl)) (fun k hk => tg_name 7 sc_lnext.nd) rfl PassesOwn.never
      (fun j Δ' S' => ∃ (o7 o8 o9 o10 : Option PyData), Δ' = [some (plansD cs), some (bdsD wish), some (stsD level), some (bdsD bs), some (ob q), some (cpD c), some (intsD (bs.map fun b => roomV c (b.col, b.least))), o7, o8, o9, o10, none] ∧ S' = S0.and (.acc K q ((((seatsV level c.ws.length).take j).foldl (fun acc seats => addK acc (lsomeV c bs seats)) F0).map bdsD))) ⟨o7, o8, o9, o10, rfl, rfl⟩ ?_ ?_
    · rintro j seats _ _ hj ⟨o7, o8, o9, o10, rfl, rfl⟩
      have tj : (seatsV level c.ws.length).take (j + 1) = (seatsV level c.ws.length).take j ++ [seats] := take_some hj
      obtain ⟨hsn, hsmem⟩ := seatsV_each level _ seats (List.mem_of_getElem? hj)
      generalize hF1 : ((seatsV level c.ws.length).take j).foldl (fun acc seats => addK acc (lsomeV c bs seats)) F0 = F1
      have hF1l : F1.length ≤ 500000 := by
        have go : ∀ (l : List (List (List Bd))) (acc : List (List Bd)), acc.length ≤ (l.foldl (fun acc seats => addK acc (lsomeV c bs seats)) acc).length := by
          intro l
          induction l with
          | nil => intro acc; exact Nat.le_refl _
          | cons a l ih =>
            intro acc
            have h2 : acc.length ≤ (addK acc (lsomeV c bs a)).length := by unfold addK; split <;> simp
            exact Nat.le_trans h2 (ih _)
        have e1 := go ((seatsV level c.ws.length).drop j) F1
        rw [← hF1, ← List.foldl_append, List.take_append_drop, hF1] at e1
        have e2 := lnew_le bs level (cs.drop (i + 1)) ((seatsV level c.ws.length).foldl (fun acc seats => addK acc (lsomeV c bs seats)) F0)
        have e3 : (cs.drop (i + 1)).foldl (fun acc c => (seatsV level c.ws.length).foldl (fun acc seats => addK acc (lsomeV c bs seats)) acc) ((seatsV level c.ws.length).foldl (fun acc seats => addK acc (lsomeV c bs seats)) F0) = lnewV cs bs level := by
          unfold lnewV
          conv => rhs; rw [← List.take_append_drop (i + 1) cs]
          rw [List.foldl_append, tk, List.foldl_append, hF0]
          rfl
        rw [e3] at e2
        have := hok.new
        omega
      refine go_setL 8 (evl_lst ea_nil) sc_lnext.nd fun qs hqs => ?_
      refine go_for (α := Bd × Int) (xs := bs.zip (bs.map fun b => roomV c (b.col, b.least))) (enc := fun z => .tuple [bdD z.1, .int z.2]) (is := [9, 10]) (fun z Δ => sets Δ [9, 10] [bdD z.1, .int z.2]) (ItD.is (it_zip false false rfl (B _ (by decide +kernel)) (ev_v 3 rfl) (ev_v 6 rfl)) (by rw [List.zip_map, List.map_map]; rfl)) (fun z hz => tg_tup sc_lnext.nd rfl (nm_cons 9 (nm_cons 10 .nil))) rfl PassesOwn.never
        (fun t Δ' S' => ∃ (o9 o10 : Option PyData), Δ' = [some (plansD cs), some (bdsD wish), some (stsD level), some (bdsD bs), some (ob q), some (cpD c), some (intsD (bs.map fun b => roomV c (b.col, b.least))), some (.tuple (seats.map bdsD)), some (ob qs), o9, o10, none] ∧ S' = (S0.and (.acc K q (F1.map bdsD))).and (.acc K qs (((bs.take t).filter fun b => decide (lweight c.ws seats b ≤ roomV c (b.col, b.least))).map bdD))) ⟨o9, o10, rfl, rfl⟩ ?_ ?_
      · rintro t ⟨b, rm⟩ _ _ ht ⟨o9, o10, rfl, rfl⟩
        obtain ⟨hb1, hb2⟩ := List.getElem?_zip_eq_some.mp ht
        have hrm : rm = roomV c (b.col, b.least) := by
          rw [List.getElem?_map, hb1] at hb2
          exact (Option.some.inj hb2).symm
        subst hrm
        have tt : bs.take (t + 1) = bs.take t ++ [b] := take_some hb1
        refine go_if (k := decide (lweight c.ws seats b ≤ roomV c (b.col, b.least))) (evt_cmp od_le (ev_sum (f := fun k : Nat => c.ws.getD k 0) (xs := (List.range seats.length).filter fun k => !decide (b ∈ seats.getD k [])) rfl rfl rfl (B _ (by decide +kernel)) (EvR.frz (evl_fil [("k", 11)] (fun k : Nat => !decide (b ∈ seats.getD k [])) (fun k : Nat => .int (c.ws.getD k 0)) (fun k Δ => Δ.set 11 (some (.int (k : Nat)))) (it_rng rfl (B _ (by decide +kernel)) (EvR.is (ev_lenT rfl rfl (B _ (by decide +kernel)) (ev_v 7 rfl)) (by rw [List.length_map])) (by omega)) rfl sc_lnext.nd (blkOk_by (N := n_lnext) (sc := defScope s_law_next_sets) (by decide +kernel)) (by rw [List.length_range]; omega) (is := [11]) (by decide) (fun k hk => fun _ _ _ _ _ => tg_name 11 sc_lnext.nd) ?tst ?elt))) (ev_v 10 rfl)) (fun h => ?_) (fun h => ?_)
        case tst =>
          intro D es hD k hk
          have hks : k < seats.length := by simpa using hk
          exact fun _ _ _ _ _ => EvT.is (evt_cmpF (d2 := bdsD (seats.getD k [])) (of_notIn hu65 (shaped_bd b) (shaped_bds _)) (EvR.m (ev_v 9 rfl)) (EvR.m (ev_ix (ixd_tup (atI_nat' (by rw [List.getElem?_map, List.getElem?_eq_getElem hks]; simp [List.getD, hks]))) (ev_v 7 rfl) (ev_v 11 rfl)))) (by rw [any_bd])
        case elt =>
          intro D es hD k hk _
          have hks : k < c.ws.length := by rw [← hsn]; simpa using hk
          exact fun _ _ _ _ _ => ev_ix (ixd_list (atI_nat' (by rw [List.getElem?_map, List.getElem?_eq_getElem hks]; simp [List.getD, hks]))) (ev_ix (ixd_tup (d := intsD c.ws) (i := 0) rfl) (ev_v 5 rfl) ev_int) (ev_v 11 rfl)
        · refine go_app (ev_v 8 rfl) (ev_v 9 rfl) (As.nf hqs) (by rw [List.length_map]; exact Nat.lt_of_le_of_lt (List.length_filter_le _ _) (by rw [List.length_take]; omega)) (go_nil' (go_turn ⟨_, _, rfl, ?_⟩))
          rw [tt, fil_pos (p := fun b => decide (lweight c.ws seats b ≤ roomV c (b.col, b.least))) _ h, List.map_append]
          rfl
        · refine go_nil' (go_turn ⟨_, _, rfl, ?_⟩)
          rw [tt, fil_neg (p := fun b => decide (lweight c.ws seats b ≤ roomV c (b.col, b.least))) _ h]
      · rintro _ _ ⟨o9, o10, rfl, rfl⟩
        have hzl : (bs.zip (bs.map fun b => roomV c (b.col, b.least))).length = bs.length := by simp
        rw [hzl, List.take_length]
        refine go_frz 8 hqs rfl ?_
        refine go_if (k := !decide (lsomeV c bs seats ∈ F1)) (EvT.is (evt_cmpF (d1 := bdsD (lsomeV c bs seats)) (of_notIn hu65 (shaped_bds _) (shaped_sets F1)) (EvR.m (ev_v 8 rfl)) (EvR.mu (ev_v 4 rfl) as_r)) (by rw [any_set])) (fun h => ?_) (fun h => ?_)
        · refine go_app (ev_v 4 rfl) (ev_v 8 rfl) (As.nf hq) (by rw [List.length_map]; omega) (go_nil' (go_turn ⟨_, _, _, _, rfl, ?_⟩))
          rw [tj, List.foldl_append, hF1]
          show _ = S0.and (.acc K q ((addK F1 (lsomeV c bs seats)).map bdsD))
          unfold addK
          rw [if_neg (by simpa using h), List.map_append]
          rfl
        · refine go_nil' (go_turn ⟨_, _, _, _, rfl, ?_⟩)
          rw [tj, List.foldl_append, hF1]
          show _ = S0.and (.acc K q ((addK F1 (lsomeV c bs seats)).map bdsD))
          unfold addK
          rw [if_pos (by simpa using h)]
    · rintro _ _ ⟨o7, o8, o9, o10, rfl, rfl⟩
      refine go_turn ⟨_, _, _, _, _, _, rfl, ?_⟩
      rw [List.take_length, tk, List.foldl_append, hF0]
      rfl
  · rintro _ _ ⟨o5, o6, o7, o8, o9, o10, rfl, rfl⟩
    rw [List.take_length]
    refine go_frz 4 hq rfl ?_
    exact go_rt rfl hE (ev_c c3 hr rfl (ea_cons (ev_v 4 rfl) ea_nil) fun _ _ _ => ⟨lnewV cs bs level, rfl, hok.new, hall, rfl⟩)
end
end Pk
namespace Pk
open PySem L2 DL
theorem LLv.get {cs : List Cn} {bs : List Bd} {l : List (List Bd)} {ls : List (List (List Bd))} (h : LLv cs bs l ls) : ∀ i, (hi : i < ls.length) → (∀ h2 : i + 1 < ls.length, lnextV cs bs ls[i] = ls[i + 1] ∧ ls[i + 1] ≠ ls[i]) ∧ (i + 1 = ls.length → lnextV cs bs ls[i] = ls[i]) := by
  induction h with
  | @stop l h =>
    intro i hi
    have : i = 0 := by simp at hi; exact hi
    subst this
    exact ⟨fun h2 => by simp at h2, fun _ => h⟩
  | @next l ls h t ih =>
    intro i hi
    cases i with
    | zero =>
      obtain ⟨r, rfl⟩ := t.ne
      exact ⟨fun _ => ⟨rfl, h⟩, fun e => by simp at e⟩
    | succ i =>
      have h2 := ih i (by simpa using hi)
      refine ⟨fun h3 => ?_, fun h3 => ?_⟩
      · exact h2.1 (by simpa using h3)
      · exact h2.2 (by simpa using h3)
section
variable {P : Program} {w : World} {K : PySem.W.Frag} {mg : Str → Option Value} {base : Heap} {Cc Cr : Addr}
def n_llev : List Str := ["plans", "rows", "wish", "levels", "turn", "later"]
theorem sc_llev : FnScope n_llev ["plans", "rows", "wish"] (defScope s_law_set_levels) := ⟨rfl, rfl, rfl, by decide +kernel, rfl, by decide +kernel, by decide +kernel⟩
def pr_llev (K : PySem.W.Frag) : Hp → List PyData → RR → Prop := fun _ ds R => ∃ (cs : List Cn) (rows : List (List Int)) (wish : List Bd) (ls : List (List (List Bd))), ds = [plansD cs, rowsD rows, bdsD wish] ∧ rows.length ≤ 10000 ∧ wish.length ≤ 100 ∧ (∀ r ∈ rows, ∀ b ∈ wish, b.col < r.length) ∧
  LLv cs (srtB wish) (lgreatV (lmetV rows wish)) ls ∧ ls.length ≤ 30 ∧ (∀ l ∈ ls, LOk cs (srtB wish) l) ∧ R = rAt K (.list (ls.map stsD))
theorem ok_llev {f : Addr} {fd : FuncData} (F : Fun K "_law_set_levels" "_law_set_levels" s_law_set_levels f fd) (B : BN mg) (c1 : CalP P w K mg base 2 "_law_greatest" (pr_lgreat K)) (c2 : CalP P w K mg base 2 "_law_met" (pr_lmet K)) (c3 : CalP P w K mg base 3 "_law_next_sets" (pr_lnext K)) : FnOk P w K mg base CX0 4 f fd ["plans", "rows", "wish"] (spP K (pr_llev K)) := by
  refine fun_go F sc_llev (by rintro G ds R ⟨c, r, sd, ls, rfl, _⟩; rfl) ?_
  rintro cdv A outer s H0 E G H ds R hr ⟨cs, rows, wish, ls, rfl, hrl, hwl, hcol, hL, hLl, hok, rfl⟩
  have hu := hr.units
  obtain ⟨S0, hS0⟩ : ∃ S0, ((As.ext G H).and (.fact (Same G) fun _ _ e h => h.trans e)) = S0 := ⟨_, rfl⟩
  rw [hS0]
  have hE : S0.le (.ext G H) := by rw [← hS0]; exact as_l
  have hml : (lmetV rows wish).length = rows.length := by unfold lmetV; rw [List.length_map]
  have hme : ∀ s ∈ lmetV rows wish, s.length ≤ 1000 := by
    intro s hs
    unfold lmetV at hs
    obtain ⟨r, _, rfl⟩ := List.mem_map.mp hs
    have : (srtB wish).length = wish.length := List.length_mergeSort ..
    exact Nat.le_trans (List.length_filter_le _ _) (by omega)
  obtain ⟨ls', hls⟩ := hL.ne
  refine go_setL 3 (ds := (ls.take 1).map stsD) (EvR.isL (evl_lst (ea_cons (EvR.frz (ev_c c1 hr rfl (ea_cons (EvR.frz (ev_c c2 hr rfl (ea_cons (ev_v 1 rfl) (ea_cons (ev_v 2 rfl) ea_nil)) fun _ _ _ => ⟨rows, wish, rfl, hrl, by omega, hcol, rfl⟩)) ea_nil) fun _ _ _ => ⟨lmetV rows wish, rfl, by omega, hme, rfl⟩)) ea_nil)) (by rw [hls]; rfl)) sc_llev.nd fun q hq => ?_
  refine go_for (α := Nat) (xs := List.range 30) (enc := fun k => .int (k : Int)) (is := [4]) (fun k Δ => Δ.set 4 (some (.int (k : Int)))) (it_rng (n := 30) rfl (B _ (by decide +kernel)) ev_int (by omega)) (fun k hk => tg_name 4 sc_llev.nd) rfl PassesOwn.never
    (fun i Δ' S' => i < ls.length ∧ ∃ o4 o5 : Option PyData, Δ' = [some (plansD cs), some (rowsD rows), some (bdsD wish), some (ob q), o4, o5] ∧ S' = S0.and (.acc K q ((ls.take (i + 1)).map stsD))) ⟨by rw [hls]; simp, none, none, rfl, rfl⟩ ?_ ?_
  · rintro i k _ _ hk ⟨hi, o4, o5, rfl, rfl⟩
    have hmem : ls[i] ∈ ls := List.getElem_mem hi
    obtain ⟨hg1, hg2⟩ := hL.get i hi
    have hat : atI ((ls.take (i + 1)).map stsD) (-1) = some (stsD ls[i]) := by
      refine atI_last ?_
      rw [List.getElem?_map, List.length_map, List.length_take, List.getElem?_take]
      have e : min (i + 1) ls.length - 1 = i := by omega
      rw [e, if_pos (by omega), List.getElem?_eq_getElem hi]
      rfl
    refine go_set 5 (d := stsD (lnextV cs (srtB wish) ls[i])) (EvR.frz (ev_c c3 hr rfl (ea_cons (ev_v 0 rfl) (ea_cons (ev_v 2 rfl) (ea_cons (ev_ixM (i := -1) as_r hat (ev_v 3 rfl) (ev_un ud_neg ev_int)) ea_nil))) fun _ _ _ => ⟨cs, wish, ls[i], rfl, hwl, hok _ hmem, rfl⟩)) sc_llev.nd ?_
    refine go_if (k := decide (lnextV cs (srtB wish) ls[i] = ls[i])) (EvT.is (evt_cmpF (of_eqD hu (shaped_sets _) (shaped_sets ls[i])) (EvR.m (ev_v 5 rfl)) (EvR.m (ev_ixM (i := -1) as_r hat (ev_v 3 rfl) (ev_un ud_neg ev_int)))) (eqv_sets _ _)) (fun h => ?_) (fun h => ?_)
    · have h : lnextV cs (srtB wish) ls[i] = ls[i] := of_decide_eq_true h
      have hlen : i + 1 = ls.length := by
        refine Classical.byContradiction fun hn => ?_
        have h2 := hg1 (by omega)
        exact h2.2 (h2.1.symm.trans h)
      refine go_frz 3 hq rfl ?_
      exact go_rt rfl hE (EvR.is (ev_v 3 rfl) (by rw [hlen, List.take_length]))
    · have h : ¬ lnextV cs (srtB wish) ls[i] = ls[i] := of_decide_eq_false h
      have hlen : i + 1 < ls.length := by
        refine Classical.byContradiction fun hn => h (hg2 (by omega))
      refine go_nil' (go_app (ev_v 3 rfl) (ev_v 5 rfl) (As.nf hq) (by rw [List.length_map, List.length_take]; omega) (go_turn ⟨hlen, _, _, rfl, ?_⟩))
      rw [take_some (List.getElem?_eq_getElem hlen), List.map_append, (hg1 hlen).1]
      rfl
  · rintro _ _ ⟨hi, _⟩
    rw [List.length_range] at hi
    omega
end
end Pk
namespace Pk
open PySem L2 DL
theorem ev_take {X : Cx} {S : As} {Δ : De} {bg e : Expr} {q : Addr} {m : Int} {j : Nat} {pos p : Pos} (c : C8.Cal X.prog X.w X.K X.mg X.base 1 "_law_take" (spB X.K (pr_take X.K)) []) (hr : Room j X.A) (hg : Gl X "_law_take") (hT : Has S (.bag X.K q)) (hb : Ev X bg Δ S (ob q)) (he : Ev X e Δ S (.int m)) (h0 : 0 < m) (h1 : m ≤ 2000000000000000000) (hk : 1 ≤ j := by decide)
    (hs1 : starEach [bg, e] X.env = (false, eval bg X.env) :: starEach [e] X.env := by rfl) (hs2 : starEach [e] X.env = (false, eval e X.env) :: starEach [] X.env := by rfl) (hpl : (backTo pos (starEach [e] X.env)).any (·.1) = false := by rfl) : EvX X (.Call (.Name "_law_take" p) [bg, e] [] pos) Δ S (intTo m) :=
  evx_cB (PL := (· = [.int m])) c hr hg hT (eax_bag hb (EvA.x (ea_cons he ea_nil hs2) rfl) hs1) (fun _ _ ds hds _ => ⟨m, hds, h0, log_ok h0 h1, rfl⟩) (hk := hk) (he := hs1) (hpl := hpl)
theorem sdD_inj {a b : Sd} : PyData.eqv (sdD a) (sdD b) = decide (a = b) := by
  unfold sdD
  simp only [PyData.eqv, PyData.eqvAll, Bool.and_true]
  rw [show ((a.1 : Int) == (b.1 : Int)) = decide (a.1 = b.1) by
    by_cases h : a.1 = b.1
    · simp [h]
    · have : ¬ (a.1 : Int) = (b.1 : Int) := by omega
      simp [h, this]]
  have e2 : (wayS a.2 == wayS b.2) = decide (a.2 = b.2) := by rw [← wayS_inj]; by_cases h : wayS a.2 = wayS b.2 <;> simp [h]
  rw [e2]
  obtain ⟨c1, l1⟩ := a
  obtain ⟨c2, l2⟩ := b
  simp only [Prod.mk.injEq]
  by_cases h1 : c1 = c2 <;> by_cases h2 : l1 = l2 <;> simp [h1, h2]
theorem canLay_sd (b : Sd) : (sdD b).canLay0 = true := by
  unfold sdD
  simp [PyData.canLay0, PyData.canLayAll0, strOk_way]
theorem shaped_sd (b : Sd) : SeqAt.shaped (sdD b) = true := by
  unfold SeqAt.shaped
  rw [canLay_sd]
  unfold sdD
  simp [PyData.depth, PyData.depthAll]
theorem canLay_sds : ∀ xs : List Sd, PyData.canLayAll0 (xs.map sdD) = true
  | [] => rfl
  | x :: xs => by rw [List.map_cons, PyData.canLayAll0, canLay_sds xs, canLay_sd]; rfl
theorem depth_sds : ∀ xs : List Sd, PyData.depthAll (xs.map sdD) ≤ 1
  | [] => by simp [PyData.depthAll]
  | x :: xs => by
    have := depth_sds xs
    simp only [List.map_cons, PyData.depthAll, sdD, PyData.depth]
    omega
theorem shaped_sds (xs : List Sd) : SeqAt.shaped (.list (xs.map sdD)) = true := by
  have h := depth_sds xs
  have h2 : (PyData.list (xs.map sdD)).depth = 1 + PyData.depthAll (xs.map sdD) := by rw [PyData.depth] <;> omega
  unfold SeqAt.shaped
  rw [Bool.and_eq_true, decide_eq_true_eq]
  exact ⟨by rw [PyData.canLay0, canLay_sds], by omega⟩
theorem any_sd (b : Sd) (xs : List Sd) : ((xs.map sdD).any fun z => PyData.eqv z (sdD b)) = decide (b ∈ xs) := by
  induction xs with
  | nil => rfl
  | cons x xs ih =>
    rw [List.map_cons, List.any_cons, ih, sdD_inj]
    by_cases h : x = b
    · simp [h]
    · have : ¬ b = x := fun e => h e.symm
      simp [h, this]
section
variable {P : Program} {w : World} {K : PySem.W.Frag} {mg : Str → Option Value} {base : Heap} {Cc Cr : Addr}
def n_sides : List Str := ["bag", "width", "most", "found", "k", "side"]
theorem sc_sides : FnScope n_sides ["bag", "width", "most"] (defScope s_law_sides) := ⟨rfl, rfl, rfl, by decide +kernel, rfl, by decide +kernel, by decide +kernel⟩
/-- some different sides -/
def SdsIn (wd most : Nat) (d : PyData) : Prop := ∃ sds : List Sd, d = sdsD sds ∧ sds.length ≤ most ∧ sds.Nodup ∧ ∀ s ∈ sds, s.1 < wd
def pr_sides (K : PySem.W.Frag) : Hp → List PyData → RR → Prop := fun _ ds R => ∃ wd most : Nat, ds = [.int wd, .int most] ∧ 1 ≤ wd ∧ wd ≤ 6 ∧ most ≤ 20 ∧ R = rX K (SdsIn wd most)
theorem ok_sides {f : Addr} {fd : FuncData} (F : Fun K "_law_sides" "_law_sides" s_law_sides f fd) (B : BN mg) (c1 : CalB P w K mg base 1 "_law_take" (pr_take K)) : FnOk P w K mg base CX0 2 f fd ["bag", "width", "most"] (spB K (pr_sides K)) := by
  refine fun_goM F sc_sides (by rintro G ds T R ⟨p, ds', R', rfl, _, ⟨m, t, rfl, _⟩, _⟩; rfl) ?_
  rintro cdv A outer s H0 E G H ds T R hr ⟨p, ds', R', rfl, rfl, ⟨wd, most, rfl, hw, hw6, hm, rfl⟩, rfl⟩
  have hu65 : (A.deeper (PyProof.Rows.envOfC (Str.ofString "_law_sides") (defScope s_law_sides) s.heap.objs.size f cdv)).units + 65 < cLine := by have := hr.un; omega
  refine go_setL 3 (evl_lst ea_nil) sc_sides.nd fun q hq => ?_
  have hqp : q ≠ p := fun e => hq (.inr e)
  refine go_forX (α := Nat) (enc := fun k : Nat => .int (k : Int)) (PX := fun xs => ∃ n : Nat, xs = List.range n ∧ (n : Int) < (most : Int) + 1) (is := [4]) (fun k Δ => Δ.set 4 (some (.int (k : Int)))) (itx_rng (m := (most : Int) + 1) rfl (B _ (by decide +kernel)) (ev_take c1 hr rfl (Has.acc (bag_has bag_fo) hqp) (ev_v 0 rfl) (ev_op od_add (ev_v 2 rfl) ev_int) (by omega) (by omega)) (by omega)) (fun xs _ k hk => tg_name 4 sc_sides.nd) rfl PassesOwn.never
    (fun xs i Δ' S' => ∃ (o4 o5 : Option PyData) (sds : List Sd), sds.length ≤ i ∧ sds.Nodup ∧ (∀ s ∈ sds, s.1 < wd) ∧ Δ' = [some (ob p), some (.int wd), some (.int most), some (ob q), o4, o5] ∧ S' = ((((As.extx G H (As.bag K p).fo).and (.fact (Same G) fun _ _ e h => h.trans e)).and (.bag K p)).and (.acc K q (sds.map sdD)))) (fun xs hxs => ⟨none, none, [], by simp, by simp, by simp, rfl, rfl⟩) ?_ ?_
  · rintro _ ⟨n, rfl, hn⟩ i k _ _ hk ⟨o4, o5, sds, hsl, hnd, hsd, rfl, rfl⟩
    refine go_setX 5 (P := fun d => ∃ sd : Sd, d = sdD sd ∧ sd.1 < wd) (evx_tup (PL := fun ds => ∃ a b : Int, ds = [.int a, .str (wayS (decide (b = 0)))] ∧ 0 ≤ a ∧ a < wd) (EvAX.xx (eax_cons (P := intTo wd) (ev_take c1 hr rfl (Has.acc (bag_has bag_fo) hqp) (ev_v 0 rfl) (ev_v 1 rfl) (by omega) (by omega)) (eax_one (P := fun d => ∃ b : Int, d = .str (wayS (decide (b = 0)))) (evx_ix (P1 := (· = .list [.str "least", .str "most"])) (P2 := intTo 2) (EvR.x (EvR.frz (evl_lst (ea_cons ev_str (ea_cons ev_str ea_nil)))) rfl) (ev_take c1 hr rfl (Has.acc (bag_has bag_fo) hqp) (ev_v 0 rfl) ev_int (by omega) (by omega)) ?ix))) ?al) ?tl) sc_sides.nd fun d hd => ?_
    case ix =>
      rintro _ _ rfl ⟨i, rfl, h0, h1⟩
      have h : i = 0 ∨ i = 1 := by omega
      rcases h with rfl | rfl
      · exact (ixd_list rfl).x ⟨0, rfl⟩
      · exact (ixd_list rfl).x ⟨1, rfl⟩
    case al =>
      rintro ds ⟨d, ds', rfl, ⟨a, rfl, ha⟩, d2, rfl, b, rfl⟩
      exact ⟨a, b, rfl, ha⟩
    case tl =>
      rintro ds ⟨a, b, rfl, ha1, ha2⟩
      exact ⟨by simp, (a.toNat, decide (b = 0)), by unfold sdD; rw [Int.toNat_of_nonneg ha1], by show a.toNat < wd; omega⟩
    obtain ⟨sd, rfl, hsdw⟩ := hd
    have hi : i < n := by have := (List.getElem?_eq_some_iff.mp hk).1; simpa using this
    refine go_if (k := !decide (sd ∈ sds)) (EvT.is (evt_cmpF (of_notIn hu65 (shaped_sd sd) (shaped_sds sds)) (EvR.m (ev_v 5 rfl)) (EvR.mu (ev_v 3 rfl) as_r)) (by rw [any_sd])) (fun h => ?_) (fun h => ?_)
    · refine go_insert (P := fun d => ∃ n : Nat, d = .int (n : Int) ∧ n ≤ 1000000) (P' := (· = sdD sd)) (EvR.xx (ev_take (m := (sds.length : Int) + 1) c1 hr rfl (Has.acc (bag_has bag_fo) hqp) (ev_v 0 rfl) (ev_op od_add (EvR.is (ev_len rfl rfl (B _ (by decide +kernel)) (EvR.mu (ev_v 3 rfl) as_r)) (by rw [List.length_map])) ev_int) (by omega) (by omega)) ?_) (fun _ h => h) (ev_v 3 rfl) (EvR.x (ev_v 5 rfl) rfl) (As.nf hq) (by rw [List.length_map]; omega) fun m d _ hd => ?_
      · rintro d ⟨a, rfl, h0, h1⟩
        exact ⟨a.toNat, by rw [Int.toNat_of_nonneg h0], by omega⟩
      subst hd
      refine go_nil' (go_turn ⟨_, _, sds.take m ++ [sd] ++ sds.drop m, ?_, ?_, ?_, rfl, ?_⟩)
      · simp; omega
      · have h : ¬ sd ∈ sds := by simpa using h
        have hp : (sd :: sds).Perm (sds.take m ++ [sd] ++ sds.drop m) := by
          have : sds = sds.take m ++ sds.drop m := (List.take_append_drop m sds).symm
          conv => lhs; rw [this]
          rw [List.append_assoc]
          exact List.perm_middle.symm
        exact hp.nodup_iff.mp (List.nodup_cons.mpr ⟨h, hnd⟩)
      · intro x hx
        rcases List.mem_append.mp hx with hx | hx
        · rcases List.mem_append.mp hx with hx | hx
          · exact hsd x (List.mem_of_mem_take hx)
          · rw [List.mem_singleton.mp hx]; exact hsdw
        · exact hsd x (List.mem_of_mem_drop hx)
      · rw [List.map_append, List.map_append, List.map_take, List.map_drop]
        rfl
    · exact go_nil' (go_turn ⟨_, _, sds, by omega, hnd, hsd, rfl, rfl⟩)
  · rintro _ ⟨n, rfl, hn⟩ _ _ ⟨o4, o5, sds, hsl, hnd, hsd, rfl, rfl⟩
    rw [List.length_range] at hsl
    refine go_frz 3 hq rfl ?_
    refine go_rtM rfl (as_l.trans as_l) (ev_v 3 rfl) fun v G1 H1 G2 H2 g p r => ⟨p.2, _, ⟨sds, rfl, by omega, hnd, hsd⟩, r⟩
end
end Pk
namespace Pk
open PySem L2 DL
theorem canLay_ints : ∀ ns : List Int, PyData.canLayAll0 (ns.map .int) = true
  | [] => rfl
  | n :: ns => by simpa [PyData.canLayAll0, PyData.canLay0] using canLay_ints ns
theorem depth_ints : ∀ ns : List Int, PyData.depthAll (ns.map .int) = 0
  | [] => rfl
  | n :: ns => by simp [PyData.depthAll, PyData.depth, depth_ints ns]
theorem shaped_rows (rows : List (List Int)) : SeqAt.shaped (.list (rows.map rowD)) = true := by
  have h1 : ∀ rows : List (List Int), PyData.canLayAll0 (rows.map rowD) = true := fun rows => by
    induction rows with
    | nil => rfl
    | cons n ns ih => rw [List.map_cons, PyData.canLayAll0, ih]; unfold rowD; rw [PyData.canLay0, canLay_ints]; rfl
  have h2 : ∀ rows : List (List Int), PyData.depthAll (rows.map rowD) ≤ 1 := fun rows => by
    induction rows with
    | nil => simp [PyData.depthAll]
    | cons n ns ih =>
      have h3 : (rowD n).depth = 1 := by unfold rowD; rw [PyData.depth, depth_ints]
      simp only [List.map_cons, PyData.depthAll, h3]
      omega
  have h4 := h2 rows
  have h3 : (PyData.list (rows.map rowD)).depth = 1 + PyData.depthAll (rows.map rowD) := by rw [PyData.depth] <;> omega
  unfold SeqAt.shaped
  rw [Bool.and_eq_true, decide_eq_true_eq]
  exact ⟨by rw [PyData.canLay0, h1], by omega⟩
def tenI : Int := 1000000000000000000
/-- all entries are in the range -/
def RIn (wd : Nat) (lo hi : Int) (r : List Int) : Prop := r.length = wd ∧ ∀ x ∈ r, lo ≤ x ∧ x ≤ hi
theorem cut_lo {α : Type} {r : List α} {a : Nat} (h : a ≤ r.length) : cutD r none (some (a : Int)) = r.take a := by
  have e : HT.sIx r.length r.length (some (a : Int)) = a := by rw [HT.sIx_nat]; omega
  have e2 : HT.sIx r.length 0 none = 0 := by unfold HT.sIx; rfl
  unfold cutD
  rw [e, e2]
  simp
theorem cut_hi {α : Type} {r : List α} {a : Nat} (h : a ≤ r.length) : cutD r (some (a : Int)) none = r.drop a := by
  have e : HT.sIx r.length 0 (some (a : Int)) = a := by rw [HT.sIx_nat]; omega
  have e2 : HT.sIx r.length r.length none = r.length := by unfold HT.sIx; rfl
  unfold cutD
  rw [e, e2, List.take_of_length_le (by simp)]
theorem mixed_row {wd : Nat} {lo hi : Int} {r o : List Int} {a : Nat} {x : Int} (hr : RIn wd lo hi r) (ho : RIn wd lo hi o) (ha : a < wd) (hx : r[a]? = some x) : RIn wd lo hi (o.take a ++ [x] ++ o.drop (a + 1)) := by
  refine ⟨?_, fun y hy => ?_⟩
  · have := ho.1
    simp
    omega
  · rcases List.mem_append.mp hy with hy | hy
    · rcases List.mem_append.mp hy with hy | hy
      · exact ho.2 y (List.mem_of_mem_take hy)
      · rw [List.mem_singleton.mp hy]; exact hr.2 x (List.mem_of_getElem? hx)
    · exact ho.2 y (List.mem_of_mem_drop hy)
theorem top_ok {i : Int} (h : 0 ≤ i ∧ i < 4) : ∃ m : Int, atI [PyData.int 1, .int 3, .int 20, .int tenI] i = some (.int m) ∧ 1 ≤ m ∧ m ≤ tenI := by
  obtain ⟨n, rfl⟩ : ∃ n : Nat, i = n := ⟨i.toNat, by omega⟩
  have hn : n < 4 := by omega
  match n, hn with
  | 0, _ => exact ⟨1, rfl, by decide, by decide⟩
  | 1, _ => exact ⟨3, rfl, by decide, by decide⟩
  | 2, _ => exact ⟨20, rfl, by decide, by decide⟩
  | 3, _ => exact ⟨tenI, rfl, by decide, by decide⟩
section
variable {P : Program} {w : World} {K : PySem.W.Frag} {mg : Str → Option Value} {base : Heap} {Cc Cr : Addr}
def n_grows : List Str := ["bag", "width", "many", "top", "found", "k", "row", "at", "other", "down", "entry"]
theorem sc_grows : FnScope n_grows ["bag", "width", "many"] (defScope s_law_great_rows) := ⟨rfl, rfl, rfl, by decide +kernel, rfl, by decide +kernel, by decide +kernel⟩
def RowsIn (wd many : Nat) (d : PyData) : Prop := ∃ rows : List (List Int), d = rowsD rows ∧ rows.length ≤ many ∧ ∀ r ∈ rows, RIn wd (-tenI) tenI r
def pr_grows (K : PySem.W.Frag) : Hp → List PyData → RR → Prop := fun _ ds R => ∃ wd many : Nat, ds = [.int wd, .int many] ∧ 1 ≤ wd ∧ wd ≤ 6 ∧ many ≤ 100 ∧ R = rX K (RowsIn wd many)
theorem ok_grows {f : Addr} {fd : FuncData} (F : Fun K "_law_great_rows" "_law_great_rows" s_law_great_rows f fd) (B : BN mg) (c1 : CalB P w K mg base 1 "_law_take" (pr_take K)) (c2 : CalB P w K mg base 2 "_law_row" (pr_row K)) : FnOk P w K mg base CX0 3 f fd ["bag", "width", "many"] (spB K (pr_grows K)) := by
  refine fun_goM F sc_grows (by rintro G ds T R ⟨p, ds', R', rfl, _, ⟨m, t, rfl, _⟩, _⟩; rfl) ?_
  rintro cdv A outer s H0 E G H ds T R hr ⟨p, ds', R', rfl, rfl, ⟨wd, many, rfl, hw, hw6, hm, rfl⟩, rfl⟩
  have hu := hr.units
  refine go_setX 3 (P := fun d => ∃ t : Int, d = .int t ∧ 1 ≤ t ∧ t ≤ tenI) (evx_ix (P1 := (· = .list [.int 1, .int 3, .int 20, .int tenI])) (P2 := intTo 4) (EvR.x (EvR.frz (evl_lst (ea_cons ev_int (ea_cons ev_int (ea_cons ev_int (ea_cons (EvR.is (ev_op (od_pow ⟨by decide, by decide, by decide⟩) ev_int ev_int) (by show PyData.int (10 ^ 18) = .int tenI; rfl)) ea_nil)))))) rfl) (ev_take c1 hr rfl (bag_has bag_fo) (ev_v 0 rfl) ev_int (by omega) (by omega)) ?_) sc_grows.nd fun d hd => ?_
  · rintro _ _ rfl ⟨i, rfl, hi⟩
    obtain ⟨m, e, h⟩ := top_ok hi
    exact (ixd_list e).x ⟨m, rfl, h⟩
  obtain ⟨t, rfl, ht1, ht2⟩ := hd
  have ht3 : t ≤ 1000000000000000000 := ht2
  refine go_setL 4 (evl_lst ea_nil) sc_grows.nd fun q hq => ?_
  have hqp : q ≠ p := fun e => hq (.inr e)
  refine go_forX (α := Nat) (enc := fun k : Nat => .int (k : Int)) (PX := fun xs => ∃ n : Nat, xs = List.range n ∧ (n : Int) < (many : Int) + 1) (is := [5]) (fun k Δ => Δ.set 5 (some (.int (k : Int)))) (itx_rng (m := (many : Int) + 1) rfl (B _ (by decide +kernel)) (ev_take c1 hr rfl (Has.acc (bag_has bag_fo) hqp) (ev_v 0 rfl) (ev_op od_add (ev_v 2 rfl) ev_int) (by omega) (by omega)) (by omega)) (fun xs _ k hk => tg_name 5 sc_grows.nd) rfl PassesOwn.never
    (fun xs i Δ' S' => ∃ (o5 o6 o7 o8 : Option PyData) (rows : List (List Int)), rows.length = i ∧ (∀ r ∈ rows, RIn wd 0 t r) ∧ Δ' = [some (ob p), some (.int wd), some (.int many), some (.int t), some (ob q), o5, o6, o7, o8, none, none] ∧ S' = ((((As.extx G H (As.bag K p).fo).and (.fact (Same G) fun _ _ e h => h.trans e)).and (.bag K p)).and (.acc K q (rows.map rowD)))) (fun xs hxs => ⟨none, none, none, none, [], by simp, by simp, rfl, rfl⟩) ?_ ?_
  · rintro _ ⟨n, rfl, hn⟩ i k _ _ hk ⟨o5, o6, o7, o8, rows, hrl, hri, rfl, rfl⟩
    have hi : i < n := by have := (List.getElem?_eq_some_iff.mp hk).1; simpa using this
    refine go_setX 6 (P := fun d => ∃ r : List Int, d = rowD r ∧ RIn wd 0 t r) (EvR.xx (evx_cB c2 hr rfl (Has.acc (bag_has bag_fo) hqp) (eax_bag (ev_v 0 rfl) (EvA.x (PL := (· = [.int wd, .int t])) (ea_cons (ev_v 1 rfl) (ea_cons (ev_v 3 rfl) ea_nil)) rfl)) fun _ _ ds hds _ => ⟨wd, t, hds, by omega, by omega, ht3, rfl⟩) fun d ⟨r, hd, h1, h2⟩ => ⟨r, hd, h1, h2⟩) sc_grows.nd fun d hd => ?_
    obtain ⟨r, rfl, hrr⟩ := hd
    have fin : ∀ (r : List Int) (o7 o8 : Option PyData), RIn wd 0 t r → Go (cxOf CX0 P w K mg base n_grows "_law_great_rows" (defScope s_law_great_rows) f cdv A outer s H0 E).nox ((match (defBody s_law_great_rows).getD 2 (.Pass ⟨0, 0, 0, 0⟩) with | .For _ _ b _ _ => b | _ => []).drop 2) ((retM G H (As.bag K p).fo (rAnd (As.bag K p) (rX K (RowsIn wd many)))).loop (cxOf CX0 P w K mg base n_grows "_law_great_rows" (defScope s_law_great_rows) f cdv A outer s H0 E).nox ((defBody s_law_great_rows).drop 3) fun Δ' S' => ∃ (o5 o6 o7 o8 : Option PyData) (rows : List (List Int)), rows.length = i + 1 ∧ (∀ r ∈ rows, RIn wd 0 t r) ∧ Δ' = [some (ob p), some (.int wd), some (.int many), some (.int t), some (ob q), o5, o6, o7, o8, none, none] ∧ S' = ((((As.extx G H (As.bag K p).fo).and (.fact (Same G) fun _ _ e h => h.trans e)).and (.bag K p)).and (.acc K q (rows.map rowD)))) [some (ob p), some (.int wd), some (.int many), some (.int t), some (ob q), some (.int k), some (rowD r), o7, o8, none, none] ((((As.extx G H (As.bag K p).fo).and (.fact (Same G) fun _ _ e h => h.trans e)).and (.bag K p)).and (.acc K q (rows.map rowD))) := by
      intro r o7 o8 hr
      refine go_app (ev_v 4 rfl) (ev_v 6 rfl) (As.nf hq) (by rw [List.length_map]; omega) (go_turn ⟨_, _, _, _, rows ++ [r], by simp [hrl], ?_, rfl, ?_⟩)
      · intro x hx
        rcases List.mem_append.mp hx with hx | hx
        · exact hri x hx
        · rw [List.mem_singleton.mp hx]; exact hr
      · rw [List.map_append]; rfl
    refine go_ifX (PB := fun k => k = true → rows ≠ []) (EvTX.xx (evtx_w (evwx_and (PB := fun k => k = !rows.isEmpty) (PB' := fun _ => True) (EvT.x (EvT.is (evt_cmpF (of_neD hu (shaped_rows rows) shaped_nil) (EvR.mu (ev_v 4 rfl) as_r) (EvR.m (EvR.frz (evl_lst ea_nil)))) rfl) (by rw [eqv_nil, List.isEmpty_map])) fun _ => evwx_and1 (evtx_cmp (P1 := intTo 3) (P2 := (· = .int 0)) (ev_take c1 hr rfl (Has.acc (bag_has bag_fo) hqp) (ev_v 0 rfl) ev_int (by omega) (by omega)) (EvR.x ev_int rfl) ?_))) ?_) (fun h => ?_) (fun h => ?_)
    · rintro _ _ ⟨i, rfl, _⟩ rfl
      exact ⟨_, od_eqI, True.intro⟩
    · rintro b (⟨h1, _⟩ | ⟨_, h⟩) hb
      · intro e
        rw [e] at h1
        cases h1
      · rw [h] at hb; cases hb
    · have hne := h rfl
      have hl1 : 0 < rows.length := List.length_pos_iff.mpr hne
      refine go_parX 7 8 (P1 := intTo wd) (P2 := fun d => ∃ o : List Int, d = rowD o ∧ RIn wd 0 t o) (ev_take c1 hr rfl (Has.acc (bag_has bag_fo) hqp) (ev_v 0 rfl) (ev_v 1 rfl) (by omega) (by omega)) (evx_ixM (P1 := intTo rows.length) as_r (ev_v 4 rfl) (ev_take c1 hr rfl (Has.acc (bag_has bag_fo) hqp) (ev_v 0 rfl) (EvR.is (ev_len rfl rfl (B _ (by decide +kernel)) (EvR.mu (ev_v 4 rfl) as_r)) (by rw [List.length_map])) (by omega) (by omega)) ?ix) rfl sc_grows.nd fun d1 d2 hd1 hd2 => ?_
      case ix =>
        rintro _ ⟨j, rfl, h0, h1⟩
        obtain ⟨m, rfl⟩ : ∃ m : Nat, j = m := ⟨j.toNat, by omega⟩
        have hm : m < rows.length := by omega
        exact ⟨m, rowD rows[m], rfl, atI_nat' (by rw [List.getElem?_map, List.getElem?_eq_getElem hm]; rfl), rows[m], rfl, hri _ (List.getElem_mem hm)⟩
      obtain ⟨a', rfl, ha0, ha'⟩ := hd1
      obtain ⟨a, rfl⟩ : ∃ a : Nat, a' = a := ⟨a'.toNat, by omega⟩
      have ha : a < wd := by omega
      obtain ⟨o, rfl, ho⟩ := hd2
      obtain ⟨x, hx⟩ : ∃ x, r[a]? = some x := ⟨_, List.getElem?_eq_getElem (by rw [hrr.1]; exact ha)⟩
      refine go_set 6 (d := rowD (o.take a ++ [x] ++ o.drop (a + 1))) (EvR.is (ev_op (od_catT ?_) (ev_op (od_catT ?_) (ev_sl sld_tup (ev_v 8 rfl) eo_none (eo_some (ev_v 7 rfl))) (ev_tup (ea_cons (ev_ix (ixd_tup (d := .int x) (atI_nat' (by rw [List.getElem?_map, hx]; rfl))) (ev_v 6 rfl) (ev_v 7 rfl)) ea_nil))) (ev_sl sld_tup (ev_v 8 rfl) (eo_some (ev_op od_add (ev_v 7 rfl) ev_int)) eo_none)) ?_) sc_grows.nd (go_nil' (fin _ _ _ (mixed_row hrr ho ha hx)))
      · rw [cut_lo (by rw [List.length_map]; have := ho.1; omega)]
        have := ho.1
        have e : ((a : Int) + 1) = ((a + 1 : Nat) : Int) := by omega
        rw [e, cut_hi (by rw [List.length_map]; omega)]
        simp
        omega
      · rw [cut_lo (by rw [List.length_map]; have := ho.1; omega)]
        have := ho.1
        simp
        omega
      · have := ho.1
        have e : ((a : Int) + 1) = ((a + 1 : Nat) : Int) := by omega
        rw [e, cut_hi (by rw [List.length_map]; omega), cut_lo (by rw [List.length_map]; omega)]
        unfold rowD
        rw [List.map_append, List.map_append, List.map_take, List.map_drop]
        rfl
    · exact go_nil' (fin r _ _ hrr)
  · rintro _ ⟨n, rfl, hn⟩ _ _ ⟨o5, o6, o7, o8, rows, hrl, hri, rfl, rfl⟩
    rw [List.length_range] at hrl
    refine go_frz 4 hq rfl ?_
    refine go_setX 9 (P := fun d => ∃ x : Int, d = .int x ∧ 0 ≤ x ∧ x ≤ t) (evx_op (P1 := intTo (t + 1)) (P2 := intTo 2) (ev_take c1 hr rfl (bag_has bag_fo) (ev_v 0 rfl) (ev_op od_add (ev_v 3 rfl) ev_int) (by omega) (by omega)) (ev_take c1 hr rfl (bag_has bag_fo) (ev_v 0 rfl) ev_int (by omega) (by omega)) ?_) sc_grows.nd fun d hd => ?_
    · rintro _ _ ⟨x, rfl, h0, h1⟩ ⟨y, rfl, h2, h3⟩
      refine (od_mul (.inr ⟨by omega, by omega⟩)).x ⟨_, rfl, ?_⟩
      have h : y = 0 ∨ y = 1 := by omega
      rcases h with rfl | rfl
      · simp; omega
      · rw [Int.mul_one]; omega
    obtain ⟨x, rfl, hx0, hx1⟩ := hd
    refine go_rtM (R' := rX K (RowsIn wd many)) rfl (as_l.trans as_l) (EvR.x (EvR.frz (evl_map [("row", 6)] (fun r : List Int => rowD (r.map fun z => z - x)) (fun r Δ => Δ.set 6 (some (rowD r))) (it_list (ev_v 4 rfl)) rfl sc_grows.nd (blkOk_by (N := n_grows) (sc := defScope s_law_great_rows) (by decide +kernel)) (by omega) (is := [6]) (by decide) (fun b hb => fun _ _ _ _ _ => tg_name 6 sc_grows.nd) (fun D es hD r hrm => fun _ _ _ _ _ => ev_tupleC rfl rfl (B _ (by decide +kernel)) (.inl rfl) (EvR.is (EvR.frz (evl_map [("entry", 10)] (fun z : Int => .int (z - x)) (fun z Δ => Δ.set 10 (some (.int z))) (it_tup (ev_v 6 rfl)) rfl sc_grows.nd (blkOk_by (N := n_grows) (sc := rlSc (defScope s_law_great_rows) (lcSc (retE ((defBody s_law_great_rows).getD 4 (.Pass ⟨0, 0, 0, 0⟩))))) (by decide +kernel)) (by have := (hri r hrm).1; omega) (is := [10]) (by decide) (fun b hb => fun _ _ _ _ _ => tg_name 10 sc_grows.nd) (fun D es hD z hz => fun _ _ _ _ _ => ev_op od_sub (ev_v 10 rfl) (ev_v 9 rfl)))) (by rw [List.map_map]; rfl))))) ⟨rows.map fun r => r.map fun z => z - x, by unfold rowsD; rw [List.map_map]; rfl, by rw [List.length_map]; omega, ?_⟩) fun v G1 H1 G2 H2 g p r => ⟨p.2, r⟩
    intro r hrm
    obtain ⟨r0, hr0, rfl⟩ := List.mem_map.mp hrm
    obtain ⟨h1, h2⟩ := hri r0 hr0
    refine ⟨by rw [List.length_map]; exact h1, fun z hz => ?_⟩
    obtain ⟨z0, hz0, rfl⟩ := List.mem_map.mp hz
    have := h2 z0 hz0
    show -tenI ≤ z0 - x ∧ z0 - x ≤ tenI
    unfold tenI at ht2 ⊢
    omega
end
end Pk
namespace Pk
open PySem L2 DL
section
variable {P : Program} {w : World} {K : PySem.W.Frag} {mg : Str → Option Value} {base : Heap} {Cc Cr : Addr}
def n_swish : List Str := ["bag", "rows", "width", "most", "found", "side", "value"]
theorem sc_swish : FnScope n_swish ["bag", "rows", "width", "most"] (defScope s_law_small_wish) := ⟨rfl, rfl, rfl, by decide +kernel, rfl, by decide +kernel, by decide +kernel⟩
def sideOf (b : Bd) : Sd := (b.col, b.least)
def WishOk (wd most : Nat) (wish : List Bd) : Prop := wish.length ≤ most ∧ (wish.map sideOf).Nodup ∧ ∀ b ∈ wish, b.col < wd ∧ -tenI ≤ b.val ∧ b.val ≤ tenI
def WishIn (wd most : Nat) (d : PyData) : Prop := ∃ wish : List Bd, d = bdsD wish ∧ WishOk wd most wish
def pr_swish (K : PySem.W.Frag) : Hp → List PyData → RR → Prop := fun _ ds R => ∃ (rows : List (List Int)) (wd most : Nat), ds = [rowsD rows, .int wd, .int most] ∧ 1 ≤ wd ∧ wd ≤ 6 ∧ most ≤ 20 ∧ rows.length ≤ 100 ∧ (∀ r ∈ rows, RIn wd (-tenI) tenI r) ∧ R = rX K (WishIn wd most)
theorem ok_swish {f : Addr} {fd : FuncData} (F : Fun K "_law_small_wish" "_law_small_wish" s_law_small_wish f fd) (B : BN mg) (c1 : CalB P w K mg base 1 "_law_take" (pr_take K)) (c2 : CalB P w K mg base 2 "_law_sides" (pr_sides K)) : FnOk P w K mg base CX0 3 f fd ["bag", "rows", "width", "most"] (spB K (pr_swish K)) := by
  refine fun_goM F sc_swish (by rintro G ds T R ⟨p, ds', R', rfl, _, ⟨m, t, o, rfl, _⟩, _⟩; rfl) ?_
  rintro cdv A outer s H0 E G H ds T R hr ⟨p, ds', R', rfl, rfl, ⟨rows, wd, most, rfl, hw, hw6, hm, hrl, hri, rfl⟩, rfl⟩
  have hu := hr.units
  refine go_setL 4 (evl_lst ea_nil) sc_swish.nd fun q hq => ?_
  have hqp : q ≠ p := fun e => hq (.inr e)
  refine go_forX (α := Sd) (enc := sdD) (PX := fun sds => sds.length ≤ most ∧ sds.Nodup ∧ ∀ s ∈ sds, s.1 < wd) (is := [5]) (fun sd Δ => Δ.set 5 (some (sdD sd))) (itx_list (evx_cB c2 hr rfl (Has.acc (bag_has bag_fo) hqp) (eax_bag (ev_v 0 rfl) (EvA.x (PL := (· = [.int wd, .int most])) (ea_cons (ev_v 2 rfl) (ea_cons (ev_v 3 rfl) ea_nil)) rfl)) fun _ _ ds hds _ => ⟨wd, most, hds, hw, hw6, hm, rfl⟩) fun d ⟨sds, hd, h⟩ => ⟨sds, h, hd⟩) (fun xs _ k hk => tg_name 5 sc_swish.nd) rfl PassesOwn.never
    (fun xs i Δ' S' => ∃ (o5 o6 : Option PyData) (wish : List Bd), wish.map sideOf = xs.take i ∧ (∀ b ∈ wish, -tenI ≤ b.val ∧ b.val ≤ tenI) ∧ Δ' = [some (ob p), some (rowsD rows), some (.int wd), some (.int most), some (ob q), o5, o6] ∧ S' = ((((As.extx G H (As.bag K p).fo).and (.fact (Same G) fun _ _ e h => h.trans e)).and (.bag K p)).and (.acc K q (wish.map bdD)))) (fun xs hxs => ⟨none, none, [], by simp, by simp, rfl, rfl⟩) ?_ ?_
  · rintro sds ⟨hl, hnd, hsw⟩ i sd _ _ hk ⟨o5, o6, wish, hwi, hwv, rfl, rfl⟩
    have hsd := hsw sd (List.mem_of_getElem? hk)
    have hwl : wish.length ≤ 20 := by
      have := congrArg List.length hwi
      rw [List.length_map, List.length_take] at this
      omega
    refine go_setX 6 (ev_take c1 hr rfl (Has.acc (bag_has bag_fo) hqp) (ev_v 0 rfl) ev_int (by omega) (by omega)) sc_swish.nd fun d hd => ?_
    obtain ⟨v, rfl, hv0, hv1⟩ := hd
    have fin : ∀ v : Int, -tenI ≤ v ∧ v ≤ tenI → Go (cxOf CX0 P w K mg base n_swish "_law_small_wish" (defScope s_law_small_wish) f cdv A outer s H0 E).nox ((match (defBody s_law_small_wish).getD 1 (.Pass ⟨0, 0, 0, 0⟩) with | .For _ _ b _ _ => b | _ => []).drop 2) ((retM G H (As.bag K p).fo (rAnd (As.bag K p) (rX K (WishIn wd most)))).loop (cxOf CX0 P w K mg base n_swish "_law_small_wish" (defScope s_law_small_wish) f cdv A outer s H0 E).nox ((defBody s_law_small_wish).drop 2) fun Δ' S' => ∃ (o5 o6 : Option PyData) (wish : List Bd), wish.map sideOf = sds.take (i + 1) ∧ (∀ b ∈ wish, -tenI ≤ b.val ∧ b.val ≤ tenI) ∧ Δ' = [some (ob p), some (rowsD rows), some (.int wd), some (.int most), some (ob q), o5, o6] ∧ S' = ((((As.extx G H (As.bag K p).fo).and (.fact (Same G) fun _ _ e h => h.trans e)).and (.bag K p)).and (.acc K q (wish.map bdD)))) [some (ob p), some (rowsD rows), some (.int wd), some (.int most), some (ob q), some (sdD sd), some (.int v)] ((((As.extx G H (As.bag K p).fo).and (.fact (Same G) fun _ _ e h => h.trans e)).and (.bag K p)).and (.acc K q (wish.map bdD))) := by
      intro v hv
      refine go_app (d := bdD ⟨sd.1, sd.2, v⟩) (ev_v 4 rfl) (ev_op (od_catT (ds := [.int sd.1, .str (wayS sd.2)]) (es := [.int v]) (by simp)) (ev_v 5 rfl) (ev_tup (ea_cons (ev_v 6 rfl) ea_nil))) (As.nf hq) (by rw [List.length_map]; omega) (go_turn ⟨_, _, wish ++ [⟨sd.1, sd.2, v⟩], ?_, ?_, rfl, ?_⟩)
      · rw [List.map_append, hwi, take_some hk]
        rfl
      · intro x hx
        rcases List.mem_append.mp hx with hx | hx
        · exact hwv x hx
        · rw [List.mem_singleton.mp hx]; exact hv
      · rw [List.map_append]; rfl
    refine go_ifX (PB := fun k => k = true → rows ≠ []) (EvTX.xx (evtx_w (evwx_and (PB := fun k => k = !rows.isEmpty) (PB' := fun _ => True) (EvT.x (EvT.is (evt_cmpF (of_neD hu (shaped_rows rows) shaped_nil) (EvR.m (ev_v 1 rfl)) (EvR.m (EvR.frz (evl_lst ea_nil)))) rfl) (by rw [eqv_nil, List.isEmpty_map])) fun _ => evwx_and1 (evtx_cmp (P1 := intTo 4) (P2 := (· = .int 0)) (ev_take c1 hr rfl (Has.acc (bag_has bag_fo) hqp) (ev_v 0 rfl) ev_int (by omega) (by omega)) (EvR.x ev_int rfl) ?_))) ?_) (fun h => ?_) (fun h => ?_)
    · rintro _ _ ⟨i, rfl, _⟩ rfl
      exact ⟨_, od_gt, True.intro⟩
    · rintro b (⟨h1, _⟩ | ⟨_, h⟩) hb
      · intro e
        rw [e] at h1
        cases h1
      · rw [h] at hb; cases hb
    · have hne := h rfl
      have hl1 : 0 < rows.length := List.length_pos_iff.mpr hne
      refine go_setX 6 (P := fun d => ∃ v : Int, d = .int v ∧ -tenI ≤ v ∧ v ≤ tenI) (evx_ix (P1 := fun d => ∃ r : List Int, d = rowD r ∧ RIn wd (-tenI) tenI r) (P2 := (· = .int sd.1)) (evx_ix (P1 := (· = rowsD rows)) (P2 := intTo rows.length) (EvR.x (ev_v 1 rfl) rfl) (ev_take c1 hr rfl (Has.acc (bag_has bag_fo) hqp) (ev_v 0 rfl) (EvR.is (ev_len rfl rfl (B _ (by decide +kernel)) (EvR.m (ev_v 1 rfl))) (by rw [List.length_map])) (by omega) (by omega)) ?ix) (EvR.x (ev_ix (ixd_tup (d := .int sd.1) (i := 0) rfl) (ev_v 5 rfl) ev_int) rfl) ?ix2) sc_swish.nd fun d hd => ?_
      case ix =>
        rintro _ _ rfl ⟨j, rfl, h0, h1⟩
        obtain ⟨m, rfl⟩ : ∃ m : Nat, j = m := ⟨j.toNat, by omega⟩
        have hm : m < rows.length := by omega
        exact (ixd_list (atI_nat' (by rw [List.getElem?_map, List.getElem?_eq_getElem hm]; rfl))).x ⟨rows[m], rfl, hri _ (List.getElem_mem hm)⟩
      case ix2 =>
        rintro _ _ ⟨r, rfl, h1, h2⟩ rfl
        have hm : sd.1 < r.length := by omega
        exact (ixd_tup (atI_nat' (by rw [List.getElem?_map, List.getElem?_eq_getElem hm]; rfl))).x ⟨r[sd.1], rfl, h2 _ (List.getElem_mem hm)⟩
      obtain ⟨v, rfl, hv⟩ := hd
      exact go_nil' (fin v hv)
    · exact go_nil' (fin v ⟨by unfold tenI; omega, by unfold tenI; omega⟩)
  · rintro sds ⟨hl, hnd, hsw⟩ _ _ ⟨o5, o6, wish, hwi, hwv, rfl, rfl⟩
    rw [List.take_length] at hwi
    refine go_frz 4 hq rfl ?_
    refine go_rtM (R' := rX K (WishIn wd most)) rfl (as_l.trans as_l) (EvR.x (ev_v 4 rfl) ⟨wish, rfl, ?_, by rw [hwi]; exact hnd, fun b hb => ⟨?_, hwv b hb⟩⟩) fun v G1 H1 G2 H2 g p r => ⟨p.2, r⟩
    · have := congrArg List.length hwi
      rw [List.length_map] at this
      omega
    · exact hsw (sideOf b) (by rw [← hwi]; exact List.mem_map_of_mem hb)
end
end Pk
namespace Pk
open PySem L2 DL
section
variable {P : Program} {w : World} {K : PySem.W.Frag} {mg : Str → Option Value} {base : Heap} {Cc Cr : Addr}
def n_plans : List Str := ["bag", "width", "plans", "many", "one", "column"]
theorem sc_plans : FnScope n_plans ["bag", "width"] (defScope s_law_plans) := ⟨rfl, rfl, rfl, by decide +kernel, rfl, by decide +kernel, by decide +kernel⟩
def PlOk (wd : Nat) (cs : List Cn) : Prop := cs.length ≤ 3 ∧ ∀ c ∈ cs, CnOk c ∧ c.ws.length ≤ 5 ∧ c.qs.length = wd
def PlIn (wd : Nat) (d : PyData) : Prop := ∃ cs : List Cn, d = plansD cs ∧ PlOk wd cs
def pr_plans (K : PySem.W.Frag) : Hp → List PyData → RR → Prop := fun _ ds R => ∃ wd : Nat, ds = [.int wd] ∧ 1 ≤ wd ∧ wd ≤ 6 ∧ R = rX K (PlIn wd)
theorem all2_cns {α : Type} {wd : Nat} {xs : List α} {ds : List PyData} (h : All2 (fun _ => CnIn wd 4) xs ds) : ∃ cs : List Cn, ds = cs.map cpD ∧ cs.length = xs.length ∧ ∀ c ∈ cs, CnOk c ∧ c.ws.length ≤ 5 ∧ c.qs.length = wd := by
  obtain ⟨r, e, hr⟩ := coded (enc := cpD) (P := fun c => CnOk c ∧ c.ws.length ≤ 5 ∧ c.qs.length = wd) (h.right (P := fun d => ∃ c : Cn, d = cpD c ∧ CnOk c ∧ c.ws.length ≤ 5 ∧ c.qs.length = wd) fun _ d ⟨c, h1, h2, h3, h4⟩ => ⟨c, h1, h2, by omega, h4⟩)
  exact ⟨r, e, by rw [h.len, e, List.length_map], hr⟩
theorem sum_ones (n : Nat) : (List.replicate n (1 : Int)).sum = n := by
  induction n with
  | zero => rfl
  | succ n ih => rw [List.replicate_succ, List.sum_cons, ih]; omega
theorem ok_plans {f : Addr} {fd : FuncData} (F : Fun K "_law_plans" "_law_plans" s_law_plans f fd) (B : BN mg) (c1 : CalB P w K mg base 1 "_law_take" (pr_take K)) (c2 : CalB P w K mg base 2 "_law_council" (pr_council K)) : FnOk P w K mg base CX0 3 f fd ["bag", "width"] (spB K (pr_plans K)) := by
  refine fun_goM F sc_plans (by rintro G ds T R ⟨p, ds', R', rfl, _, ⟨m, rfl, _⟩, _⟩; rfl) ?_
  rintro cdv A outer s H0 E G H ds T R hr ⟨p, ds', R', rfl, rfl, ⟨wd, rfl, hw, hw6, rfl⟩, rfl⟩
  refine go_setLcM 2 (lclX (own := [("one", 4)]) (is := [4]) (enc := fun k : Nat => .int (k : Int)) (PX := fun xs => ∃ n : Nat, xs = List.range n ∧ (n : Int) < 3) (fun _ => CnIn wd 4) (fun k Δ => Δ.set 4 (some (.int (k : Int)))) (itx_rng (m := 3) rfl (B _ (by decide +kernel)) (ev_take c1 hr rfl (bag_has bag_fo) (ev_v 0 rfl) ev_int (by omega) (by omega)) (by omega)) (blkOk_by (N := n_plans) (sc := defScope s_law_plans) (by decide +kernel)) ?_ (by decide) (fun xs _ k hk => fun _ _ _ _ _ => tg_name 4 sc_plans.nd) ?el) rfl sc_plans.nd fun q ds hq hds => ?_
  · rintro _ ⟨n, rfl, hn⟩; rw [List.length_range]; omega
  case el =>
    rintro _ ⟨n, rfl, hn⟩ D es hD k hk
    exact fun _ _ _ _ _ => evx_cB c2 hr rfl (Has.acc (bag_has bag_fo) fun e => hD (.inr e)) (eax_bag (ev_v 0 rfl) (EvA.x (PL := (· = [.int wd, .int (4 : Nat)])) (ea_cons (ev_v 1 rfl) (ea_cons ev_int ea_nil)) rfl)) fun _ _ ds hds _ => ⟨wd, 4, hds, hw, hw6, by omega, by omega, rfl⟩
  have hqp : q ≠ p := fun e => hq (.inr e)
  obtain ⟨_, ⟨n, rfl, hn⟩, hA⟩ := hds
  obtain ⟨cs, rfl, hcl, hcs⟩ := all2_cns hA
  rw [List.length_range] at hcl
  have fin : ∀ (cs : List Cn) (o3 : Option PyData), PlOk wd cs → Go (cxOf CX0 P w K mg base n_plans "_law_plans" (defScope s_law_plans) f cdv A outer s H0 E).nox ((defBody s_law_plans).drop 2) (retM G H (As.bag K p).fo (rAnd (As.bag K p) (rX K (PlIn wd)))) [some (ob p), some (.int wd), some (ob q), o3, none, none] ((((As.extx G H (As.bag K p).fo).and (.fact (Same G) fun _ _ e h => h.trans e)).and (.bag K p)).and (.acc K q (cs.map cpD))) := by
    intro cs o3 h
    refine go_frz 2 hq rfl ?_
    exact go_rtM (R' := rX K (PlIn wd)) rfl (as_l.trans as_l) (EvR.x (ev_v 2 rfl) ⟨cs, rfl, h⟩) fun v G1 H1 G2 H2 g p r => ⟨p.2, r⟩
  refine go_ifX (PB := fun _ => True) (evtx_cmp (P1 := intTo 3) (P2 := (· = .int 0)) (ev_take c1 hr rfl (Has.acc (bag_has bag_fo) hqp) (ev_v 0 rfl) ev_int (by omega) (by omega)) (EvR.x ev_int rfl) ?_) (fun _ => ?_) (fun _ => go_nil' (fin cs _ ⟨by omega, hcs⟩))
  · rintro _ _ ⟨i, rfl, _⟩ rfl
    exact ⟨_, od_eqI, True.intro⟩
  refine go_setX 3 (P := fun d => ∃ m : Nat, d = .int m ∧ 2 ≤ m ∧ m ≤ 5) (evx_op (P1 := (· = .int 2)) (P2 := intTo 4) (EvR.x ev_int rfl) (ev_take c1 hr rfl (Has.acc (bag_has bag_fo) hqp) (ev_v 0 rfl) ev_int (by omega) (by omega)) ?_) sc_plans.nd fun d hd => ?_
  · rintro _ _ rfl ⟨i, rfl, h0, h1⟩
    exact od_add.x ⟨(2 + i).toNat, by rw [Int.toNat_of_nonneg (by omega)], by omega, by omega⟩
  obtain ⟨m, rfl, hm2, hm5⟩ := hd
  refine go_appX (P := fun d => ∃ c : Cn, d = cpD c ∧ CnOk c ∧ c.ws.length ≤ 5 ∧ c.qs.length = wd) (ev_v 2 rfl) (evx_tup (PL := fun ds => ∃ c : Cn, ds = [intsD c.ws, intsD c.qs] ∧ CnOk c ∧ c.ws.length ≤ 5 ∧ c.qs.length = wd) (EvAX.xx (eax_cons (P := (· = intsD (List.replicate m 1))) (EvR.x (EvR.is (EvR.frz (ev_op (od_repL (d := .int 1) (n := m) (by omega)) (EvR.frz (evl_lst (ea_cons ev_int ea_nil))) (ev_v 3 rfl))) (by unfold intsD; rw [List.map_replicate])) rfl) (eax_one (P := fun d => ∃ qs : List Int, d = intsD qs ∧ qs.length = wd ∧ ∀ x ∈ qs, 1 ≤ x ∧ x ≤ m) (EvR.xfrz (evl_lcX (own := [("column", 5)]) (is := [5]) (enc := fun k : Nat => .int (k : Int)) (PX := fun xs => xs = List.range wd) (fun _ d => ∃ x : Int, d = .int x ∧ 1 ≤ x ∧ x ≤ m) (fun k Δ => Δ.set 5 (some (.int (k : Int)))) (ItD.x (it_rng rfl (B _ (by decide +kernel)) (ev_v 1 rfl) (by omega)) ⟨_, rfl, rfl⟩) rfl sc_plans.nd (blkOk_by (N := n_plans) (sc := defScope s_law_plans) (by decide +kernel)) ?_ (by decide) (fun xs _ k hk => fun _ _ _ _ _ => tg_name 5 sc_plans.nd) ?el2) ?fz))) ?al) ?tl) (As.nf hq) (by rw [List.length_map]; omega) fun d hd => ?_
  · rintro _ rfl; rw [List.length_range]; omega
  case el2 =>
    rintro _ rfl D es hD k hk
    refine fun _ _ _ _ _ => evx_op (P1 := (· = .int 1)) (P2 := intTo m) (EvR.x ev_int rfl) (ev_take c1 hr rfl (Has.acc (Has.acc (bag_has bag_fo) hqp) fun e => hD (.inl (.inr e))) (ev_v 0 rfl) (ev_v 3 rfl) (by omega) (by omega)) ?_
    rintro _ _ rfl ⟨i, rfl, h0, h1⟩
    exact od_add.x ⟨_, rfl, by omega, by omega⟩
  case fz =>
    rintro ds ⟨_, rfl, h⟩
    obtain ⟨r, e, hr⟩ := coded (enc := PyData.int) (P := fun x => 1 ≤ x ∧ x ≤ (m : Int)) (h.right fun _ _ z => z)
    have := h.len
    rw [e, List.length_map, List.length_range] at this
    exact ⟨r, by rw [e]; rfl, this.symm, hr⟩
  case al =>
    rintro ds ⟨d, ds', rfl, rfl, d2, rfl, qs, rfl, hq1, hq2⟩
    refine ⟨⟨List.replicate m 1, qs⟩, rfl, ⟨by simp; omega, by simp; omega, fun x hx => by rw [(List.mem_replicate.mp hx).2]; omega, by show 1 ≤ qs.length; omega, by show qs.length ≤ 6; omega, ?_⟩, by simp; omega, hq1⟩
    show ∀ x ∈ qs, 1 ≤ x ∧ x ≤ (List.replicate m (1 : Int)).sum
    rw [sum_ones]
    exact hq2
  case tl =>
    rintro ds ⟨c, rfl, h⟩
    exact ⟨by simp, c, rfl, h⟩
  obtain ⟨c, rfl, hc⟩ := hd
  refine go_nil' ?_
  have := fin (cs ++ [c]) (some (.int m)) ⟨by simp; omega, fun x hx => by
    rcases List.mem_append.mp hx with hx | hx
    · exact hcs x hx
    · rw [List.mem_singleton.mp hx]; exact hc⟩
  rw [List.map_append] at this
  exact this
end
end Pk
namespace Pk
open PySem L2 DL
/-- what makes a wish right -/
structure RightOk (cs : List Cn) (rows : List (List Int)) (wish : List Bd) : Prop where
  ex : ∃ (lv : List (List Int)) (ls : List (List (List Bd))), rows.length ≤ 10000 ∧ cs.length ≤ 1000 ∧ wish.length ≤ 100 ∧ (∀ r ∈ rows, ∀ b ∈ wish, b.col < r.length) ∧
    Lvls cs (srtB wish) (level0 (srtB wish) rows) lv ∧ lv.length ≤ 500 ∧ (∀ l ∈ lv, AdvOk cs (srtB wish) l) ∧
    LLv cs (srtB wish) (lgreatV (lmetV rows wish)) ls ∧ ls.length ≤ 30 ∧ (∀ l ∈ ls, LOk cs (srtB wish) l) ∧
    lv.map (fun l => PyData.list (setsD (srtB wish) l)) = ls.map stsD ∧ Shw (.list (ls.map stsD)) ∧ (∀ z ∈ ls.zip (ls.drop 1), ∀ one ∈ z.1, ∃ o ∈ z.2, withinV one o = true) ∧ (∀ l ∈ ls, ∀ one ∈ l, one.length ≤ 10000)
section
variable {P : Program} {w : World} {K : PySem.W.Frag} {mg : Str → Option Value} {base : Heap} {Cc Cr : Addr}
def n_lright : List Str := ["councils", "plans", "rows", "wish", "found", "level", "later", "one", "other"]
theorem sc_lright : FnScope n_lright ["councils", "plans", "rows", "wish"] (defScope s_law_right) := ⟨rfl, rfl, rfl, by decide +kernel, rfl, by decide +kernel, by decide +kernel⟩
def pr_lright (K : PySem.W.Frag) (Cc : Addr) : Hp → List PyData → As → RR → Prop := fun _ ds T R => ∃ (cs : List (Addr × Cn)) (rows : List (List Int)) (wish : List Bd), ds = [cnsD Cc cs, plansD (cs.map (·.2)), rowsD rows, bdsD wish] ∧ RightOk (cs.map (·.2)) rows wish ∧ T = .tt ∧ R = rAnd .tt (rAt K (.bool true))
theorem ok_lright {f : Addr} {fd : FuncData} (F : Fun K "_law_right" "_law_right" s_law_right f fd) (B : BN mg) (c1 : CalP P w K mg base 6 "met_sets" (pr_met_sets K Cc)) (c2 : CalP P w K mg base 4 "_law_set_levels" (pr_llev K)) (c3 : CalG P w K mg base 1 "_law_alike" (spM K (pr_alike K))) (c4 : CalP P w K mg base 1 "_law_within" (pr_lwithin K)) : FnG P w K mg base 7 f fd ["councils", "plans", "rows", "wish"] (spM K (pr_lright K Cc)) := by
  refine fn_goG F sc_lright (by rintro G ds T R ⟨c, r, sd, rfl, _⟩; rfl) ?_
  rintro cdv A outer s H0 E G H ds T R hr hgd ⟨cs, rows, wish, rfl, ⟨lv, ls, hrl, hcl, hwl, hcol, hLv, hLvl, hadv, hL, hLl, hok, heq, hsh, hwi, hol⟩, rfl, rfl⟩
  have hu := hr.units
  obtain ⟨S0, hS0⟩ : ∃ S0, (((As.extx G H As.tt.fo).and (.fact (Same G) fun _ _ e h => h.trans e)).and .tt) = S0 := ⟨_, rfl⟩
  rw [hS0]
  have hE : S0.le (.extx G H As.tt.fo) := by rw [← hS0]; exact as_l.trans as_l
  refine go_set 4 (d := .list (ls.map stsD)) (EvR.is (EvR.frz (ev_c c1 hr rfl (ea_cons (ev_v 2 rfl) (ea_cons (ev_v 0 rfl) (ea_cons (ev_v 3 rfl) ea_nil))) fun _ _ _ => ⟨rows, cs, wish, lv, rfl, hrl, by rw [List.length_map] at hcl; omega, hwl, hcol, hLv, hLvl, hadv, rfl⟩)) (by rw [heq])) sc_lright.nd ?_
  refine go_if (k := false) (EvT.is (evt_not (k := true) (evt_val (evx_cG c3 hgd hr rfl (EvA.x (PL := (· = [.list (ls.map stsD), .list (ls.map stsD)])) (ea_cons (ev_v 4 rfl) (ea_cons (ev_c c2 hr rfl (ea_cons (ev_v 1 rfl) (ea_cons (ev_v 2 rfl) (ea_cons (ev_v 3 rfl) ea_nil))) fun _ _ _ => ⟨cs.map (·.2), rows, wish, ls, rfl, hrl, hwl, hcol, hL, hLl, hok, rfl⟩) ea_nil)) rfl) has_tt fun _ _ ds hds _ => ⟨ls.map stsD, hds, hsh, rfl, rfl⟩))) rfl) (fun h => by cases h) (fun _ => go_nil' ?_)
  obtain ⟨l1, hl1⟩ := hL.ne
  have hlen : 1 ≤ ls.length := by rw [hl1]; simp
  refine go_for (α := List (List Bd) × List (List Bd)) (xs := ls.zip (ls.drop 1)) (enc := fun z => .tuple [stsD z.1, stsD z.2]) (is := [5, 6]) (fun z Δ => sets Δ [5, 6] [stsD z.1, stsD z.2]) (ItD.is (it_zip false false rfl (B _ (by decide +kernel)) (ev_v 4 rfl) (EvR.frz (ev_sl sld_list (ev_v 4 rfl) (eo_some ev_int) eo_none))) ?zz) (fun z hz => tg_tup sc_lright.nd rfl (nm_cons 5 (nm_cons 6 .nil))) rfl PassesOwn.never
    (fun i Δ' S' => ∃ (o5 o6 o7 : Option PyData), Δ' = [some (cnsD Cc cs), some (plansD (cs.map (·.2))), some (rowsD rows), some (bdsD wish), some (.list (ls.map stsD)), o5, o6, o7, none] ∧ S0 = S') ⟨none, none, none, rfl, rfl⟩ ?_ ?_
  case zz =>
    have e : (1 : Int) = ((1 : Nat) : Int) := rfl
    rw [e, cut_hi (by rw [List.length_map]; exact hlen), ← List.map_drop, List.zip_map, List.map_map]
    rfl
  · rintro i ⟨level, later⟩ _ _ hk ⟨o5, o6, o7, rfl, rfl⟩
    have hz := List.mem_of_getElem? hk
    have hlev : level ∈ ls := (List.of_mem_zip hz).1
    have hlat : later ∈ ls := List.mem_of_mem_drop (List.of_mem_zip hz).2
    refine go_for (α := List Bd) (xs := level) (enc := bdsD) (is := [7]) (fun z Δ => Δ.set 7 (some (bdsD z))) (it_list (ev_v 5 rfl)) (fun z hz => tg_name 7 sc_lright.nd) rfl PassesOwn.never
      (fun j Δ' S' => ∃ (o7 : Option PyData), Δ' = [some (cnsD Cc cs), some (plansD (cs.map (·.2))), some (rowsD rows), some (bdsD wish), some (.list (ls.map stsD)), some (stsD level), some (stsD later), o7, none] ∧ S0 = S') ⟨o7, rfl, rfl⟩ ?_ ?_
    · rintro j one _ _ hj ⟨o7, rfl, rfl⟩
      have hone := List.mem_of_getElem? hj
      refine go_if (k := false) (EvT.is (evt_not (evt_val (ev_any (xs := later) (b := fun o => withinV one o) rfl rfl rfl (B _ (by decide +kernel)) (EvR.frz (evl_map [("other", 8)] (fun o => .bool (withinV one o)) (fun x Δ => Δ.set 8 (some (bdsD x))) (it_list (ev_v 6 rfl)) rfl sc_lright.nd (blkOk_by (N := n_lright) (sc := defScope s_law_right) (by decide +kernel)) (by have := (hok later hlat).len; omega) (is := [8]) (by decide) (fun b hb => fun _ _ _ _ _ => tg_name 8 sc_lright.nd) (fun D es hD x hx => fun _ _ _ _ _ => ev_c c4 hr rfl (ea_cons (ev_v 7 rfl) (ea_cons (ev_v 8 rfl) ea_nil)) fun _ _ _ => ⟨one, x, rfl, hol level hlev one hone, rfl⟩)))))) ?_) (fun h => by cases h) (fun _ => go_nil' (go_turn ⟨_, rfl, rfl⟩))
      obtain ⟨o, ho1, ho2⟩ := hwi _ hz one hone
      rw [show later.any (fun o => withinV one o) = true from List.any_eq_true.mpr ⟨o, ho1, ho2⟩]
      rfl
    · rintro _ _ ⟨o7, rfl, rfl⟩
      exact go_turn ⟨_, _, _, rfl, rfl⟩
  · rintro _ _ ⟨o5, o6, o7, rfl, rfl⟩
    exact go_rtM (R' := rAt K (.bool true)) rfl hE ev_bl fun v G1 H1 G2 H2 g p r => ⟨True.intro, r⟩
def n_law : List Str := ["script", "bag", "k", "width", "plans", "rows", "wishes", "councils", "wish", "one", "parts"]
theorem sc_law : FnScope n_law ["script"] (defScope s_law) := ⟨rfl, rfl, rfl, by decide +kernel, rfl, by decide +kernel, by decide +kernel⟩
def pr_law (K : PySem.W.Frag) : Hp → List PyData → As → RR → Prop := fun _ ds T R => ∃ ns : List Int, ds = [scrD (ns.map .int)] ∧ T = .tt ∧ R = rAnd .tt (rAt K (.bool true))
def AllRight : Prop := ∀ (wd : Nat) (cs : List Cn) (rows : List (List Int)) (wish : List Bd), 1 ≤ wd → wd ≤ 4 → PlOk wd cs → rows.length ≤ 20 → (∀ r ∈ rows, RIn wd (-tenI) tenI r) → WishOk wd 4 wish → RightOk cs rows wish
theorem all2_made {Cc : Addr} {cs : List Cn} {ds : List PyData} (h : All2 (IsCn Cc) cs ds) : ∃ acs : List (Addr × Cn), PyData.list ds = cnsD Cc acs ∧ acs.map (·.2) = cs := by
  induction h with
  | nil => exact ⟨[], rfl, rfl⟩
  | @cons c d cs ds h1 _ ih =>
    obtain ⟨a, rfl⟩ := h1
    obtain ⟨acs, e, rfl⟩ := ih
    refine ⟨(a, c) :: acs, ?_, rfl⟩
    unfold cnsD at e ⊢
    rw [List.map_cons, ← PyData.list.inj e]
theorem ok_law (M : AllRight) {f : Addr} {fd : FuncData} (F : Fun K "law" "law" s_law f fd) (B : BN mg) (c1 : CalP P w K mg base 1 "_law_bag" (pr_bag K)) (c2 : CalB P w K mg base 1 "_law_take" (pr_take K)) (c3 : CalB P w K mg base 3 "_law_plans" (pr_plans K)) (c4 : CalB P w K mg base 3 "_law_great_rows" (pr_grows K)) (c5 : CalB P w K mg base 3 "_law_small_wish" (pr_swish K)) (c6 : CalP P w K mg base 6 "_law_made" (pr_made K Cc)) (c7 : CalG P w K mg base 7 "_law_right" (spM K (pr_lright K Cc))) : FnG P w K mg base 8 f fd ["script"] (spM K (pr_law K)) := by
  refine fn_goG F sc_law (by rintro G ds T R ⟨c, rfl, _⟩; rfl) ?_
  rintro cdv A outer s H0 E G H ds T R hr hgd ⟨ns, rfl, rfl, rfl⟩
  have hu := hr.units
  obtain ⟨S0, hS0⟩ : ∃ S0, (((As.extx G H As.tt.fo).and (.fact (Same G) fun _ _ e h => h.trans e)).and .tt) = S0 := ⟨_, rfl⟩
  rw [hS0]
  have hE : S0.le (.extx G H As.tt.fo) := by rw [← hS0]; exact as_l.trans as_l
  refine go_setBag 1 (ev_c c1 hr rfl (ea_cons (ev_v 0 rfl) ea_nil) (fun _ _ _ => ⟨ns, rfl, rfl⟩) (hR := back_bag)) sc_law.nd fun p hp => ?_
  have hbag : Has (S0.and (.bag K p)) (.bag K p) := bag_has (As.nf hp)
  refine go_for (α := Nat) (xs := List.range 2) (enc := fun k => .int (k : Int)) (is := [2]) (fun k Δ => Δ.set 2 (some (.int (k : Int)))) (it_rng (n := 2) rfl (B _ (by decide +kernel)) ev_int (by omega)) (fun k hk => tg_name 2 sc_law.nd) rfl PassesOwn.never
    (fun i Δ' S' => ∃ (o2 o3 o4 o5 o6 o7 o8 : Option PyData), Δ' = [some (scrD (ns.map .int)), some (ob p), o2, o3, o4, o5, o6, o7, o8, none, none] ∧ S' = S0.and (.bag K p)) ⟨none, none, none, none, none, none, none, rfl, rfl⟩ ?_ ?_
  · rintro i k _ _ hk ⟨o2, o3, o4, o5, o6, o7, o8, rfl, rfl⟩
    refine go_setX 3 (P := fun d => ∃ m : Nat, d = .int m ∧ 1 ≤ m ∧ m ≤ 4) (evx_op (P1 := (· = .int 1)) (P2 := intTo 4) (EvR.x ev_int rfl) (ev_take c2 hr rfl hbag (ev_v 1 rfl) ev_int (by omega) (by omega)) ?_) sc_law.nd fun d hd => ?_
    · rintro _ _ rfl ⟨i, rfl, h0, h1⟩
      exact od_add.x ⟨(1 + i).toNat, by rw [Int.toNat_of_nonneg (by omega)], by omega, by omega⟩
    obtain ⟨wd, rfl, hw1, hw4⟩ := hd
    refine go_setX 4 (evx_cB c3 hr rfl hbag (eax_bag (ev_v 1 rfl) (EvA.x (PL := (· = [.int wd])) (ea_cons (ev_v 3 rfl) ea_nil) rfl)) fun _ _ ds hds _ => ⟨wd, hds, hw1, by omega, rfl⟩) sc_law.nd fun d hd => ?_
    obtain ⟨cs, rfl, hcs⟩ := hd
    refine go_setX 5 (evx_cB c4 hr rfl hbag (eax_bag (ev_v 1 rfl) (EvA.x (PL := (· = [.int wd, .int (20 : Nat)])) (ea_cons (ev_v 3 rfl) (ea_cons ev_int ea_nil)) rfl)) fun _ _ ds hds _ => ⟨wd, 20, hds, hw1, by omega, by omega, rfl⟩) sc_law.nd fun d hd => ?_
    obtain ⟨rows, rfl, hrl, hrows⟩ := hd
    refine go_setLcX 6 (lclX (own := [("one", 9)]) (is := [9]) (enc := fun k : Nat => .int (k : Int)) (PX := fun xs => xs = List.range 2) (fun _ => WishIn wd 4) (fun k Δ => Δ.set 9 (some (.int (k : Int)))) (ItD.x (it_rng (n := 2) rfl (B _ (by decide +kernel)) ev_int (by omega)) ⟨_, rfl, rfl⟩) (blkOk_by (N := n_law) (sc := defScope s_law) (by decide +kernel)) (by rintro _ rfl; decide) (by decide) (fun xs _ k hk => fun _ _ _ _ _ => tg_name 9 sc_law.nd) ?el) rfl sc_law.nd fun ds hds => ?_
    case el =>
      rintro _ rfl D es hD k hk
      exact fun _ _ _ _ _ => evx_cB c5 hr rfl (Has.acc hbag fun e => hD (.inr e)) (eax_bag (ev_v 1 rfl) (EvA.x (PL := (· = [rowsD rows, .int wd, .int (4 : Nat)])) (ea_cons (ev_v 5 rfl) (ea_cons (ev_v 3 rfl) (ea_cons ev_int ea_nil))) rfl)) fun _ _ ds hds _ => ⟨rows, wd, 4, hds, hw1, by omega, by omega, by omega, hrows, rfl⟩
    obtain ⟨wishes, rfl, hwl, hws⟩ : ∃ wishes : List (List Bd), ds = wishes.map bdsD ∧ wishes.length = 2 ∧ ∀ x ∈ wishes, WishOk wd 4 x := by
      obtain ⟨_, rfl, h⟩ := hds
      obtain ⟨r, e, hr⟩ := coded (enc := bdsD) (P := WishOk wd 4) (h.right fun _ _ z => z)
      have := h.len
      rw [e, List.length_map, List.length_range] at this
      exact ⟨r, e, this.symm, hr⟩
    refine go_setLcX 7 (lclX (own := [("parts", 10)]) (is := [10]) (enc := cpD) (PX := fun xs => xs = cs) (fun c => IsCn Cc c) (fun c Δ => Δ.set 10 (some (cpD c))) (ItD.x (it_list (ev_v 4 rfl)) ⟨_, rfl, rfl⟩) (blkOk_by (N := n_law) (sc := defScope s_law) (by decide +kernel)) (by rintro _ rfl; have := hcs.1; omega) (by decide) (fun xs _ k hk => fun _ _ _ _ _ => tg_name 10 sc_law.nd) ?el2) rfl sc_law.nd fun ds hds => ?_
    case el2 =>
      rintro xs rfl D es hD c hc
      exact fun _ _ _ _ _ => evx_c c6 hr rfl (EvA.x (PL := (· = [cpD c])) (ea_cons (ev_v 10 rfl) ea_nil) rfl) fun _ _ ds hds _ => ⟨c, hds, (hcs.2 c hc).1, rfl⟩
    obtain ⟨_, rfl, hA⟩ := hds
    obtain ⟨acs, e1, rfl⟩ := all2_made hA
    rw [e1]
    refine go_for (α := List Bd) (xs := wishes ++ wishes.take 1) (enc := bdsD) (is := [8]) (fun z Δ => Δ.set 8 (some (bdsD z))) (ItD.is (it_list (EvR.frz (ev_op (od_catL ?le) (ev_v 6 rfl) (EvR.frz (ev_sl sld_list (ev_v 6 rfl) eo_none (eo_some ev_int)))))) ?zz) (fun z hz => tg_name 8 sc_law.nd) rfl PassesOwn.never
      (fun j Δ' S' => ∃ (o8 : Option PyData), Δ' = [some (scrD (ns.map .int)), some (ob p), some (.int k), some (.int wd), some (plansD (acs.map (·.2))), some (rowsD rows), some (.list (wishes.map bdsD)), some (cnsD Cc acs), o8, none, none] ∧ S' = S0.and (.bag K p)) ⟨o8, rfl, rfl⟩ ?_ ?_
    case le =>
      have e : (1 : Int) = ((1 : Nat) : Int) := rfl
      rw [e, cut_lo (by rw [List.length_map]; omega), List.length_take, List.length_map]
      omega
    case zz =>
      have e : (1 : Int) = ((1 : Nat) : Int) := rfl
      rw [e, cut_lo (by rw [List.length_map]; omega), List.map_append, List.map_take]
    · rintro j wish _ _ hj ⟨o8, rfl, rfl⟩
      have hwish : WishOk wd 4 wish := by
        rcases List.mem_append.mp (List.mem_of_getElem? hj) with h | h
        · exact hws _ h
        · exact hws _ (List.mem_of_mem_take h)
      refine go_if (k := false) (EvT.is (evt_not (k := true) (evt_val (evx_cG c7 hgd hr rfl (EvA.x (PL := (· = [cnsD Cc acs, plansD (acs.map (·.2)), rowsD rows, bdsD wish])) (ea_cons (ev_v 7 rfl) (ea_cons (ev_v 4 rfl) (ea_cons (ev_v 5 rfl) (ea_cons (ev_v 8 rfl) ea_nil)))) rfl) has_tt fun _ _ ds hds _ => ⟨acs, rows, wish, hds, M wd _ rows wish hw1 hw4 hcs hrl hrows hwish, rfl, rfl⟩))) rfl) (fun h => by cases h) (fun _ => go_nil' (go_turn ⟨_, rfl, rfl⟩))
    · rintro _ _ ⟨o8, rfl, rfl⟩
      exact go_turn ⟨_, _, _, _, _, _, _, rfl, rfl⟩
  · rintro _ _ ⟨o2, o3, o4, o5, o6, o7, o8, rfl, rfl⟩
    exact go_rtM (R' := rAt K (.bool true)) rfl (as_l.trans hE) ev_bl fun v G1 H1 G2 H2 g p r => ⟨True.intro, r⟩
end
end Pk
namespace Pk
open PySem L2 DL
/-! ### lists -/
theorem eq_of_sorted {α : Type} {le : α → α → Bool} (anti : ∀ a b, le a b = true → le b a = true → a = b) : ∀ {l m : List α}, l.Pairwise (fun a b => le a b = true) → m.Pairwise (fun a b => le a b = true) → l.Nodup → m.Nodup → (∀ x, x ∈ l ↔ x ∈ m) → l = m
  | [], [], _, _, _, _, _ => rfl
  | [], b :: m, _, _, _, _, h => absurd ((h b).mpr List.mem_cons_self) (by simp)
  | a :: l, [], _, _, _, _, h => absurd ((h a).mp List.mem_cons_self) (by simp)
  | a :: l, b :: m, pl, pm, nl, nm, h => by
    rw [List.pairwise_cons] at pl pm
    rw [List.nodup_cons] at nl nm
    have e : a = b := by
      rcases List.mem_cons.mp ((h a).mp List.mem_cons_self) with e | h1
      · exact e
      · rcases List.mem_cons.mp ((h b).mpr List.mem_cons_self) with e | h2
        · exact e.symm
        · exact anti a b (pl.1 b h2) (pm.1 a h1)
    subst e
    have t : l = m := eq_of_sorted anti pl.2 pm.2 nl.2 nm.2 fun x => by
      constructor
      · intro hx
        rcases List.mem_cons.mp ((h x).mp (List.mem_cons_of_mem _ hx)) with e | h1
        · subst e; exact absurd hx nl.1
        · exact h1
      · intro hx
        rcases List.mem_cons.mp ((h x).mpr (List.mem_cons_of_mem _ hx)) with e | h1
        · subst e; exact absurd hx nm.1
        · exact h1
    rw [t]
theorem nodup_le {α : Type} [DecidableEq α] : ∀ {l m : List α}, l.Nodup → (∀ x ∈ l, x ∈ m) → l.length ≤ m.length
  | [], m, _, _ => Nat.zero_le _
  | a :: l, m, n, h => by
    rw [List.nodup_cons] at n
    have ha := h a List.mem_cons_self
    have t := nodup_le (l := l) (m := m.erase a) n.2 fun x hx => by
      have : x ≠ a := fun e => n.1 (e ▸ hx)
      exact (List.mem_erase_of_ne this).mpr (h x (List.mem_cons_of_mem _ hx))
    rw [List.length_erase_of_mem ha] at t
    have : 0 < m.length := List.length_pos_of_mem ha
    rw [List.length_cons]; omega
theorem filt_le {α : Type} {p q : α → Bool} : ∀ {l : List α}, (∀ x ∈ l, p x = true → q x = true) → (l.filter p).length ≤ (l.filter q).length
  | [], _ => Nat.le_refl _
  | a :: l, h => by
    have t := filt_le (l := l) fun x hx => h x (List.mem_cons_of_mem _ hx)
    have h0 := h a List.mem_cons_self
    rw [List.filter_cons, List.filter_cons]
    cases hp : p a <;> cases hq : q a <;> simp_all <;> omega
theorem filt_lt {α : Type} {p q : α → Bool} : ∀ {l : List α}, (∀ x ∈ l, p x = true → q x = true) → (∃ x ∈ l, q x = true ∧ p x = false) → (l.filter p).length < (l.filter q).length
  | [], _, ⟨_, h, _⟩ => by cases h
  | a :: l, h, ⟨x, hx, hq, hp⟩ => by
    have hl : ∀ x ∈ l, p x = true → q x = true := fun x hx => h x (List.mem_cons_of_mem _ hx)
    have t := filt_le hl
    have h0 := h a List.mem_cons_self
    rw [List.filter_cons, List.filter_cons]
    rcases List.mem_cons.mp hx with rfl | hx
    · rw [hp, hq]; simp; omega
    · have t2 := filt_lt hl ⟨x, hx, hq, hp⟩
      cases hp : p a <;> cases hq : q a <;> simp_all <;> omega
theorem mem_fold_addK {κ α : Type} [DecidableEq κ] (f : α → κ) : ∀ (l : List α) (acc : List κ) (x : κ), x ∈ l.foldl (fun acc a => addK acc (f a)) acc ↔ x ∈ acc ∨ ∃ a ∈ l, x = f a
  | [], acc, x => by simp
  | a :: l, acc, x => by
    rw [List.foldl_cons, mem_fold_addK f l]
    have h : x ∈ addK acc (f a) ↔ x ∈ acc ∨ x = f a := by
      unfold addK
      split
      · rename_i h
        constructor
        · exact .inl
        · rintro (h' | rfl)
          · exact h'
          · exact h
      · simp
    rw [h]
    simp only [List.mem_cons]
    constructor
    · rintro ((z | z) | ⟨b, hb, z⟩)
      · exact .inl z
      · exact .inr ⟨a, .inl rfl, z⟩
      · exact .inr ⟨b, .inr hb, z⟩
    · rintro (z | ⟨b, rfl | hb, z⟩)
      · exact .inl (.inl z)
      · exact .inl (.inr z)
      · exact .inr ⟨b, hb, z⟩
theorem mem_addK {κ : Type} [DecidableEq κ] (l acc : List κ) (x : κ) : x ∈ l.foldl addK acc ↔ x ∈ acc ∨ x ∈ l := by
  have := mem_fold_addK (fun a : κ => a) l acc x
  simpa using this
theorem nodup_addK {κ : Type} [DecidableEq κ] {acc : List κ} (h : acc.Nodup) (k : κ) : (addK acc k).Nodup := by
  unfold addK
  split
  · exact h
  · rename_i hk
    rw [List.nodup_append]
    exact ⟨h, by simp, fun a ha b hb => by rw [List.mem_singleton.mp hb]; exact fun e => hk (e ▸ ha)⟩
theorem nodup_fold_addK {κ α : Type} [DecidableEq κ] (f : α → κ) : ∀ (l : List α) (acc : List κ), acc.Nodup → (l.foldl (fun acc a => addK acc (f a)) acc).Nodup
  | [], acc, h => h
  | a :: l, acc, h => by rw [List.foldl_cons]; exact nodup_fold_addK f l _ (nodup_addK h _)
/-! ### the order of sets of bounds -/
theorem toks_bd (a : Bd) (r : List (Int ⊕ List Nat)) : W.keyToks (bdD a) ++ r = .inl 1 :: .inl (a.col : Int) :: .inl 1 :: .inr (wayS a.least).cps.toList :: .inl 1 :: .inl a.val :: .inl 0 :: r := by
  unfold bdD
  simp [W.keyToks, W.keyToksAll]
theorem way_cps (a b : Bool) (h : (wayS a).cps.toList = (wayS b).cps.toList) : a = b := by
  have := W.str_of_cps h
  have e := wayS_inj a b
  rw [decide_eq_true this] at e
  exact of_decide_eq_true e.symm
theorem toks_bds : ∀ {xs ys : List Bd}, W.keyToksAll (xs.map bdD) = W.keyToksAll (ys.map bdD) → xs = ys
  | [], [], _ => rfl
  | [], y :: ys, h => by simp [W.keyToksAll] at h
  | x :: xs, [], h => by simp [W.keyToksAll] at h
  | x :: xs, y :: ys, h => by
    rw [List.map_cons, List.map_cons, W.keyToksAll, W.keyToksAll, toks_bd, toks_bd] at h
    simp only [List.cons.injEq, Sum.inl.injEq, Sum.inr.injEq, true_and] at h
    obtain ⟨h1, h2, h3, h4⟩ := h
    have e := toks_bds h4
    have e1 : x.col = y.col := by omega
    have e2 := way_cps _ _ h2
    cases x
    cases y
    simp_all
theorem toks_sets {xs ys : List Bd} (h : W.keyToks (bdsD xs) = W.keyToks (bdsD ys)) : xs = ys := by
  unfold bdsD at h
  rw [W.keyToks, W.keyToks] at h
  exact toks_bds h
theorem le_anti (a b : List Bd) (h1 : W.dataLe false bdsD a b = true) (h2 : W.dataLe false bdsD b a = true) : a = b := by
  rw [W.dataLe_eq] at h1 h2
  have h1 : W.dataLt (bdsD b) (bdsD a) = false := by simpa using h1
  have h2 : W.dataLt (bdsD a) (bdsD b) = false := by simpa using h2
  exact toks_sets ((PyProof.Rows.listOrd PyProof.Rows.itemOrd).total _ _ h2 h1)
theorem srtS_sorted (ss : List (List Bd)) : (srtS ss).Pairwise (fun a b => W.dataLe false bdsD a b = true) := W.sort_pairwise (W.sortLe_total (PyProof.Rows.listOrd PyProof.Rows.itemOrd) false fun b => W.keyToks (bdsD b)) ss
theorem srtS_mem (ss : List (List Bd)) (s : List Bd) : s ∈ srtS ss ↔ s ∈ ss := (List.mergeSort_perm ss _).mem_iff
theorem srtS_nodup {ss : List (List Bd)} (h : ss.Nodup) : (srtS ss).Nodup := (List.mergeSort_perm ss _).nodup_iff.mpr h
theorem srtI_sorted (ms : List Int) : (srtI ms).Pairwise (fun a b => decide (a ≤ b) = true) := by
  refine List.pairwise_mergeSort (le := fun a b : Int => decide (a ≤ b)) ?_ ?_ ms
  · intro a b c h1 h2
    have := of_decide_eq_true h1
    have := of_decide_eq_true h2
    exact decide_eq_true (by omega)
  · intro a b
    rw [Bool.or_eq_true, decide_eq_true_eq, decide_eq_true_eq]
    omega
theorem srtI_mem (ms : List Int) (s : Int) : s ∈ srtI ms ↔ s ∈ ms := (List.mergeSort_perm ms _).mem_iff
theorem srtI_nodup {ms : List Int} (h : ms.Nodup) : (srtI ms).Nodup := (List.mergeSort_perm ms _).nodup_iff.mpr h
end Pk
namespace Pk
open PySem L2 DL
/-! ### masks and sets -/
def mkM (ps : List Bool) : Int := ((((bitsV ps.length).zip ps).filter fun z => z.2).map (·.1)).sum
def maskOf (bs : List Bd) (p : Bd → Bool) : Int := ((((bitsV bs.length).zip bs).filter fun z => p z.2).map (·.1)).sum
theorem mask_mk (bs : List Bd) (p : Bd → Bool) : maskOf bs p = mkM (bs.map p) := by
  unfold maskOf mkM
  rw [List.length_map]
  generalize bitsV bs.length = bits
  congr 1
  induction bits generalizing bs with
  | nil => rfl
  | cons x bits ih =>
    cases bs with
    | nil => rfl
    | cons b bs =>
      simp only [List.map_cons, List.zip_cons_cons, List.filter_cons]
      cases p b
      · exact ih bs
      · simp only [if_true, List.map_cons]
        rw [ih bs]
def tst (m bit : Int) : Bool := !decide (Builtin.bitAnd m bit = 0)
theorem small_cases {ps : List Bool} (h : ps.length ≤ 4) (Q : List Bool → Prop) (h0 : Q []) (h1 : ∀ a, Q [a]) (h2 : ∀ a b, Q [a, b]) (h3 : ∀ a b c, Q [a, b, c]) (h4 : ∀ a b c d, Q [a, b, c, d]) : Q ps := by
  match ps, h with
  | [], _ => exact h0
  | [a], _ => exact h1 a
  | [a, b], _ => exact h2 a b
  | [a, b, c], _ => exact h3 a b c
  | [a, b, c, d], _ => exact h4 a b c d
  | _ :: _ :: _ :: _ :: _ :: _, h => simp at h
theorem tst_mk {ps : List Bool} (h : ps.length ≤ 4) : (bitsV ps.length).map (tst (mkM ps)) = ps :=
  small_cases h (fun ps => (bitsV ps.length).map (tst (mkM ps)) = ps) (by decide +kernel) (by decide +kernel) (by decide +kernel) (by decide +kernel) (by decide +kernel)
theorem mk_lt {ps : List Bool} (h : ps.length ≤ 4) : ∃ i : Nat, i < 16 ∧ mkM ps = i :=
  small_cases h (fun ps => ∃ i : Nat, i < 16 ∧ mkM ps = i) (by decide +kernel) (by decide +kernel) (by decide +kernel) (by decide +kernel) (by decide +kernel)
theorem and_mk {ps qs : List Bool} (h : ps.length ≤ 4) (e : qs.length = ps.length) : Builtin.bitAnd (mkM ps) (mkM qs) = mkM ((ps.zip qs).map fun z => z.1 && z.2) := by
  match ps, qs, h, e with
  | [], [], _, _ => decide +kernel
  | [a], [a'], _, _ => revert a a'; decide +kernel
  | [a, b], [a', b'], _, _ => revert a b a' b'; decide +kernel
  | [a, b, c], [a', b', c'], _, _ => revert a b c a' b' c'; decide +kernel
  | [a, b, c, d], [a', b', c', d'], _, _ => revert a b c d a' b' c' d'; decide +kernel
  | _ :: _ :: _ :: _ :: _ :: _, _, h, _ => simp at h
theorem zip_tst {t : Int → Bool} {p : Bd → Bool} : ∀ {bs : List Bd} {bits : List Int}, bits.map t = bs.map p → ((bs.zip bits).filter fun z => t z.2).map (·.1) = bs.filter p
  | [], [], _ => rfl
  | [], _ :: _, h => by simp at h
  | _ :: _, [], h => by simp at h
  | b :: bs, x :: bits, h => by
    simp only [List.map_cons, List.cons.injEq] at h
    have ih := zip_tst h.2
    rw [List.zip_cons_cons, List.filter_cons, List.filter_cons]
    show List.map _ (if t x = true then _ else _) = _
    rw [h.1]
    cases p b
    · exact ih
    · simp only [if_true, List.map_cons]; rw [ih]
section
variable {bs : List Bd} (hb : bs.length ≤ 4)
include hb
theorem tst_mask (p : Bd → Bool) : (bitsV bs.length).map (tst (maskOf bs p)) = bs.map p := by
  have := tst_mk (ps := bs.map p) (by rw [List.length_map]; exact hb)
  rw [List.length_map] at this
  rw [mask_mk]
  exact this
theorem sub_mask (p : Bd → Bool) : membersV bs (maskOf bs p) = bs.filter p := zip_tst (t := tst (maskOf bs p)) (tst_mask hb p)
theorem mask_lt (p : Bd → Bool) : ∃ i : Nat, i < 16 ∧ maskOf bs p = i := by
  rw [mask_mk]
  exact mk_lt (by rw [List.length_map]; exact hb)
theorem and_mask (p q : Bd → Bool) : Builtin.bitAnd (maskOf bs p) (maskOf bs q) = maskOf bs fun b => p b && q b := by
  rw [mask_mk, mask_mk, mask_mk, and_mk (by rw [List.length_map]; exact hb) (by rw [List.length_map, List.length_map])]
  congr 1
  rw [List.zip_map', List.map_map]
  rfl
end
theorem mask_congr {bs : List Bd} {p q : Bd → Bool} (h : ∀ b ∈ bs, p b = q b) : maskOf bs p = maskOf bs q := by
  rw [mask_mk, mask_mk]
  congr 1
  exact List.map_congr_left h
theorem filt_iff {bs : List Bd} {p q : Bd → Bool} (h : bs.filter p = bs.filter q) : ∀ b ∈ bs, p b = q b := by
  intro b hb
  have := congrArg (b ∈ ·) h
  simp only [List.mem_filter, hb, true_and, eq_iff_iff] at this
  cases hp : p b <;> cases hq : q b <;> simp_all
def IsM (bs : List Bd) (m : Int) : Prop := ∃ p, m = maskOf bs p
/-- a part of the bounds -/
def IsS (bs s : List Bd) : Prop := ∃ p, s = bs.filter p
theorem within_filt {bs : List Bd} {p q : Bd → Bool} : withinV (bs.filter p) (bs.filter q) = true ↔ ∀ b ∈ bs, p b = true → q b = true := by
  unfold withinV
  rw [List.all_eq_true]
  simp only [List.mem_filter, decide_eq_true_eq]
  constructor
  · intro h b hb hp
    exact (h b ⟨hb, hp⟩).2
  · intro h b ⟨hb, hp⟩
    exact ⟨hb, h b hb hp⟩
section
variable {bs : List Bd} (hb : bs.length ≤ 4)
include hb
theorem sub_inj {m o : Int} (hm : IsM bs m) (ho : IsM bs o) (h : membersV bs m = membersV bs o) : m = o := by
  obtain ⟨p, rfl⟩ := hm
  obtain ⟨q, rfl⟩ := ho
  rw [sub_mask hb, sub_mask hb] at h
  exact mask_congr (filt_iff h)
theorem sub_is {m : Int} (hm : IsM bs m) : IsS bs (membersV bs m) := by
  obtain ⟨p, rfl⟩ := hm
  exact ⟨p, sub_mask hb p⟩
theorem below_is {m o : Int} (hm : IsM bs m) (ho : IsM bs o) : below m o = (!decide (membersV bs o = membersV bs m) && withinV (membersV bs m) (membersV bs o)) := by
  have h1 : decide (m = o) = decide (membersV bs o = membersV bs m) := by
    by_cases h : m = o
    · rw [h]; simp
    · rw [decide_eq_false h]
      exact (decide_eq_false fun e => h (sub_inj hb hm ho e.symm)).symm
  unfold below
  rw [h1]
  congr 1
  obtain ⟨p, rfl⟩ := hm
  obtain ⟨q, rfl⟩ := ho
  rw [and_mask hb, sub_mask hb, sub_mask hb]
  have h2 : (maskOf bs fun b => p b && q b) = maskOf bs p ↔ withinV (bs.filter p) (bs.filter q) = true := by
    rw [within_filt]
    constructor
    · intro h b hb' hp
      have := congrArg (membersV bs) h
      rw [sub_mask hb, sub_mask hb] at this
      have := filt_iff this b hb'
      rw [hp] at this
      simpa using this
    · intro h
      refine mask_congr fun b hb' => ?_
      cases hp : p b
      · rfl
      · rw [h b hb' hp]; rfl
  cases hw : withinV (bs.filter p) (bs.filter q)
  · exact decide_eq_false fun e => by rw [h2.mp e] at hw; cases hw
  · exact decide_eq_true (h2.mpr hw)
/-- all parts -/
theorem in_univ {s : List Bd} (h : IsS bs s) : s ∈ (List.range 16).map fun i : Nat => membersV bs (i : Int) := by
  obtain ⟨p, rfl⟩ := h
  obtain ⟨i, hi, e⟩ := mask_lt hb p
  exact List.mem_map.mpr ⟨i, List.mem_range.mpr hi, by rw [← e, sub_mask hb]⟩
theorem in_univM {m : Int} (h : IsM bs m) : m ∈ (List.range 16).map fun i : Nat => (i : Int) := by
  obtain ⟨p, rfl⟩ := h
  obtain ⟨i, hi, e⟩ := mask_lt hb p
  exact List.mem_map.mpr ⟨i, List.mem_range.mpr hi, e.symm⟩
end
theorem met_is (bs : List Bd) (r : List Int) : metV bs r = maskOf bs fun b => meetsV r [b] := rfl
theorem whole_is (bs : List Bd) (h room : Bd → Int) : wholeV (bitsV bs.length) (bs.map h) (bs.map room) = maskOf bs fun b => decide (h b ≤ room b) := by
  unfold wholeV maskOf
  rw [List.zip_map']
  generalize bitsV bs.length = bits
  congr 1
  induction bits generalizing bs with
  | nil => rfl
  | cons x bits ih =>
    cases bs with
    | nil => rfl
    | cons b bs =>
      simp only [List.map_cons, List.zip_cons_cons, List.filter_cons]
      by_cases hx : h b ≤ room b
      · simp only [hx, decide_true, if_true, List.map_cons]
        rw [ih bs]
      · simp only [hx, decide_false]
        exact ih bs
end Pk
namespace Pk
open PySem L2 DL
theorem mem_fold2 {κ α β : Type} [DecidableEq κ] (k : α → List β) (f : α → β → κ) (x : κ) : ∀ (l : List α) (acc : List κ), x ∈ l.foldl (fun acc a => (k a).foldl (fun acc b => addK acc (f a b)) acc) acc ↔ x ∈ acc ∨ ∃ a ∈ l, ∃ b ∈ k a, x = f a b
  | [], acc => by simp
  | a :: l, acc => by
    rw [List.foldl_cons, mem_fold2 k f x l, mem_fold_addK (f a)]
    simp only [List.mem_cons]
    constructor
    · rintro ((z | ⟨b, hb, z⟩) | ⟨c, hc, b, hb, z⟩)
      · exact .inl z
      · exact .inr ⟨a, .inl rfl, b, hb, z⟩
      · exact .inr ⟨c, .inr hc, b, hb, z⟩
    · rintro (z | ⟨c, rfl | hc, b, hb, z⟩)
      · exact .inl (.inl z)
      · exact .inl (.inr ⟨b, hb, z⟩)
      · exact .inr ⟨c, hc, b, hb, z⟩
theorem nodup_fold2 {κ α β : Type} [DecidableEq κ] (k : α → List β) (f : α → β → κ) : ∀ (l : List α) (acc : List κ), acc.Nodup → (l.foldl (fun acc a => (k a).foldl (fun acc b => addK acc (f a b)) acc) acc).Nodup
  | [], acc, h => h
  | a :: l, acc, h => by rw [List.foldl_cons]; exact nodup_fold2 k f l _ (nodup_fold_addK (f a) _ _ h)
/-- what misses a bound, of some seats -/
def missW : List Int → List (List Bd) → Bd → Int
  | w :: ws, s :: ss, b => (if b ∈ s then 0 else w) + missW ws ss b
  | _, _, _ => 0
section
variable {bs : List Bd} (hb : bs.length ≤ 4)
theorem zip_miss {m w : Int} {p g : Bd → _} : ∀ {bs : List Bd} {bits : List Int}, bits.map (tst m) = bs.map p → missedV m (bs.map g) w bits = bs.map fun b => g b + (if p b = true then 0 else w)
  | [], [], _ => rfl
  | [], _ :: _, h => by simp at h
  | _ :: _, [], h => by simp at h
  | b :: bs, x :: bits, h => by
    simp only [List.map_cons, List.cons.injEq] at h
    have ih := zip_miss (m := m) (w := w) (g := g) h.2
    unfold missedV at ih ⊢
    rw [List.map_cons, List.zip_cons_cons, List.map_cons, List.map_cons, ih]
    congr 1
    have h1 := h.1
    unfold tst at h1
    show g b + w * (if Builtin.bitAnd m x = 0 then 1 else 0) = _
    rw [← h1]
    by_cases hz : Builtin.bitAnd m x = 0 <;> simp [hz]
include hb in
theorem miss_is {m : Int} (hm : IsM bs m) (g : Bd → Int) (w : Int) : missedV m (bs.map g) w (bitsV bs.length) = bs.map fun b => g b + (if b ∈ membersV bs m then 0 else w) := by
  obtain ⟨p, rfl⟩ := hm
  rw [zip_miss (tst_mask hb p), sub_mask hb]
  refine List.map_congr_left fun b hbm => ?_
  have e : b ∈ bs.filter p ↔ p b = true := by rw [List.mem_filter]; exact ⟨fun z => z.2, fun z => ⟨hbm, z⟩⟩
  by_cases h : p b = true
  · rw [if_pos h, if_pos (e.mpr h)]
  · rw [if_neg h, if_neg fun z => h (e.mp z)]
theorem cap_is (bs : List Bd) (g room : Bd → Int) : capV (bs.map g) (bs.map room) = bs.map fun b => min (g b) (room b + 1) := by
  unfold capV
  rw [List.zip_map', List.map_map]
  rfl
/-- the states stand for the sums in Q -/
def Rep (bs : List Bd) (room : Bd → Int) (ks : List (List Int)) (Q : (Bd → Int) → Prop) : Prop := ∀ x, x ∈ ks ↔ ∃ g, Q g ∧ x = bs.map fun b => min (g b) (room b + 1)
def stepQ (L : List (List Bd)) (w : Int) (Q : (Bd → Int) → Prop) : (Bd → Int) → Prop := fun g' => ∃ g, Q g ∧ ∃ s ∈ L, g' = fun b => g b + (if b ∈ s then 0 else w)
theorem min_cap {x r v : Int} (h : 0 ≤ v) : min (min x r + v) r = min (x + v) r := by omega
include hb in
theorem rep_step {room : Bd → Int} {L : List Int} (hL : ∀ m ∈ L, IsM bs m) {w : Int} (hw : 0 ≤ w) {ks : List (List Int)} {Q : (Bd → Int) → Prop} (h : Rep bs room ks Q) : Rep bs room (stepK (bitsV bs.length) (bs.map room) L w ks) (stepQ (L.map (membersV bs)) w Q) := by
  intro x
  unfold stepK
  rw [mem_fold2 (fun _ => L) (fun missed m => capV (missedV m missed w (bitsV bs.length)) (bs.map room))]
  have key : ∀ (m : Int) (g : Bd → Int), IsM bs m → capV (missedV m (bs.map fun b => min (g b) (room b + 1)) w (bitsV bs.length)) (bs.map room) = bs.map fun b => min (g b + (if b ∈ membersV bs m then 0 else w)) (room b + 1) := by
    intro m g hm
    rw [miss_is hb hm, cap_is]
    refine List.map_congr_left fun b _ => min_cap ?_
    split
    · exact Int.le_refl _
    · exact hw
  constructor
  · rintro (z | ⟨y, hy, m, hm, e⟩)
    · cases z
    · obtain ⟨g, hg, rfl⟩ := (h y).mp hy
      rw [key m g (hL m hm)] at e
      exact ⟨_, ⟨g, hg, membersV bs m, List.mem_map_of_mem hm, rfl⟩, e⟩
  · rintro ⟨_, ⟨g, hg, s, hs, rfl⟩, e⟩
    obtain ⟨m, hm, rfl⟩ := List.mem_map.mp hs
    refine .inr ⟨_, (h _).mpr ⟨g, hg, rfl⟩, m, hm, ?_⟩
    rw [key m g (hL m hm)]
    exact e
include hb in
theorem rep_fold {room : Bd → Int} {L : List Int} (hL : ∀ m ∈ L, IsM bs m) : ∀ (ws : List Int), (∀ w ∈ ws, 0 ≤ w) → ∀ {ks : List (List Int)} {Q : (Bd → Int) → Prop}, Rep bs room ks Q →
    Rep bs room (ws.foldl (fun ks w => stepK (bitsV bs.length) (bs.map room) L w ks) ks) (fun g' => ∃ g, Q g ∧ ∃ sets : List (List Bd), sets.length = ws.length ∧ (∀ s ∈ sets, s ∈ L.map (membersV bs)) ∧ g' = fun b => g b + missW ws sets b)
  | [], _, ks, Q, h => by
    intro x
    rw [List.foldl_nil, h x]
    constructor
    · rintro ⟨g, hg, e⟩
      exact ⟨g, ⟨g, hg, [], rfl, by simp, by funext b; simp [missW]⟩, e⟩
    · rintro ⟨_, ⟨g, hg, sets, hl, hs, rfl⟩, e⟩
      have : sets = [] := List.eq_nil_of_length_eq_zero hl
      subst this
      exact ⟨g, hg, by rw [e]; simp [missW]⟩
  | w :: ws, hw, ks, Q, h => by
    intro x
    rw [List.foldl_cons]
    have ih := rep_fold hL ws (fun w hx => hw w (List.mem_cons_of_mem _ hx)) (rep_step hb hL (hw w List.mem_cons_self) h) x
    rw [ih]
    constructor
    · rintro ⟨_, ⟨_, ⟨g, hg, s, hs, rfl⟩, sets, hl, hm, rfl⟩, e⟩
      refine ⟨_, ⟨g, hg, s :: sets, by simp [hl], ?_, rfl⟩, ?_⟩
      · intro y hy
        rcases List.mem_cons.mp hy with rfl | hy
        · exact hs
        · exact hm y hy
      · rw [e]
        refine List.map_congr_left fun b _ => ?_
        show min (g b + _ + missW ws sets b) _ = min (g b + missW (w :: ws) (s :: sets) b) _
        rw [missW, Int.add_assoc]
    · rintro ⟨_, ⟨g, hg, sets, hl, hm, rfl⟩, e⟩
      match sets, hl with
      | s :: sets, hl =>
        refine ⟨_, ⟨_, ⟨g, hg, s, hm s List.mem_cons_self, rfl⟩, sets, by simpa using hl, fun y hy => hm y (List.mem_cons_of_mem _ hy), rfl⟩, ?_⟩
        rw [e]
        refine List.map_congr_left fun b _ => ?_
        show min (g b + missW (w :: ws) (s :: sets) b) _ = min (g b + _ + missW ws sets b) _
        rw [missW, Int.add_assoc]
      | [], hl => simp at hl
/-- who can be heard of what: the sets of the bounds that a session of these sets meets -/
def Met (c : Cn) (bs : List Bd) (S : List (List Bd)) (s : List Bd) : Prop := ∃ sets : List (List Bd), sets.length = c.ws.length ∧ (∀ x ∈ sets, x ∈ S) ∧ s = bs.filter fun b => decide (missW c.ws sets b ≤ roomV c (b.col, b.least))
include hb in
theorem sess_mem {c : Cn} {L : List Int} (hL : ∀ m ∈ L, IsM bs m) (hw : ∀ w ∈ c.ws, 0 ≤ w) (hr : ∀ b ∈ bs, 0 ≤ roomV c (b.col, b.least)) (m : Int) : m ∈ sessV c L bs ↔ ∃ sets : List (List Bd), sets.length = c.ws.length ∧ (∀ x ∈ sets, x ∈ L.map (membersV bs)) ∧ m = maskOf bs fun b => decide (missW c.ws sets b ≤ roomV c (b.col, b.least)) := by
  unfold sessV
  rw [mem_fold_addK fun missed => wholeV (bitsV bs.length) missed (roomsV c bs)]
  unfold statesK
  have h0 : Rep bs (fun b => roomV c (b.col, b.least)) [List.replicate bs.length 0] (fun g => g = fun _ => 0) := by
    intro x
    have e : List.replicate bs.length (0 : Int) = bs.map fun b => min 0 (roomV c (b.col, b.least) + 1) := by
      rw [← List.map_const']
      refine List.map_congr_left fun b hbm => ?_
      have := hr b hbm
      omega
    rw [List.mem_singleton, e]
    constructor
    · intro z; exact ⟨_, rfl, z⟩
    · rintro ⟨_, rfl, z⟩; exact z
  have hR := rep_fold hb hL c.ws hw h0
  have whole : ∀ g : Bd → Int, wholeV (bitsV bs.length) (bs.map fun b => min (g b) (roomV c (b.col, b.least) + 1)) (roomsV c bs) = maskOf bs fun b => decide (g b ≤ roomV c (b.col, b.least)) := by
    intro g
    unfold roomsV
    rw [whole_is bs (fun b => min (g b) (roomV c (b.col, b.least) + 1)) fun b => roomV c (b.col, b.least)]
    refine mask_congr fun b _ => ?_
    by_cases h : g b ≤ roomV c (b.col, b.least)
    · rw [decide_eq_true h]; exact decide_eq_true (by omega)
    · rw [decide_eq_false h]; exact decide_eq_false (by omega)
  constructor
  · rintro (z | ⟨y, hy, e⟩)
    · cases z
    · obtain ⟨_, ⟨_, rfl, sets, hl, hm, rfl⟩, rfl⟩ := (hR y).mp hy
      rw [whole] at e
      exact ⟨sets, hl, hm, by rw [e]; simp⟩
  · rintro ⟨sets, hl, hm, e⟩
    refine .inr ⟨_, (hR _).mpr ⟨_, ⟨_, rfl, sets, hl, hm, rfl⟩, rfl⟩, ?_⟩
    rw [whole, e]
    simp
/-! the law's side -/
theorem seats_mem {α : Type} (xs : List α) : ∀ (n : Nat) (s : List α), s ∈ seatsV xs n ↔ s.length = n ∧ ∀ x ∈ s, x ∈ xs := by
  intro n
  induction n with
  | zero =>
    intro s
    simp only [seatsV, List.mem_singleton, List.length_eq_zero_iff]
    exact ⟨fun h => ⟨h, by rw [h]; simp⟩, fun h => h.1⟩
  | succ n ih =>
    intro s
    constructor
    · exact seatsV_each xs (n + 1) s
    · rintro ⟨hl, hm⟩
      have hne : s ≠ [] := by intro e; rw [e] at hl; simp at hl
      have e := List.dropLast_concat_getLast hne
      unfold seatsV
      refine List.mem_flatMap.mpr ⟨s.dropLast, (ih _).mpr ⟨by rw [List.length_dropLast, hl]; rfl, fun x hx => hm x ((List.dropLast_sublist s).subset hx)⟩, ?_⟩
      exact List.mem_map.mpr ⟨s.getLast hne, hm _ (List.getLast_mem hne), e⟩
theorem lweight_is (b : Bd) : ∀ (ws : List Int) (sets : List (List Bd)), sets.length = ws.length → lweight ws sets b = missW ws sets b
  | [], [], _ => rfl
  | w :: ws, s :: sets, h => by
    have ih := lweight_is b ws sets (by simpa using h)
    rw [missW, ← ih]
    unfold lweight
    rw [List.length_cons, List.range_succ_eq_map, List.filter_cons, List.filter_map, List.getD_cons_zero]
    by_cases hm : b ∈ s
    · simp only [hm, decide_true, Bool.not_true, Bool.false_eq_true, if_false, if_true, List.map_map, Int.zero_add]
      rfl
    · simp only [hm, decide_false, Bool.not_false, if_true, if_false, List.map_cons, List.map_map, List.sum_cons]
      rfl
  | [], _ :: _, h => by simp at h
  | _ :: _, [], h => by simp at h
theorem lsome_mem (c : Cn) (bs : List Bd) (S : List (List Bd)) (s : List Bd) : (∃ seats ∈ seatsV S c.ws.length, s = lsomeV c bs seats) ↔ Met c bs S s := by
  constructor
  · rintro ⟨sets, h, rfl⟩
    obtain ⟨h1, h2⟩ := (seats_mem S _ _).mp h
    refine ⟨sets, h1, h2, ?_⟩
    unfold lsomeV
    exact List.filter_congr fun b _ => by rw [lweight_is b _ _ h1]
  · rintro ⟨sets, h1, h2, rfl⟩
    refine ⟨sets, (seats_mem S _ _).mpr ⟨h1, h2⟩, ?_⟩
    unfold lsomeV
    exact List.filter_congr fun b _ => by rw [lweight_is b _ _ h1]
theorem lnew_mem (cs : List Cn) (bs : List Bd) (S : List (List Bd)) (s : List Bd) : s ∈ lnewV cs bs S ↔ s ∈ S ∨ ∃ c ∈ cs, Met c bs S s := by
  unfold lnewV
  rw [mem_fold2 (fun c : Cn => seatsV S c.ws.length) (fun c seats => lsomeV c bs seats)]
  simp only [lsome_mem]
theorem lnew_nodup (cs : List Cn) (bs : List Bd) {S : List (List Bd)} (h : S.Nodup) : (lnewV cs bs S).Nodup := nodup_fold2 (fun c : Cn => seatsV S c.ws.length) (fun c seats => lsomeV c bs seats) cs S h
theorem met_iss {c : Cn} {S : List (List Bd)} {s : List Bd} (h : Met c bs S s) : IsS bs s := by
  obtain ⟨sets, _, _, rfl⟩ := h
  exact ⟨_, rfl⟩
end
end Pk
namespace Pk
open PySem L2 DL
theorem put_keys (acc : List (Int × PyData)) (m : Int) (d : PyData) : (dPut acc m d).map (·.1) = addK (acc.map (·.1)) m := by
  unfold dPut addK
  by_cases h : (acc.any fun kv => decide (kv.1 = m)) = true
  · have hm : m ∈ acc.map (·.1) := by
      obtain ⟨p, hp, e⟩ := List.any_eq_true.mp h
      exact List.mem_map.mpr ⟨p, hp, of_decide_eq_true e⟩
    rw [if_pos h, if_pos hm, List.map_map]
    refine List.map_congr_left fun p _ => ?_
    simp only [Function.comp]
    split <;> rfl
  · have hm : ¬ m ∈ acc.map (·.1) := by
      intro hm
      obtain ⟨p, hp, e⟩ := List.mem_map.mp hm
      exact h (List.any_eq_true.mpr ⟨p, hp, decide_eq_true e⟩)
    rw [if_neg h, if_neg hm]
    simp
theorem different_is (ms : List Int) : differentV ms = ms.foldl addK [] := by
  unfold differentV
  have go : ∀ (ms : List Int) (acc : List (Int × PyData)), (ms.foldl (fun acc m => dPut acc m (.bool true)) acc).map (·.1) = ms.foldl addK (acc.map (·.1)) := by
    intro ms
    induction ms with
    | nil => intro acc; rfl
    | cons m ms ih => intro acc; rw [List.foldl_cons, ih, put_keys]; rfl
  exact go ms []
theorem different_mem (ms : List Int) (m : Int) : m ∈ differentV ms ↔ m ∈ ms := by rw [different_is, mem_addK]; simp
theorem different_nodup (ms : List Int) : (differentV ms).Nodup := by rw [different_is]; exact nodup_fold_addK (fun a : Int => a) ms [] (by simp)
theorem great_mem (ms : List Int) (m : Int) : m ∈ greatestV ms ↔ m ∈ ms ∧ ∀ o ∈ ms, below m o = false := by
  unfold greatestV
  rw [List.mem_filter, srtI_mem]
  simp
theorem great_sorted (ms : List Int) : (greatestV ms).Pairwise (fun a b => decide (a ≤ b) = true) := (srtI_sorted ms).sublist List.filter_sublist
theorem great_nodup {ms : List Int} (h : ms.Nodup) : (greatestV ms).Nodup := (srtI_nodup h).sublist List.filter_sublist
theorem fold_g (ss : List (List Bd)) : ∀ (l acc : List (List Bd)), acc.Nodup → ∃ t, l.foldl (stepG ss) acc = acc ++ t ∧ t.Sublist l ∧ (acc ++ t).Nodup ∧ ∀ x, x ∈ acc ++ t ↔ x ∈ acc ∨ (x ∈ l ∧ largerV ss x = [])
  | [], acc, h => ⟨[], by simp, by simp, by simpa using h, by simp⟩
  | a :: l, acc, h => by
    rw [List.foldl_cons]
    by_cases hc : (!decide (a ∈ acc) && decide (largerV ss a = [])) = true
    · have e : stepG ss acc a = acc ++ [a] := by unfold stepG; rw [if_pos hc]
      rw [Bool.and_eq_true] at hc
      have h1 : ¬ a ∈ acc := by simpa using hc.1
      have h2 : largerV ss a = [] := of_decide_eq_true hc.2
      obtain ⟨t, t1, t2, t3, t4⟩ := fold_g ss l (acc ++ [a]) (by
        rw [List.nodup_append]
        exact ⟨h, by simp, fun x hx y hy => by rw [List.mem_singleton.mp hy]; exact fun e => h1 (e ▸ hx)⟩)
      refine ⟨a :: t, by rw [e, t1]; simp, t2.cons₂ a, by simpa using t3, fun x => ?_⟩
      have := t4 x
      simp only [List.mem_append, List.mem_cons, List.not_mem_nil, or_false] at this ⊢
      rw [show (x ∈ acc ∨ x = a ∨ x ∈ t) ↔ ((x ∈ acc ∨ x = a) ∨ x ∈ t) from or_assoc.symm, this]
      constructor
      · rintro ((z | rfl) | ⟨z, z2⟩)
        · exact .inl z
        · exact .inr ⟨.inl rfl, h2⟩
        · exact .inr ⟨.inr z, z2⟩
      · rintro (z | ⟨rfl | z, z2⟩)
        · exact .inl (.inl z)
        · exact .inl (.inr rfl)
        · exact .inr ⟨z, z2⟩
    · have e : stepG ss acc a = acc := by unfold stepG; rw [if_neg hc]
      obtain ⟨t, t1, t2, t3, t4⟩ := fold_g ss l acc h
      refine ⟨t, by rw [e, t1], t2.cons a, t3, fun x => ?_⟩
      rw [t4 x]
      constructor
      · rintro (z | ⟨z, z2⟩)
        · exact .inl z
        · exact .inr ⟨List.mem_cons_of_mem _ z, z2⟩
      · rintro (z | ⟨z, z2⟩)
        · exact .inl z
        · rcases List.mem_cons.mp z with rfl | z
          · by_cases ha : x ∈ acc
            · exact .inl ha
            · exact absurd (by simp [ha, z2]) hc
          · exact .inr ⟨z, z2⟩
theorem lgreat_facts (ss : List (List Bd)) : (lgreatV ss).Sublist (srtS ss) ∧ (lgreatV ss).Nodup ∧ ∀ x, x ∈ lgreatV ss ↔ x ∈ ss ∧ largerV ss x = [] := by
  obtain ⟨t, t1, t2, t3, t4⟩ := fold_g ss (srtS ss) [] (by simp)
  have e : lgreatV ss = t := by
    unfold lgreatV
    have : (srtS ss).foldl (stepG ss) [] = t := by rw [t1]; simp
    exact this
  rw [e]
  refine ⟨t2, by simpa using t3, fun x => ?_⟩
  have := t4 x
  simpa [srtS_mem] using this
theorem larger_nil {ss : List (List Bd)} {s : List Bd} : largerV ss s = [] ↔ ∀ o ∈ ss, (!decide (o = s) && withinV s o) = false := by
  unfold largerV
  rw [List.filter_eq_nil_iff]
  simp
/-- masks and sets of a level -/
def setsV (bs : List Bd) (L : List Int) : List (List Bd) := srtS (L.map (membersV bs))
theorem setsV_mem (bs : List Bd) (L : List Int) (s : List Bd) : s ∈ setsV bs L ↔ ∃ m ∈ L, membersV bs m = s := by
  unfold setsV
  rw [srtS_mem, List.mem_map]
section
variable {bs : List Bd} (hb : bs.length ≤ 4)
include hb
theorem nodup_sub {L : List Int} (hL : ∀ m ∈ L, IsM bs m) (h : L.Nodup) : (L.map (membersV bs)).Nodup := by
  induction L with
  | nil => simp
  | cons a L ih =>
    rw [List.nodup_cons] at h
    rw [List.map_cons, List.nodup_cons]
    refine ⟨fun z => ?_, ih (fun m hm => hL m (List.mem_cons_of_mem _ hm)) h.2⟩
    obtain ⟨o, ho, e⟩ := List.mem_map.mp z
    exact h.1 (sub_inj hb (hL o (List.mem_cons_of_mem _ ho)) (hL a List.mem_cons_self) e ▸ ho)
theorem level_is {ms : List Int} {ss : List (List Bd)} (hm : ∀ m ∈ ms, IsM bs m) (h : ∀ s, s ∈ ss ↔ ∃ m ∈ ms, membersV bs m = s) : lgreatV ss = setsV bs (greatestV (differentV ms)) := by
  obtain ⟨f1, f2, f3⟩ := lgreat_facts ss
  have hg : ∀ m ∈ greatestV (differentV ms), IsM bs m := fun m z => hm m ((different_mem ms m).mp ((great_mem _ m).mp z).1)
  refine eq_of_sorted le_anti ((srtS_sorted ss).sublist f1) (srtS_sorted _) f2 (srtS_nodup (nodup_sub hb hg (great_nodup (different_nodup ms)))) fun s => ?_
  rw [f3, setsV_mem, h, larger_nil]
  constructor
  · rintro ⟨⟨m, hm1, rfl⟩, hl⟩
    refine ⟨m, (great_mem _ m).mpr ⟨(different_mem ms m).mpr hm1, fun o ho => ?_⟩, rfl⟩
    have ho := (different_mem ms o).mp ho
    rw [below_is hb (hm m hm1) (hm o ho)]
    exact hl _ ((h _).mpr ⟨o, ho, rfl⟩)
  · rintro ⟨m, hm1, rfl⟩
    obtain ⟨h1, h2⟩ := (great_mem _ m).mp hm1
    have h1 := (different_mem ms m).mp h1
    refine ⟨⟨m, h1, rfl⟩, fun s hs => ?_⟩
    obtain ⟨o, ho, rfl⟩ := (h s).mp hs
    have := h2 o ((different_mem ms o).mpr ho)
    rwa [below_is hb (hm m h1) (hm o ho)] at this
end
/-- a level of masks -/
structure LevM (bs : List Bd) (L : List Int) : Prop where
  m : ∀ m ∈ L, IsM bs m
  s : L.Pairwise (fun a b => decide (a ≤ b) = true)
  n : L.Nodup
/-- a level of sets -/
structure LevS (bs : List Bd) (S : List (List Bd)) : Prop where
  m : ∀ s ∈ S, IsS bs s
  s : S.Pairwise (fun a b => W.dataLe false bdsD a b = true)
  n : S.Nodup
  a : ∀ s ∈ S, ∀ t ∈ S, withinV s t = true → s = t
theorem levM_of {bs : List Bd} {ms : List Int} (h : ∀ m ∈ ms, IsM bs m) : LevM bs (greatestV (differentV ms)) :=
  ⟨fun m z => h m ((different_mem ms m).mp ((great_mem _ m).mp z).1), great_sorted _, great_nodup (different_nodup ms)⟩
theorem levS_of {bs : List Bd} {ss : List (List Bd)} (h : ∀ s ∈ ss, IsS bs s) : LevS bs (lgreatV ss) := by
  obtain ⟨f1, f2, f3⟩ := lgreat_facts ss
  refine ⟨fun s z => h s ((f3 s).mp z).1, (srtS_sorted ss).sublist f1, f2, fun s hs t ht hw => ?_⟩
  have h1 := larger_nil.mp ((f3 s).mp hs).2 t ((f3 t).mp ht).1
  rw [hw] at h1
  simp at h1
  exact h1.symm
theorem within_trans {a b c : List Bd} (h1 : withinV a b = true) (h2 : withinV b c = true) : withinV a c = true := by
  unfold withinV at h1 h2 ⊢
  rw [List.all_eq_true] at h1 h2 ⊢
  exact fun x hx => h2 x (of_decide_eq_true (h1 x hx))
theorem within_refl (a : List Bd) : withinV a a = true := by
  unfold withinV
  rw [List.all_eq_true]
  exact fun x hx => decide_eq_true hx
theorem within_anti {bs a b : List Bd} (ha : IsS bs a) (hb : IsS bs b) (h1 : withinV a b = true) (h2 : withinV b a = true) : a = b := by
  obtain ⟨p, rfl⟩ := ha
  obtain ⟨q, rfl⟩ := hb
  rw [within_filt] at h1 h2
  refine List.filter_congr fun x hx => ?_
  cases hp : p x <;> cases hq : q x
  · rfl
  · rw [h2 x hx hq] at hp; cases hp
  · rw [h1 x hx hp] at hq; cases hq
  · rfl
/-- above each set there is a greatest one -/
theorem above {bs : List Bd} {ss : List (List Bd)} (h : ∀ s ∈ ss, IsS bs s) : ∀ (n : Nat) (s : List Bd), s ∈ ss → bs.length ≤ s.length + n → ∃ t ∈ lgreatV ss, withinV s t = true := by
  intro n
  induction n with
  | zero =>
    intro s hs hl
    refine ⟨s, ((lgreat_facts ss).2.2 s).mpr ⟨hs, larger_nil.mpr fun o ho => ?_⟩, within_refl s⟩
    obtain ⟨p, rfl⟩ := h s hs
    obtain ⟨q, rfl⟩ := h o ho
    cases hw : withinV (bs.filter p) (bs.filter q)
    · simp
    · have h1 : bs.filter p = bs := (List.filter_sublist (l := bs) (p := p)).eq_of_length_le (by omega)
      have h2 : ∀ b ∈ bs, p b = true := fun b hb => by
        have : b ∈ bs.filter p := by rw [h1]; exact hb
        exact (List.mem_filter.mp this).2
      rw [within_filt] at hw
      have : bs.filter q = bs.filter p := List.filter_congr fun b hb => by rw [h2 b hb, hw b hb (h2 b hb)]
      simp [this]
  | succ n ih =>
    intro s hs hl
    by_cases hn : largerV ss s = []
    · exact ⟨s, ((lgreat_facts ss).2.2 s).mpr ⟨hs, hn⟩, within_refl s⟩
    · obtain ⟨o, ho⟩ : ∃ o, o ∈ largerV ss s := by
        cases e : largerV ss s with
        | nil => exact absurd e hn
        | cons o r => exact ⟨o, by simp⟩
      unfold largerV at ho
      rw [List.mem_filter, Bool.and_eq_true] at ho
      obtain ⟨ho1, ho2, ho3⟩ := ho
      have hne : o ≠ s := by simpa using ho2
      have hlt : s.length < o.length := by
        obtain ⟨p, rfl⟩ := h s hs
        obtain ⟨q, rfl⟩ := h o ho1
        rw [within_filt] at ho3
        refine filt_lt ho3 (Classical.byContradiction fun hc => hne ?_)
        refine List.filter_congr fun b hb => ?_
        cases hp : p b <;> cases hq : q b
        · rfl
        · exact absurd ⟨b, hb, hq, hp⟩ hc
        · rw [ho3 b hb hp] at hq; cases hq
        · rfl
      obtain ⟨t, ht, hw⟩ := ih o ho1 (by omega)
      exact ⟨t, ht, within_trans ho3 hw⟩
end Pk
namespace Pk
open PySem L2 DL
/-- a council that can be asked about these bounds -/
structure CnGood (bs : List Bd) (c : Cn) : Prop where
  w : ∀ w ∈ c.ws, 0 ≤ w
  r : ∀ b ∈ bs, 0 ≤ roomV c (b.col, b.least)
  l : 2 ≤ c.ws.length
  l5 : c.ws.length ≤ 5
  q : ∀ b ∈ bs, b.col < c.qs.length
theorem ways_mem (cs : List Cn) (bs : List Bd) (L : List Int) (m : Int) : m ∈ waysV cs bs L ↔ ∃ c ∈ cs, m ∈ sessV c L bs := by
  have := mem_fold2 (fun c : Cn => sessV c L bs) (fun _ b => b) m cs []
  have e : waysV cs bs L = cs.foldl (fun acc a => (sessV a L bs).foldl (fun acc b => addK acc b) acc) [] := rfl
  rw [e, this]
  simp
theorem ways_nodup (cs : List Cn) (bs : List Bd) (L : List Int) : (waysV cs bs L).Nodup := nodup_fold2 (fun c : Cn => sessV c L bs) (fun _ b => b) cs [] (by simp)
def univS (bs : List Bd) : List (List Bd) := (List.range 16).map fun i : Nat => membersV bs (i : Int)
/-- how much lies below -/
def lowV (bs : List Bd) (S : List (List Bd)) : Nat := ((univS bs).filter fun u => S.any fun s => withinV u s).length
theorem low_le (bs : List Bd) (S : List (List Bd)) : lowV bs S ≤ 16 := by
  unfold lowV
  refine Nat.le_trans (List.length_filter_le _ _) ?_
  simp [univS]
section
variable {bs : List Bd} (hb : bs.length ≤ 4) {cs : List Cn} (hc : ∀ c ∈ cs, CnGood bs c)
include hb
theorem len16 {S : List (List Bd)} (h : ∀ s ∈ S, IsS bs s) (n : S.Nodup) : S.length ≤ 16 := by
  have := nodup_le (m := univS bs) n fun s hs => in_univ hb (h s hs)
  simpa [univS] using this
theorem len16M {L : List Int} (h : ∀ s ∈ L, IsM bs s) (n : L.Nodup) : L.length ≤ 16 := by
  have := nodup_le n fun s hs => in_univM hb (h s hs)
  simpa using this
theorem low_lt {S S' : List (List Bd)} (h : LevS bs S) (h' : LevS bs S') (hu : ∀ s ∈ S, ∃ t ∈ S', withinV s t = true) (hne : S' ≠ S) : lowV bs S < lowV bs S' := by
  unfold lowV
  refine filt_lt (fun u _ z => ?_) ?_
  · obtain ⟨s, hs, hw⟩ := List.any_eq_true.mp z
    obtain ⟨t, ht, hw2⟩ := hu s hs
    exact List.any_eq_true.mpr ⟨t, ht, within_trans hw hw2⟩
  · refine Classical.byContradiction fun hcon => hne ?_
    have hd : ∀ t ∈ S', ∃ s ∈ S, withinV t s = true := by
      intro t ht
      refine Classical.byContradiction fun hno => hcon ⟨t, in_univ hb (h'.m t ht), List.any_eq_true.mpr ⟨t, ht, within_refl t⟩, ?_⟩
      rw [List.any_eq_false]
      exact fun s hs z => hno ⟨s, hs, z⟩
    refine eq_of_sorted le_anti h'.s h.s h'.n h.n fun x => ⟨fun hx => ?_, fun hx => ?_⟩
    · obtain ⟨s, hs, w1⟩ := hd x hx
      obtain ⟨t, ht, w2⟩ := hu s hs
      have e := h'.a x hx t ht (within_trans w1 w2)
      subst e
      rw [within_anti (h'.m x hx) (h.m s hs) w1 w2]
      exact hs
    · obtain ⟨t, ht, w1⟩ := hu x hx
      obtain ⟨s, hs, w2⟩ := hd t ht
      have e := h.a x hx s hs (within_trans w1 w2)
      subst e
      rw [within_anti (h.m x hx) (h'.m t ht) w1 w2]
      exact ht
include hc
theorem ways_is {L : List Int} (hL : LevM bs L) : ∀ m ∈ waysV cs bs L, IsM bs m := by
  intro m hm
  obtain ⟨c, hcm, hm⟩ := (ways_mem cs bs L m).mp hm
  obtain ⟨_, _, _, e⟩ := (sess_mem hb hL.m (hc c hcm).w (hc c hcm).r m).mp hm
  exact ⟨_, e⟩
theorem next_rel {L : List Int} (hL : LevM bs L) (s : List Bd) : s ∈ lnewV cs bs (setsV bs L) ↔ ∃ m ∈ L ++ waysV cs bs L, membersV bs m = s := by
  have hmem : ∀ x, x ∈ setsV bs L ↔ x ∈ L.map (membersV bs) := fun x => by unfold setsV; exact srtS_mem _ x
  rw [lnew_mem]
  constructor
  · rintro (h | ⟨c, hcm, sets, h1, h2, rfl⟩)
    · obtain ⟨m, hm, e⟩ := (setsV_mem bs L s).mp h
      exact ⟨m, List.mem_append_left _ hm, e⟩
    · refine ⟨_, List.mem_append_right _ ((ways_mem cs bs L _).mpr ⟨c, hcm, (sess_mem hb hL.m (hc c hcm).w (hc c hcm).r _).mpr ⟨sets, h1, fun x hx => (hmem x).mp (h2 x hx), rfl⟩⟩), ?_⟩
      rw [sub_mask hb]
  · rintro ⟨m, hm, rfl⟩
    rcases List.mem_append.mp hm with hm | hm
    · exact .inl ((setsV_mem bs L _).mpr ⟨m, hm, rfl⟩)
    · obtain ⟨c, hcm, hm⟩ := (ways_mem cs bs L m).mp hm
      obtain ⟨sets, h1, h2, rfl⟩ := (sess_mem hb hL.m (hc c hcm).w (hc c hcm).r m).mp hm
      exact .inr ⟨c, hcm, sets, h1, fun x hx => (hmem x).mpr (h2 x hx), sub_mask hb _⟩
theorem next_is {L : List Int} (hL : LevM bs L) : lnextV cs bs (setsV bs L) = setsV bs (levelV cs bs L) := by
  unfold lnextV levelV
  refine level_is hb ?_ (next_rel hb hc hL)
  intro m hm
  rcases List.mem_append.mp hm with h | h
  · exact hL.m m h
  · exact ways_is hb hc hL m h
theorem next_levM {L : List Int} (hL : LevM bs L) : LevM bs (levelV cs bs L) := by
  unfold levelV
  refine levM_of fun m hm => ?_
  rcases List.mem_append.mp hm with h | h
  · exact hL.m m h
  · exact ways_is hb hc hL m h
theorem lnew_iss {S : List (List Bd)} (hS : LevS bs S) : ∀ s ∈ lnewV cs bs S, IsS bs s := by
  intro s hs
  rcases (lnew_mem cs bs S s).mp hs with h | ⟨c, _, h⟩
  · exact hS.m s h
  · exact met_iss h
theorem next_above {S : List (List Bd)} (hS : LevS bs S) : ∀ s ∈ S, ∃ t ∈ lnextV cs bs S, withinV s t = true := fun s hs =>
  above (lnew_iss hb hc hS) 4 s ((lnew_mem cs bs S s).mpr (.inl hs)) (by omega)
theorem next_eq {L : List Int} (hL : LevM bs L) (h : setsV bs (levelV cs bs L) = setsV bs L) : levelV cs bs L = L := by
  have h' := next_levM hb hc hL
  refine eq_of_sorted (le := fun a b : Int => decide (a ≤ b)) (fun a b z1 z2 => ?_) h'.s hL.s h'.n hL.n fun m => ?_
  · have := of_decide_eq_true z1
    have := of_decide_eq_true z2
    omega
  · have key : ∀ {A B : List Int}, LevM bs A → LevM bs B → setsV bs A = setsV bs B → m ∈ A → m ∈ B := by
      intro A B hA hB e hm
      have : membersV bs m ∈ setsV bs B := by rw [← e]; exact (setsV_mem bs A _).mpr ⟨m, hm, rfl⟩
      obtain ⟨o, ho, e2⟩ := (setsV_mem bs B _).mp this
      rw [← sub_inj hb (hB.m o ho) (hA.m m hm) e2]
      exact ho
    exact ⟨key h' hL h, key hL h' h.symm⟩
theorem next_nil : levelV cs bs [] = [] := by
  have hL : LevM bs [] := ⟨by simp, by simp, by simp⟩
  have hw : waysV cs bs [] = [] := by
    cases e : waysV cs bs [] with
    | nil => rfl
    | cons m r =>
      have hm : m ∈ waysV cs bs [] := by rw [e]; exact List.mem_cons_self
      obtain ⟨c, hcm, hm⟩ := (ways_mem cs bs [] m).mp hm
      obtain ⟨sets, h1, h2, _⟩ := (sess_mem hb hL.m (hc c hcm).w (hc c hcm).r m).mp hm
      have := (hc c hcm).l
      cases sets with
      | nil => simp at h1; omega
      | cons x _ => exact absurd (h2 x List.mem_cons_self) (by simp)
  unfold levelV
  rw [hw]
  simp [greatestV, differentV, srtI]
/-- the levels of both, side by side -/
theorem chain : ∀ (k : Nat) (L : List Int), LevM bs L → LevS bs (setsV bs L) → 16 ≤ lowV bs (setsV bs L) + k → ∃ lv : List (List Int), Lvls cs bs L lv ∧ LLv cs bs (setsV bs L) (lv.map (setsV bs)) ∧ lv.length ≤ k + 1 ∧ (∀ l ∈ lv, LevM bs l ∧ LevS bs (setsV bs l)) ∧
    (∀ z ∈ (lv.map (setsV bs)).zip ((lv.map (setsV bs)).drop 1), ∀ one ∈ z.1, ∃ o ∈ z.2, withinV one o = true) := by
  have stop : ∀ (L : List Int), LevM bs L → LevS bs (setsV bs L) → levelV cs bs L = L → ∃ lv : List (List Int), Lvls cs bs L lv ∧ LLv cs bs (setsV bs L) (lv.map (setsV bs)) ∧ lv.length ≤ 1 ∧ (∀ l ∈ lv, LevM bs l ∧ LevS bs (setsV bs l)) ∧
      (∀ z ∈ (lv.map (setsV bs)).zip ((lv.map (setsV bs)).drop 1), ∀ one ∈ z.1, ∃ o ∈ z.2, withinV one o = true) := by
    intro L hL hS e
    refine ⟨[L], .stop ?_, .stop ?_, by simp, ?_, by simp⟩
    · unfold advV
      by_cases h0 : L = []
      · rw [if_pos h0]
      · rw [if_neg h0, if_pos e]
    · rw [next_is hb hc hL, e]
    · intro l hl
      rw [List.mem_singleton.mp hl]
      exact ⟨hL, hS⟩
  intro k
  induction k with
  | zero =>
    intro L hL hS hk
    have h1 := low_le bs (setsV bs (levelV cs bs L))
    by_cases e : setsV bs (levelV cs bs L) = setsV bs L
    · exact stop L hL hS (next_eq hb hc hL e)
    · exfalso
      have hS' : LevS bs (setsV bs (levelV cs bs L)) := by rw [← next_is hb hc hL]; exact levS_of (lnew_iss hb hc hS)
      have := low_lt hb hS hS' (by rw [← next_is hb hc hL]; exact next_above hb hc hS) e
      omega
  | succ k ih =>
    intro L hL hS hk
    by_cases e : setsV bs (levelV cs bs L) = setsV bs L
    · obtain ⟨lv, h1, h2, h3, h4⟩ := stop L hL hS (next_eq hb hc hL e)
      exact ⟨lv, h1, h2, by omega, h4⟩
    · have hL' := next_levM hb hc hL
      have hS' : LevS bs (setsV bs (levelV cs bs L)) := by rw [← next_is hb hc hL]; exact levS_of (lnew_iss hb hc hS)
      have hup : ∀ s ∈ setsV bs L, ∃ t ∈ setsV bs (levelV cs bs L), withinV s t = true := by rw [← next_is hb hc hL]; exact next_above hb hc hS
      have hlt := low_lt hb hS hS' hup e
      obtain ⟨lv, h1, h2, h3, h4, h5⟩ := ih (levelV cs bs L) hL' hS' (by omega)
      have hne : levelV cs bs L ≠ L := fun z => e (by rw [z])
      have hne0 : L ≠ [] := fun z => hne (by rw [z]; exact next_nil hb hc)
      refine ⟨L :: lv, .next ?_ h1, .next ?_ ?_, by rw [List.length_cons]; omega, ?_, ?_⟩
      · unfold advV
        rw [if_neg hne0, if_neg hne]
      · rw [next_is hb hc hL]; exact e
      · rw [next_is hb hc hL]; exact h2
      · intro l hl
        rcases List.mem_cons.mp hl with rfl | hl
        · exact ⟨hL, hS⟩
        · exact h4 l hl
      · obtain ⟨r, er⟩ := h2.ne
        intro z hz
        rw [List.map_cons, er] at hz
        simp only [List.drop_succ_cons, List.drop_zero, List.zip_cons_cons] at hz
        rcases List.mem_cons.mp hz with rfl | hz
        · exact hup
        · rw [er] at h5
          exact h5 z hz
end
end Pk
namespace Pk
open PySem L2 DL
theorem int_20 {i : Int} (h : -tenI ≤ i ∧ i ≤ tenI) : (PyData.shown (.int i)).length ≤ 25 := by
  have h2 : i.natAbs < 10 ^ 19 := by
    obtain ⟨h1, h2⟩ := h
    unfold tenI at h1 h2
    omega
  have e := int_text_length_le10 (k := 19) (by decide) h2
  show (Str.ofString (toString i)).length ≤ 25
  rw [ofString_length]
  omega
theorem col_20 {i : Nat} (h : i < 1000) : (PyData.shown (.int i)).length ≤ 25 := int_20 (by unfold tenI; omega)
theorem show_int {i : Int} (h : -tenI ≤ i ∧ i ≤ tenI) : PyData.showable (.int i) = true := by
  unfold PyData.showable
  refine decide_eq_true ?_
  obtain ⟨h1, h2⟩ := h
  unfold tenI at h1 h2
  by_cases hz : i.natAbs = 0
  · rw [hz]; decide
  · exact Nat.lt_of_lt_of_le ((Nat.log2_lt hz).mpr (by omega : i.natAbs < 2 ^ 64)) (by decide)
/-- bounds that can be shown -/
def BdS (b : Bd) : Prop := b.col < 1000 ∧ -tenI ≤ b.val ∧ b.val ≤ tenI
theorem bd_show {b : Bd} (h : BdS b) : (bdD b).showable = true := by
  have h1 : PyData.showable (.int b.col) = true := show_int (by have := h.1; unfold tenI; omega)
  have h2 : PyData.showable (.int b.val) = true := show_int h.2
  unfold bdD
  simp [PyData.showable, PyData.showableAll] at h1 h2 ⊢
  exact ⟨h1, h2⟩
theorem bd_short {b : Bd} (h : BdS b) : (bdD b).intsShort 25 = true := by
  have h1 := col_20 h.1
  have h2 := int_20 h.2
  unfold bdD
  simp [PyData.intsShort, PyData.intsShortAll]
  exact ⟨h1, h2⟩
theorem bd_bulk (b : Bd) : (bdD b).bulk ≤ 8 := by
  unfold bdD
  simp only [PyData.bulk, PyData.bulkAll]
  have : (wayS b.least).cps.size ≤ 5 := by cases b.least <;> decide +kernel
  omega
theorem all_show {α : Type} {enc : α → PyData} : ∀ {xs : List α}, (∀ x ∈ xs, (enc x).showable = true) → PyData.showableAll (xs.map enc) = true
  | [], _ => rfl
  | x :: xs, h => by
    rw [List.map_cons, PyData.showableAll, h x List.mem_cons_self, all_show fun y hy => h y (List.mem_cons_of_mem _ hy)]
    rfl
theorem all_short {α : Type} {enc : α → PyData} : ∀ {xs : List α}, (∀ x ∈ xs, (enc x).intsShort 25 = true) → PyData.intsShortAll 25 (xs.map enc) = true
  | [], _ => rfl
  | x :: xs, h => by
    rw [List.map_cons, PyData.intsShortAll, h x List.mem_cons_self, all_short fun y hy => h y (List.mem_cons_of_mem _ hy)]
    rfl
theorem all_bulk {α : Type} {enc : α → PyData} {B : Nat} : ∀ {xs : List α}, (∀ x ∈ xs, (enc x).bulk ≤ B) → PyData.bulkAll (xs.map enc) ≤ (B + 1) * xs.length
  | [], _ => by simp [PyData.bulkAll]
  | x :: xs, h => by
    have h1 := h x List.mem_cons_self
    have h2 := all_bulk (xs := xs) fun y hy => h y (List.mem_cons_of_mem _ hy)
    rw [List.map_cons, PyData.bulkAll, List.length_cons, Nat.mul_add]
    omega
theorem canLay_lev : ∀ xs : List (List (List Bd)), PyData.canLayAll0 (xs.map stsD) = true
  | [] => rfl
  | x :: xs => by rw [List.map_cons, PyData.canLayAll0, canLay_lev xs]; unfold stsD; rw [PyData.canLay0, canLay_sets]; rfl
theorem depth_lev : ∀ xs : List (List (List Bd)), PyData.depthAll (xs.map stsD) ≤ 3
  | [] => by simp [PyData.depthAll]
  | x :: xs => by
    have h1 := depth_lev xs
    have h2 := depth_sets x
    have h3 : (stsD x).depth = 1 + PyData.depthAll (x.map bdsD) := by unfold stsD; rw [PyData.depth] <;> omega
    rw [List.map_cons, PyData.depthAll, h3]
    omega
theorem lev_shw {ls : List (List (List Bd))} (hl : ls.length ≤ 30) (h : ∀ l ∈ ls, l.length ≤ 16 ∧ ∀ s ∈ l, s.length ≤ 4 ∧ ∀ b ∈ s, BdS b) : Shw (.list (ls.map stsD)) := by
  have hd := depth_lev ls
  have hd2 : (PyData.list (ls.map stsD)).depth = 1 + PyData.depthAll (ls.map stsD) := by rw [PyData.depth] <;> omega
  have hcl : (PyData.list (ls.map stsD)).canLay0 = true := by rw [PyData.canLay0, canLay_lev]
  have hsh : (PyData.list (ls.map stsD)).intsShort 25 = true := by
    rw [PyData.intsShort]
    refine all_short fun l hl => ?_
    unfold stsD
    rw [PyData.intsShort]
    refine all_short fun s hs => ?_
    unfold bdsD
    rw [PyData.intsShort]
    exact all_short fun b hb => bd_short ((h l hl).2 s hs |>.2 b hb)
  refine ⟨?_, ?_, by omega, ?_⟩
  · unfold SeqAt.shaped
    rw [Bool.and_eq_true, decide_eq_true_eq]
    exact ⟨hcl, by omega⟩
  · rw [PyData.showable]
    refine all_show fun l hl => ?_
    unfold stsD
    rw [PyData.showable]
    refine all_show fun s hs => ?_
    unfold bdsD
    rw [PyData.showable]
    exact all_show fun b hb => bd_show ((h l hl).2 s hs |>.2 b hb)
  · have hb : (PyData.list (ls.map stsD)).bulk ≤ 20000 := by
      rw [PyData.bulk]
      have := all_bulk (B := 640) (enc := stsD) (xs := ls) fun l hl => by
        unfold stsD
        rw [PyData.bulk]
        have := all_bulk (B := 36) (enc := bdsD) (xs := l) fun s hs => by
          unfold bdsD
          rw [PyData.bulk]
          have := all_bulk (B := 8) (enc := bdD) (xs := s) fun b _ => bd_bulk b
          have := ((h l hl).2 s hs).1
          omega
        have := (h l hl).1
        omega
      omega
    have h1 := PyData.shown_le_bulk 25 (by decide) _ (PyData.leavesShort_of_canLay0 25 _ hcl hsh)
    have e : sizeLine = 16777216 := rfl
    rw [e]
    omega
theorem getD_mem {qs : List Int} {i : Nat} (h : i < qs.length) : qs.getD i 0 ∈ qs := by
  rw [List.getD_eq_getElem?_getD, List.getElem?_eq_getElem h]
  exact List.getElem_mem h
theorem all_right : AllRight := by
  intro wd cs rows wish hw1 hw4 hcs hrl hrows hwish
  have hbm : ∀ b ∈ srtB wish, b ∈ wish := fun b hb => (List.mergeSort_perm wish _).mem_iff.mp hb
  have hbl : (srtB wish).length = wish.length := List.length_mergeSort ..
  have hb : (srtB wish).length ≤ 4 := by rw [hbl]; exact hwish.1
  have hcol : ∀ b ∈ srtB wish, b.col < wd := fun b z => (hwish.2.2 b (hbm b z)).1
  have hval : ∀ b ∈ srtB wish, BdS b := fun b z => ⟨by have := hcol b z; omega, (hwish.2.2 b (hbm b z)).2⟩
  generalize hbs : srtB wish = bs at hb hcol hval
  have hc : ∀ c ∈ cs, CnGood bs c := by
    intro c hcm
    obtain ⟨ok, h5, hq⟩ := hcs.2 c hcm
    refine ⟨fun w hw => by have := (ok.w w hw).1; omega, fun b hbm => ?_, ok.w2, h5, fun b hbm => by rw [hq]; exact hcol b hbm⟩
    have hi : b.col < c.qs.length := by rw [hq]; exact hcol b hbm
    have := ok.q _ (getD_mem hi)
    unfold roomV
    split <;> (simp only []; omega)
  have hms : ∀ m ∈ rows.map (metV bs), IsM bs m := by
    intro m hm
    obtain ⟨r, _, rfl⟩ := List.mem_map.mp hm
    exact ⟨_, met_is bs r⟩
  have hss : ∀ s, s ∈ lmetV rows wish ↔ ∃ m ∈ rows.map (metV bs), membersV bs m = s := by
    intro s
    unfold lmetV
    rw [hbs, List.mem_map]
    constructor
    · rintro ⟨r, hr, rfl⟩
      exact ⟨_, List.mem_map_of_mem hr, by rw [met_is, sub_mask hb]⟩
    · rintro ⟨m, hm, rfl⟩
      obtain ⟨r, hr, rfl⟩ := List.mem_map.mp hm
      exact ⟨r, hr, by rw [met_is, sub_mask hb]⟩
  have hiss : ∀ s ∈ lmetV rows wish, IsS bs s := by
    intro s hs
    obtain ⟨m, hm, rfl⟩ := (hss s).mp hs
    exact sub_is hb (hms m hm)
  have h0 : lgreatV (lmetV rows wish) = setsV bs (level0 bs rows) := level_is hb hms hss
  have hL : LevM bs (level0 bs rows) := levM_of hms
  have hS : LevS bs (setsV bs (level0 bs rows)) := by rw [← h0]; exact levS_of hiss
  obtain ⟨lv, c1, c2, c3, c4, c5⟩ := chain hb hc 16 _ hL hS (by omega)
  have hpow : ∀ {n k : Nat}, n ≤ 16 → k ≤ 5 → (n + 1) ^ k ≤ 15000000 := fun {n k} hn hk => Nat.le_trans (Nat.pow_le_pow_left (by omega : n + 1 ≤ 17) k) (Nat.le_trans (Nat.pow_le_pow_right (by decide) hk) (by decide))
  have hlen : ∀ l ∈ lv, l.length ≤ 16 ∧ (setsV bs l).length ≤ 16 := fun l hl => ⟨len16M hb (c4 l hl).1.m (c4 l hl).1.n, len16 hb (c4 l hl).2.m (c4 l hl).2.n⟩
  have hsl : ∀ s, IsS bs s → s.length ≤ 4 := by
    rintro s ⟨p, rfl⟩
    exact Nat.le_trans (List.length_filter_le _ _) hb
  have hpl := hcs.1
  have hwl := hwish.1
  refine ⟨lv, lv.map (setsV bs), by omega, by omega, by omega, fun r hr b hbw => ?_, by rw [hbs]; exact c1, by omega, fun l hl => ?_, ?_, by rw [List.length_map]; omega, fun l hl => ?_, ?_, ?_, c5, fun l hl s hs => ?_⟩
  · rw [(hrows r hr).1]; exact (hwish.2.2 b hbw).1
  · rw [hbs]
    have hl16 := (hlen l hl).1
    refine ⟨by omega, by omega, ?_, fun c hcm => ⟨by have := (hc c hcm).l5; omega, (hc c hcm).q, hpow hl16 (hc c hcm).l5⟩⟩
    have := len16M hb (ways_is hb hc (c4 l hl).1) (ways_nodup cs bs l)
    omega
  · rw [hbs, h0]; exact c2
  · rw [hbs]
    obtain ⟨l, hlm, rfl⟩ := List.mem_map.mp hl
    have hl16 := (hlen l hlm).2
    have hS := (c4 l hlm).2
    refine ⟨by omega, fun s hs => by have := hsl s (hS.m s hs); omega, ?_, fun c hcm => ⟨by have := (hc c hcm).l5; omega, (hc c hcm).q, hpow hl16 (hc c hcm).l5⟩⟩
    have := len16 hb (lnew_iss hb hc hS) (lnew_nodup cs bs hS.n)
    omega
  · rw [hbs, List.map_map]
    refine List.map_congr_left fun l _ => ?_
    show PyData.list (setsD bs l) = stsD (setsV bs l)
    unfold setsD stsD setsV srtS
    congr 1
    have : (l.map fun m => bdsD (membersV bs m)) = (l.map (membersV bs)).map bdsD := by rw [List.map_map]; rfl
    rw [this, srt_map]
  · refine lev_shw (by rw [List.length_map]; omega) fun l hl => ?_
    obtain ⟨l, hlm, rfl⟩ := List.mem_map.mp hl
    refine ⟨(hlen l hlm).2, fun s hs => ⟨hsl s ((c4 l hlm).2.m s hs), fun b hbs' => ?_⟩⟩
    obtain ⟨p, rfl⟩ := (c4 l hlm).2.m s hs
    exact hval b (List.mem_filter.mp hbs').1
  · obtain ⟨l, hlm, rfl⟩ := List.mem_map.mp hl
    have := hsl s ((c4 l hlm).2.m s hs)
    omega
end Pk
namespace Pk
open PySem L2 DL
theorem ats_int (K : PySem.W.Frag) (G : Hp) : ∀ ns : List Int, Ats K G (ns.map V.int) (ns.map .int)
  | [] => .nil
  | n :: ns => .cons (.int n) (ats_int K G ns)
theorem all_mk (M : AllRight) {l : PySem.W.OpenLaw} {w : World} {K : PySem.W.Frag} {h : Heap} {mg : Str → Option Value} {fa f_mb f_me f_ii f_ib f_bo f_ms f_aw f_aq f_ci f_cw f_ct f_ca f_ro f_go f_di f_mi f_so f_rm f_ri f_ra f_rs f_mt f_lb f_lt f_lr f_la f_lm f_lc f_le f_lo f_lw f_ls f_lg f_lh f_ln f_ll f_ld f_lq f_lv f_lp f_lx f_zz C R : Addr} (X : K.In h) (G : h.Ns mainGlobals mg) (hfa : mg "law" = some (.ref fa))
    {oc_mb kV_mb dc_mb pm_mb cd_mb ct_mb : Value} {od_mb an_mb : Option Addr} {sl_mb : Array (Option Value)}
    {oc_me kV_me dc_me pm_me cd_me ct_me : Value} {od_me an_me : Option Addr} {sl_me : Array (Option Value)}
    {oc_ii kV_ii dc_ii pm_ii cd_ii ct_ii : Value} {od_ii an_ii : Option Addr} {sl_ii : Array (Option Value)}
    {oc_ib kV_ib dc_ib pm_ib cd_ib ct_ib : Value} {od_ib an_ib : Option Addr} {sl_ib : Array (Option Value)}
    {oc_bo kV_bo dc_bo pm_bo cd_bo ct_bo : Value} {od_bo an_bo : Option Addr} {sl_bo : Array (Option Value)}
    {oc_ms kV_ms dc_ms pm_ms cd_ms ct_ms : Value} {od_ms an_ms : Option Addr} {sl_ms : Array (Option Value)}
    {oc_aw kV_aw dc_aw pm_aw cd_aw ct_aw : Value} {od_aw an_aw : Option Addr} {sl_aw : Array (Option Value)}
    {oc_aq kV_aq dc_aq pm_aq cd_aq ct_aq : Value} {od_aq an_aq : Option Addr} {sl_aq : Array (Option Value)}
    {oc_ci kV_ci dc_ci pm_ci cd_ci ct_ci : Value} {od_ci an_ci : Option Addr} {sl_ci : Array (Option Value)}
    {oc_cw kV_cw dc_cw pm_cw cd_cw ct_cw : Value} {od_cw an_cw : Option Addr} {sl_cw : Array (Option Value)}
    {oc_ct kV_ct dc_ct pm_ct cd_ct ct_ct : Value} {od_ct an_ct : Option Addr} {sl_ct : Array (Option Value)}
    {oc_ca kV_ca dc_ca pm_ca cd_ca ct_ca : Value} {od_ca an_ca : Option Addr} {sl_ca : Array (Option Value)}
    {oc_ro kV_ro dc_ro pm_ro cd_ro ct_ro : Value} {od_ro an_ro : Option Addr} {sl_ro : Array (Option Value)}
    {oc_go kV_go dc_go pm_go cd_go ct_go : Value} {od_go an_go : Option Addr} {sl_go : Array (Option Value)}
    {oc_di kV_di dc_di pm_di cd_di ct_di : Value} {od_di an_di : Option Addr} {sl_di : Array (Option Value)}
    {oc_mi kV_mi dc_mi pm_mi cd_mi ct_mi : Value} {od_mi an_mi : Option Addr} {sl_mi : Array (Option Value)}
    {oc_so kV_so dc_so pm_so cd_so ct_so : Value} {od_so an_so : Option Addr} {sl_so : Array (Option Value)}
    {oc_rm kV_rm dc_rm pm_rm cd_rm ct_rm : Value} {od_rm an_rm : Option Addr} {sl_rm : Array (Option Value)}
    {oc_ri kV_ri dc_ri pm_ri cd_ri ct_ri : Value} {od_ri an_ri : Option Addr} {sl_ri : Array (Option Value)}
    {oc_ra kV_ra dc_ra pm_ra cd_ra ct_ra : Value} {od_ra an_ra : Option Addr} {sl_ra : Array (Option Value)}
    {oc_rs kV_rs dc_rs pm_rs cd_rs ct_rs : Value} {od_rs an_rs : Option Addr} {sl_rs : Array (Option Value)}
    {oc_mt kV_mt dc_mt pm_mt cd_mt ct_mt : Value} {od_mt an_mt : Option Addr} {sl_mt : Array (Option Value)}
    {oc_lb kV_lb dc_lb pm_lb cd_lb ct_lb : Value} {od_lb an_lb : Option Addr} {sl_lb : Array (Option Value)}
    {oc_lt kV_lt dc_lt pm_lt cd_lt ct_lt : Value} {od_lt an_lt : Option Addr} {sl_lt : Array (Option Value)}
    {oc_lr kV_lr dc_lr pm_lr cd_lr ct_lr : Value} {od_lr an_lr : Option Addr} {sl_lr : Array (Option Value)}
    {oc_la kV_la dc_la pm_la cd_la ct_la : Value} {od_la an_la : Option Addr} {sl_la : Array (Option Value)}
    {oc_lm kV_lm dc_lm pm_lm cd_lm ct_lm : Value} {od_lm an_lm : Option Addr} {sl_lm : Array (Option Value)}
    {oc_lc kV_lc dc_lc pm_lc cd_lc ct_lc : Value} {od_lc an_lc : Option Addr} {sl_lc : Array (Option Value)}
    {oc_le kV_le dc_le pm_le cd_le ct_le : Value} {od_le an_le : Option Addr} {sl_le : Array (Option Value)}
    {oc_lo kV_lo dc_lo pm_lo cd_lo ct_lo : Value} {od_lo an_lo : Option Addr} {sl_lo : Array (Option Value)}
    {oc_lw kV_lw dc_lw pm_lw cd_lw ct_lw : Value} {od_lw an_lw : Option Addr} {sl_lw : Array (Option Value)}
    {oc_ls kV_ls dc_ls pm_ls cd_ls ct_ls : Value} {od_ls an_ls : Option Addr} {sl_ls : Array (Option Value)}
    {oc_lg kV_lg dc_lg pm_lg cd_lg ct_lg : Value} {od_lg an_lg : Option Addr} {sl_lg : Array (Option Value)}
    {oc_lh kV_lh dc_lh pm_lh cd_lh ct_lh : Value} {od_lh an_lh : Option Addr} {sl_lh : Array (Option Value)}
    {oc_ln kV_ln dc_ln pm_ln cd_ln ct_ln : Value} {od_ln an_ln : Option Addr} {sl_ln : Array (Option Value)}
    {oc_ll kV_ll dc_ll pm_ll cd_ll ct_ll : Value} {od_ll an_ll : Option Addr} {sl_ll : Array (Option Value)}
    {oc_ld kV_ld dc_ld pm_ld cd_ld ct_ld : Value} {od_ld an_ld : Option Addr} {sl_ld : Array (Option Value)}
    {oc_lq kV_lq dc_lq pm_lq cd_lq ct_lq : Value} {od_lq an_lq : Option Addr} {sl_lq : Array (Option Value)}
    {oc_lv kV_lv dc_lv pm_lv cd_lv ct_lv : Value} {od_lv an_lv : Option Addr} {sl_lv : Array (Option Value)}
    {oc_lp kV_lp dc_lp pm_lp cd_lp ct_lp : Value} {od_lp an_lp : Option Addr} {sl_lp : Array (Option Value)}
    {oc_lx kV_lx dc_lx pm_lx cd_lx ct_lx : Value} {od_lx an_lx : Option Addr} {sl_lx : Array (Option Value)}
    {oc_zz kV_zz dc_zz pm_zz cd_zz ct_zz : Value} {od_zz an_zz : Option Addr} {sl_zz : Array (Option Value)}
    {t_g1 : Nat}
    {t_g2 : Nat}
    {t_g3 : Nat}
    {t_g4 : Nat}
    (xn_C : PySem.W.nsIn K mainGlobals "Council" = some (some (.ref C)))
    (xpg_C : PySem.W.plainGet K C Str.empty = true)
    (xhd_C : PySem.W.hasDictIn K C = true)
    (xpo_C : PySem.W.plainOver K C = true)
    (xsa_C : PySem.W.findIn K (.ref C) "__setattr__" = some (some (.builtin "object.__setattr__")))
    (xmk_C : PySem.W.makesIn K C = true)
    (xkc_C : PySem.W.keepIn K (.ref C) = true)
    (xna_C0 : PySem.W.findIn K (.ref C) "seat_weights" = some none)
    (xna_C1 : PySem.W.findIn K (.ref C) "column_quotas" = some none)
    (xn_R : PySem.W.nsIn K mainGlobals "Rounds" = some (some (.ref R)))
    (xpg_R : PySem.W.plainGet K R Str.empty = true)
    (xhd_R : PySem.W.hasDictIn K R = true)
    (xpo_R : PySem.W.plainOver K R = true)
    (xsa_R : PySem.W.findIn K (.ref R) "__setattr__" = some (some (.builtin "object.__setattr__")))
    (xmk_R : PySem.W.makesIn K R = true)
    (xkc_R : PySem.W.keepIn K (.ref R) = true)
    (xna_R0 : PySem.W.findIn K (.ref R) "its_rows" = some none)
    (xna_R1 : PySem.W.findIn K (.ref R) "its_councils" = some none)
    (xna_R2 : PySem.W.findIn K (.ref R) "its_bounds" = some none)
    (xna_R3 : PySem.W.findIn K (.ref R) "its_levels" = some none)
    (xna_R4 : PySem.W.findIn K (.ref R) "its_ways" = some none)
    (xa_mb : PySem.W.nsIn K mainGlobals "meets_bound" = some (some (.ref f_mb)))
    (xl_mb : K.lookup f_mb = some ⟨oc_mb, od_mb, .func (PySem.W.fnOf "meets_bound" "meets_bound" (defArgs s_meets_bound) (defBody s_meets_bound) (defScope s_meets_bound) .none kV_mb dc_mb pm_mb an_mb cd_mb ct_mb), sl_mb⟩)
    (xc_mb : PySem.W.codeIn K cd_mb "meets_bound" = true)
    (xk_mb : PySem.W.keepIn K (.ref f_mb) = true)
    (xa_me : PySem.W.nsIn K mainGlobals "meets" = some (some (.ref f_me)))
    (xl_me : K.lookup f_me = some ⟨oc_me, od_me, .func (PySem.W.fnOf "meets" "meets" (defArgs s_meets) (defBody s_meets) (defScope s_meets) .none kV_me dc_me pm_me an_me cd_me ct_me), sl_me⟩)
    (xc_me : PySem.W.codeIn K cd_me "meets" = true)
    (xk_me : PySem.W.keepIn K (.ref f_me) = true)
    (xa_ii : PySem.W.nsIn K mainGlobals "is_integer" = some (some (.ref f_ii)))
    (xl_ii : K.lookup f_ii = some ⟨oc_ii, od_ii, .func (PySem.W.fnOf "is_integer" "is_integer" (defArgs s_is_integer) (defBody s_is_integer) (defScope s_is_integer) .none kV_ii dc_ii pm_ii an_ii cd_ii ct_ii), sl_ii⟩)
    (xc_ii : PySem.W.codeIn K cd_ii "is_integer" = true)
    (xk_ii : PySem.W.keepIn K (.ref f_ii) = true)
    (xa_ib : PySem.W.nsIn K mainGlobals "is_between" = some (some (.ref f_ib)))
    (xl_ib : K.lookup f_ib = some ⟨oc_ib, od_ib, .func (PySem.W.fnOf "is_between" "is_between" (defArgs s_is_between) (defBody s_is_between) (defScope s_is_between) .none kV_ib dc_ib pm_ib an_ib cd_ib ct_ib), sl_ib⟩)
    (xc_ib : PySem.W.codeIn K cd_ib "is_between" = true)
    (xk_ib : PySem.W.keepIn K (.ref f_ib) = true)
    (xa_bo : PySem.W.nsIn K mainGlobals "bits_of" = some (some (.ref f_bo)))
    (xl_bo : K.lookup f_bo = some ⟨oc_bo, od_bo, .func (PySem.W.fnOf "bits_of" "bits_of" (defArgs s_bits_of) (defBody s_bits_of) (defScope s_bits_of) .none kV_bo dc_bo pm_bo an_bo cd_bo ct_bo), sl_bo⟩)
    (xc_bo : PySem.W.codeIn K cd_bo "bits_of" = true)
    (xk_bo : PySem.W.keepIn K (.ref f_bo) = true)
    (xa_ms : PySem.W.nsIn K mainGlobals "members" = some (some (.ref f_ms)))
    (xl_ms : K.lookup f_ms = some ⟨oc_ms, od_ms, .func (PySem.W.fnOf "members" "members" (defArgs s_members) (defBody s_members) (defScope s_members) .none kV_ms dc_ms pm_ms an_ms cd_ms ct_ms), sl_ms⟩)
    (xc_ms : PySem.W.codeIn K cd_ms "members" = true)
    (xk_ms : PySem.W.keepIn K (.ref f_ms) = true)
    (xa_aw : PySem.W.nsIn K mainGlobals "are_weights" = some (some (.ref f_aw)))
    (xl_aw : K.lookup f_aw = some ⟨oc_aw, od_aw, .func (PySem.W.fnOf "are_weights" "are_weights" (defArgs s_are_weights) (defBody s_are_weights) (defScope s_are_weights) .none kV_aw dc_aw pm_aw an_aw cd_aw ct_aw), sl_aw⟩)
    (xc_aw : PySem.W.codeIn K cd_aw "are_weights" = true)
    (xk_aw : PySem.W.keepIn K (.ref f_aw) = true)
    (xa_aq : PySem.W.nsIn K mainGlobals "are_quotas" = some (some (.ref f_aq)))
    (xl_aq : K.lookup f_aq = some ⟨oc_aq, od_aq, .func (PySem.W.fnOf "are_quotas" "are_quotas" (defArgs s_are_quotas) (defBody s_are_quotas) (defScope s_are_quotas) .none kV_aq dc_aq pm_aq an_aq cd_aq ct_aq), sl_aq⟩)
    (xc_aq : PySem.W.codeIn K cd_aq "are_quotas" = true)
    (xk_aq : PySem.W.keepIn K (.ref f_aq) = true)
    (xa_ci : PySem.W.findIn K (.ref C) "__init__" = some (some (.ref f_ci)))
    (xi_ci : PySem.W.isFn K (.ref f_ci) = true)
    (xl_ci : K.lookup f_ci = some ⟨oc_ci, od_ci, .func (PySem.W.fnOf "__init__" "Council.__init__" (defArgs s_Council_init) (defBody s_Council_init) (defScope s_Council_init) .none kV_ci dc_ci pm_ci an_ci cd_ci ct_ci), sl_ci⟩)
    (xc_ci : PySem.W.codeIn K cd_ci "Council.__init__" = true)
    (xk_ci : PySem.W.keepIn K (.ref f_ci) = true)
    (xa_cw : PySem.W.findIn K (.ref C) "weights" = some (some (.ref f_cw)))
    (xi_cw : PySem.W.isFn K (.ref f_cw) = true)
    (xl_cw : K.lookup f_cw = some ⟨oc_cw, od_cw, .func (PySem.W.fnOf "weights" "Council.weights" (defArgs s_Council_weights) (defBody s_Council_weights) (defScope s_Council_weights) .none kV_cw dc_cw pm_cw an_cw cd_cw ct_cw), sl_cw⟩)
    (xc_cw : PySem.W.codeIn K cd_cw "Council.weights" = true)
    (xk_cw : PySem.W.keepIn K (.ref f_cw) = true)
    (xa_ct : PySem.W.findIn K (.ref C) "total" = some (some (.ref f_ct)))
    (xi_ct : PySem.W.isFn K (.ref f_ct) = true)
    (xl_ct : K.lookup f_ct = some ⟨oc_ct, od_ct, .func (PySem.W.fnOf "total" "Council.total" (defArgs s_Council_total) (defBody s_Council_total) (defScope s_Council_total) .none kV_ct dc_ct pm_ct an_ct cd_ct ct_ct), sl_ct⟩)
    (xc_ct : PySem.W.codeIn K cd_ct "Council.total" = true)
    (xk_ct : PySem.W.keepIn K (.ref f_ct) = true)
    (xa_ca : PySem.W.findIn K (.ref C) "allowance" = some (some (.ref f_ca)))
    (xi_ca : PySem.W.isFn K (.ref f_ca) = true)
    (xl_ca : K.lookup f_ca = some ⟨oc_ca, od_ca, .func (PySem.W.fnOf "allowance" "Council.allowance" (defArgs s_Council_allowance) (defBody s_Council_allowance) (defScope s_Council_allowance) .none kV_ca dc_ca pm_ca an_ca cd_ca ct_ca), sl_ca⟩)
    (xc_ca : PySem.W.codeIn K cd_ca "Council.allowance" = true)
    (xk_ca : PySem.W.keepIn K (.ref f_ca) = true)
    (xa_ro : PySem.W.nsIn K mainGlobals "rooms_of" = some (some (.ref f_ro)))
    (xl_ro : K.lookup f_ro = some ⟨oc_ro, od_ro, .func (PySem.W.fnOf "rooms_of" "rooms_of" (defArgs s_rooms_of) (defBody s_rooms_of) (defScope s_rooms_of) .none kV_ro dc_ro pm_ro an_ro cd_ro ct_ro), sl_ro⟩)
    (xc_ro : PySem.W.codeIn K cd_ro "rooms_of" = true)
    (xk_ro : PySem.W.keepIn K (.ref f_ro) = true)
    (xa_go : PySem.W.nsIn K mainGlobals "greatest_only" = some (some (.ref f_go)))
    (xl_go : K.lookup f_go = some ⟨oc_go, od_go, .func (PySem.W.fnOf "greatest_only" "greatest_only" (defArgs s_greatest_only) (defBody s_greatest_only) (defScope s_greatest_only) .none kV_go dc_go pm_go an_go cd_go ct_go), sl_go⟩)
    (xc_go : PySem.W.codeIn K cd_go "greatest_only" = true)
    (xk_go : PySem.W.keepIn K (.ref f_go) = true)
    (xa_di : PySem.W.nsIn K mainGlobals "different" = some (some (.ref f_di)))
    (xl_di : K.lookup f_di = some ⟨oc_di, od_di, .func (PySem.W.fnOf "different" "different" (defArgs s_different) (defBody s_different) (defScope s_different) .none kV_di dc_di pm_di an_di cd_di ct_di), sl_di⟩)
    (xc_di : PySem.W.codeIn K cd_di "different" = true)
    (xk_di : PySem.W.keepIn K (.ref f_di) = true)
    (xa_mi : PySem.W.nsIn K mainGlobals "missed_by" = some (some (.ref f_mi)))
    (xl_mi : K.lookup f_mi = some ⟨oc_mi, od_mi, .func (PySem.W.fnOf "missed_by" "missed_by" (defArgs s_missed_by) (defBody s_missed_by) (defScope s_missed_by) .none kV_mi dc_mi pm_mi an_mi cd_mi ct_mi), sl_mi⟩)
    (xc_mi : PySem.W.codeIn K cd_mi "missed_by" = true)
    (xk_mi : PySem.W.keepIn K (.ref f_mi) = true)
    (xa_so : PySem.W.nsIn K mainGlobals "sessions_of" = some (some (.ref f_so)))
    (xl_so : K.lookup f_so = some ⟨oc_so, od_so, .func (PySem.W.fnOf "sessions_of" "sessions_of" (defArgs s_sessions_of) (defBody s_sessions_of) (defScope s_sessions_of) .none kV_so dc_so pm_so an_so cd_so ct_so), sl_so⟩)
    (xc_so : PySem.W.codeIn K cd_so "sessions_of" = true)
    (xk_so : PySem.W.keepIn K (.ref f_so) = true)
    (xa_rm : PySem.W.findIn K (.ref R) "met" = some (some (.ref f_rm)))
    (xi_rm : PySem.W.isFn K (.ref f_rm) = true)
    (xl_rm : K.lookup f_rm = some ⟨oc_rm, od_rm, .func (PySem.W.fnOf "met" "Rounds.met" (defArgs s_Rounds_met) (defBody s_Rounds_met) (defScope s_Rounds_met) .none kV_rm dc_rm pm_rm an_rm cd_rm ct_rm), sl_rm⟩)
    (xc_rm : PySem.W.codeIn K cd_rm "Rounds.met" = true)
    (xk_rm : PySem.W.keepIn K (.ref f_rm) = true)
    (xa_ri : PySem.W.findIn K (.ref R) "__init__" = some (some (.ref f_ri)))
    (xi_ri : PySem.W.isFn K (.ref f_ri) = true)
    (xl_ri : K.lookup f_ri = some ⟨oc_ri, od_ri, .func (PySem.W.fnOf "__init__" "Rounds.__init__" (defArgs s_Rounds_init) (defBody s_Rounds_init) (defScope s_Rounds_init) .none kV_ri dc_ri pm_ri an_ri cd_ri ct_ri), sl_ri⟩)
    (xc_ri : PySem.W.codeIn K cd_ri "Rounds.__init__" = true)
    (xk_ri : PySem.W.keepIn K (.ref f_ri) = true)
    (xa_ra : PySem.W.findIn K (.ref R) "advance" = some (some (.ref f_ra)))
    (xi_ra : PySem.W.isFn K (.ref f_ra) = true)
    (xl_ra : K.lookup f_ra = some ⟨oc_ra, od_ra, .func (PySem.W.fnOf "advance" "Rounds.advance" (defArgs s_Rounds_advance) (defBody s_Rounds_advance) (defScope s_Rounds_advance) .none kV_ra dc_ra pm_ra an_ra cd_ra ct_ra), sl_ra⟩)
    (xc_ra : PySem.W.codeIn K cd_ra "Rounds.advance" = true)
    (xk_ra : PySem.W.keepIn K (.ref f_ra) = true)
    (xa_rs : PySem.W.findIn K (.ref R) "sets" = some (some (.ref f_rs)))
    (xi_rs : PySem.W.isFn K (.ref f_rs) = true)
    (xl_rs : K.lookup f_rs = some ⟨oc_rs, od_rs, .func (PySem.W.fnOf "sets" "Rounds.sets" (defArgs s_Rounds_sets) (defBody s_Rounds_sets) (defScope s_Rounds_sets) .none kV_rs dc_rs pm_rs an_rs cd_rs ct_rs), sl_rs⟩)
    (xc_rs : PySem.W.codeIn K cd_rs "Rounds.sets" = true)
    (xk_rs : PySem.W.keepIn K (.ref f_rs) = true)
    (xa_mt : PySem.W.nsIn K mainGlobals "met_sets" = some (some (.ref f_mt)))
    (xl_mt : K.lookup f_mt = some ⟨oc_mt, od_mt, .func (PySem.W.fnOf "met_sets" "met_sets" (defArgs s_met_sets) (defBody s_met_sets) (defScope s_met_sets) .none kV_mt dc_mt pm_mt an_mt cd_mt ct_mt), sl_mt⟩)
    (xc_mt : PySem.W.codeIn K cd_mt "met_sets" = true)
    (xk_mt : PySem.W.keepIn K (.ref f_mt) = true)
    (xa_lb : PySem.W.nsIn K mainGlobals "_law_bag" = some (some (.ref f_lb)))
    (xl_lb : K.lookup f_lb = some ⟨oc_lb, od_lb, .func (PySem.W.fnOf "_law_bag" "_law_bag" (defArgs s_law_bag) (defBody s_law_bag) (defScope s_law_bag) .none kV_lb dc_lb pm_lb an_lb cd_lb ct_lb), sl_lb⟩)
    (xc_lb : PySem.W.codeIn K cd_lb "_law_bag" = true)
    (xk_lb : PySem.W.keepIn K (.ref f_lb) = true)
    (xa_lt : PySem.W.nsIn K mainGlobals "_law_take" = some (some (.ref f_lt)))
    (xl_lt : K.lookup f_lt = some ⟨oc_lt, od_lt, .func (PySem.W.fnOf "_law_take" "_law_take" (defArgs s_law_take) (defBody s_law_take) (defScope s_law_take) .none kV_lt dc_lt pm_lt an_lt cd_lt ct_lt), sl_lt⟩)
    (xc_lt : PySem.W.codeIn K cd_lt "_law_take" = true)
    (xk_lt : PySem.W.keepIn K (.ref f_lt) = true)
    (xa_lr : PySem.W.nsIn K mainGlobals "_law_row" = some (some (.ref f_lr)))
    (xl_lr : K.lookup f_lr = some ⟨oc_lr, od_lr, .func (PySem.W.fnOf "_law_row" "_law_row" (defArgs s_law_row) (defBody s_law_row) (defScope s_law_row) .none kV_lr dc_lr pm_lr an_lr cd_lr ct_lr), sl_lr⟩)
    (xc_lr : PySem.W.codeIn K cd_lr "_law_row" = true)
    (xk_lr : PySem.W.keepIn K (.ref f_lr) = true)
    (xa_la : PySem.W.nsIn K mainGlobals "_law_alike" = some (some (.ref f_la)))
    (xl_la : K.lookup f_la = some ⟨oc_la, od_la, .func (PySem.W.fnOf "_law_alike" "_law_alike" (defArgs s_law_alike) (defBody s_law_alike) (defScope s_law_alike) .none kV_la dc_la pm_la an_la cd_la ct_la), sl_la⟩)
    (xc_la : PySem.W.codeIn K cd_la "_law_alike" = true)
    (xk_la : PySem.W.keepIn K (.ref f_la) = true)
    (xa_lm : PySem.W.nsIn K mainGlobals "_law_made" = some (some (.ref f_lm)))
    (xl_lm : K.lookup f_lm = some ⟨oc_lm, od_lm, .func (PySem.W.fnOf "_law_made" "_law_made" (defArgs s_law_made) (defBody s_law_made) (defScope s_law_made) .none kV_lm dc_lm pm_lm an_lm cd_lm ct_lm), sl_lm⟩)
    (xc_lm : PySem.W.codeIn K cd_lm "_law_made" = true)
    (xk_lm : PySem.W.keepIn K (.ref f_lm) = true)
    (xa_lc : PySem.W.nsIn K mainGlobals "_law_council" = some (some (.ref f_lc)))
    (xl_lc : K.lookup f_lc = some ⟨oc_lc, od_lc, .func (PySem.W.fnOf "_law_council" "_law_council" (defArgs s_law_council) (defBody s_law_council) (defScope s_law_council) .none kV_lc dc_lc pm_lc an_lc cd_lc ct_lc), sl_lc⟩)
    (xc_lc : PySem.W.codeIn K cd_lc "_law_council" = true)
    (xk_lc : PySem.W.keepIn K (.ref f_lc) = true)
    (xa_le : PySem.W.nsIn K mainGlobals "_law_meets" = some (some (.ref f_le)))
    (xl_le : K.lookup f_le = some ⟨oc_le, od_le, .func (PySem.W.fnOf "_law_meets" "_law_meets" (defArgs s_law_meets) (defBody s_law_meets) (defScope s_law_meets) .none kV_le dc_le pm_le an_le cd_le ct_le), sl_le⟩)
    (xc_le : PySem.W.codeIn K cd_le "_law_meets" = true)
    (xk_le : PySem.W.keepIn K (.ref f_le) = true)
    (xa_lo : PySem.W.nsIn K mainGlobals "_law_rooms" = some (some (.ref f_lo)))
    (xl_lo : K.lookup f_lo = some ⟨oc_lo, od_lo, .func (PySem.W.fnOf "_law_rooms" "_law_rooms" (defArgs s_law_rooms) (defBody s_law_rooms) (defScope s_law_rooms) .none kV_lo dc_lo pm_lo an_lo cd_lo ct_lo), sl_lo⟩)
    (xc_lo : PySem.W.codeIn K cd_lo "_law_rooms" = true)
    (xk_lo : PySem.W.keepIn K (.ref f_lo) = true)
    (xa_lw : PySem.W.nsIn K mainGlobals "_law_within" = some (some (.ref f_lw)))
    (xl_lw : K.lookup f_lw = some ⟨oc_lw, od_lw, .func (PySem.W.fnOf "_law_within" "_law_within" (defArgs s_law_within) (defBody s_law_within) (defScope s_law_within) .none kV_lw dc_lw pm_lw an_lw cd_lw ct_lw), sl_lw⟩)
    (xc_lw : PySem.W.codeIn K cd_lw "_law_within" = true)
    (xk_lw : PySem.W.keepIn K (.ref f_lw) = true)
    (xa_ls : PySem.W.nsIn K mainGlobals "_law_seatings" = some (some (.ref f_ls)))
    (xl_ls : K.lookup f_ls = some ⟨oc_ls, od_ls, .func (PySem.W.fnOf "_law_seatings" "_law_seatings" (defArgs s_law_seatings) (defBody s_law_seatings) (defScope s_law_seatings) .none kV_ls dc_ls pm_ls an_ls cd_ls ct_ls), sl_ls⟩)
    (xc_ls : PySem.W.codeIn K cd_ls "_law_seatings" = true)
    (xk_ls : PySem.W.keepIn K (.ref f_ls) = true)
    (xa_lg : PySem.W.nsIn K mainGlobals "_law_greatest" = some (some (.ref f_lg)))
    (xl_lg : K.lookup f_lg = some ⟨oc_lg, od_lg, .func (PySem.W.fnOf "_law_greatest" "_law_greatest" (defArgs s_law_greatest) (defBody s_law_greatest) (defScope s_law_greatest) .none kV_lg dc_lg pm_lg an_lg cd_lg ct_lg), sl_lg⟩)
    (xc_lg : PySem.W.codeIn K cd_lg "_law_greatest" = true)
    (xk_lg : PySem.W.keepIn K (.ref f_lg) = true)
    (xa_lh : PySem.W.nsIn K mainGlobals "_law_met" = some (some (.ref f_lh)))
    (xl_lh : K.lookup f_lh = some ⟨oc_lh, od_lh, .func (PySem.W.fnOf "_law_met" "_law_met" (defArgs s_law_met) (defBody s_law_met) (defScope s_law_met) .none kV_lh dc_lh pm_lh an_lh cd_lh ct_lh), sl_lh⟩)
    (xc_lh : PySem.W.codeIn K cd_lh "_law_met" = true)
    (xk_lh : PySem.W.keepIn K (.ref f_lh) = true)
    (xa_ln : PySem.W.nsIn K mainGlobals "_law_next_sets" = some (some (.ref f_ln)))
    (xl_ln : K.lookup f_ln = some ⟨oc_ln, od_ln, .func (PySem.W.fnOf "_law_next_sets" "_law_next_sets" (defArgs s_law_next_sets) (defBody s_law_next_sets) (defScope s_law_next_sets) .none kV_ln dc_ln pm_ln an_ln cd_ln ct_ln), sl_ln⟩)
    (xc_ln : PySem.W.codeIn K cd_ln "_law_next_sets" = true)
    (xk_ln : PySem.W.keepIn K (.ref f_ln) = true)
    (xa_ll : PySem.W.nsIn K mainGlobals "_law_set_levels" = some (some (.ref f_ll)))
    (xl_ll : K.lookup f_ll = some ⟨oc_ll, od_ll, .func (PySem.W.fnOf "_law_set_levels" "_law_set_levels" (defArgs s_law_set_levels) (defBody s_law_set_levels) (defScope s_law_set_levels) .none kV_ll dc_ll pm_ll an_ll cd_ll ct_ll), sl_ll⟩)
    (xc_ll : PySem.W.codeIn K cd_ll "_law_set_levels" = true)
    (xk_ll : PySem.W.keepIn K (.ref f_ll) = true)
    (xa_ld : PySem.W.nsIn K mainGlobals "_law_sides" = some (some (.ref f_ld)))
    (xl_ld : K.lookup f_ld = some ⟨oc_ld, od_ld, .func (PySem.W.fnOf "_law_sides" "_law_sides" (defArgs s_law_sides) (defBody s_law_sides) (defScope s_law_sides) .none kV_ld dc_ld pm_ld an_ld cd_ld ct_ld), sl_ld⟩)
    (xc_ld : PySem.W.codeIn K cd_ld "_law_sides" = true)
    (xk_ld : PySem.W.keepIn K (.ref f_ld) = true)
    (xa_lq : PySem.W.nsIn K mainGlobals "_law_great_rows" = some (some (.ref f_lq)))
    (xl_lq : K.lookup f_lq = some ⟨oc_lq, od_lq, .func (PySem.W.fnOf "_law_great_rows" "_law_great_rows" (defArgs s_law_great_rows) (defBody s_law_great_rows) (defScope s_law_great_rows) .none kV_lq dc_lq pm_lq an_lq cd_lq ct_lq), sl_lq⟩)
    (xc_lq : PySem.W.codeIn K cd_lq "_law_great_rows" = true)
    (xk_lq : PySem.W.keepIn K (.ref f_lq) = true)
    (xa_lv : PySem.W.nsIn K mainGlobals "_law_small_wish" = some (some (.ref f_lv)))
    (xl_lv : K.lookup f_lv = some ⟨oc_lv, od_lv, .func (PySem.W.fnOf "_law_small_wish" "_law_small_wish" (defArgs s_law_small_wish) (defBody s_law_small_wish) (defScope s_law_small_wish) .none kV_lv dc_lv pm_lv an_lv cd_lv ct_lv), sl_lv⟩)
    (xc_lv : PySem.W.codeIn K cd_lv "_law_small_wish" = true)
    (xk_lv : PySem.W.keepIn K (.ref f_lv) = true)
    (xa_lp : PySem.W.nsIn K mainGlobals "_law_plans" = some (some (.ref f_lp)))
    (xl_lp : K.lookup f_lp = some ⟨oc_lp, od_lp, .func (PySem.W.fnOf "_law_plans" "_law_plans" (defArgs s_law_plans) (defBody s_law_plans) (defScope s_law_plans) .none kV_lp dc_lp pm_lp an_lp cd_lp ct_lp), sl_lp⟩)
    (xc_lp : PySem.W.codeIn K cd_lp "_law_plans" = true)
    (xk_lp : PySem.W.keepIn K (.ref f_lp) = true)
    (xa_lx : PySem.W.nsIn K mainGlobals "_law_right" = some (some (.ref f_lx)))
    (xl_lx : K.lookup f_lx = some ⟨oc_lx, od_lx, .func (PySem.W.fnOf "_law_right" "_law_right" (defArgs s_law_right) (defBody s_law_right) (defScope s_law_right) .none kV_lx dc_lx pm_lx an_lx cd_lx ct_lx), sl_lx⟩)
    (xc_lx : PySem.W.codeIn K cd_lx "_law_right" = true)
    (xk_lx : PySem.W.keepIn K (.ref f_lx) = true)
    (xa_zz : PySem.W.nsIn K mainGlobals "law" = some (some (.ref f_zz)))
    (xl_zz : K.lookup f_zz = some ⟨oc_zz, od_zz, .func (PySem.W.fnOf "law" "law" (defArgs s_law) (defBody s_law) (defScope s_law) .none kV_zz dc_zz pm_zz an_zz cd_zz ct_zz), sl_zz⟩)
    (xc_zz : PySem.W.codeIn K cd_zz "law" = true)
    (xk_zz : PySem.W.keepIn K (.ref f_zz) = true)
    (xh_g1 : PySem.W.nsIn K mainGlobals "LEAST_SEATS" = some (some (.int 2 t_g1)))
    (xh_g2 : PySem.W.nsIn K mainGlobals "MOST_SEATS" = some (some (.int 7 t_g2)))
    (xh_g3 : PySem.W.nsIn K mainGlobals "MOST_WEIGHT" = some (some (.int 1000000 t_g3)))
    (xh_g4 : PySem.W.nsIn K mainGlobals "MOST_COLUMNS" = some (some (.int 6 t_g4)))
    (xb_all : PySem.W.nsIn K mainGlobals "all" = some none)
    (xb_any : PySem.W.nsIn K mainGlobals "any" = some none)
    (xb_range : PySem.W.nsIn K mainGlobals "range" = some none)
    (xb_len : PySem.W.nsIn K mainGlobals "len" = some none)
    (xb_zip : PySem.W.nsIn K mainGlobals "zip" = some none)
    (xb_sum : PySem.W.nsIn K mainGlobals "sum" = some none)
    (xb_list : PySem.W.nsIn K mainGlobals "list" = some none)
    (xb_tuple : PySem.W.nsIn K mainGlobals "tuple" = some none)
    (xb_sorted : PySem.W.nsIn K mainGlobals "sorted" = some none)
    (xb_int : PySem.W.nsIn K mainGlobals "int" = some none)
    (xb_isinstance : PySem.W.nsIn K mainGlobals "isinstance" = some none)
    (xb_bool : PySem.W.nsIn K mainGlobals "bool" = some none)
    (xb_abs : PySem.W.nsIn K mainGlobals "abs" = some none)
    (xb_max : PySem.W.nsIn K mainGlobals "max" = some none)
    (xb_min : PySem.W.nsIn K mainGlobals "min" = some none)
    (xb_repr : PySem.W.nsIn K mainGlobals "repr" = some none)
    (xb_enumerate : PySem.W.nsIn K mainGlobals "enumerate" = some none)
    (xb_set : PySem.W.nsIn K mainGlobals "set" = some none)
    : ∃ fd : FuncData, (∀ (s : Shared) (v : Value), BindsTo s fd ⟨[v], []⟩ [("script", v)]) ∧ ∀ base : Heap, K.In base → base.Ns mainGlobals mg → FnG l.prog w K mg base 8 fa fd ["script"] (spM K (pr_law K)) := by
  have e := hfa.symm.trans (PySem.W.mg_of X G xa_zz)
  cases e
  have B : BN mg := by
    intro y hy
    simp only [bnames, List.mem_cons, List.not_mem_nil, or_false] at hy
    rcases hy with rfl | rfl | rfl | rfl | rfl | rfl | rfl | rfl | rfl | rfl | rfl | rfl | rfl | rfl | rfl | rfl | rfl | rfl
    · exact PySem.W.mg_none_of X G xb_all
    · exact PySem.W.mg_none_of X G xb_any
    · exact PySem.W.mg_none_of X G xb_range
    · exact PySem.W.mg_none_of X G xb_len
    · exact PySem.W.mg_none_of X G xb_zip
    · exact PySem.W.mg_none_of X G xb_sum
    · exact PySem.W.mg_none_of X G xb_list
    · exact PySem.W.mg_none_of X G xb_tuple
    · exact PySem.W.mg_none_of X G xb_sorted
    · exact PySem.W.mg_none_of X G xb_int
    · exact PySem.W.mg_none_of X G xb_isinstance
    · exact PySem.W.mg_none_of X G xb_bool
    · exact PySem.W.mg_none_of X G xb_abs
    · exact PySem.W.mg_none_of X G xb_max
    · exact PySem.W.mg_none_of X G xb_min
    · exact PySem.W.mg_none_of X G xb_repr
    · exact PySem.W.mg_none_of X G xb_enumerate
    · exact PySem.W.mg_none_of X G xb_set
  have g1 : GI mg "LEAST_SEATS" 2 := ⟨_, PySem.W.mg_of X G xh_g1, _, rfl⟩
  have g2 : GI mg "MOST_SEATS" 7 := ⟨_, PySem.W.mg_of X G xh_g2, _, rfl⟩
  have g3 : GI mg "MOST_WEIGHT" 1000000 := ⟨_, PySem.W.mg_of X G xh_g3, _, rfl⟩
  have g4 : GI mg "MOST_COLUMNS" 6 := ⟨_, PySem.W.mg_of X G xh_g4, _, rfl⟩
  have KC : Cls K C := ⟨xpg_C, xhd_C, xpo_C, xsa_C⟩
  have TC : CF K C := ⟨KC, xna_C0, xna_C1⟩
  have KR : Cls K R := ⟨xpg_R, xhd_R, xpo_R, xsa_R⟩
  have TR : RF K R := ⟨KR, xna_R0, xna_R1, xna_R2, xna_R3, xna_R4⟩
  have F_mb := fun_mk (st := s_meets_bound) xl_mb xc_mb xk_mb
  have b_mb := F_mb.binds (ps := ["row", "bound"]) fun _ _ _ _ _ _ us hl => match us, hl with | [_, _], _ => rfl
  have F_me := fun_mk (st := s_meets) xl_me xc_me xk_me
  have b_me := F_me.binds (ps := ["row", "wish"]) fun _ _ _ _ _ _ us hl => match us, hl with | [_, _], _ => rfl
  have F_ii := fun_mk (st := s_is_integer) xl_ii xc_ii xk_ii
  have b_ii := F_ii.binds (ps := ["thing"]) fun _ _ _ _ _ _ us hl => match us, hl with | [_], _ => rfl
  have F_ib := fun_mk (st := s_is_between) xl_ib xc_ib xk_ib
  have b_ib := F_ib.binds (ps := ["thing", "least", "greatest"]) fun _ _ _ _ _ _ us hl => match us, hl with | [_, _, _], _ => rfl
  have F_bo := fun_mk (st := s_bits_of) xl_bo xc_bo xk_bo
  have b_bo := F_bo.binds (ps := ["many"]) fun _ _ _ _ _ _ us hl => match us, hl with | [_], _ => rfl
  have F_ms := fun_mk (st := s_members) xl_ms xc_ms xk_ms
  have b_ms := F_ms.binds (ps := ["items", "mask"]) fun _ _ _ _ _ _ us hl => match us, hl with | [_, _], _ => rfl
  have F_aw := fun_mk (st := s_are_weights) xl_aw xc_aw xk_aw
  have b_aw := F_aw.binds (ps := ["thing"]) fun _ _ _ _ _ _ us hl => match us, hl with | [_], _ => rfl
  have F_aq := fun_mk (st := s_are_quotas) xl_aq xc_aq xk_aq
  have b_aq := F_aq.binds (ps := ["thing", "total"]) fun _ _ _ _ _ _ us hl => match us, hl with | [_, _], _ => rfl
  have F_ci := fun_mk (st := s_Council_init) xl_ci xc_ci xk_ci
  have b_ci := F_ci.binds (ps := ["self", "weights", "quotas"]) fun _ _ _ _ _ _ us hl => match us, hl with | [_, _, _], _ => rfl
  have F_cw := fun_mk (st := s_Council_weights) xl_cw xc_cw xk_cw
  have b_cw := F_cw.binds (ps := ["self"]) fun _ _ _ _ _ _ us hl => match us, hl with | [_], _ => rfl
  have F_ct := fun_mk (st := s_Council_total) xl_ct xc_ct xk_ct
  have b_ct := F_ct.binds (ps := ["self"]) fun _ _ _ _ _ _ us hl => match us, hl with | [_], _ => rfl
  have F_ca := fun_mk (st := s_Council_allowance) xl_ca xc_ca xk_ca
  have b_ca := F_ca.binds (ps := ["self", "side"]) fun _ _ _ _ _ _ us hl => match us, hl with | [_, _], _ => rfl
  have F_ro := fun_mk (st := s_rooms_of) xl_ro xc_ro xk_ro
  have b_ro := F_ro.binds (ps := ["council", "sides"]) fun _ _ _ _ _ _ us hl => match us, hl with | [_, _], _ => rfl
  have F_go := fun_mk (st := s_greatest_only) xl_go xc_go xk_go
  have b_go := F_go.binds (ps := ["masks"]) fun _ _ _ _ _ _ us hl => match us, hl with | [_], _ => rfl
  have F_di := fun_mk (st := s_different) xl_di xc_di xk_di
  have b_di := F_di.binds (ps := ["masks"]) fun _ _ _ _ _ _ us hl => match us, hl with | [_], _ => rfl
  have F_mi := fun_mk (st := s_missed_by) xl_mi xc_mi xk_mi
  have b_mi := F_mi.binds (ps := ["mask", "missed", "weight", "bits"]) fun _ _ _ _ _ _ us hl => match us, hl with | [_, _, _, _], _ => rfl
  have F_so := fun_mk (st := s_sessions_of) xl_so xc_so xk_so
  have b_so := F_so.binds (ps := ["council", "level", "bounds"]) fun _ _ _ _ _ _ us hl => match us, hl with | [_, _, _], _ => rfl
  have F_rm := fun_mk (st := s_Rounds_met) xl_rm xc_rm xk_rm
  have b_rm := F_rm.binds (ps := ["self", "row"]) fun _ _ _ _ _ _ us hl => match us, hl with | [_, _], _ => rfl
  have F_ri := fun_mk (st := s_Rounds_init) xl_ri xc_ri xk_ri
  have b_ri := F_ri.binds (ps := ["self", "rows", "councils", "wish"]) fun _ _ _ _ _ _ us hl => match us, hl with | [_, _, _, _], _ => rfl
  have F_ra := fun_mk (st := s_Rounds_advance) xl_ra xc_ra xk_ra
  have b_ra := F_ra.binds (ps := ["self"]) fun _ _ _ _ _ _ us hl => match us, hl with | [_], _ => rfl
  have F_rs := fun_mk (st := s_Rounds_sets) xl_rs xc_rs xk_rs
  have b_rs := F_rs.binds (ps := ["self", "level"]) fun _ _ _ _ _ _ us hl => match us, hl with | [_, _], _ => rfl
  have F_mt := fun_mk (st := s_met_sets) xl_mt xc_mt xk_mt
  have b_mt := F_mt.binds (ps := ["rows", "councils", "wish"]) fun _ _ _ _ _ _ us hl => match us, hl with | [_, _, _], _ => rfl
  have F_lb := fun_mk (st := s_law_bag) xl_lb xc_lb xk_lb
  have b_lb := F_lb.binds (ps := ["script"]) fun _ _ _ _ _ _ us hl => match us, hl with | [_], _ => rfl
  have F_lt := fun_mk (st := s_law_take) xl_lt xc_lt xk_lt
  have b_lt := F_lt.binds (ps := ["bag", "many"]) fun _ _ _ _ _ _ us hl => match us, hl with | [_, _], _ => rfl
  have F_lr := fun_mk (st := s_law_row) xl_lr xc_lr xk_lr
  have b_lr := F_lr.binds (ps := ["bag", "width", "top"]) fun _ _ _ _ _ _ us hl => match us, hl with | [_, _, _], _ => rfl
  have F_la := fun_mk (st := s_law_alike) xl_la xc_la xk_la
  have b_la := F_la.binds (ps := ["found", "due"]) fun _ _ _ _ _ _ us hl => match us, hl with | [_, _], _ => rfl
  have F_lm := fun_mk (st := s_law_made) xl_lm xc_lm xk_lm
  have b_lm := F_lm.binds (ps := ["parts"]) fun _ _ _ _ _ _ us hl => match us, hl with | [_], _ => rfl
  have F_lc := fun_mk (st := s_law_council) xl_lc xc_lc xk_lc
  have b_lc := F_lc.binds (ps := ["bag", "width", "most"]) fun _ _ _ _ _ _ us hl => match us, hl with | [_, _, _], _ => rfl
  have F_le := fun_mk (st := s_law_meets) xl_le xc_le xk_le
  have b_le := F_le.binds (ps := ["row", "wish"]) fun _ _ _ _ _ _ us hl => match us, hl with | [_, _], _ => rfl
  have F_lo := fun_mk (st := s_law_rooms) xl_lo xc_lo xk_lo
  have b_lo := F_lo.binds (ps := ["parts", "sides"]) fun _ _ _ _ _ _ us hl => match us, hl with | [_, _], _ => rfl
  have F_lw := fun_mk (st := s_law_within) xl_lw xc_lw xk_lw
  have b_lw := F_lw.binds (ps := ["some", "other"]) fun _ _ _ _ _ _ us hl => match us, hl with | [_, _], _ => rfl
  have F_ls := fun_mk (st := s_law_seatings) xl_ls xc_ls xk_ls
  have b_ls := F_ls.binds (ps := ["rows", "many"]) fun _ _ _ _ _ _ us hl => match us, hl with | [_, _], _ => rfl
  have F_lg := fun_mk (st := s_law_greatest) xl_lg xc_lg xk_lg
  have b_lg := F_lg.binds (ps := ["sets"]) fun _ _ _ _ _ _ us hl => match us, hl with | [_], _ => rfl
  have F_lh := fun_mk (st := s_law_met) xl_lh xc_lh xk_lh
  have b_lh := F_lh.binds (ps := ["rows", "wish"]) fun _ _ _ _ _ _ us hl => match us, hl with | [_, _], _ => rfl
  have F_ln := fun_mk (st := s_law_next_sets) xl_ln xc_ln xk_ln
  have b_ln := F_ln.binds (ps := ["plans", "wish", "level"]) fun _ _ _ _ _ _ us hl => match us, hl with | [_, _, _], _ => rfl
  have F_ll := fun_mk (st := s_law_set_levels) xl_ll xc_ll xk_ll
  have b_ll := F_ll.binds (ps := ["plans", "rows", "wish"]) fun _ _ _ _ _ _ us hl => match us, hl with | [_, _, _], _ => rfl
  have F_ld := fun_mk (st := s_law_sides) xl_ld xc_ld xk_ld
  have b_ld := F_ld.binds (ps := ["bag", "width", "most"]) fun _ _ _ _ _ _ us hl => match us, hl with | [_, _, _], _ => rfl
  have F_lq := fun_mk (st := s_law_great_rows) xl_lq xc_lq xk_lq
  have b_lq := F_lq.binds (ps := ["bag", "width", "many"]) fun _ _ _ _ _ _ us hl => match us, hl with | [_, _, _], _ => rfl
  have F_lv := fun_mk (st := s_law_small_wish) xl_lv xc_lv xk_lv
  have b_lv := F_lv.binds (ps := ["bag", "rows", "width", "most"]) fun _ _ _ _ _ _ us hl => match us, hl with | [_, _, _, _], _ => rfl
  have F_lp := fun_mk (st := s_law_plans) xl_lp xc_lp xk_lp
  have b_lp := F_lp.binds (ps := ["bag", "width"]) fun _ _ _ _ _ _ us hl => match us, hl with | [_, _], _ => rfl
  have F_lx := fun_mk (st := s_law_right) xl_lx xc_lx xk_lx
  have b_lx := F_lx.binds (ps := ["councils", "plans", "rows", "wish"]) fun _ _ _ _ _ _ us hl => match us, hl with | [_, _, _, _], _ => rfl
  have F_zz := fun_mk (st := s_law) xl_zz xc_zz xk_zz
  refine ⟨PySem.W.fnOf "law" "law" (defArgs s_law) (defBody s_law) (defScope s_law) .none kV_zz dc_zz pm_zz an_zz cd_zz ct_zz, fun s v => .of_eq rfl, fun base _ _ => ?_⟩
  have c_mb := C8.Cal.mk ⟨_, _, ["row", "bound"], [], ok_meets_bound (P := l.prog) (w := w) (mg := mg) (base := base) F_mb , PySem.W.mg_of X G xa_mb, xk_mb, b_mb, .nil⟩
  have c_me := C8.Cal.mk ⟨_, _, ["row", "wish"], [], ok_meets (P := l.prog) (w := w) (mg := mg) (base := base) F_me B c_mb, PySem.W.mg_of X G xa_me, xk_me, b_me, .nil⟩
  have c_ii := C8.Cal.mk ⟨_, _, ["thing"], [], ok_is_integer (P := l.prog) (w := w) (mg := mg) (base := base) F_ii B, PySem.W.mg_of X G xa_ii, xk_ii, b_ii, .nil⟩
  have c_ib := C8.Cal.mk ⟨_, _, ["thing", "least", "greatest"], [], ok_is_between (P := l.prog) (w := w) (mg := mg) (base := base) F_ib c_ii, PySem.W.mg_of X G xa_ib, xk_ib, b_ib, .nil⟩
  have c_bo := C8.Cal.mk ⟨_, _, ["many"], [], ok_bits_of (P := l.prog) (w := w) (mg := mg) (base := base) F_bo B, PySem.W.mg_of X G xa_bo, xk_bo, b_bo, .nil⟩
  have c_ms := C8.Cal.mk ⟨_, _, ["items", "mask"], [], ok_members (P := l.prog) (w := w) (mg := mg) (base := base) F_ms B c_bo, PySem.W.mg_of X G xa_ms, xk_ms, b_ms, .nil⟩
  have c_aw := C8.Cal.mk ⟨_, _, ["thing"], [], ok_are_weights (P := l.prog) (w := w) (mg := mg) (base := base) F_aw B g1 g2 g3 c_ib, PySem.W.mg_of X G xa_aw, xk_aw, b_aw, .nil⟩
  have c_aq := C8.Cal.mk ⟨_, _, ["thing", "total"], [], ok_are_quotas (P := l.prog) (w := w) (mg := mg) (base := base) F_aq B g4 c_ib, PySem.W.mg_of X G xa_aq, xk_aq, b_aq, .nil⟩
  have c_ci := C8.Mak.mk ⟨_, _, ["self", "weights", "quotas"], [], ⟨xmk_C, xa_ci, xi_ci, xkc_C⟩, ok_cinit (P := l.prog) (w := w) (mg := mg) (base := base) F_ci B TC c_aw c_aq, PySem.W.mg_of X G xn_C, b_ci, .nil⟩
  have c_cw := C8.Met.mk ⟨_, _, ["self"], [], KC, ⟨xa_cw, xi_cw, xk_cw⟩, ok_cweights (P := l.prog) (w := w) (mg := mg) (base := base) F_cw B TC, b_cw, .nil⟩
  have c_ct := C8.Met.mk ⟨_, _, ["self"], [], KC, ⟨xa_ct, xi_ct, xk_ct⟩, ok_ctotal (P := l.prog) (w := w) (mg := mg) (base := base) F_ct B TC, b_ct, .nil⟩
  have c_ca := C8.Met.mk ⟨_, _, ["self", "side"], [], KC, ⟨xa_ca, xi_ca, xk_ca⟩, ok_callow (P := l.prog) (w := w) (mg := mg) (base := base) F_ca TC c_ct, b_ca, .nil⟩
  have c_ro := C8.Cal.mk ⟨_, _, ["council", "sides"], [], ok_rooms_of (P := l.prog) (w := w) (mg := mg) (base := base) F_ro TC c_ca, PySem.W.mg_of X G xa_ro, xk_ro, b_ro, .nil⟩
  have c_go := C8.Cal.mk ⟨_, _, ["masks"], [], ok_greatest_only (P := l.prog) (w := w) (mg := mg) (base := base) F_go B, PySem.W.mg_of X G xa_go, xk_go, b_go, .nil⟩
  have c_di := C8.Cal.mk ⟨_, _, ["masks"], [], ok_different (P := l.prog) (w := w) (mg := mg) (base := base) F_di B, PySem.W.mg_of X G xa_di, xk_di, b_di, .nil⟩
  have c_mi := C8.Cal.mk ⟨_, _, ["mask", "missed", "weight", "bits"], [], ok_missed_by (P := l.prog) (w := w) (mg := mg) (base := base) F_mi B, PySem.W.mg_of X G xa_mi, xk_mi, b_mi, .nil⟩
  have c_so := C8.Cal.mk ⟨_, _, ["council", "level", "bounds"], [], ok_sess (P := l.prog) (w := w) (mg := mg) (base := base) F_so B c_bo c_ro c_mi c_cw, PySem.W.mg_of X G xa_so, xk_so, b_so, .nil⟩
  have c_rm := C8.Met.mk ⟨_, _, ["self", "row"], [], KR, ⟨xa_rm, xi_rm, xk_rm⟩, ok_rmet (P := l.prog) (w := w) (mg := mg) (base := base) F_rm B TR c_bo c_me, b_rm, .nil⟩
  have c_ri := C8.Mak.mk ⟨_, _, ["self", "rows", "councils", "wish"], [], ⟨xmk_R, xa_ri, xi_ri, xkc_R⟩, ok_rinit (P := l.prog) (w := w) (mg := mg) (base := base) F_ri B TR c_go c_di c_rm, PySem.W.mg_of X G xn_R, b_ri, .nil⟩
  have c_ra := C8.Met.mk ⟨_, _, ["self"], [], KR, ⟨xa_ra, xi_ra, xk_ra⟩, ok_radv (P := l.prog) (w := w) (mg := mg) (base := base) F_ra B TR c_go c_di c_so, b_ra, .nil⟩
  have c_rs := C8.Met.mk ⟨_, _, ["self", "level"], [], KR, ⟨xa_rs, xi_rs, xk_rs⟩, ok_rsets (P := l.prog) (w := w) (mg := mg) (base := base) F_rs B TR c_ms, b_rs, .nil⟩
  have c_mt := C8.Cal.mk ⟨_, _, ["rows", "councils", "wish"], [], ok_met_sets (P := l.prog) (w := w) (mg := mg) (base := base) F_mt B TR c_ri c_ra c_rs, PySem.W.mg_of X G xa_mt, xk_mt, b_mt, .nil⟩
  have c_lb := C8.Cal.mk ⟨_, _, ["script"], [], ok_bag (P := l.prog) (w := w) (mg := mg) (base := base) F_lb B, PySem.W.mg_of X G xa_lb, xk_lb, b_lb, .nil⟩
  have c_lt := C8.Cal.mk ⟨_, _, ["bag", "many"], [], ok_take (P := l.prog) (w := w) (mg := mg) (base := base) F_lt B, PySem.W.mg_of X G xa_lt, xk_lt, b_lt, .nil⟩
  have c_lr := C8.Cal.mk ⟨_, _, ["bag", "width", "top"], [], ok_row (P := l.prog) (w := w) (mg := mg) (base := base) F_lr B c_lt, PySem.W.mg_of X G xa_lr, xk_lr, b_lr, .nil⟩
  have c_la := CalG.mk ⟨_, _, ["found", "due"], ok_alike (P := l.prog) (w := w) (mg := mg) (base := base) F_la B, PySem.W.mg_of X G xa_la, xk_la, b_la⟩
  have c_lm := C8.Cal.mk ⟨_, _, ["parts"], [], ok_made (P := l.prog) (w := w) (mg := mg) (base := base) F_lm B c_ci, PySem.W.mg_of X G xa_lm, xk_lm, b_lm, .nil⟩
  have c_lc := C8.Cal.mk ⟨_, _, ["bag", "width", "most"], [], ok_council (P := l.prog) (w := w) (mg := mg) (base := base) F_lc B c_lt, PySem.W.mg_of X G xa_lc, xk_lc, b_lc, .nil⟩
  have c_le := C8.Cal.mk ⟨_, _, ["row", "wish"], [], ok_lmeets (P := l.prog) (w := w) (mg := mg) (base := base) F_le , PySem.W.mg_of X G xa_le, xk_le, b_le, .nil⟩
  have c_lo := C8.Cal.mk ⟨_, _, ["parts", "sides"], [], ok_lrooms (P := l.prog) (w := w) (mg := mg) (base := base) F_lo B, PySem.W.mg_of X G xa_lo, xk_lo, b_lo, .nil⟩
  have c_lw := C8.Cal.mk ⟨_, _, ["some", "other"], [], ok_lwithin (P := l.prog) (w := w) (mg := mg) (base := base) F_lw B, PySem.W.mg_of X G xa_lw, xk_lw, b_lw, .nil⟩
  have c_ls := C8.Cal.mk ⟨_, _, ["rows", "many"], [], ok_lseat (P := l.prog) (w := w) (mg := mg) (base := base) F_ls B, PySem.W.mg_of X G xa_ls, xk_ls, b_ls, .nil⟩
  have c_lg := C8.Cal.mk ⟨_, _, ["sets"], [], ok_lgreat (P := l.prog) (w := w) (mg := mg) (base := base) F_lg B c_lw, PySem.W.mg_of X G xa_lg, xk_lg, b_lg, .nil⟩
  have c_lh := C8.Cal.mk ⟨_, _, ["rows", "wish"], [], ok_lmet (P := l.prog) (w := w) (mg := mg) (base := base) F_lh B c_le, PySem.W.mg_of X G xa_lh, xk_lh, b_lh, .nil⟩
  have c_ln := C8.Cal.mk ⟨_, _, ["plans", "wish", "level"], [], ok_lnext (P := l.prog) (w := w) (mg := mg) (base := base) F_ln B c_lo c_ls c_lg, PySem.W.mg_of X G xa_ln, xk_ln, b_ln, .nil⟩
  have c_ll := C8.Cal.mk ⟨_, _, ["plans", "rows", "wish"], [], ok_llev (P := l.prog) (w := w) (mg := mg) (base := base) F_ll B c_lg c_lh c_ln, PySem.W.mg_of X G xa_ll, xk_ll, b_ll, .nil⟩
  have c_ld := C8.Cal.mk ⟨_, _, ["bag", "width", "most"], [], ok_sides (P := l.prog) (w := w) (mg := mg) (base := base) F_ld B c_lt, PySem.W.mg_of X G xa_ld, xk_ld, b_ld, .nil⟩
  have c_lq := C8.Cal.mk ⟨_, _, ["bag", "width", "many"], [], ok_grows (P := l.prog) (w := w) (mg := mg) (base := base) F_lq B c_lt c_lr, PySem.W.mg_of X G xa_lq, xk_lq, b_lq, .nil⟩
  have c_lv := C8.Cal.mk ⟨_, _, ["bag", "rows", "width", "most"], [], ok_swish (P := l.prog) (w := w) (mg := mg) (base := base) F_lv B c_lt c_ld, PySem.W.mg_of X G xa_lv, xk_lv, b_lv, .nil⟩
  have c_lp := C8.Cal.mk ⟨_, _, ["bag", "width"], [], ok_plans (P := l.prog) (w := w) (mg := mg) (base := base) F_lp B c_lt c_lc, PySem.W.mg_of X G xa_lp, xk_lp, b_lp, .nil⟩
  have c_lx := CalG.mk ⟨_, _, ["councils", "plans", "rows", "wish"], ok_lright (P := l.prog) (w := w) (mg := mg) (base := base) F_lx B c_mt c_ll c_la c_lw, PySem.W.mg_of X G xa_lx, xk_lx, b_lx⟩
  exact ok_law M F_zz B c_lb c_lt c_lp c_lq c_lv c_lm c_lx
theorem walk {l : PySem.W.OpenLaw} {q : Program} {loose : List Str} {XP : (Str → Option Value) → Heap → Prop} {YP : World → Heap → Prop} {d : DefRec} {K : Params → PySem.W.Frag} (hn : l.most = some 63) (hdf : d.params.defaults = []) (hY : ∀ (w : World) (h : Heap), YP w h → (K w.params).In h)
    (F : ∀ (w : World) (mg : Str → Option Value) (fa : Addr) (h : Heap), (K w.params).In h → h.Ns mainGlobals mg → mg d.name = some (.ref fa) → ∃ fd : FuncData, (∀ (s : Shared) (u : Value), BindsTo s fd ⟨[u], []⟩ [("script", u)]) ∧ ∀ b0 : Heap, (K w.params).In b0 → b0.Ns mainGlobals mg → FnG l.prog w (K w.params) mg b0 8 fa fd ["script"] (spM (K w.params) (pr_law (K w.params)))) :
    PySem.W.WalkO q loose XP YP l.row.toRowW d [] (fun f vs => PySem.call f vs) := by
  refine walkG (n := 63) (k := 8) (x := "script") (sp := fun w => spM (K w.params) (pr_law (K w.params))) hn (by decide) hdf ⟨rfl, by decide, by decide⟩ hY F fun w T a ns hS => ?_
  refine ⟨T, [scrD (ns.map .int)], .tt, _, Same.refl _, .cons (.scr hS (ats_int _ _ ns)) .nil, True.intro, ⟨ns, rfl, rfl, rfl⟩, fun v G2 H2 _ _ r => ?_⟩
  obtain ⟨_, r⟩ := r
  cases r
  rfl
end Pk
open PySem PySem.W PyProof.Rows
set_option maxRecDepth 100000 in
set_option maxHeartbeats 0 in
theorem PySem.Challenge.cw_packedseats_k81_met_sets_by_sets_holds : PySem.Challenge.rw_packedseats_k81_met_sets_by_sets.Holds := by
  w_on; o_law; k_head; (case hw => w_witness2)
  k_fill
  refine Pk.walk (l := PySem.Challenge.rw_packedseats_k81_met_sets_by_sets) rfl rfl (fun w h Y => PySem.W.kIn_of Y) ?F
  case F =>
    intro w mg fa h KX G hmg
    refine' Pk.all_mk Pk.all_right KX G hmg ?n_C ?pg_C ?hd_C ?po_C ?sa_C ?mk_C ?kc_C ?na_C0 ?na_C1 ?n_R ?pg_R ?hd_R ?po_R ?sa_R ?mk_R ?kc_R ?na_R0 ?na_R1 ?na_R2 ?na_R3 ?na_R4 ?a_mb ?l_mb ?c_mb ?k_mb ?a_me ?l_me ?c_me ?k_me ?a_ii ?l_ii ?c_ii ?k_ii ?a_ib ?l_ib ?c_ib ?k_ib ?a_bo ?l_bo ?c_bo ?k_bo ?a_ms ?l_ms ?c_ms ?k_ms ?a_aw ?l_aw ?c_aw ?k_aw ?a_aq ?l_aq ?c_aq ?k_aq ?a_ci ?i_ci ?l_ci ?c_ci ?k_ci ?a_cw ?i_cw ?l_cw ?c_cw ?k_cw ?a_ct ?i_ct ?l_ct ?c_ct ?k_ct ?a_ca ?i_ca ?l_ca ?c_ca ?k_ca ?a_ro ?l_ro ?c_ro ?k_ro ?a_go ?l_go ?c_go ?k_go ?a_di ?l_di ?c_di ?k_di ?a_mi ?l_mi ?c_mi ?k_mi ?a_so ?l_so ?c_so ?k_so ?a_rm ?i_rm ?l_rm ?c_rm ?k_rm ?a_ri ?i_ri ?l_ri ?c_ri ?k_ri ?a_ra ?i_ra ?l_ra ?c_ra ?k_ra ?a_rs ?i_rs ?l_rs ?c_rs ?k_rs ?a_mt ?l_mt ?c_mt ?k_mt ?a_lb ?l_lb ?c_lb ?k_lb ?a_lt ?l_lt ?c_lt ?k_lt ?a_lr ?l_lr ?c_lr ?k_lr ?a_la ?l_la ?c_la ?k_la ?a_lm ?l_lm ?c_lm ?k_lm ?a_lc ?l_lc ?c_lc ?k_lc ?a_le ?l_le ?c_le ?k_le ?a_lo ?l_lo ?c_lo ?k_lo ?a_lw ?l_lw ?c_lw ?k_lw ?a_ls ?l_ls ?c_ls ?k_ls ?a_lg ?l_lg ?c_lg ?k_lg ?a_lh ?l_lh ?c_lh ?k_lh ?a_ln ?l_ln ?c_ln ?k_ln ?a_ll ?l_ll ?c_ll ?k_ll ?a_ld ?l_ld ?c_ld ?k_ld ?a_lq ?l_lq ?c_lq ?k_lq ?a_lv ?l_lv ?c_lv ?k_lv ?a_lp ?l_lp ?c_lp ?k_lp ?a_lx ?l_lx ?c_lx ?k_lx ?a_zz ?l_zz ?c_zz ?k_zz ?h_g1 ?h_g2 ?h_g3 ?h_g4 ?b_all ?b_any ?b_range ?b_len ?b_zip ?b_sum ?b_list ?b_tuple ?b_sorted ?b_int ?b_isinstance ?b_bool ?b_abs ?b_max ?b_min ?b_repr ?b_enumerate ?b_set
    (case n_C => k_is); (case pg_C => k_is); (case hd_C => k_is); (case po_C => k_is); (case sa_C => k_is); (case mk_C => k_is)
    (case kc_C => k_is); (case na_C0 => k_is); (case na_C1 => k_is); (case n_R => k_is); (case pg_R => k_is); (case hd_R => k_is)
    (case po_R => k_is); (case sa_R => k_is); (case mk_R => k_is); (case kc_R => k_is); (case na_R0 => k_is); (case na_R1 => k_is)
    (case na_R2 => k_is); (case na_R3 => k_is); (case na_R4 => k_is); (case a_mb => k_is); (case l_mb => k_is); (case c_mb => k_is)
    (case k_mb => k_is); (case a_me => k_is); (case l_me => k_is); (case c_me => k_is); (case k_me => k_is); (case a_ii => k_is)
    (case l_ii => k_is); (case c_ii => k_is); (case k_ii => k_is); (case a_ib => k_is); (case l_ib => k_is); (case c_ib => k_is)
    (case k_ib => k_is); (case a_bo => k_is); (case l_bo => k_is); (case c_bo => k_is); (case k_bo => k_is); (case a_ms => k_is)
    (case l_ms => k_is); (case c_ms => k_is); (case k_ms => k_is); (case a_aw => k_is); (case l_aw => k_is); (case c_aw => k_is)
    (case k_aw => k_is); (case a_aq => k_is); (case l_aq => k_is); (case c_aq => k_is); (case k_aq => k_is); (case a_ci => k_is)
    (case i_ci => k_is); (case l_ci => k_is); (case c_ci => k_is); (case k_ci => k_is); (case a_cw => k_is); (case i_cw => k_is)
    (case l_cw => k_is); (case c_cw => k_is); (case k_cw => k_is); (case a_ct => k_is); (case i_ct => k_is); (case l_ct => k_is)
    (case c_ct => k_is); (case k_ct => k_is); (case a_ca => k_is); (case i_ca => k_is); (case l_ca => k_is); (case c_ca => k_is)
    (case k_ca => k_is); (case a_ro => k_is); (case l_ro => k_is); (case c_ro => k_is); (case k_ro => k_is); (case a_go => k_is)
    (case l_go => k_is); (case c_go => k_is); (case k_go => k_is); (case a_di => k_is); (case l_di => k_is); (case c_di => k_is)
    (case k_di => k_is); (case a_mi => k_is); (case l_mi => k_is); (case c_mi => k_is); (case k_mi => k_is); (case a_so => k_is)
    (case l_so => k_is); (case c_so => k_is); (case k_so => k_is); (case a_rm => k_is); (case i_rm => k_is); (case l_rm => k_is)
    (case c_rm => k_is); (case k_rm => k_is); (case a_ri => k_is); (case i_ri => k_is); (case l_ri => k_is); (case c_ri => k_is)
    (case k_ri => k_is); (case a_ra => k_is); (case i_ra => k_is); (case l_ra => k_is); (case c_ra => k_is); (case k_ra => k_is)
    (case a_rs => k_is); (case i_rs => k_is); (case l_rs => k_is); (case c_rs => k_is); (case k_rs => k_is); (case a_mt => k_is)
    (case l_mt => k_is); (case c_mt => k_is); (case k_mt => k_is); (case a_lb => k_is); (case l_lb => k_is); (case c_lb => k_is)
    (case k_lb => k_is); (case a_lt => k_is); (case l_lt => k_is); (case c_lt => k_is); (case k_lt => k_is); (case a_lr => k_is)
    (case l_lr => k_is); (case c_lr => k_is); (case k_lr => k_is); (case a_la => k_is); (case l_la => k_is); (case c_la => k_is)
    (case k_la => k_is); (case a_lm => k_is); (case l_lm => k_is); (case c_lm => k_is); (case k_lm => k_is); (case a_lc => k_is)
    (case l_lc => k_is); (case c_lc => k_is); (case k_lc => k_is); (case a_le => k_is); (case l_le => k_is); (case c_le => k_is)
    (case k_le => k_is); (case a_lo => k_is); (case l_lo => k_is); (case c_lo => k_is); (case k_lo => k_is); (case a_lw => k_is)
    (case l_lw => k_is); (case c_lw => k_is); (case k_lw => k_is); (case a_ls => k_is); (case l_ls => k_is); (case c_ls => k_is)
    (case k_ls => k_is); (case a_lg => k_is); (case l_lg => k_is); (case c_lg => k_is); (case k_lg => k_is); (case a_lh => k_is)
    (case l_lh => k_is); (case c_lh => k_is); (case k_lh => k_is); (case a_ln => k_is); (case l_ln => k_is); (case c_ln => k_is)
    (case k_ln => k_is); (case a_ll => k_is); (case l_ll => k_is); (case c_ll => k_is); (case k_ll => k_is); (case a_ld => k_is)
    (case l_ld => k_is); (case c_ld => k_is); (case k_ld => k_is); (case a_lq => k_is); (case l_lq => k_is); (case c_lq => k_is)
    (case k_lq => k_is); (case a_lv => k_is); (case l_lv => k_is); (case c_lv => k_is); (case k_lv => k_is); (case a_lp => k_is)
    (case l_lp => k_is); (case c_lp => k_is); (case k_lp => k_is); (case a_lx => k_is); (case l_lx => k_is); (case c_lx => k_is)
    (case k_lx => k_is); (case a_zz => k_is); (case l_zz => k_is); (case c_zz => k_is); (case k_zz => k_is); (case h_g1 => k_is)
    (case h_g2 => k_is); (case h_g3 => k_is); (case h_g4 => k_is); (case b_all => k_is); (case b_any => k_is); (case b_range => k_is)
    (case b_len => k_is); (case b_zip => k_is); (case b_sum => k_is); (case b_list => k_is); (case b_tuple => k_is); (case b_sorted => k_is)
    (case b_int => k_is); (case b_isinstance => k_is); (case b_bool => k_is); (case b_abs => k_is); (case b_max => k_is); (case b_min => k_is)
    (case b_repr => k_is); (case b_enumerate => k_is); (case b_set => k_is)
