import PyProof.Rows.All
import Wide.All
import OpenK.AllK
import Wide.FinOn
import HandS.ForMost
import HandS.ForExc
import HandS.Deep
import HandS.TupAny
import HandS.Style
import HandS.Flow
import HandS.Wide
import HandS.WideMore
import HandS.More
import HandS.IsInst
import HandS.SortInts
import HandS.DictTup
import HandS.Conv
import HandS.TupSets
import HandS.Zip
import HandS.Codes
import KE.SortData
import PyProof.ReprRoads
import HandS.SortKw
import KE.GoesZip
import KE.GoesMore
import KE.GoesEnum
import HandS.DictComp
import KE.KDictLaws
import KE.KDictDisplayH
import PySem.Challenge.RW_packedseats_k84_shelves_parted
import KE.KBits
set_option Elab.async false
set_option linter.all false
set_option maxRecDepth 100000
set_option maxHeartbeats 4000000
/-! DL: an own layer of data over the hand layer. Values are told by PyData; G is the part of the heap that is known and never changes; As are assertions. -/
namespace DL
open PySem PySem.Spec PyProof.Rows L2

/-- an object's address, as a datum of no further meaning -/
abbrev ob (a : Addr) : PyData := .dict [(.int (Int.ofNat a), .none)]
theorem ob_inj {a b : Addr} (h : ob a = ob b) : a = b := by
  injection h with h1
  injection h1 with h2 _
  injection h2 with h3 _
  injection h3 with h4
  exact Int.ofNat.inj h4

theorem Same_l {K : PySem.W.Frag} {H H' : Hp} {a : Addr} {xs : List V} (e : Same H H') (h : SqL K H a xs) : SqL K H' a xs := by
  rcases h with (h | ⟨o, h⟩) | h
  · exact .inl (.inl (e _ _ h))
  · exact .inl (.inr ⟨o, e _ _ h⟩)
  · exact .inr h
theorem Same_t {K : PySem.W.Frag} {H H' : Hp} {a : Addr} {xs : List V} (e : Same H H') (h : SqT K H a xs) : SqT K H' a xs := by
  rcases h with (h | ⟨o, h⟩) | h
  · exact .inl (.inl (e _ _ h))
  · exact .inl (.inr ⟨o, e _ _ h⟩)
  · exact .inr h

/-- an instance that is known: its address, its class's, the names of its fields, their data -/
abbrev insD (a C : Addr) (ns : List Str) (ds : List PyData) : PyData := .dict [(.int (Int.ofNat a), .tuple [.int (Int.ofNat C), .tuple (ns.map .str), .tuple ds])]
/-- the script -/
abbrev scrD (ds : List PyData) : PyData := .dict [(.none, .list ds)]
mutual
/-- the value shows the datum, as far as G tells -/
inductive At (K : PySem.W.Frag) (G : Hp) : V → PyData → Prop
  | non : At K G .non .none
  | bl (b : Bool) : At K G (.bl b) (.bool b)
  | int (i : Int) : At K G (.int i) (.int i)
  | str (x : Str) : At K G (.str x) (.str x)
  | lst {a : Addr} {xs : List V} {ds : List PyData} : G a = some (.lst xs) → Ats K G xs ds → At K G (.ref a) (.list ds)
  | tup {a : Addr} {xs : List V} {ds : List PyData} : G a = some (.tup xs) → Ats K G xs ds → At K G (.ref a) (.tuple ds)
  | obj (a : Addr) : At K G (.ref a) (ob a)
  | scr {a : Addr} {xs : List V} {ds : List PyData} : SqL K G a xs → Ats K G xs ds → At K G (.ref a) (scrD ds)
  | ins {a C dx : Addr} {fs : List (Str × V)} {ds : List PyData} : G a = some (.ins C dx fs) → Ats K G (fs.map (·.2)) ds → At K G (.ref a) (insD a C (fs.map (·.1)) ds)
inductive Ats (K : PySem.W.Frag) (G : Hp) : List V → List PyData → Prop
  | nil : Ats K G [] []
  | cons {v : V} {vs : List V} {d : PyData} {ds : List PyData} : At K G v d → Ats K G vs ds → Ats K G (v :: vs) (d :: ds)
end
section
variable {K : PySem.W.Frag} {G G' H H' : Hp}
mutual
theorem At.mono (e : Same G G') : ∀ (d : PyData) (v : V), At K G v d → At K G' v d
  | .none, _, h => by cases h; exact .non
  | .bool b, _, h => by cases h; exact .bl b
  | .int i, _, h => by cases h; exact .int i
  | .str x, _, h => by cases h; exact .str x
  | .list ds, _, h => by
    cases h with
    | lst hs ha => exact .lst (e _ _ hs) (Ats.mono e ds _ ha)
  | .tuple ds, _, h => by
    cases h with
    | tup hs ha => exact .tup (e _ _ hs) (Ats.mono e ds _ ha)
  | .dict kvs, v, h => by
    cases h with
    | obj a => exact .obj a
    | ins hs ha => exact .ins (e _ _ hs) (Ats.mono e _ _ ha)
    | scr hs ha => exact .scr (Same_l e hs) (Ats.mono e _ _ ha)
theorem Ats.mono (e : Same G G') : ∀ (ds : List PyData) (vs : List V), Ats K G vs ds → Ats K G' vs ds
  | [], _, h => by cases h; exact .nil
  | d :: ds, _, h => by
    cases h with
    | cons h1 h2 => exact .cons (At.mono e d _ h1) (Ats.mono e ds _ h2)
end
theorem At.up {d : PyData} {v : V} (h : At K G v d) (e : Same G G') : At K G' v d := At.mono e d v h
theorem Ats.up {ds : List PyData} {vs : List V} (h : Ats K G vs ds) (e : Same G G') : Ats K G' vs ds := Ats.mono e ds vs h
theorem Ats.len : ∀ {vs : List V} {ds : List PyData}, Ats K G vs ds → vs.length = ds.length
  | _, [], h => by cases h; rfl
  | _, _ :: _, h => by
    cases h with
    | cons _ h2 => simp [Ats.len h2]
theorem Ats.get : ∀ {vs : List V} {ds : List PyData} {i : Nat} {d : PyData}, Ats K G vs ds → ds[i]? = some d → ∃ v, vs[i]? = some v ∧ At K G v d
  | _, [], i, d, _, e => by simp at e
  | _, d0 :: ds, 0, d, h, e => by
    cases h with
    | cons h1 _ =>
      simp at e
      subst e
      exact ⟨_, rfl, h1⟩
  | _, d0 :: ds, i + 1, d, h, e => by
    cases h with
    | cons _ h2 =>
      obtain ⟨v, e1, e2⟩ := Ats.get h2 (i := i) (by simpa using e)
      exact ⟨v, by simpa using e1, e2⟩
theorem Ats.got : ∀ {vs : List V} {ds : List PyData} {i : Nat} {v : V}, Ats K G vs ds → vs[i]? = some v → ∃ d, ds[i]? = some d ∧ At K G v d
  | _, [], i, d, h, e => by cases h; simp at e
  | _, d0 :: ds, 0, d, h, e => by
    cases h with
    | cons h1 _ =>
      simp at e
      subst e
      exact ⟨_, rfl, h1⟩
  | _, d0 :: ds, i + 1, d, h, e => by
    cases h with
    | cons _ h2 =>
      obtain ⟨v, e1, e2⟩ := Ats.got h2 (i := i) (by simpa using e)
      exact ⟨v, by simpa using e1, e2⟩
theorem Ats.app : ∀ {vs ws : List V} {ds es : List PyData}, Ats K G vs ds → Ats K G ws es → Ats K G (vs ++ ws) (ds ++ es)
  | _, _, [], es, h, k => by cases h; exact k
  | _, _, d :: ds, es, h, k => by
    cases h with
    | cons h1 h2 => exact .cons h1 (Ats.app h2 k)
theorem Ats.one {v : V} {d : PyData} (h : At K G v d) : Ats K G [v] [d] := .cons h .nil
theorem Ats.take : ∀ {vs : List V} {ds : List PyData} (n : Nat), Ats K G vs ds → Ats K G (vs.take n) (ds.take n)
  | _, _, 0, _ => by simpa using Ats.nil
  | _, [], n + 1, h => by cases h; exact .nil
  | _, d :: ds, n + 1, h => by
    cases h with
    | cons h1 h2 => exact .cons h1 (Ats.take n h2)
theorem Ats.drop : ∀ {vs : List V} {ds : List PyData} (n : Nat), Ats K G vs ds → Ats K G (vs.drop n) (ds.drop n)
  | _, _, 0, h => h
  | _, [], n + 1, h => by cases h; exact .nil
  | _, d :: ds, n + 1, h => by
    cases h with
    | cons h1 h2 => exact Ats.drop n h2
theorem Ats.set {v : V} {d : PyData} (k : At K G v d) : ∀ {vs : List V} {ds : List PyData} (n : Nat), Ats K G vs ds → Ats K G (vs.set n v) (ds.set n d)
  | _, [], n, h => by cases h; exact .nil
  | _, d0 :: ds, 0, h => by
    cases h with
    | cons h1 h2 => exact .cons k h2
  | _, d0 :: ds, n + 1, h => by
    cases h with
    | cons h1 h2 => exact .cons h1 (Ats.set k n h2)
theorem Ats.ints : ∀ (ns : List Int), Ats K G (ns.map V.int) (ns.map PyData.int)
  | [] => .nil
  | n :: ns => .cons (.int n) (Ats.ints ns)
theorem Ats.of_ints : ∀ {vs : List V} {ns : List Int}, Ats K G vs (ns.map PyData.int) → vs = ns.map V.int
  | _, [], h => by cases h; rfl
  | _, n :: ns, h => by
    cases h with
    | cons h1 h2 =>
      cases h1
      rw [Ats.of_ints h2]
      rfl
theorem Ats.of_bools : ∀ {vs : List V} {bs : List Bool}, Ats K G vs (bs.map PyData.bool) → vs = bs.map V.bl
  | _, [], h => by cases h; rfl
  | _, n :: ns, h => by
    cases h with
    | cons h1 h2 =>
      cases h1
      rw [Ats.of_bools h2]
      rfl
theorem Ats.of_strs : ∀ {vs : List V} {bs : List Str}, Ats K G vs (bs.map PyData.str) → vs = bs.map V.str
  | _, [], h => by cases h; rfl
  | _, n :: ns, h => by
    cases h with
    | cons h1 h2 =>
      cases h1
      rw [Ats.of_strs h2]
      rfl
theorem Ats.of_obs : ∀ {vs : List V} {bs : List Addr}, Ats K G vs (bs.map ob) → vs = bs.map V.ref
  | _, [], h => by cases h; rfl
  | _, n :: ns, h => by
    cases h with
    | cons h1 h2 =>
      rw [Ats.of_obs h2]
      generalize hd : ob n = d at h1
      cases h1 with
      | obj a => rw [List.map_cons, ob_inj hd]
      | _ => cases hd
theorem Ats.obs : ∀ (bs : List Addr), Ats K G (bs.map V.ref) (bs.map ob)
  | [] => .nil
  | b :: bs => .cons (.obj b) (Ats.obs bs)
/-- from each place -/
theorem Ats.of_get : ∀ {vs : List V} {ds : List PyData}, vs.length = ds.length → (∀ (i : Nat) (v : V) (d : PyData), vs[i]? = some v → ds[i]? = some d → At K G v d) → Ats K G vs ds
  | [], [], _, _ => .nil
  | v :: vs, d :: ds, hl, h => .cons (h 0 v d rfl rfl) (Ats.of_get (by simpa using hl) fun i v d e1 e2 => h (i + 1) v d (by simpa using e1) (by simpa using e2))
  | [], _ :: _, hl, _ => by simp at hl
  | _ :: _, [], hl, _ => by simp at hl
theorem At.obj_eq {v : V} {a : Addr} (h : At K G v (ob a)) : v = .ref a := by
  generalize hd : ob a = d at h
  cases h with
  | obj b => rw [ob_inj hd]
  | _ => cases hd
mutual
/-- plain data are data of the hand layer -/
theorem At.dp : ∀ (d : PyData) (v : V), d.canLay0 = true → At K G v d → Dp K G v d
  | .none, _, _, h => by cases h; exact .non
  | .bool b, _, _, h => by cases h; exact .bl b
  | .int i, _, _, h => by cases h; exact .int i
  | .str x, _, _, h => by cases h; exact .str x
  | .list ds, _, c, h => by
    cases h with
    | lst hs ha => exact .lst (SqL.of hs) (Ats.dp ds _ (by simpa [PyData.canLay0] using c) ha)
  | .tuple ds, _, c, h => by
    cases h with
    | tup hs ha => exact .tup (SqT.of hs) (Ats.dp ds _ (by simpa [PyData.canLay0] using c) ha)
  | .dict kvs, v, c, h => by simp [PyData.canLay0] at c
theorem Ats.dp : ∀ (ds : List PyData) (vs : List V), PyData.canLayAll0 ds = true → Ats K G vs ds → DpAll K G vs ds
  | [], _, _, h => by cases h; exact .nil
  | d :: ds, _, c, h => by
    have c' : d.canLay0 = true ∧ PyData.canLayAll0 ds = true := by simpa [PyData.canLayAll0] using c
    cases h with
    | cons h1 h2 => exact .cons (At.dp d _ c'.1 h1) (Ats.dp ds _ c'.2 h2)
end
theorem At.dps {d : PyData} {v : V} (h : At K G v d) (e : Same G H) (c : SeqAt.shaped d = true) : Dp K H v d := At.dp d v (SeqAt.canLay_of_shaped c) (h.up e)
end

/-! ### the heap grows -/
def IsTp (o : Option HO) : Prop := ∃ xs, o = some (.tup xs)
structure Gr (G H G2 H2 : Hp) : Prop where
  gx : Same G G2
  sub : Same G2 H2
  nw : ∀ b, G b = none → G2 b ≠ none → H b = none ∨ IsTp (H b)
  dm : ∀ b o, H b = some o → ∃ o2, H2 b = some o2 ∧ (IsTp (some o2) → IsTp (some o))
section
variable {G H G1 H1 G2 H2 : Hp} {a : Addr} {o : HO}
theorem Gr.refl (e : Same G H) : Gr G H G H := ⟨Same.refl _, e, fun _ h k => absurd h k, fun b o h => ⟨o, h, fun k => k⟩⟩
theorem Gr.trans (r : Gr G H G1 H1) (t : Gr G1 H1 G2 H2) : Gr G H G2 H2 := by
  refine ⟨r.gx.trans t.gx, t.sub, fun b h k => ?_, fun b o h => ?_⟩
  · by_cases q : G1 b = none
    · cases e : H b with
      | none => exact .inl rfl
      | some o =>
        obtain ⟨o1, e1, f1⟩ := r.dm b o e
        rcases t.nw b q k with z | z
        · rw [e1] at z; cases z
        · rw [e1] at z; exact .inr (f1 z)
    · exact r.nw b h q
  · obtain ⟨o1, e1, f1⟩ := r.dm b o h
    obtain ⟨o2, e2, f2⟩ := t.dm b o1 e1
    exact ⟨o2, e2, fun z => f1 (f2 z)⟩
theorem dm_same (e : Same H H2) : ∀ b o, H b = some o → ∃ o2, H2 b = some o2 ∧ (IsTp (some o2) → IsTp (some o)) := fun b o h => ⟨o, e b o h, fun k => k⟩
/-- only the tracked heap grows -/
theorem Gr.h (e : Same G H) (s : Same H H2) : Gr G H G H2 := ⟨Same.refl _, e.trans s, fun _ h k => absurd h k, dm_same s⟩
theorem same_upd (h : H a = none) : Same H (upd H a o) := fun b u e => by rw [upd_ne (ne_of_none e h)]; exact e
/-- a new object that is known -/
theorem Gr.new (e : Same G H) (h : H a = none) : Gr G H (upd G a o) (upd H a o) := by
  have hg : G a = none := e.free h
  refine ⟨same_upd hg, fun b u q => ?_, fun b q k => ?_, dm_same (same_upd h)⟩
  · by_cases hb : b = a
    · subst hb; rw [upd_same] at q ⊢; exact q
    · rw [upd_ne hb] at q ⊢; exact e b u q
  · by_cases hb : b = a
    · subst hb; exact .inl h
    · rw [upd_ne hb] at k; exact absurd q k
/-- a tuple that stands is known from now on -/
theorem Gr.tup {xs : List V} (e : Same G H) (h : H a = some (.tup xs)) : Gr G H (upd G a (.tup xs)) H := by
  refine ⟨fun b u q => ?_, fun b u q => ?_, fun b q k => ?_, fun b o h => ⟨o, h, fun k => k⟩⟩
  · by_cases hb : b = a
    · subst hb
      have := e _ _ q
      rw [h] at this
      cases this
      exact upd_same
    · rw [upd_ne hb]; exact q
  · by_cases hb : b = a
    · subst hb; rw [upd_same] at q; cases q; exact h
    · rw [upd_ne hb] at q; exact e b u q
  · by_cases hb : b = a
    · subst hb; exact .inr ⟨xs, h⟩
    · rw [upd_ne hb] at k; exact absurd q k
end

/-! ### assertions about what is known and what is tracked -/
structure As where
  p : Hp → Hp → Prop
  fo : Addr → Prop
  own : Addr → Prop
  fo_own : ∀ {a : Addr}, fo a → own a
  fr : ∀ {G H G2 H2 : Hp}, Gr G H G2 H2 → (∀ a o, fo a → H a = some o → H2 a = some o) → p G H → p G2 H2
  dom : ∀ {G H : Hp} {a : Addr}, p G H → own a → H a ≠ none
  stb : ∀ {G H : Hp} {a : Addr} {o : HO}, ¬ fo a → ¬ IsTp (some o) → p G H → G a = none → H a ≠ none → p G (upd H a o)
  frz : ∀ {G H : Hp} {a : Addr} {o : HO}, ¬ own a → p G H → G a = none → H a = some o → p (upd G a o) H
theorem As.nf {S : As} {a : Addr} (h : ¬ S.own a) : ¬ S.fo a := fun z => h (S.fo_own z)
theorem As.cl (S : As) {G H G2 H2 : Hp} (r : Gr G H G2 H2) (e : Same H H2) (h : S.p G H) : S.p G2 H2 := S.fr r (fun a o _ k => e a o k) h
def As.tt : As := ⟨fun _ _ => True, fun _ => False, fun _ => False, id, fun _ _ h => h, fun _ h => h.elim, fun _ _ h _ _ => h, fun _ h _ _ => h⟩
/-- what is known (of G), for ever -/
def As.fact (F : Hp → Prop) (m : ∀ G G', Same G G' → F G → F G') : As where
  p := fun G _ => F G
  fo := fun _ => False
  own := fun _ => False
  fo_own := id
  fr := fun r _ h => m _ _ r.gx h
  dom := fun _ h => h.elim
  stb := fun _ _ h _ _ => h
  frz := fun _ h g _ => m _ _ (same_upd g) h
def As.and (S T : As) : As where
  p := fun G H => S.p G H ∧ T.p G H
  fo := fun a => S.fo a ∨ T.fo a
  own := fun a => S.own a ∨ T.own a
  fo_own := fun h => h.elim (fun z => .inl (S.fo_own z)) fun z => .inr (T.fo_own z)
  fr := fun r e h => ⟨S.fr r (fun a o z k => e a o (.inl z) k) h.1, T.fr r (fun a o z k => e a o (.inr z) k) h.2⟩
  dom := fun h k => k.elim (S.dom h.1) (T.dom h.2)
  stb := fun n t h g k => ⟨S.stb (fun z => n (.inl z)) t h.1 g k, T.stb (fun z => n (.inr z)) t h.2 g k⟩
  frz := fun n h g k => ⟨S.frz (fun z => n (.inl z)) h.1 g k, T.frz (fun z => n (.inr z)) h.2 g k⟩
/-- all that was tracked at the entry stands as it stood, but where o says that it may change -/
def As.extx (G0 H0 : Hp) (o : Addr → Prop) : As where
  p := fun G H => Gr G0 H0 G H ∧ ∀ a u, ¬ o a → H0 a = some u → H a = some u
  fo := fun a => H0 a ≠ none ∧ ¬ o a
  own := fun a => H0 a ≠ none
  fo_own := fun h => h.1
  fr := fun r e h => ⟨h.1.trans r, fun a u n k => e a u ⟨(by rw [k]; exact fun z => by cases z), n⟩ (h.2 a u n k)⟩
  dom := fun {G H a} h k => by
    cases e : H0 a with
    | none => exact absurd e k
    | some u =>
      obtain ⟨o2, e2, _⟩ := h.1.dm a u e
      rw [e2]; exact fun z => by cases z
  stb := fun {G H a v} n t h g k => by
    have n' : ∀ u, ¬ o a → H0 a ≠ some u := fun u z e => n ⟨(by rw [e]; exact fun z => by cases z), z⟩
    refine ⟨⟨h.1.gx, fun b u q => ?_, h.1.nw, fun b u q => ?_⟩, fun b u z q => ?_⟩
    · rw [upd_ne (ne_of_none q g)]; exact h.1.sub b u q
    · by_cases hb : b = a
      · subst hb; exact ⟨v, upd_same, fun z => absurd z t⟩
      · obtain ⟨o2, e2, f2⟩ := h.1.dm b u q
        exact ⟨o2, by rw [upd_ne hb]; exact e2, f2⟩
    · by_cases hb : b = a
      · subst hb; exact absurd q (n' u z)
      · rw [upd_ne hb]; exact h.2 b u z q
  frz := fun {G H a u} n h g k => by
    have n' : H0 a = none := Classical.byContradiction n
    refine ⟨⟨h.1.gx.trans (same_upd g), fun b u q => ?_, fun b q z => ?_, h.1.dm⟩, h.2⟩
    · by_cases hb : b = a
      · subst hb; rw [upd_same] at q; cases q; exact k
      · rw [upd_ne hb] at q; exact h.1.sub b u q
    · by_cases hb : b = a
      · subst hb; exact .inl n'
      · rw [upd_ne hb] at z; exact h.1.nw b q z
/-- all that was tracked at the entry stands as it stood -/
abbrev As.ext (G0 H0 : Hp) : As := .extx G0 H0 fun _ => False
theorem out_of {G H G2 H2 : Hp} {a : Addr} {o : HO} (r : Gr G H G2 H2) (g : G a = none) (h : H a = some o) (n : ¬ IsTp (some o)) : G2 a = none :=
  Classical.byContradiction fun k => by
    rcases r.nw a g k with z | z
    · rw [h] at z; cases z
    · rw [h] at z; exact n z
/-- a list of one's own at p that may still change, of these data -/
def As.acc (K : PySem.W.Frag) (p : Addr) (ds : List PyData) : As where
  p := fun G H => G p = none ∧ ∃ xs, H p = some (.lst xs) ∧ Ats K G xs ds
  fo := fun a => a = p
  own := fun a => a = p
  fo_own := id
  fr := fun {G H G2 H2} r e h => by
    obtain ⟨g, xs, h1, h2⟩ := h
    exact ⟨out_of r g h1 (fun ⟨_, z⟩ => by cases z), xs, e _ _ rfl h1, h2.up r.gx⟩
  dom := fun {G H a} h k => by
    obtain ⟨g, xs, h1, h2⟩ := h
    subst k; rw [h1]; exact fun z => by cases z
  stb := fun {G H a o} n _ h g k => by
    obtain ⟨g', xs, h1, h2⟩ := h
    exact ⟨g', xs, by rw [upd_ne (fun z => n z.symm)]; exact h1, h2⟩
  frz := fun {G H a o} n h g k => by
    obtain ⟨g', xs, h1, h2⟩ := h
    exact ⟨by rw [upd_ne (fun z => n z.symm)]; exact g', xs, h1, h2.up (same_upd g)⟩
/-- any other object of one's own at p that may still change: by its content -/
def As.has (p : Addr) (C : Hp → HO → Prop) (m : ∀ G G' o, Same G G' → C G o → C G' o) (nt : ∀ G xs, ¬ C G (.tup xs)) : As where
  p := fun G H => G p = none ∧ ∃ o, H p = some o ∧ C G o
  fo := fun a => a = p
  own := fun a => a = p
  fo_own := id
  fr := fun {G H G2 H2} r e h => by
    obtain ⟨g, o, h1, h2⟩ := h
    exact ⟨out_of r g h1 (fun ⟨xs, z⟩ => by cases z; exact nt _ _ h2), o, e _ _ rfl h1, m _ _ _ r.gx h2⟩
  dom := fun {G H a} h k => by
    obtain ⟨g, xs, h1, h2⟩ := h
    subst k; rw [h1]; exact fun z => by cases z
  stb := fun {G H a o} n _ h g k => by
    obtain ⟨g', o', h1, h2⟩ := h
    exact ⟨g', o', by rw [upd_ne (fun z => n z.symm)]; exact h1, h2⟩
  frz := fun {G H a o} n h g k => by
    obtain ⟨g', o', h1, h2⟩ := h
    exact ⟨by rw [upd_ne (fun z => n z.symm)]; exact g', o', h1, m _ _ _ (same_upd g) h2⟩
/-- one entails the other -/
def As.le (S T : As) : Prop := ∀ G H, S.p G H → T.p G H

/-! ### names' values -/
abbrev De := List (Option PyData)
def EnvOk (K : PySem.W.Frag) (G : Hp) (σ : L2.St) (Δ : De) : Prop := σ.length = Δ.length ∧ ∀ (i : Nat) (d : PyData), Δ[i]? = some (some d) → ∃ v, σ[i]? = some (some v) ∧ At K G v d
section
variable {K : PySem.W.Frag} {G G' : Hp} {σ : L2.St} {Δ : De}
theorem EnvOk.up (h : EnvOk K G σ Δ) (e : Same G G') : EnvOk K G' σ Δ := ⟨h.1, fun i d q => by
  obtain ⟨v, a, b⟩ := h.2 i d q
  exact ⟨v, a, b.up e⟩⟩
theorem EnvOk.set {i : Nat} {v : V} {d : PyData} (h : EnvOk K G σ Δ) (k : At K G v d) : EnvOk K G (σ.set i (some v)) (Δ.set i (some d)) := by
  refine ⟨by simp [h.1], fun j e q => ?_⟩
  by_cases hj : i = j
  · subst hj
    by_cases hi : i < Δ.length
    · rw [List.getElem?_set_self hi] at q
      cases q
      exact ⟨v, List.getElem?_set_self (by rw [h.1]; exact hi), k⟩
    · rw [List.getElem?_eq_none (by rw [List.length_set]; omega)] at q; cases q
  · rw [List.getElem?_set_ne hj] at q ⊢
    exact h.2 j e q
/-- forgotten names -/
def wipeD (Δ : De) : List Nat → De
  | [] => Δ
  | v :: vs => (wipeD Δ vs).set v none
theorem wipeD_len (Δ : De) : ∀ vs : List Nat, (wipeD Δ vs).length = Δ.length
  | [] => rfl
  | v :: vs => by unfold wipeD; rw [List.length_set, wipeD_len Δ vs]
theorem EnvOk.wipe (h : EnvOk K G σ Δ) : ∀ vs : List Nat, EnvOk K G (wipe σ vs) (wipeD Δ vs)
  | [] => h
  | v :: vs => by
    have k := EnvOk.wipe h vs
    refine ⟨by rw [wipe_length, wipeD_len, h.1], fun j e q => ?_⟩
    unfold wipeD at q
    unfold L2.wipe
    by_cases hj : v = j
    · subst hj
      by_cases hi : v < (wipeD Δ vs).length
      · rw [List.getElem?_set_self hi] at q; cases q
      · rw [List.getElem?_eq_none (by simp; omega)] at q; cases q
    · rw [List.getElem?_set_ne hj] at q ⊢
      exact k.2 j e q
end
/-- the slots agree where they are not wiped -/
theorem wipe_get (σ : L2.St) : ∀ (vs : List Nat) (i : Nat), (wipe σ vs)[i]? = if i ∈ vs then (if i < σ.length then some none else none) else σ[i]?
  | [], i => by simp [wipe]
  | v :: vs, i => by
    unfold wipe
    by_cases hv : v = i
    · subst hv
      by_cases hl : v < σ.length
      · rw [List.getElem?_set_self (by rw [wipe_length]; exact hl)]
        simp [hl]
      · rw [List.getElem?_eq_none (by simp [wipe_length]; omega)]
        simp [hl]
    · rw [List.getElem?_set_ne hv, wipe_get σ vs i]
      have : (i ∈ v :: vs) ↔ (i ∈ vs) := by
        simp only [List.mem_cons]
        exact ⟨fun h => h.elim (fun z => absurd z.symm hv) id, .inr⟩
      simp only [this]
theorem wipe_wipe (σ : L2.St) (vs : List Nat) : wipe (wipe σ vs) vs = wipe σ vs := by
  refine List.ext_getElem? fun i => ?_
  rw [wipe_get, wipe_get, wipe_length]
  split <;> rfl
theorem wipe_set {σ : L2.St} {vs : List Nat} {i : Nat} {x : Option V} (h : i ∈ vs) : wipe (σ.set i x) vs = wipe σ vs := by
  refine List.ext_getElem? fun j => ?_
  rw [wipe_get, wipe_get, List.length_set]
  by_cases hj : j ∈ vs
  · simp only [hj, if_true]
  · simp only [hj, if_false]
    rw [List.getElem?_set_ne (fun z => hj (by rw [← z]; exact h))]
end DL
namespace DL
open PySem PySem.Spec PyProof.Rows L2

/-! ### what an expression is worth -/
/-- what is known and tracked ahead; the value; what is known and tracked behind -/
abbrev RR := Hp → Hp → V → Hp → Hp → Prop
def EvR (X : Cx) (e : Expr) (Δ : De) (S : As) (R : RR) : Prop :=
  ∀ (pins : List (Addr × Obj)) (s : Shared) (σ : L2.St) (G H : Hp) (Q : VK), Inv X pins σ H s → EnvOk X.K G σ Δ → Same G H → S.p G H →
    (∀ v G2 H2, Gr G H G2 H2 → S.p G2 H2 → R G H v G2 H2 → Q v H2) → wpAny (model X.prog X.w) X.A (eval e X.env) (EP X pins σ Q) X.xe s
abbrev rAt (K : PySem.W.Frag) (d : PyData) : RR := fun _ _ v G2 _ => At K G2 v d
/-- a new list that nobody knows yet -/
abbrev rNl (K : PySem.W.Frag) (ds : List PyData) : RR := fun _ H v G2 H2 => ∃ p xs, v = .ref p ∧ H p = none ∧ G2 p = none ∧ H2 p = some (.lst xs) ∧ Ats K G2 xs ds
abbrev Ev (X : Cx) (e : Expr) (Δ : De) (S : As) (d : PyData) : Prop := EvR X e Δ S (rAt X.K d)
abbrev EvL (X : Cx) (e : Expr) (Δ : De) (S : As) (ds : List PyData) : Prop := EvR X e Δ S (rNl X.K ds)
def Back (R : RR) : Prop := ∀ G H G1 H1 v G2 H2, Gr G H G1 H1 → R G1 H1 v G2 H2 → R G H v G2 H2
theorem back_at {K : PySem.W.Frag} {d : PyData} : Back (rAt K d) := fun _ _ _ _ _ _ _ _ h => h
theorem none_back {G H G1 H1 : Hp} {p : Addr} (r : Gr G H G1 H1) (h : H1 p = none) : H p = none := by
  cases e : H p with
  | none => rfl
  | some o =>
    obtain ⟨o2, e2, _⟩ := r.dm p o e
    rw [h] at e2; cases e2
theorem back_nl {K : PySem.W.Frag} {ds : List PyData} : Back (rNl K ds) := fun _ _ _ _ _ _ _ r ⟨p, xs, e, h, k⟩ => ⟨p, xs, e, none_back r h, k⟩

section
variable {X : Cx} {e : Expr} {Δ : De} {S : As} {R : RR} {d : PyData}
def tEv (X : Cx) (e : Expr) : TE := fun σ H Q => ∃ Δ S R G, EvR X e Δ S R ∧ EnvOk X.K G σ Δ ∧ Same G H ∧ S.p G H ∧ ∀ v G2 H2, Gr G H G2 H2 → S.p G2 H2 → R G H v G2 H2 → Q v H2
theorem pe_ev (X : Cx) (e : Expr) : PE X e (tEv X e) := ⟨fun pins s σ H Q I ⟨_, _, _, G, h, a, b, c, q⟩ => h pins s σ G H Q I a b c q⟩
theorem ev_pe {t : TE} (h : PE X e t) (ht : ∀ (σ : L2.St) (G H : Hp) (Q : VK), EnvOk X.K G σ Δ → Same G H → S.p G H → (∀ v G2 H2, Gr G H G2 H2 → S.p G2 H2 → R G H v G2 H2 → Q v H2) → t σ H Q) : EvR X e Δ S R :=
  fun pins s σ G H Q I a b c q => h.run pins s σ H Q I (ht σ G H Q a b c q)
theorem EvR.imp {R' : RR} (h : EvR X e Δ S R) (k : ∀ G H v G2 H2, Gr G H G2 H2 → S.p G2 H2 → R G H v G2 H2 → R' G H v G2 H2) : EvR X e Δ S R' :=
  fun pins s σ G H Q I a b c q => h pins s σ G H Q I a b c fun v G2 H2 g p r => q v G2 H2 g p (k _ _ _ _ _ g p r)
/-- S may be weakened on the way in, if it can be had back -/
theorem EvR.with {T : As} (h : EvR X e Δ T R) (k : ∀ G H, S.p G H → T.p G H) (b : ∀ G H G2 H2 v, S.p G H → Gr G H G2 H2 → T.p G2 H2 → R G H v G2 H2 → S.p G2 H2) : EvR X e Δ S R :=
  fun pins s σ G H Q I a b' c q => h pins s σ G H Q I a b' (k _ _ c) fun v G2 H2 g p r => q v G2 H2 g (b _ _ _ _ _ c g p r) r
theorem Gr.frz {G H G2 H2 : Hp} {p : Addr} {o : HO} (r : Gr G H G2 H2) (h : H p = none) (g : G2 p = none) (k : H2 p = some o) : Gr G H (upd G2 p o) H2 := by
  refine ⟨r.gx.trans (same_upd g), fun b u q => ?_, fun b q z => ?_, r.dm⟩
  · by_cases hb : b = p
    · subst hb; rw [upd_same] at q; cases q; exact k
    · rw [upd_ne hb] at q; exact r.sub b u q
  · by_cases hb : b = p
    · subst hb; exact .inl h
    · rw [upd_ne hb] at z; exact r.nw b q z
theorem not_own {S : As} {G H : Hp} {p : Addr} (c : S.p G H) (h : H p = none) : ¬ S.own p := fun o => S.dom c o h
theorem EvR.frz {ds : List PyData} (h : EvL X e Δ S ds) : Ev X e Δ S (.list ds) :=
  fun pins s σ G H Q I a b c q => h pins s σ G H Q I a b c fun v G2 H2 g p ⟨x, xs, e1, e2, e3, e4, e5⟩ => by
    subst e1
    exact q _ (upd G2 x (.lst xs)) H2 (g.frz e2 e3 e4) (S.frz (not_own c e2) p e3 e4) (.lst upd_same (e5.up (same_upd e3)))
/-- weaken what was known about the names -/
theorem EvR.env {Δ' : De} (h : EvR X e Δ' S R) (k : ∀ (i : Nat) (d : PyData), Δ'[i]? = some (some d) → Δ[i]? = some (some d)) (hl : Δ'.length = Δ.length) : EvR X e Δ S R :=
  fun pins s σ G H Q I a b c q => h pins s σ G H Q I ⟨a.1.trans hl.symm, fun i d z => a.2 i d (k i d z)⟩ b c q

/-! names, constants -/
theorem ev_v (i : Nat) {x : Str} {pos : Pos} (hd : Δ[i]? = some (some d)) (hN : X.N[i]? = some x := by rfl) (hv : Vis X.env.scope x := by first | exact Or.inl rfl | exact Or.inr (Or.inl rfl) | exact Or.inr (Or.inr rfl)) (h1 : (x == ("__debug__" : Str)) = false := by decide)
    (h2 : (x == ("__classdict__" : Str)) = false := by decide) : Ev X (.Name x pos) Δ S d :=
  ev_pe (pe_var hN hv h1 h2) fun σ G H Q a b c q => by
    obtain ⟨v, e1, e2⟩ := a.2 i d hd
    exact ⟨v, e1, q v G H (.refl b) c e2⟩
theorem ev_int {i j pos} : Ev X (.Constant (.int i) j pos) Δ S (.int i) := ev_pe pe_int fun _ G H _ _ b c q => q _ G H (.refl b) c (.int i)
theorem ev_bl {i j pos} : Ev X (.Constant (.bool i) j pos) Δ S (.bool i) := ev_pe pe_bl fun _ G H _ _ b c q => q _ G H (.refl b) c (.bl i)
theorem ev_non {j pos} : Ev X (.Constant .none j pos) Δ S .none := ev_pe pe_non fun _ G H _ _ b c q => q _ G H (.refl b) c .non
theorem ev_str {i j pos} : Ev X (.Constant (.str i) j pos) Δ S (.str i) := ev_pe pe_str fun _ G H _ _ b c q => q _ G H (.refl b) c (.str i)
/-- a module's constant -/
theorem ev_gl {x : Str} {v : V} {u : Value} {pos : Pos} (hg : Gl X x) (hm : X.mg x = some u) (r : RelV v u) (ha : ∀ G H, S.p G H → At X.K G v d) (hd : (x == ("__debug__" : Str)) = false := by decide) : Ev X (.Name x pos) Δ S d :=
  ev_pe (pe_glob hg hm r hd) fun _ G H _ _ b c q => q _ G H (.refl b) c (ha G H c)

/-! operations by data -/
def OpD (X : Cx) (f : Value → Value → Sem Value) (S : As) (d1 d2 : PyData) (R : RR) : Prop :=
  ∃ r : R2, OpR X f r ∧ ∀ (G H : Hp) (x y : V) (Q : VK), Same G H → S.p G H → At X.K G x d1 → At X.K G y d2 → (∀ v G2 H2, Gr G H G2 H2 → S.p G2 H2 → R G H v G2 H2 → Q v H2) → r x y H Q
variable {a b c : Expr} {d1 d2 d3 : PyData} {pos : Pos}
theorem two {ta tb : Expr} {σ : L2.St} {G H : Hp} {k : V → V → Hp → Prop} (ha : Ev X ta Δ S d1) (hb : Ev X tb Δ S d2) (a : EnvOk X.K G σ Δ) (b : Same G H) (c : S.p G H)
    (q : ∀ x y G1 H1, Gr G H G1 H1 → S.p G1 H1 → At X.K G1 x d1 → At X.K G1 y d2 → k x y H1) : tEv X ta σ H fun x H1 => tEv X tb σ H1 fun y H2 => k x y H2 :=
  ⟨Δ, S, _, G, ha, a, b, c, fun x G1 H1 g1 p1 r1 => ⟨Δ, S, _, G1, hb, a.up g1.gx, g1.sub, p1, fun y G2 H2 g2 p2 r2 => q x y G2 H2 (g1.trans g2) p2 (r1.up g2.gx) r2⟩⟩
theorem ev_op {op : Operator} (ho : OpD X (binaryOp op) S d1 d2 R) (ha : Ev X a Δ S d1) (hb : Ev X b Δ S d2) (hR : Back R := by first | exact back_at | exact back_nl) : EvR X (.BinOp a op b pos) Δ S R := by
  obtain ⟨r, h1, h2⟩ := ho
  exact ev_pe (pe_op h1 (pe_ev X a) (pe_ev X b)) fun σ G H Q a' b' c' q => two ha hb a' b' c' fun x y G1 H1 g p e1 e2 =>
    h2 G1 H1 x y Q g.sub p e1 e2 fun v G2 H2 g2 p2 r2 => q v G2 H2 (g.trans g2) p2 (hR _ _ _ _ _ _ _ g r2)
theorem ev_cmp {op : CmpOp} (ho : OpD X (compareOp op) S d1 d2 R) (ha : Ev X a Δ S d1) (hb : Ev X b Δ S d2) (hR : Back R := by first | exact back_at | exact back_nl) (hm : behindInMarks op b = false := by first | exact nomark _ | rfl | with_unfolding_all rfl) :
    EvR X (.Compare a [op] [b] pos) Δ S R := by
  obtain ⟨r, h1, h2⟩ := ho
  exact ev_pe (pe_cmpR h1 (pe_ev X a) (pe_ev X b) hm) fun σ G H Q a' b' c' q => two ha hb a' b' c' fun x y G1 H1 g p e1 e2 =>
    h2 G1 H1 x y Q g.sub p e1 e2 fun v G2 H2 g2 p2 r2 => q v G2 H2 (g.trans g2) p2 (hR _ _ _ _ _ _ _ g r2)
def UnD (X : Cx) (f : Value → Sem Value) (S : As) (d1 : PyData) (R : RR) : Prop :=
  ∃ r, UnR X f r ∧ ∀ (G H : Hp) (x : V) (Q : VK), Same G H → S.p G H → At X.K G x d1 → (∀ v G2 H2, Gr G H G2 H2 → S.p G2 H2 → R G H v G2 H2 → Q v H2) → r x H Q
theorem ev_un {op : UnaryOp} (ho : UnD X (unaryOp op) S d1 R) (ha : Ev X a Δ S d1) (hR : Back R := by first | exact back_at | exact back_nl) : EvR X (.UnaryOp op a pos) Δ S R := by
  obtain ⟨r, h1, h2⟩ := ho
  exact ev_pe (pe_un h1 (pe_ev X a)) fun σ G H Q a' b' c' q => ⟨Δ, S, _, G, ha, a', b', c', fun x G1 H1 g p e1 =>
    h2 G1 H1 x Q g.sub p e1 fun v G2 H2 g2 p2 r2 => q v G2 H2 (g.trans g2) p2 (hR _ _ _ _ _ _ _ g r2)⟩

/-! ### tests -/
def EvT (X : Cx) (e : Expr) (Δ : De) (S : As) (b : Bool) : Prop :=
  ∀ (pins : List (Addr × Obj)) (s : Shared) (σ : L2.St) (G H : Hp) (Q : Bool → Hp → Prop), Inv X pins σ H s → EnvOk X.K G σ Δ → Same G H → S.p G H →
    (∀ G2 H2, Gr G H G2 H2 → S.p G2 H2 → Q b H2) → wpAny (model X.prog X.w) X.A (isTrue e X.env (eval e X.env)) (TP X pins σ Q) X.xe s
def EvW (X : Cx) (e : Expr) (Δ : De) (S : As) (b : Bool) : Prop :=
  ∀ (whole : Sem Value) (pins : List (Addr × Obj)) (s : Shared) (σ : L2.St) (G H : Hp) (Q : Bool → Hp → Prop), Inv X pins σ H s → EnvOk X.K G σ Δ → Same G H → S.p G H →
    (∀ G2 H2, Gr G H G2 H2 → S.p G2 H2 → Q b H2) → wpAny (model X.prog X.w) X.A (isTrue e X.env whole) (TP X pins σ Q) X.xe s
def tEvT (X : Cx) (e : Expr) : TT := fun σ H Q => ∃ Δ S b G, EvT X e Δ S b ∧ EnvOk X.K G σ Δ ∧ Same G H ∧ S.p G H ∧ ∀ G2 H2, Gr G H G2 H2 → S.p G2 H2 → Q b H2
theorem pt_ev (X : Cx) (e : Expr) : PT X e (tEvT X e) := ⟨fun pins s σ H Q I ⟨_, _, _, G, h, a, b, c, q⟩ => h pins s σ G H Q I a b c q⟩
def tEvW (X : Cx) (e : Expr) : TT := fun σ H Q => ∃ Δ S b G, EvW X e Δ S b ∧ EnvOk X.K G σ Δ ∧ Same G H ∧ S.p G H ∧ ∀ G2 H2, Gr G H G2 H2 → S.p G2 H2 → Q b H2
theorem pw_ev (X : Cx) (e : Expr) : PW X e (tEvW X e) := ⟨fun w pins s σ H Q I ⟨_, _, _, G, h, a, b, c, q⟩ => h w pins s σ G H Q I a b c q⟩
theorem evt_pt {t : TT} {b : Bool} (h : PT X e t) (ht : ∀ (σ : L2.St) (G H : Hp) (Q : Bool → Hp → Prop), EnvOk X.K G σ Δ → Same G H → S.p G H → (∀ G2 H2, Gr G H G2 H2 → S.p G2 H2 → Q b H2) → t σ H Q) : EvT X e Δ S b :=
  fun pins s σ G H Q I a b c q => h.run pins s σ H Q I (ht σ G H Q a b c q)
theorem evw_pw {t : TT} {b : Bool} (h : PW X e t) (ht : ∀ (σ : L2.St) (G H : Hp) (Q : Bool → Hp → Prop), EnvOk X.K G σ Δ → Same G H → S.p G H → (∀ G2 H2, Gr G H G2 H2 → S.p G2 H2 → Q b H2) → t σ H Q) : EvW X e Δ S b :=
  fun w pins s σ G H Q I a b c q => h.run w pins s σ H Q I (ht σ G H Q a b c q)
theorem evt_w {b : Bool} (h : EvW X e Δ S b) : EvT X e Δ S b := h _
theorem evt_val {b : Bool} (h : Ev X e Δ S (.bool b)) (he : ∀ whole, isTrue e X.env whole = (do let v ← whole; standAt e.pos; holding [v] (truthy v)) := by intro _; rfl) : EvT X e Δ S b :=
  evt_pt (pt_val (pe_ev X e) he) fun σ G H Q a' b' c' q => ⟨Δ, S, _, G, h, a', b', c', fun v G2 H2 g p r => by cases r; exact ⟨b, rfl, q G2 H2 g p⟩⟩
theorem evt_cmp {op : CmpOp} {k : Bool} (ho : OpD X (compareOp op) S d1 d2 (rAt X.K (.bool k))) (ha : Ev X a Δ S d1) (hb : Ev X b Δ S d2) (hm : behindInMarks op b = false := by first | exact nomark _ | rfl | with_unfolding_all rfl) :
    EvT X (.Compare a [op] [b] pos) Δ S k := by
  obtain ⟨r, h1, h2⟩ := ho
  exact evt_pt (pt_cmpR h1 (pe_ev X a) (pe_ev X b) hm) fun σ G H Q a' b' c' q => two ha hb a' b' c' fun x y G1 H1 g p e1 e2 =>
    h2 G1 H1 x y _ g.sub p e1 e2 fun v G2 H2 g2 p2 r2 => by cases r2; exact ⟨k, rfl, q G2 H2 (g.trans g2) p2⟩
/-- a op b op' c -/
theorem ev_chain {op op' : CmpOp} {k k' : Bool} (ho : OpD X (compareOp op) S d1 d2 (rAt X.K (.bool k))) (ho' : k = true → OpD X (compareOp op') S d2 d3 (rAt X.K (.bool k'))) (hr : ∃ r : R2, OpR X (compareOp op') r) (ha : Ev X a Δ S d1) (hb : Ev X b Δ S d2) (hc : Ev X c Δ S d3)
    (hm : lastMarks [op, op'] [b, c] = false := by with_unfolding_all rfl) : Ev X (.Compare a [op, op'] [b, c] pos) Δ S (.bool (k && k')) := by
  obtain ⟨r, h1, h2⟩ := ho
  cases k with
  | true =>
    obtain ⟨r', h1', h2'⟩ := ho' rfl
    exact ev_pe (pe_chain h1 h1' (pe_ev X a) (pe_ev X b) (pe_ev X c) hm) fun σ G H Q a' b' c' q => two ha hb a' b' c' fun x y G1 H1 g p e1 e2 =>
      h2 G1 H1 x y _ g.sub p e1 e2 fun v G2 H2 g2 p2 r2 => by
        cases r2
        exact ⟨true, rfl, iteT ⟨Δ, S, _, G2, hc, a'.up (g.gx.trans g2.gx), g2.sub, p2, fun z G3 H3 g3 p3 r3 => h2' G3 H3 y z _ g3.sub p3 (e2.up (g2.gx.trans g3.gx)) r3 fun v G4 H4 g4 p4 r4 => q v G4 H4 (((g.trans g2).trans g3).trans g4) p4 r4⟩⟩
  | false =>
    obtain ⟨r', h1'⟩ := hr
    exact ev_pe (pe_chain h1 h1' (pe_ev X a) (pe_ev X b) (pe_ev X c) hm) fun σ G H Q a' b' c' q => two ha hb a' b' c' fun x y G1 H1 g p e1 e2 =>
      h2 G1 H1 x y _ g.sub p e1 e2 fun v G2 H2 g2 p2 r2 => by
        cases r2
        exact ⟨false, rfl, iteF (q _ G2 H2 (g.trans g2) p2 (.bl false))⟩
theorem evt_chain {op op' : CmpOp} {k k' : Bool} (ho : OpD X (compareOp op) S d1 d2 (rAt X.K (.bool k))) (ho' : k = true → OpD X (compareOp op') S d2 d3 (rAt X.K (.bool k'))) (hr : ∃ r : R2, OpR X (compareOp op') r) (ha : Ev X a Δ S d1) (hb : Ev X b Δ S d2) (hc : Ev X c Δ S d3)
    (hm : lastMarks [op, op'] [b, c] = false := by with_unfolding_all rfl) : EvT X (.Compare a [op, op'] [b, c] pos) Δ S (k && k') := by
  obtain ⟨r, h1, h2⟩ := ho
  cases k with
  | true =>
    obtain ⟨r', h1', h2'⟩ := ho' rfl
    exact evt_pt (pt_chain h1 h1' (pe_ev X a) (pe_ev X b) (pe_ev X c) hm) fun σ G H Q a' b' c' q => two ha hb a' b' c' fun x y G1 H1 g p e1 e2 =>
      h2 G1 H1 x y _ g.sub p e1 e2 fun v G2 H2 g2 p2 r2 => by
        cases r2
        exact ⟨true, rfl, iteT ⟨Δ, S, _, G2, hc, a'.up (g.gx.trans g2.gx), g2.sub, p2, fun z G3 H3 g3 p3 r3 => h2' G3 H3 y z _ g3.sub p3 (e2.up (g2.gx.trans g3.gx)) r3 fun v G4 H4 g4 p4 r4 => by cases r4; exact ⟨k', rfl, q G4 H4 (((g.trans g2).trans g3).trans g4) p4⟩⟩⟩
  | false =>
    obtain ⟨r', h1'⟩ := hr
    exact evt_pt (pt_chain h1 h1' (pe_ev X a) (pe_ev X b) (pe_ev X c) hm) fun σ G H Q a' b' c' q => two ha hb a' b' c' fun x y G1 H1 g p e1 e2 =>
      h2 G1 H1 x y _ g.sub p e1 e2 fun v G2 H2 g2 p2 r2 => by
        cases r2
        exact ⟨false, rfl, iteF ⟨false, rfl, q G2 H2 (g.trans g2) p2⟩⟩
theorem evt_not {k : Bool} (h : EvT X a Δ S k) : EvT X (.UnaryOp .Not a pos) Δ S (!k) :=
  evt_pt (pt_not (pt_ev X a)) fun σ G H Q a' b' c' q => ⟨Δ, S, k, G, h, a', b', c', q⟩
theorem evw_and1 {k : Bool} (h : EvT X a Δ S k) : EvW X (.BoolOp .And [a] pos) Δ S k :=
  evw_pw (pw_and1 (pt_ev X a)) fun σ G H Q a' b' c' q => ⟨Δ, S, k, G, h, a', b', c', q⟩
theorem evw_or1 {k : Bool} (h : EvT X a Δ S k) : EvW X (.BoolOp .Or [a] pos) Δ S k :=
  evw_pw (pw_or1 (pt_ev X a)) fun σ G H Q a' b' c' q => ⟨Δ, S, k, G, h, a', b', c', q⟩
theorem evw_and {rest : List Expr} {k k' : Bool} (h : EvT X a Δ S k) (h' : k = true → EvW X (.BoolOp .And (b :: rest) pos) Δ S k') : EvW X (.BoolOp .And (a :: b :: rest) pos) Δ S (k && k') :=
  evw_pw (pw_and (pt_ev X a) (pw_ev X _)) fun σ G H Q a' b' c' q => ⟨Δ, S, k, G, h, a', b', c', fun G2 H2 g p => by
    cases k with
    | true => exact iteT ⟨Δ, S, k', G2, h' rfl, a'.up g.gx, g.sub, p, fun G3 H3 g3 p3 => q G3 H3 (g.trans g3) p3⟩
    | false => exact iteF (q G2 H2 g p)⟩
theorem evw_or {rest : List Expr} {k k' : Bool} (h : EvT X a Δ S k) (h' : k = false → EvW X (.BoolOp .Or (b :: rest) pos) Δ S k') : EvW X (.BoolOp .Or (a :: b :: rest) pos) Δ S (k || k') :=
  evw_pw (pw_or (pt_ev X a) (pw_ev X _)) fun σ G H Q a' b' c' q => ⟨Δ, S, k, G, h, a', b', c', fun G2 H2 g p => by
    cases k with
    | true => exact iteT (q G2 H2 g p)
    | false => exact iteF ⟨Δ, S, k', G2, h' rfl, a'.up g.gx, g.sub, p, fun G3 H3 g3 p3 => q G3 H3 (g.trans g3) p3⟩⟩
theorem EvT.is {k k' : Bool} (h : EvT X e Δ S k) (q : k = k') : EvT X e Δ S k' := q ▸ h
/-! and, or, not as values -/
theorem ev_one {op} (h : Ev X a Δ S d) : Ev X (.BoolOp op [a] pos) Δ S d := ev_pe (pe_one (pe_ev X a)) fun σ G H Q a' b' c' q => ⟨Δ, S, _, G, h, a', b', c', q⟩
theorem ev_and {rest : List Expr} {k k' : Bool} (h : Ev X a Δ S (.bool k)) (h' : k = true → Ev X (.BoolOp .And (b :: rest) pos) Δ S (.bool k')) : Ev X (.BoolOp .And (a :: b :: rest) pos) Δ S (.bool (k && k')) :=
  ev_pe (pe_and (pe_ev X a) (pe_ev X _)) fun σ G H Q a' b' c' q => ⟨Δ, S, _, G, h, a', b', c', fun v G2 H2 g p r => by
    cases r
    refine ⟨k, rfl, ?_⟩
    cases k with
    | true => exact iteT ⟨Δ, S, _, G2, h' rfl, a'.up g.gx, g.sub, p, fun v G3 H3 g3 p3 r3 => q v G3 H3 (g.trans g3) p3 r3⟩
    | false => exact iteF (q _ G2 H2 g p (.bl false))⟩
theorem ev_or {rest : List Expr} {k k' : Bool} (h : Ev X a Δ S (.bool k)) (h' : k = false → Ev X (.BoolOp .Or (b :: rest) pos) Δ S (.bool k')) : Ev X (.BoolOp .Or (a :: b :: rest) pos) Δ S (.bool (k || k')) :=
  ev_pe (pe_or (pe_ev X a) (pe_ev X _)) fun σ G H Q a' b' c' q => ⟨Δ, S, _, G, h, a', b', c', fun v G2 H2 g p r => by
    cases r
    refine ⟨k, rfl, ?_⟩
    cases k with
    | true => exact iteT (q _ G2 H2 g p (.bl true))
    | false => exact iteF ⟨Δ, S, _, G2, h' rfl, a'.up g.gx, g.sub, p, fun v G3 H3 g3 p3 r3 => q v G3 H3 (g.trans g3) p3 r3⟩⟩
theorem ev_not {k : Bool} (h : Ev X a Δ S (.bool k)) : Ev X (.UnaryOp .Not a pos) Δ S (.bool (!k)) :=
  ev_pe (pe_not (pe_ev X a)) fun σ G H Q a' b' c' q => ⟨Δ, S, _, G, h, a', b', c', fun v G2 H2 g p r => by cases r; exact ⟨k, rfl, q _ G2 H2 g p (.bl _)⟩⟩
theorem ev_if {k : Bool} {t : Expr} (ht : EvT X t Δ S k) (ha : k = true → EvR X a Δ S R) (hb : k = false → EvR X b Δ S R) (hR : Back R := by first | exact back_at | exact back_nl) : EvR X (.IfExp t a b pos) Δ S R :=
  ev_pe (pe_ifExp (pt_ev X t) (pe_ev X a) (pe_ev X b)) fun σ G H Q a' b' c' q => ⟨Δ, S, k, G, ht, a', b', c', fun G2 H2 g p => by
    cases k with
    | true => exact iteT ⟨Δ, S, R, G2, ha rfl, a'.up g.gx, g.sub, p, fun v G3 H3 g3 p3 r3 => q v G3 H3 (g.trans g3) p3 (hR _ _ _ _ _ _ _ g r3)⟩
    | false => exact iteF ⟨Δ, S, R, G2, hb rfl, a'.up g.gx, g.sub, p, fun v G3 H3 g3 p3 r3 => q v G3 H3 (g.trans g3) p3 (hR _ _ _ _ _ _ _ g r3)⟩⟩
theorem EvR.is {d' : PyData} (h : Ev X e Δ S d) (q : d = d') : Ev X e Δ S d' := q ▸ h
theorem EvR.isL {ds es : List PyData} (h : EvL X e Δ S ds) (q : ds = es) : EvL X e Δ S es := q ▸ h

/-! ### arguments, displays -/
def EvA (X : Cx) (es : List Expr) (Δ : De) (S : As) (ds : List PyData) : Prop :=
  ∀ (pos : Pos) (pins : List (Addr × Obj)) (s : Shared) (σ : L2.St) (G H : Hp) (Q : List V → Hp → Prop), Inv X pins σ H s → EnvOk X.K G σ Δ → Same G H → S.p G H →
    (∀ vs G2 H2, Gr G H G2 H2 → S.p G2 H2 → Ats X.K G2 vs ds → Q vs H2) → wpAny (model X.prog X.w) X.A (spliced (backTo pos (starEach es X.env))) (AP X pins σ Q) X.xe s
def tEvA (X : Cx) (es : List Expr) : TA := fun σ H Q => ∃ Δ S ds G, EvA X es Δ S ds ∧ EnvOk X.K G σ Δ ∧ Same G H ∧ S.p G H ∧ ∀ vs G2 H2, Gr G H G2 H2 → S.p G2 H2 → Ats X.K G2 vs ds → Q vs H2
theorem pa_ev (X : Cx) (es : List Expr) : PA X es (tEvA X es) := ⟨fun pos pins s σ H Q I ⟨_, _, _, G, h, a, b, c, q⟩ => h pos pins s σ G H Q I a b c q⟩
theorem eva_pa {es : List Expr} {ds : List PyData} {t : TA} (h : PA X es t) (ht : ∀ (σ : L2.St) (G H : Hp) (Q : List V → Hp → Prop), EnvOk X.K G σ Δ → Same G H → S.p G H → (∀ vs G2 H2, Gr G H G2 H2 → S.p G2 H2 → Ats X.K G2 vs ds → Q vs H2) → t σ H Q) : EvA X es Δ S ds :=
  fun pos pins s σ G H Q I a b c q => h.run pos pins s σ H Q I (ht σ G H Q a b c q)
theorem ea_nil : EvA X [] Δ S [] := eva_pa pa_nil fun _ G H _ _ b c q => q [] G H (.refl b) c .nil
end
end DL
namespace DL
open PySem PySem.Spec PyProof.Rows L2

section
variable {X : Cx} {e a b : Expr} {es : List Expr} {Δ : De} {S : As} {R : RR} {d d1 d2 : PyData} {ds : List PyData} {pos p : Pos}
theorem ea_cons (h : Ev X e Δ S d) (hr : EvA X es Δ S ds) (hs : starEach (e :: es) X.env = (false, eval e X.env) :: starEach es X.env := by rfl) : EvA X (e :: es) Δ S (d :: ds) :=
  eva_pa (pa_cons (pe_ev X e) (pa_ev X es) hs) fun σ G H Q a b c q => ⟨Δ, S, _, G, h, a, b, c, fun v G1 H1 g p r =>
    ⟨Δ, S, ds, G1, hr, a.up g.gx, g.sub, p, fun vs G2 H2 g2 p2 r2 => q _ G2 H2 (g.trans g2) p2 (.cons (r.up g2.gx) r2)⟩⟩
/-- an object is laid -/
theorem lay {G H G1 H1 : Hp} {l : Addr} {o : HO} (g : Gr G H G1 H1) (c : S.p G1 H1) (hl : H1 l = none) : Gr G H (upd G1 l o) (upd H1 l o) ∧ S.p (upd G1 l o) (upd H1 l o) :=
  have n := Gr.new (o := o) g.sub hl
  ⟨g.trans n, S.cl n (same_upd hl) c⟩
theorem layH {G H G1 H1 : Hp} {l : Addr} {o : HO} (g : Gr G H G1 H1) (c : S.p G1 H1) (hl : H1 l = none) : Gr G H G1 (upd H1 l o) ∧ S.p G1 (upd H1 l o) :=
  have n := Gr.h (H2 := upd H1 l o) g.sub (same_upd hl)
  ⟨g.trans n, S.cl n (same_upd hl) c⟩
theorem ev_tup {x1} (h : EvA X es Δ S ds) (hl : ds.length ≤ 1000 := by simp <;> omega) : Ev X (.Tuple es x1 pos) Δ S (.tuple ds) :=
  ev_pe (pe_tup (pa_ev X es)) fun σ G H Q a b c q => ⟨Δ, S, ds, G, h, a, b, c, fun vs G1 H1 g p r => ⟨by rw [r.len]; exact Nat.le_trans hl (by decide), fun l hl => by
    obtain ⟨g2, p2⟩ := lay (o := .tup vs) g p hl
    exact q _ _ _ g2 p2 (.tup upd_same (r.up (same_upd (g.sub.free hl))))⟩⟩
theorem evl_lst (h : EvA X es Δ S ds) (hl : ds.length ≤ 1000 := by simp <;> omega) : EvL X (.List es pos) Δ S ds :=
  ev_pe (pe_lst (pa_ev X es)) fun σ G H Q a b c q => ⟨Δ, S, ds, G, h, a, b, c, fun vs G1 H1 g p r => ⟨by rw [r.len]; exact Nat.le_trans hl (by decide), fun l hl => by
    obtain ⟨g2, p2⟩ := layH (o := .lst vs) g p hl
    exact q _ _ _ g2 p2 ⟨l, vs, rfl, none_back g hl, g.sub.free hl, upd_same, r⟩⟩⟩

/-! ### calls of built-in functions and types -/
def CallD (X : Cx) (f : Value) (S : As) (ds : List PyData) (R : RR) : Prop :=
  ∃ r, CallR X f r ∧ ∀ (G H : Hp) (vs : List V) (Q : VK), Same G H → S.p G H → Ats X.K G vs ds → (∀ v G2 H2, Gr G H G2 H2 → S.p G2 H2 → R G H v G2 H2 → Q v H2) → r vs H Q
theorem ev_callB {x : Str} {id : String} (hc : CallD X (.builtin id) S ds R) (hg : Gl X x) (hm : X.mg x = none) (hv : bootBuiltins x = some (.builtin id)) (ha : EvA X (e :: es) Δ S ds) (hR : Back R := by first | exact back_at | exact back_nl)
    (hn : x ≠ "__name__" := by decide) (hdb : (x == ("__debug__" : Str)) = false := by decide) (he : starEach (e :: es) X.env = (false, eval e X.env) :: starEach es X.env := by rfl) (hpl : (backTo pos (starEach es X.env)).any (·.1) = false := by rfl) :
    EvR X (.Call (.Name x p) (e :: es) [] pos) Δ S R := by
  obtain ⟨r, h1, h2⟩ := hc
  exact ev_pe (pe_callB h1 hg hm hv (pa_ev X _) hn hdb he hpl) fun σ G H Q a b c q => ⟨Δ, S, ds, G, ha, a, b, c, fun vs G1 H1 g p r1 => h2 G1 H1 vs Q g.sub p r1 fun v G2 H2 g2 p2 r2 => q v G2 H2 (g.trans g2) p2 (hR _ _ _ _ _ _ _ g r2)⟩
theorem ev_callTy {x : Str} {T : String} (hc : CallD X (.type T) S ds R) (hg : Gl X x) (hm : X.mg x = none) (hv : bootBuiltins x = some (.type T)) (ha : EvA X (e :: es) Δ S ds) (hR : Back R := by first | exact back_at | exact back_nl)
    (hn : x ≠ "__name__" := by decide) (hdb : (x == ("__debug__" : Str)) = false := by decide) (he : starEach (e :: es) X.env = (false, eval e X.env) :: starEach es X.env := by rfl) (hpl : (backTo pos (starEach es X.env)).any (·.1) = false := by rfl) :
    EvR X (.Call (.Name x p) (e :: es) [] pos) Δ S R := by
  obtain ⟨r, h1, h2⟩ := hc
  exact ev_pe (pe_callTy h1 hg hm hv (pa_ev X _) hn hdb he hpl) fun σ G H Q a b c q => ⟨Δ, S, ds, G, ha, a, b, c, fun vs G1 H1 g p r1 => h2 G1 H1 vs Q g.sub p r1 fun v G2 H2 g2 p2 r2 => q v G2 H2 (g.trans g2) p2 (hR _ _ _ _ _ _ _ g r2)⟩

/-! ### promises of the program's defs -/
/-- a def that changes nothing that stood -/
def spP (K : PySem.W.Frag) (P : Hp → List PyData → RR → Prop) : Sp := fun vs H Q _ => ∃ G ds R, Same G H ∧ Ats K G vs ds ∧ P G ds R ∧ ∀ v G2 H2, Gr G H G2 H2 → Same H H2 → R G H v G2 H2 → Q v H2
/-- .. that hands back a datum -/
abbrev spF (K : PySem.W.Frag) (P : List PyData → PyData → Prop) : Sp := spP K fun _ ds R => ∃ d, P ds d ∧ R = rAt K d
/-- .. that hands back a new list -/
abbrev spL (K : PySem.W.Frag) (P : List PyData → List PyData → Prop) : Sp := spP K fun _ ds R => ∃ d, P ds d ∧ R = rNl K d
theorem ev_c {x : Str} {k j : Nat} {P : Hp → List PyData → RR → Prop} (c : C8.Cal X.prog X.w X.K X.mg X.base k x (spP X.K P) []) (hr : Room j X.A) (hg : Gl X x) (ha : EvA X (e :: es) Δ S ds) (hP : ∀ G H, S.p G H → P G ds R) (hR : Back R := by first | exact back_at | exact back_nl) (hk : k ≤ j := by decide)
    (hdb : (x == ("__debug__" : Str)) = false := by decide) (he : starEach (e :: es) X.env = (false, eval e X.env) :: starEach es X.env := by rfl) (hpl : (backTo pos (starEach es X.env)).any (·.1) = false := by rfl) :
    EvR X (.Call (.Name x p) (e :: es) [] pos) Δ S R :=
  ev_pe (C8.pe_c c hr hk hg (pa_ev X _) hdb he hpl) fun σ G H Q a b c q => ⟨Δ, S, ds, G, ha, a, b, c, fun vs G1 H1 g p r1 => by
    show spP X.K P (vs ++ []) H1 Q _
    rw [List.append_nil]
    exact ⟨G1, ds, R, g.sub, r1, hP G1 H1 p, fun v G2 H2 g2 s2 r2 => q v G2 H2 (g.trans g2) (S.cl g2 s2 p) (hR _ _ _ _ _ _ _ g r2)⟩⟩
/-- any promise -/
theorem ev_cS {x : Str} {k j : Nat} {sp : Sp} (c : C8.Cal X.prog X.w X.K X.mg X.base k x sp []) (hr : Room j X.A) (hg : Gl X x) (ha : EvA X (e :: es) Δ S ds)
    (hP : ∀ (G H : Hp) (vs : List V) (Q : VK), Same G H → S.p G H → Ats X.K G vs ds → (∀ v G2 H2, Gr G H G2 H2 → S.p G2 H2 → R G H v G2 H2 → Q v H2) → sp vs H Q E0) (hR : Back R := by first | exact back_at | exact back_nl) (hk : k ≤ j := by decide)
    (hdb : (x == ("__debug__" : Str)) = false := by decide) (he : starEach (e :: es) X.env = (false, eval e X.env) :: starEach es X.env := by rfl) (hpl : (backTo pos (starEach es X.env)).any (·.1) = false := by rfl) :
    EvR X (.Call (.Name x p) (e :: es) [] pos) Δ S R :=
  ev_pe (C8.pe_c c hr hk hg (pa_ev X _) hdb he hpl) fun σ G H Q a b c q => ⟨Δ, S, ds, G, ha, a, b, c, fun vs G1 H1 g p r1 => by
    show sp (vs ++ []) H1 Q _
    rw [List.append_nil]
    exact hP G1 H1 vs Q g.sub p r1 fun v G2 H2 g2 p2 r2 => q v G2 H2 (g.trans g2) p2 (hR _ _ _ _ _ _ _ g r2)⟩

/-! ### subscripts -/
def IxD (X : Cx) (S : As) (d1 d2 : PyData) (R : RR) : Prop :=
  ∃ r : R2, IxR X r ∧ ∀ (G H : Hp) (x y : V) (Q : VK), Same G H → S.p G H → At X.K G x d1 → At X.K G y d2 → (∀ v G2 H2, Gr G H G2 H2 → S.p G2 H2 → R G H v G2 H2 → Q v H2) → r x y H Q
theorem ev_ix (ho : IxD X S d1 d2 R) (ha : Ev X a Δ S d1) (hb : Ev X b Δ S d2) (hR : Back R := by first | exact back_at | exact back_nl) (hs : PlainIx b := by exact fun _ _ => rfl) : EvR X (.Subscript a b pos) Δ S R := by
  obtain ⟨r, h1, h2⟩ := ho
  exact ev_pe (pe_ix h1 (pe_ev X a) (pe_ev X b) hs) fun σ G H Q a' b' c' q => two ha hb a' b' c' fun x y G1 H1 g p e1 e2 =>
    h2 G1 H1 x y Q g.sub p e1 e2 fun v G2 H2 g2 p2 r2 => q v G2 H2 (g.trans g2) p2 (hR _ _ _ _ _ _ _ g r2)
theorem atI_nat' {α : Type} {xs : List α} {j : Nat} {x : α} (h : xs[j]? = some x) : atI xs (j : Int) = some x := by
  have hj : j < xs.length := (List.getElem?_eq_some_iff.mp h).1
  unfold atI ixN
  rw [if_pos (Int.natCast_nonneg j), if_pos (by omega)]
  exact h
theorem atI_last {α : Type} {xs : List α} {x : α} (h : xs[xs.length - 1]? = some x) : atI xs (-1) = some x := by
  have hj : xs.length - 1 < xs.length := (List.getElem?_eq_some_iff.mp h).1
  unfold atI ixN
  rw [if_neg (by omega), if_pos (by omega)]
  have : (-1 + (xs.length : Int)).toNat = xs.length - 1 := by omega
  show xs[(-1 + (xs.length : Int)).toNat]? = some x
  rw [this]; exact h
theorem Ats.atI {K : PySem.W.Frag} {G : Hp} {vs : List V} {i : Int} (h : Ats K G vs ds) (e : L2.atI ds i = some d) : ∃ v, L2.atI vs i = some v ∧ At K G v d := by
  unfold L2.atI at e ⊢
  rw [h.len]
  cases q : ixN ds.length i with
  | none => rw [q] at e; cases e
  | some j =>
    rw [q] at e
    exact h.get (i := j) e
theorem ixd_list {i : Int} (e : atI ds i = some d) : IxD X S (.list ds) (.int i) (rAt X.K d) :=
  ⟨_, ix_list, fun G H x y Q b c h1 h2 q => by
    cases h1 with
    | lst hs ha =>
      cases h2
      obtain ⟨v, e1, e2⟩ := ha.atI e
      exact ⟨_, _, _, _, rfl, rfl, Same_l b (SqL.of hs), e1, q v G H (.refl b) c e2⟩⟩
theorem ixd_tup {i : Int} (e : atI ds i = some d) : IxD X S (.tuple ds) (.int i) (rAt X.K d) :=
  ⟨_, ix_tup, fun G H x y Q b c h1 h2 q => by
    cases h1 with
    | tup hs ha =>
      cases h2
      obtain ⟨v, e1, e2⟩ := ha.atI e
      exact ⟨_, _, _, _, rfl, rfl, SqT.of (b _ _ hs), e1, q v G H (.refl b) c e2⟩⟩
/-! slices -/
def EvO (X : Cx) (e : Option Expr) (Δ : De) (S : As) (o : Option Int) : Prop :=
  ∃ t : TO, PO X e t ∧ ∀ (σ : L2.St) (G H : Hp) (Q : Option Int → Hp → Prop), EnvOk X.K G σ Δ → Same G H → S.p G H → (∀ G2 H2, Gr G H G2 H2 → S.p G2 H2 → Q o H2) → t σ H Q
theorem eo_none : EvO X none Δ S none := ⟨_, po_none, fun σ G H Q a b c q => q G H (.refl b) c⟩
theorem eo_some {i : Int} (h : Ev X e Δ S (.int i)) : EvO X (some e) Δ S (some i) := ⟨_, po_some (pe_ev X e), fun σ G H Q a b c q => ⟨Δ, S, _, G, h, a, b, c, fun v G2 H2 g p r => by cases r; exact ⟨i, rfl, q G2 H2 g p⟩⟩⟩
def SlD (X : Cx) (S : As) (d1 : PyData) (lo hi : Option Int) (R : RR) : Prop :=
  ∃ r, SlR X r ∧ ∀ (G H : Hp) (x : V) (Q : VK), Same G H → S.p G H → At X.K G x d1 → (∀ v G2 H2, Gr G H G2 H2 → S.p G2 H2 → R G H v G2 H2 → Q v H2) → r x lo hi H Q
theorem ev_sl {lo hi : Option Expr} {l u : Option Int} {p2 : Pos} (ho : SlD X S d1 l u R) (ha : Ev X a Δ S d1) (hl : EvO X lo Δ S l) (hu : EvO X hi Δ S u) (hR : Back R := by first | exact back_at | exact back_nl) : EvR X (.Subscript a (.Slice lo hi none p2) pos) Δ S R := by
  obtain ⟨r, h1, h2⟩ := ho
  obtain ⟨tl, l1, l2⟩ := hl
  obtain ⟨tu, u1, u2⟩ := hu
  exact ev_pe (pe_slice h1 (pe_ev X a) l1 u1) fun σ G H Q a' b' c' q => ⟨Δ, S, _, G, ha, a', b', c', fun x G1 H1 g p r1 =>
    l2 σ G1 H1 _ (a'.up g.gx) g.sub p fun G2 H2 g2 p2 => u2 σ G2 H2 _ (a'.up (g.gx.trans g2.gx)) g2.sub p2 fun G3 H3 g3 p3 =>
      h2 G3 H3 x Q g3.sub p3 (r1.up (g2.gx.trans g3.gx)) fun v G4 H4 g4 p4 r4 => q v G4 H4 (((g.trans g2).trans g3).trans g4) p4 (hR _ _ _ _ _ _ _ ((g.trans g2).trans g3) r4)⟩
/-- a slice -/
def cutD {α : Type} (xs : List α) (lo hi : Option Int) : List α := (xs.drop (HT.sIx xs.length 0 lo)).take (HT.sIx xs.length xs.length hi - HT.sIx xs.length 0 lo)
theorem Ats.cut {K : PySem.W.Frag} {G : Hp} {vs : List V} {lo hi : Option Int} (h : Ats K G vs ds) : Ats K G (cutV vs lo hi) (cutD ds lo hi) := by
  unfold cutV cutD
  rw [h.len]
  exact (h.drop _).take _
theorem sld_list {lo hi : Option Int} : SlD X S (.list ds) lo hi (rNl X.K (cutD ds lo hi)) :=
  ⟨_, sl_list, fun G H x Q b c h1 q => by
    cases h1 with
    | lst hs ha =>
      refine ⟨_, _, rfl, Same_l b (SqL.of hs), fun p hp => ?_⟩
      obtain ⟨g2, p2⟩ := layH (o := .lst (cutV _ lo hi)) (.refl b) c hp
      exact q _ _ _ g2 p2 ⟨p, _, rfl, hp, b.free hp, upd_same, ha.cut⟩⟩
/-- a slice of the script -/
theorem sld_scr {lo hi : Option Int} : SlD X S (scrD ds) lo hi (rNl X.K (cutD ds lo hi)) :=
  ⟨_, sl_list, fun G H x Q b c h1 q => by
    cases h1 with
    | scr hs ha =>
      refine ⟨_, _, rfl, Same_l b hs, fun p hp => ?_⟩
      obtain ⟨g2, p2⟩ := layH (o := .lst (cutV _ lo hi)) (.refl b) c hp
      exact q _ _ _ g2 p2 ⟨p, _, rfl, hp, b.free hp, upd_same, ha.cut⟩⟩
theorem cut_full {α : Type} {xs : List α} {lo hi : Option Int} (h : HT.sIx xs.length 0 lo = 0 ∧ HT.sIx xs.length xs.length hi = xs.length) : cutD xs lo hi = xs := by
  unfold cutD
  rw [h.1, h.2]
  simp
theorem sld_tup {lo hi : Option Int} : SlD X S (.tuple ds) lo hi (rAt X.K (.tuple (cutD ds lo hi))) :=
  ⟨_, sl_tupA, fun G H x Q b c h1 q => by
    cases h1 with
    | tup hs ha =>
      have hl := ha.len
      refine ⟨_, _, rfl, SqT.of (b _ _ hs), fun z => ?_, fun z p hp => ?_⟩
      · rw [hl] at z
        have := cut_full (xs := ds) z
        exact q _ G H (.refl b) c (.tup hs (by rw [this]; exact ha))
      · obtain ⟨g2, p2⟩ := lay (o := .tup (cutV _ lo hi)) (.refl b) c hp
        exact q _ _ _ g2 p2 (.tup upd_same (ha.cut.up (same_upd (b.free hp))))⟩

/-! ### operations on ints -/
theorem opd_I {f : Value → Value → Sem Value} {g : Int → Int → V} {i j : Int} (ho : OpR X f (rI0 g)) (hd : ∀ G, At X.K G (g i j) d) : OpD X f S (.int i) (.int j) (rAt X.K d) :=
  ⟨_, ho, fun G H x y Q b c h1 h2 q => by cases h1; cases h2; exact ⟨i, j, rfl, rfl, q _ G H (.refl b) c (hd G)⟩⟩
theorem opd_C {f : Value → Value → Sem Value} {C : Int → Int → Prop} {g : Int → Int → V} {i j : Int} (ho : OpR X f (rI C g)) (hC : C i j) (hd : ∀ G, At X.K G (g i j) d) : OpD X f S (.int i) (.int j) (rAt X.K d) :=
  ⟨_, ho, fun G H x y Q b c h1 h2 q => by cases h1; cases h2; exact ⟨i, j, rfl, rfl, hC, q _ G H (.refl b) c (hd G)⟩⟩
variable {i j : Int}
theorem od_add : OpD X (binaryOp .Add) S (.int i) (.int j) (rAt X.K (.int (i + j))) := opd_I op_add fun _ => .int _
theorem od_sub : OpD X (binaryOp .Sub) S (.int i) (.int j) (rAt X.K (.int (i - j))) := opd_I op_sub fun _ => .int _
theorem od_mul (h : CMul i j) : OpD X (binaryOp .Mult) S (.int i) (.int j) (rAt X.K (.int (i * j))) := opd_C op_mul h fun _ => .int _
theorem od_mod (h : 0 < j) : OpD X (binaryOp .Mod) S (.int i) (.int j) (rAt X.K (.int (i % j))) := opd_C op_mod h fun _ => .int _
theorem od_fdiv (h : CDiv i j) : OpD X (binaryOp .FloorDiv) S (.int i) (.int j) (rAt X.K (.int (i / j))) := opd_C op_fdiv h fun _ => .int _
theorem od_and : OpD X (binaryOp .BitAnd) S (.int i) (.int j) (rAt X.K (.int (Builtin.bitAnd i j))) := opd_I op_and fun _ => .int _
theorem od_lt : OpD X (compareOp .Lt) S (.int i) (.int j) (rAt X.K (.bool (decide (i < j)))) := opd_I op_lt fun _ => .bl _
theorem od_le : OpD X (compareOp .LtE) S (.int i) (.int j) (rAt X.K (.bool (decide (i ≤ j)))) := opd_I op_le fun _ => .bl _
theorem od_gt : OpD X (compareOp .Gt) S (.int i) (.int j) (rAt X.K (.bool (decide (j < i)))) := opd_I op_gt fun _ => .bl _
theorem od_ge : OpD X (compareOp .GtE) S (.int i) (.int j) (rAt X.K (.bool (decide (j ≤ i)))) := opd_I op_ge fun _ => .bl _
theorem od_eqI : OpD X (compareOp .Eq) S (.int i) (.int j) (rAt X.K (.bool (decide (i = j)))) :=
  ⟨_, op_eq, fun G H x y Q b c h1 h2 q => by
    cases h1; cases h2
    refine ⟨rfl, q _ G H (.refl b) c ?_⟩
    have : decide (V.int i = V.int j) = decide (i = j) := by simp
    rw [this]; exact .bl _⟩
theorem od_neI : OpD X (compareOp .NotEq) S (.int i) (.int j) (rAt X.K (.bool (!decide (i = j)))) :=
  ⟨_, op_ne, fun G H x y Q b c h1 h2 q => by
    cases h1; cases h2
    refine ⟨rfl, q _ G H (.refl b) c ?_⟩
    have : decide (V.int i = V.int j) = decide (i = j) := by simp
    rw [this]; exact .bl _⟩
theorem od_eqS {x y : Str} : OpD X (compareOp .Eq) S (.str x) (.str y) (rAt X.K (.bool (decide (x = y)))) :=
  ⟨_, op_eq, fun G H u v Q b c h1 h2 q => by
    cases h1; cases h2
    refine ⟨rfl, q _ G H (.refl b) c ?_⟩
    have : decide (V.str x = V.str y) = decide (x = y) := by simp
    rw [this]; exact .bl _⟩
theorem ud_neg : UnD X (unaryOp .USub) S (.int i) (rAt X.K (.int (-i))) := ⟨_, un_neg, fun G H x Q b c h q => by cases h; exact ⟨i, rfl, q _ G H (.refl b) c (.int _)⟩⟩
theorem od_isN : OpD X (compareOp .Is) S d .none (rAt X.K (.bool (match d with | .none => true | _ => false))) :=
  ⟨_, op_isN, fun G H x y Q b c h1 h2 q => by
    cases h2
    refine ⟨rfl, q _ G H (.refl b) c ?_⟩
    cases h1 <;> exact .bl _⟩
theorem od_notN : OpD X (compareOp .IsNot) S d .none (rAt X.K (.bool (match d with | .none => false | _ => true))) :=
  ⟨_, op_notN, fun G H x y Q b c h1 h2 q => by
    cases h2
    refine ⟨rfl, q _ G H (.refl b) c ?_⟩
    cases h1 <;> exact .bl _⟩
/-- tuples put together -/
theorem od_catT {es : List PyData} (hl : ds.length + es.length ≤ 1000) : OpD X (binaryOp .Add) S (.tuple ds) (.tuple es) (rAt X.K (.tuple (ds ++ es))) :=
  ⟨_, op_catA, fun G H x y Q b c h1 h2 q => by
    cases h1 with
    | tup hs ha =>
      cases h2 with
      | tup hs' ha' =>
        refine ⟨_, _, _, _, rfl, rfl, SqT.of (b _ _ hs), SqT.of (b _ _ hs'), by rw [ha.len, ha'.len]; exact Nat.le_trans hl (by decide), fun z => ?_, fun z z' => ?_, fun z z' p hp => ?_⟩
        · have e : ds = [] := List.eq_nil_of_length_eq_zero (by rw [← ha.len, z]; rfl)
          subst e
          exact q _ G H (.refl b) c (.tup hs' ha')
        · have e : es = [] := List.eq_nil_of_length_eq_zero (by rw [← ha'.len, z']; rfl)
          subst e
          exact q _ G H (.refl b) c (by rw [List.append_nil]; exact .tup hs ha)
        · obtain ⟨g2, p2⟩ := lay (o := .tup _) (.refl b) c hp
          exact q _ _ _ g2 p2 (.tup upd_same ((ha.app ha').up (same_upd (b.free hp))))⟩
end

/-! ### what may still change, read -/
/-- the value shows the datum as long as S stands -/
def rM (K : PySem.W.Frag) (S : As) (d : PyData) : RR := fun _ _ v G2 H2 => ∀ G' H', Gr G2 H2 G' H' → S.p G' H' → At K H' v d
abbrev EvM (X : Cx) (e : Expr) (Δ : De) (S : As) (d : PyData) : Prop := EvR X e Δ S (rM X.K S d)
section
variable {X : Cx} {e a b : Expr} {es : List Expr} {Δ : De} {S : As} {R : RR} {d d1 d2 : PyData} {ds : List PyData} {pos p : Pos}
theorem EvR.m (h : Ev X e Δ S d) : EvM X e Δ S d := h.imp fun G H v G2 H2 g p r G' H' g' p' => r.up (g'.gx.trans g'.sub)
theorem EvR.mu {q : Addr} (h : Ev X e Δ S (ob q)) (hS : S.le (.acc X.K q ds)) : EvM X e Δ S (.list ds) := h.imp fun G H v G2 H2 g p r G' H' g' p' => by
  obtain ⟨_, xs, h1, h2⟩ := hS _ _ p'
  rw [At.obj_eq r]
  exact .lst h1 (h2.up g'.sub)
/-- an operation whose answer is flat -/
def OpF (X : Cx) (f : Value → Value → Sem Value) (d1 d2 : PyData) (u : V) : Prop := ∃ r : R2, OpR X f r ∧ ∀ (H : Hp) (x y : V) (Q : VK), At X.K H x d1 → At X.K H y d2 → Q u H → r x y H Q
theorem ev_opF {op : Operator} {u : V} (ho : OpF X (binaryOp op) d1 d2 u) (ha : EvM X a Δ S d1) (hb : EvM X b Δ S d2) (hu : ∀ G, At X.K G u d) : Ev X (.BinOp a op b pos) Δ S d := by
  obtain ⟨r, h1, h2⟩ := ho
  exact ev_pe (pe_op h1 (pe_ev X a) (pe_ev X b)) fun σ G H Q a' b' c' q => ⟨Δ, S, _, G, ha, a', b', c', fun x G1 H1 g1 p1 r1 => ⟨Δ, S, _, G1, hb, a'.up g1.gx, g1.sub, p1, fun y G2 H2 g2 p2 r2 =>
    h2 H2 x y Q (r1 G2 H2 g2 p2) (r2 G2 H2 (.refl g2.sub) p2) (q _ G2 H2 (g1.trans g2) p2 (hu G2))⟩⟩
theorem ev_cmpF {op : CmpOp} {u : V} (ho : OpF X (compareOp op) d1 d2 u) (ha : EvM X a Δ S d1) (hb : EvM X b Δ S d2) (hu : ∀ G, At X.K G u d) (hm : behindInMarks op b = false := by first | exact nomark _ | rfl | with_unfolding_all rfl) : Ev X (.Compare a [op] [b] pos) Δ S d := by
  obtain ⟨r, h1, h2⟩ := ho
  exact ev_pe (pe_cmpR h1 (pe_ev X a) (pe_ev X b) hm) fun σ G H Q a' b' c' q => ⟨Δ, S, _, G, ha, a', b', c', fun x G1 H1 g1 p1 r1 => ⟨Δ, S, _, G1, hb, a'.up g1.gx, g1.sub, p1, fun y G2 H2 g2 p2 r2 =>
    h2 H2 x y Q (r1 G2 H2 g2 p2) (r2 G2 H2 (.refl g2.sub) p2) (q _ G2 H2 (g1.trans g2) p2 (hu G2))⟩⟩
theorem evt_cmpF {op : CmpOp} {k : Bool} (ho : OpF X (compareOp op) d1 d2 (.bl k)) (ha : EvM X a Δ S d1) (hb : EvM X b Δ S d2) (hm : behindInMarks op b = false := by first | exact nomark _ | rfl | with_unfolding_all rfl) : EvT X (.Compare a [op] [b] pos) Δ S k := by
  obtain ⟨r, h1, h2⟩ := ho
  exact evt_pt (pt_cmpR h1 (pe_ev X a) (pe_ev X b) hm) fun σ G H Q a' b' c' q => ⟨Δ, S, _, G, ha, a', b', c', fun x G1 H1 g1 p1 r1 => ⟨Δ, S, _, G1, hb, a'.up g1.gx, g1.sub, p1, fun y G2 H2 g2 p2 r2 =>
    h2 H2 x y _ (r1 G2 H2 g2 p2) (r2 G2 H2 (.refl g2.sub) p2) ⟨k, rfl, q G2 H2 (g1.trans g2) p2⟩⟩⟩
theorem of_eqD (hu : X.A.units + 64 < cLine) (s1 : SeqAt.shaped d1 = true) (s2 : SeqAt.shaped d2 = true) : OpF X (compareOp .Eq) d1 d2 (.bl (PyData.eqv d1 d2)) :=
  ⟨_, op_eqD hu, fun H x y Q h1 h2 q => ⟨d1, d2, At.dp _ _ (SeqAt.canLay_of_shaped s1) h1, At.dp _ _ (SeqAt.canLay_of_shaped s2) h2, s1, s2, q⟩⟩
theorem of_neD (hu : X.A.units + 64 < cLine) (s1 : SeqAt.shaped d1 = true) (s2 : SeqAt.shaped d2 = true) : OpF X (compareOp .NotEq) d1 d2 (.bl (!PyData.eqv d1 d2)) :=
  ⟨_, op_neD hu, fun H x y Q h1 h2 q => ⟨d1, d2, At.dp _ _ (SeqAt.canLay_of_shaped s1) h1, At.dp _ _ (SeqAt.canLay_of_shaped s2) h2, s1, s2, q⟩⟩
theorem of_in (hu : X.A.units + 65 < cLine) (s1 : SeqAt.shaped d1 = true) (s2 : SeqAt.shaped (.list ds) = true) : OpF X (compareOp .In) d1 (.list ds) (.bl (ds.any fun z => PyData.eqv z d1)) :=
  ⟨_, op_inD hu, fun H x y Q h1 h2 q => ⟨d1, ds, At.dp _ _ (SeqAt.canLay_of_shaped s1) h1, At.dp _ _ (SeqAt.canLay_of_shaped s2) h2, s1, s2, q⟩⟩
theorem of_notIn (hu : X.A.units + 65 < cLine) (s1 : SeqAt.shaped d1 = true) (s2 : SeqAt.shaped (.list ds) = true) : OpF X (compareOp .NotIn) d1 (.list ds) (.bl (!ds.any fun z => PyData.eqv z d1)) :=
  ⟨_, op_notInD hu, fun H x y Q h1 h2 q => ⟨d1, ds, At.dp _ _ (SeqAt.canLay_of_shaped s1) h1, At.dp _ _ (SeqAt.canLay_of_shaped s2) h2, s1, s2, q⟩⟩
/-- an item of what may still change -/
theorem ev_ixM {q : Addr} {i : Int} (hS : S.le (.acc X.K q ds)) (e : atI ds i = some d) (ha : Ev X a Δ S (ob q)) (hb : Ev X b Δ S (.int i)) (hs : PlainIx b := by exact fun _ _ => rfl) : Ev X (.Subscript a b pos) Δ S d :=
  ev_pe (pe_ix ix_list (pe_ev X a) (pe_ev X b) hs) fun σ G H Q a' b' c' k => two ha hb a' b' c' fun x y G1 H1 g p e1 e2 => by
    obtain ⟨_, xs, h1, h2⟩ := hS _ _ p
    rw [At.obj_eq e1]
    cases e2
    obtain ⟨v, f1, f2⟩ := h2.atI e
    exact ⟨_, _, _, _, rfl, rfl, SqL.of h1, f1, k v G1 H1 g p f2⟩
/-- len of what may still change, or not -/
theorem ev_len {x : Str} (hx : x = "len") (hg : Gl X x) (hm : X.mg x = none) (ha : EvM X a Δ S (.list ds)) (he : starEach [a] X.env = (false, eval a X.env) :: starEach [] X.env := by rfl) (hpl : (backTo pos (starEach [] X.env)).any (·.1) = false := by rfl) :
    Ev X (.Call (.Name x p) [a] [] pos) Δ S (.int ds.length) := by
  subst hx
  exact ev_pe (pe_callB call_len_seq hg hm PySem.boot_len (pa_cons (pe_ev X a) pa_nil he) (by decide) (by decide) he hpl) fun σ G H Q a' b' c' q => ⟨Δ, S, _, G, ha, a', b', c', fun v G1 H1 g p r => by
    have h := r G1 H1 (.refl g.sub) p
    cases h with
    | lst hs hd => exact ⟨_, _, rfl, .inl (SqL.of hs), by rw [hd.len]; exact q _ G1 H1 g p (.int _)⟩⟩
theorem ev_lenT {x : Str} (hx : x = "len") (hg : Gl X x) (hm : X.mg x = none) (ha : Ev X a Δ S (.tuple ds)) (he : starEach [a] X.env = (false, eval a X.env) :: starEach [] X.env := by rfl) (hpl : (backTo pos (starEach [] X.env)).any (·.1) = false := by rfl) :
    Ev X (.Call (.Name x p) [a] [] pos) Δ S (.int ds.length) := by
  subst hx
  exact ev_pe (pe_callB call_len_seq hg hm PySem.boot_len (pa_cons (pe_ev X a) pa_nil he) (by decide) (by decide) he hpl) fun σ G H Q a' b' c' q => ⟨Δ, S, _, G, ha, a', b', c', fun v G1 H1 g p r => by
    cases r with
    | tup hs hd => exact ⟨_, _, rfl, .inr (SqT.of (g.sub _ _ hs)), by rw [hd.len]; exact q _ G1 H1 g p (.int _)⟩⟩
end
end DL
namespace DL
open PySem PySem.Spec PyProof.Rows L2

/-! ### what is walked -/
structure Walk (K : PySem.W.Frag) (J : It) (G1 : Hp) (ds : List PyData) : Prop where
  stop : ∀ (G H : Hp), Same G1 G → Same G H → J.stop ds.length H
  go : ∀ (i : Nat) (d : PyData) (G H : Hp), Same G1 G → Same G H → ds[i]? = some d → J.go i H ∧ ∀ x H', J.yld i H x H' → ∃ G', Gr G H G' H' ∧ Same H H' ∧ At K G' x d
def ItD (X : Cx) (tg iter : Expr) (Δ : De) (S : As) (ds : List PyData) : Prop :=
  ∃ wi, PI X tg iter wi ∧ ∀ (σ : L2.St) (G H : Hp) (R : It → Hp → Prop), EnvOk X.K G σ Δ → Same G H → S.p G H → (∀ J G1 H1, Gr G H G1 H1 → S.p G1 H1 → Walk X.K J G1 ds → R J H1) → wi σ H R
section
variable {X : Cx} {e e2 tg : Expr} {es : List Expr} {Δ : De} {S : As} {R : RR} {d d1 d2 : PyData} {ds ds2 : List PyData} {pos p tpos : Pos}
theorem it_list (h : Ev X e Δ S (.list ds)) : ItD X tg e Δ S ds :=
  ⟨_, pi_list (pe_ev X e), fun σ G H R a b c q => ⟨Δ, S, _, G, h, a, b, c, fun v G1 H1 g p r => by
    cases r with
    | lst hs hd =>
      have hs : SqL X.K G1 _ _ := SqL.of hs
      refine ⟨_, rfl, ⟨_, g.sub.seq hs⟩, q _ G1 H1 g p ⟨fun G2 H2 s1 s2 => ⟨_, s2.seq (s1.seq hs), by rw [hd.len]; exact Nat.le_refl _⟩, fun i d G2 H2 s1 s2 e1 => ?_⟩⟩
      obtain ⟨v, f1, f2⟩ := hd.get e1
      refine ⟨⟨_, v, s2.seq (s1.seq hs), f1⟩, fun x H' y => ?_⟩
      obtain ⟨rfl, y⟩ := y
      have := y _ (s2.seq (s1.seq hs))
      rw [f1] at this; cases this
      exact ⟨G2, .refl s2, Same.refl _, f2.up s1⟩⟩⟩
theorem it_tup (h : Ev X e Δ S (.tuple ds)) : ItD X tg e Δ S ds :=
  ⟨_, pi_tup (pe_ev X e), fun σ G H R a b c q => ⟨Δ, S, _, G, h, a, b, c, fun v G1 H1 g p r => by
    cases r with
    | tup hs hd =>
      refine ⟨_, rfl, ⟨_, SqT.of (g.sub _ _ hs)⟩, q _ G1 H1 g p ⟨fun G2 H2 s1 s2 => ⟨_, SqT.of (s2 _ _ (s1 _ _ hs)), by rw [hd.len]; exact Nat.le_refl _⟩, fun i d G2 H2 s1 s2 e1 => ?_⟩⟩
      obtain ⟨v, f1, f2⟩ := hd.get e1
      refine ⟨⟨_, v, SqT.of (s2 _ _ (s1 _ _ hs)), f1⟩, fun x H' y => ?_⟩
      obtain ⟨rfl, y⟩ := y
      have := y _ (SqT.of (s2 _ _ (s1 _ _ hs)))
      rw [f1] at this; cases this
      exact ⟨G2, .refl s2, Same.refl _, f2.up s1⟩⟩⟩
theorem walk_range {K : PySem.W.Frag} {G1 : Hp} (lo : Int) (n : Nat) : Walk K (Itr lo n) G1 ((List.range n).map fun k : Nat => .int (lo + k)) :=
  ⟨fun G H _ _ => by show n ≤ _; simp, fun i d G H s1 s2 e => by
    rw [List.getElem?_map] at e
    cases q : (List.range n)[i]? with
    | none => rw [q] at e; cases e
    | some j =>
      rw [q] at e
      cases e
      have hi : i < n := by
        have := (List.getElem?_eq_some_iff.mp q).1
        simpa using this
      rw [List.getElem?_range hi] at q
      cases q
      refine ⟨hi, fun x H' y => ?_⟩
      obtain ⟨rfl, rfl⟩ := y
      exact ⟨G, .refl s2, Same.refl _, .int _⟩⟩
theorem it_range1 {n : Int} (hg : Gl X "range") (hm : X.mg "range" = none) (h : Ev X e Δ S (.int n)) (h1 : -(2 ^ 62) ≤ n) (h2 : n < 2 ^ 62) (hs' : starEach [e] X.env = (false, eval e X.env) :: starEach [] X.env := by rfl) (hs : starEach [e] X.env = [(false, eval e X.env)] := by rfl) :
    ItD X tg (.Call (.Name "range" p) [e] [] pos) Δ S ((List.range n.toNat).map fun k : Nat => .int (0 + k)) :=
  ⟨_, pi_range1 hg hm (pa_cons (pe_ev X e) pa_nil hs') hs, fun σ G H R a b c q => ⟨Δ, S, _, G, h, a, b, c, fun v G1 H1 g p r => by
    cases r
    exact ⟨n, rfl, h1, h2, q _ G1 H1 g p (walk_range 0 _)⟩⟩⟩
theorem it_range2 {m n : Int} (hg : Gl X "range") (hm : X.mg "range" = none) (h : Ev X e Δ S (.int m)) (h' : Ev X e2 Δ S (.int n)) (hb : -(2 ^ 62) ≤ m ∧ m < 2 ^ 62 ∧ -(2 ^ 62) ≤ n ∧ n < 2 ^ 62)
    (hs1 : starEach [e, e2] X.env = (false, eval e X.env) :: starEach [e2] X.env := by rfl) (hs2' : starEach [e2] X.env = (false, eval e2 X.env) :: starEach [] X.env := by rfl) (hs : starEach [e, e2] X.env = [(false, eval e X.env), (false, eval e2 X.env)] := by rfl) (hs2 : starEach [e2] X.env = [(false, eval e2 X.env)] := by rfl) :
    ItD X tg (.Call (.Name "range" p) [e, e2] [] pos) Δ S ((List.range (n - m).toNat).map fun k : Nat => .int (m + k)) :=
  ⟨_, pi_range2 hg hm (pa_cons (pe_ev X e) (pa_cons (pe_ev X e2) pa_nil hs2') hs1) hs hs2, fun σ G H R a b c q => ⟨Δ, S, _, G, h, a, b, c, fun v G1 H1 g p r => by
    cases r
    exact ⟨Δ, S, _, G1, h', a.up g.gx, g.sub, p, fun v G2 H2 g2 p2 r2 => by
      cases r2
      exact ⟨m, n, rfl, hb, q _ G2 H2 (g.trans g2) p2 (walk_range m _)⟩⟩⟩⟩
theorem it_enum {elts : List Expr} {kk : Nat} (hg : Gl X "enumerate") (hm : X.mg "enumerate" = none) (h : Ev X e Δ S (.list ds)) (hs' : starEach [e] X.env = (false, eval e X.env) :: starEach [] X.env := by rfl) (hs : starEach [e] X.env = [(false, eval e X.env)] := by rfl) :
    ItD X (.Tuple elts kk tpos) (.Call (.Name "enumerate" p) [e] [] pos) Δ S (ds.zipIdx.map fun z => .tuple [.int (z.2 : Nat), z.1]) :=
  ⟨_, pi_enum hg hm (pa_cons (pe_ev X e) pa_nil hs') hs, fun σ G H R a b c q => ⟨Δ, S, _, G, h, a, b, c, fun v G1 H1 g p r => by
    cases r with
    | lst hs hd =>
      have hs : SqL X.K G1 _ _ := SqL.of hs
      refine ⟨_, _, rfl, g.sub.seq hs, q _ G1 H1 g p ⟨fun G2 H2 s1 s2 => ⟨_, s2.seq (s1.seq hs), by simp [hd.len]⟩, fun i d G2 H2 s1 s2 e1 => ?_⟩⟩
      rw [List.getElem?_map, List.getElem?_zipIdx] at e1
      cases q : ds[i]? with
      | none => rw [q] at e1; cases e1
      | some d0 =>
        rw [q] at e1
        cases e1
        obtain ⟨v, f1, f2⟩ := hd.get q
        refine ⟨⟨_, v, s2.seq (s1.seq hs), f1⟩, fun x H' y => ?_⟩
        obtain ⟨T, x', rfl, hT, rfl, y⟩ := y
        have := y _ (s2.seq (s1.seq hs))
        rw [f1] at this; cases this
        refine ⟨upd G2 T (.tup [.int (i : Nat), v]), .new s2 hT, same_upd hT, .tup upd_same (.cons ?_ (.one ((f2.up s1).up (same_upd (s2.free hT)))))⟩
        rw [Nat.zero_add]
        exact .int _⟩⟩
theorem it_zipL {elts : List Expr} {kk : Nat} (hg : Gl X "zip") (hm : X.mg "zip" = none) (h : Ev X e Δ S (.list ds)) (h' : Ev X e2 Δ S (.list ds2))
    (hs : starEach [e, e2] X.env = (false, eval e X.env) :: starEach [e2] X.env := by rfl) (hs2 : starEach [e2] X.env = (false, eval e2 X.env) :: starEach [] X.env := by rfl) (hpl : (backTo pos (starEach [e2] X.env)).any (·.1) = false := by rfl) :
    ItD X (.Tuple elts kk tpos) (.Call (.Name "zip" p) [e, e2] [] pos) Δ S ((ds.zip ds2).map fun z => .tuple [z.1, z.2]) :=
  ⟨_, pi_zip hg hm (pa_cons (pe_ev X e) (pa_cons (pe_ev X e2) pa_nil hs2) hs) hs hpl, fun σ G H R a b c q => ⟨Δ, S, _, G, h, a, b, c, fun v G1 H1 g p r => ⟨Δ, S, _, G1, h', a.up g.gx, g.sub, p, fun v2 G2 H2 g2 p2 r2 => by
    cases r with
    | lst hx hd =>
      cases r2 with
      | lst hx2 hd2 =>
        have hx : SqL X.K G2 _ _ := SqL.of (g2.gx _ _ hx)
        have hx2 : SqL X.K G2 _ _ := SqL.of hx2
        have hd := hd.up g2.gx
        refine ⟨_, _, _, _, rfl, g2.sub.seq hx, g2.sub.seq hx2, q _ G2 H2 (g.trans g2) p2 ⟨fun G3 H3 s1 s2 => ⟨_, _, s2.seq (s1.seq hx), s2.seq (s1.seq hx2), ?_⟩, fun i d G3 H3 s1 s2 e1 => ?_⟩⟩
        · simp only [List.length_map, List.length_zip]
          rw [hd.len, hd2.len]
          omega
        · rw [List.getElem?_map] at e1
          cases q : (ds.zip ds2)[i]? with
          | none => rw [q] at e1; cases e1
          | some d0 =>
            rw [q] at e1
            cases e1
            obtain ⟨q1, q2⟩ := List.getElem?_zip_eq_some.mp q
            obtain ⟨u, f1, f2⟩ := hd.get q1
            obtain ⟨u2, f1', f2'⟩ := hd2.get q2
            refine ⟨⟨_, _, u, u2, s2.seq (s1.seq hx), s2.seq (s1.seq hx2), f1, f1'⟩, fun x H' y => ?_⟩
            obtain ⟨T, x', y', rfl, hT, rfl, y1, y2⟩ := y
            have := y1 _ (s2.seq (s1.seq hx))
            rw [f1] at this; cases this
            have := y2 _ (s2.seq (s1.seq hx2))
            rw [f1'] at this; cases this
            exact ⟨upd G3 T (.tup [u, u2]), .new s2 hT, same_upd hT, .tup upd_same (.cons ((f2.up s1).up (same_upd (s2.free hT))) (.one ((f2'.up s1).up (same_upd (s2.free hT)))))⟩⟩⟩⟩
end

/-! ### targets -/
def TgS (X : Cx) (tg : Expr) (is : List Nat) (d : PyData) (f : De → De) : Prop :=
  ∀ (pins : List (Addr × Obj)) (s : Shared) (σ : L2.St) (Δ : De) (G H : Hp) (v : V) (u : Value) (Q : L2.St → Hp → Prop), Inv X pins σ H s → RelV v u → EnvOk X.K G σ Δ → Same G H → At X.K G v d →
    (∀ σ', EnvOk X.K G σ' (f Δ) → (∀ vs : List Nat, (∀ i ∈ is, i ∈ vs) → wipe σ' vs = wipe σ vs) → Q σ' H) → wpAny (model X.prog X.w) X.A (assign tg X.env u) (fun _ s' => ∃ σ' H', Inv X pins σ' H' s' ∧ Q σ' H') X.xe s
theorem tgs_pg {X : Cx} {tg : Expr} {is : List Nat} {d : PyData} {f : De → De} {g : TG} (h : PG X tg g)
    (hg : ∀ (σ : L2.St) (Δ : De) (G H : Hp) (v : V) (Q : L2.St → Hp → Prop), EnvOk X.K G σ Δ → Same G H → At X.K G v d → (∀ σ', EnvOk X.K G σ' (f Δ) → (∀ vs : List Nat, (∀ i ∈ is, i ∈ vs) → wipe σ' vs = wipe σ vs) → Q σ' H) → g v σ H Q) : TgS X tg is d f :=
  fun pins s σ Δ G H v u Q I r a b c q => h.run pins s σ H v u Q I r (hg σ Δ G H v Q a b c q)
theorem tg_name {X : Cx} {x : Str} {pos : Pos} {d : PyData} (i : Nat) (hN : X.N.Nodup) (hi : X.N[i]? = some x := by rfl) (hx : Loc X.env.scope x := by first | exact Or.inl rfl | exact Or.inr rfl) (hf : X.fn x = true ∨ X.env.scope.names.lookup x = some .local := by first | exact .inl rfl | exact .inr rfl | assumption) :
    TgS X (.Name x pos) [i] d (fun Δ => Δ.set i (some d)) :=
  tgs_pg (pg_name hN hi hx hf) fun σ Δ G H v Q a b c q => q _ (a.set c) fun vs h => wipe_set (h i (by simp))
/-- names of a tuple: slot by slot -/
inductive Names (X : Cx) : List Expr → List Nat → Prop
  | nil : Names X [] []
  | cons {x : Str} {pos : Pos} {es : List Expr} {i : Nat} {is : List Nat} (hi : X.N[i]? = some x) (hx : Loc X.env.scope x) (hf : X.fn x = true ∨ X.env.scope.names.lookup x = some .local) (h : Names X es is) : Names X (.Name x pos :: es) (i :: is)
theorem nm_cons {X : Cx} {x : Str} {pos : Pos} {es : List Expr} (i : Nat) {is : List Nat} (h : Names X es is) (hi : X.N[i]? = some x := by rfl) (hx : Loc X.env.scope x := by first | exact Or.inl rfl | exact Or.inr rfl) (hf : X.fn x = true ∨ X.env.scope.names.lookup x = some .local := by first | exact .inl rfl | exact .inr rfl | assumption) :
    Names X (.Name x pos :: es) (i :: is) := .cons hi hx hf h
def sets (Δ : De) : List Nat → List PyData → De
  | i :: is, d :: ds => sets (Δ.set i (some d)) is ds
  | _, _ => Δ
theorem names_pgs {X : Cx} (hN : X.N.Nodup) {es : List Expr} {is : List Nat} (n : Names X es is) : ∃ t, PGs X es t ∧ ∀ (ds : List PyData) (σ : L2.St) (Δ : De) (G H : Hp) (vs : List V) (Q : L2.St → Hp → Prop), ds.length = is.length → EnvOk X.K G σ Δ → Ats X.K G vs ds →
    (∀ σ', EnvOk X.K G σ' (sets Δ is ds) → (∀ ws : List Nat, (∀ i ∈ is, i ∈ ws) → wipe σ' ws = wipe σ ws) → Q σ' H) → t vs σ H Q := by
  induction n with
  | nil =>
    refine ⟨_, pgs_nil, fun ds σ Δ G H vs Q hl a b q => ?_⟩
    have e : ds = [] := List.eq_nil_of_length_eq_zero hl
    subst e
    cases b
    exact ⟨rfl, q σ a fun _ _ => rfl⟩
  | @cons x pos es i is hi hx hf n ih =>
    obtain ⟨t, h1, h2⟩ := ih
    refine ⟨_, pgs_cons (pg_name hN hi hx hf) h1, fun ds σ Δ G H vs Q hl a b q => ?_⟩
    cases ds with
    | nil => simp at hl
    | cons d ds =>
      cases b with
      | cons b1 b2 =>
        refine ⟨_, _, rfl, h2 ds _ _ G H _ Q (by simpa using hl) (a.set b1) b2 fun σ' a' w => q σ' a' fun ws hw => ?_⟩
        rw [w ws fun j hj => hw j (List.mem_cons_of_mem _ hj), wipe_set (hw i (by simp))]
theorem tg_tup {X : Cx} {es : List Expr} {k : Nat} {pos : Pos} {is : List Nat} {ds : List PyData} (hN : X.N.Nodup) (hc : X.calm = true) (n : Names X es is) (hl : ds.length = is.length := by rfl) (hn : (assignEach es X.env).length = is.length := by rfl) (hst : (assignEach es X.env).findIdx? (·.1) = none := by rfl) :
    TgS X (.Tuple es k pos) is (.tuple ds) (fun Δ => sets Δ is ds) := by
  obtain ⟨t, h1, h2⟩ := names_pgs hN n
  refine tgs_pg (pg_tup hc h1 hn hst) fun σ Δ G H v Q a b c q => ?_
  cases c with
  | tup hs hd => exact ⟨_, _, rfl, SqT.of (b _ _ hs), by rw [hd.len]; exact hl, h2 ds σ Δ G H _ Q hl a hd q⟩

/-! ### comprehensions -/
abbrev AllB (X : Cx) (scope : Scope) (P : Cx → Prop) : Prop := ∀ (s : Shared) (H : Hp) (C : Addr) (cl : List (Str × Addr)) (fp : List Addr), P (X.blk s H scope (compEnvC scope cl C X.env) fp)
section
variable {X : Cx} {scope : Scope} {e elt tg iter : Expr} {ifs : List Expr} {Δ : De} {S : As} {R : RR}
def tEvB (X : Cx) (scope : Scope) (e : Expr) : TE := fun σ H Q => ∃ Δ S R G, AllB X scope (fun Y => EvR Y e Δ S R) ∧ EnvOk X.K G σ Δ ∧ Same G H ∧ S.p G H ∧ ∀ v G2 H2, Gr G H G2 H2 → S.p G2 H2 → R G H v G2 H2 → Q v H2
theorem pe_evB (X : Cx) (scope : Scope) (e : Expr) (s : Shared) (H : Hp) (C : Addr) (cl : List (Str × Addr)) (fp : List Addr) : PE (X.blk s H scope (compEnvC scope cl C X.env) fp) e (tEvB X scope e) :=
  ⟨fun pins s' σ H' Q I ⟨_, _, _, G, h, a, b, c, q⟩ => h s H C cl fp pins s' σ G H' Q I a b c q⟩
def tTgB (X : Cx) (scope : Scope) (tg : Expr) : TG := fun v σ H Q => ∃ Δ is d f G, AllB X scope (fun Y => TgS Y tg is d f) ∧ EnvOk X.K G σ Δ ∧ Same G H ∧ At X.K G v d ∧ ∀ σ', EnvOk X.K G σ' (f Δ) → (∀ vs : List Nat, (∀ i ∈ is, i ∈ vs) → wipe σ' vs = wipe σ vs) → Q σ' H
theorem pg_tgB (X : Cx) (scope : Scope) (tg : Expr) (s : Shared) (H : Hp) (C : Addr) (cl : List (Str × Addr)) (fp : List Addr) : PG (X.blk s H scope (compEnvC scope cl C X.env) fp) tg (tTgB X scope tg) :=
  ⟨fun pins s' σ H' v u Q I r ⟨_, _, _, _, G, h, a, b, c, q⟩ => h s H C cl fp pins s' σ _ G H' v u Q I r a b c q⟩
/-- a clause's tests -/
def EvTs (X : Cx) (ifs : List Expr) (Δ : De) (S : As) (b : Bool) : Prop :=
  ∀ (pins : List (Addr × Obj)) (s : Shared) (σ : L2.St) (G H : Hp) (Q : Bool → Hp → Prop), Inv X pins σ H s → EnvOk X.K G σ Δ → Same G H → S.p G H → (∀ G2 H2, Gr G H G2 H2 → S.p G2 H2 → Q b H2) →
    wpAny (model X.prog X.w) X.A (forIn ifs true fun c r => if r = true then do let ok ← isTrue c X.env (eval c X.env); pure (ForInStep.yield ok) else pure (ForInStep.yield r)) (TP X pins σ Q) X.xe s
theorem evts_nil : EvTs X [] Δ S true := fun pins s σ G H Q I a b c q => pts_nil.run pins s σ H Q I (q G H (.refl b) c)
theorem evts_one {c : Expr} {b : Bool} (h : EvT X c Δ S b) : EvTs X [c] Δ S b := fun pins s σ G H Q I a b c q => (pts_one (pt_ev X _)).run pins s σ H Q I ⟨Δ, S, _, G, h, a, b, c, q⟩
def tTsB (X : Cx) (scope : Scope) (ifs : List Expr) : TT := fun σ H Q => ∃ Δ S b G, AllB X scope (fun Y => EvTs Y ifs Δ S b) ∧ EnvOk X.K G σ Δ ∧ Same G H ∧ S.p G H ∧ ∀ G2 H2, Gr G H G2 H2 → S.p G2 H2 → Q b H2
theorem pts_tsB (X : Cx) (scope : Scope) (ifs : List Expr) (s : Shared) (H : Hp) (C : Addr) (cl : List (Str × Addr)) (fp : List Addr) : PTs (X.blk s H scope (compEnvC scope cl C X.env) fp) ifs (tTsB X scope ifs) :=
  ⟨fun pins s' σ H' Q I ⟨_, _, _, G, h, a, b, c, q⟩ => h s H C cl fp pins s' σ G H' Q I a b c q⟩
theorem Gr.mut {G H : Hp} {l : Addr} {xs ys : List V} (e : Same G H) (g : G l = none) (h : H l = some (.lst xs)) : Gr G H G (upd H l (.lst ys)) :=
  ⟨Same.refl _, fun b u q => by rw [upd_ne (ne_of_none q g)]; exact e b u q, fun _ q k => absurd q k, fun b o q => by
    by_cases hb : b = l
    · subst hb; exact ⟨_, upd_same, fun ⟨_, z⟩ => by cases z⟩
    · exact ⟨o, by rw [upd_ne hb]; exact q, fun z => z⟩⟩
theorem take_some {α : Type} {l : List α} {i : Nat} {x : α} (h : l[i]? = some x) : l.take (i + 1) = l.take i ++ [x] := by
  rw [List.take_succ, h]; rfl
/-- what a list comprehension makes, as a value or for a name -/
def LcR (X : Cx) (elt tg iter : Expr) (ifs : List Expr) (own : List (Str × Nat)) (scope : Scope) (Δ : De) (S : As) (R : RR) : Prop :=
  ∃ wi, PI X tg iter wi ∧ BlkOk X.N X.env.scope scope own ∧ ∀ (σ : L2.St) (G H : Hp) (Q : VK), EnvOk X.K G σ Δ → Same G H → S.p G H → (∀ v G2 H2, Gr G H G2 H2 → S.p G2 H2 → R G H v G2 H2 → Q v H2) → tLc wi (tTgB X scope tg) (tTsB X scope ifs) (tEvB X scope elt) (own.map (·.2)) σ H Q
theorem ev_lcR {own : List (Str × Nat)} {pos : Pos} (h : LcR X elt tg iter ifs own scope Δ S R) (hc : X.calm = true) (hN : X.N.Nodup) (hs : ∀ x, foldedSetIterable iter X.env x = pure x := by intro _; rfl) : EvR X (.ListComp elt [⟨tg, iter, ifs, 0⟩] scope pos) Δ S R := by
  obtain ⟨wi, w1, ok, w2⟩ := h
  exact ev_pe (pe_lc hc hN w1 ok (pg_tgB X scope tg) (pts_tsB X scope ifs) (pe_evB X scope elt) hs) w2
/-- [elt for tg in iter if ..]: of the items xs those with b, g of each -/
theorem lcl {α : Type} {xs : List α} {enc : α → PyData} {own : List (Str × Nat)} {is : List Nat} (b : α → Bool) (g : α → PyData) (F : α → De → De) (hi : ItD X tg iter Δ S (xs.map enc)) (ok : BlkOk X.N X.env.scope scope own)
    (hz : xs.length ≤ 1000000) (his : ∀ i ∈ is, i ∈ own.map (·.2))
    (htg : ∀ x ∈ xs, AllB X scope fun Y => TgS Y tg is (enc x) (F x))
    (ht : ∀ D es, ¬ S.own D → ∀ x ∈ xs, AllB X scope fun Y => EvTs Y ifs (F x (wipeD Δ (own.map (·.2)))) (S.and (.acc X.K D es)) (b x))
    (he : ∀ D es, ¬ S.own D → ∀ x ∈ xs, b x = true → AllB X scope fun Y => Ev Y elt (F x (wipeD Δ (own.map (·.2)))) (S.and (.acc X.K D es)) (g x)) :
    LcR X elt tg iter ifs own scope Δ S (rNl X.K ((xs.filter b).map g)) := by
  obtain ⟨wi, w1, w2⟩ := hi
  refine ⟨wi, w1, ok, fun σ G H Q ha hb hcS q => ?_⟩
  refine w2 σ G H _ ha hb hcS fun J G1 H1 g1 p1 W D hD => ?_
  have hO : ¬ S.own D := not_own p1 hD
  have hG1 : G1 D = none := g1.sub.free hD
  refine ⟨fun i m H' => m = xs.length - i ∧ i ≤ xs.length ∧ ∃ G', Gr G H G' H' ∧ Same G1 G' ∧ (S.and (.acc X.K D (((xs.take i).filter b).map g))).p G' H', ⟨xs.length, by simp, Nat.zero_le _, G1, ?_⟩, ?_⟩
  · obtain ⟨g2, p2⟩ := layH (S := S) (o := .lst []) g1 p1 hD
    exact ⟨g2, Same.refl _, p2, hG1, [], upd_same, .nil⟩
  rintro i m H' ⟨rfl, hle, G', g2, s1, p2⟩
  have pS : S.p G' H' := p2.1
  by_cases hlt : i < xs.length
  · obtain ⟨x, hx⟩ : ∃ x, xs[i]? = some x := ⟨xs[i], List.getElem?_eq_getElem hlt⟩
    have hmem : x ∈ xs := List.mem_of_getElem? hx
    have hxd : (xs.map enc)[i]? = some (enc x) := by rw [List.getElem?_map, hx]; rfl
    obtain ⟨j1, j2⟩ := W.go i (enc x) G' H' s1 g2.sub hxd
    refine .inr ⟨j1, fun H'' => i + 1 ≤ xs.length ∧ ∃ G', Gr G H G' H'' ∧ Same G1 G' ∧ (S.and (.acc X.K D (((xs.take (i + 1)).filter b).map g))).p G' H'', fun H'' ⟨h1, h2⟩ => ⟨xs.length - (i + 1), by omega, rfl, h1, h2⟩, fun v H'' y => ?_⟩
    obtain ⟨G3, g3, s3, a3⟩ := j2 v H'' y
    have p3 : (S.and (.acc X.K D (((xs.take i).filter b).map g))).p G3 H'' := As.cl _ g3 s3 p2
    refine ⟨wipeD Δ (own.map (·.2)), is, enc x, F x, G3, htg x hmem, (ha.up (g2.gx.trans g3.gx)).wipe _, g3.sub, a3, fun σ' e' w' => ⟨?_, ?_⟩⟩
    · rw [w' _ his, wipe_wipe]
    refine ⟨_, _, b x, G3, ht D _ hO x hmem, e', g3.sub, p3, fun G4 H4 g4 p4 => ?_⟩
    cases hbx : b x with
    | false =>
      refine iteF ⟨hlt, G4, (g2.trans g3).trans g4, (s1.trans g3.gx).trans g4.gx, ?_⟩
      rw [take_some hx, List.filter_append, List.filter_cons_of_neg (by simp [hbx]), List.filter_nil, List.append_nil]
      exact p4
    | true =>
      refine iteT ⟨_, _, rAt X.K (g x), G4, (fun s H C cl fp => he D _ hO x hmem hbx s H C cl fp), e'.up g4.gx, g4.sub, p4, fun u G5 H5 g5 p5 r5 => ?_⟩
      obtain ⟨pS5, hG5, acc, hacc, hats⟩ := p5
      have hlen : acc.length ≤ i := by
        rw [hats.len, List.length_map]
        exact Nat.le_trans (List.length_filter_le _ _) (by rw [List.length_take]; omega)
      refine ⟨acc, hacc, Nat.lt_of_le_of_lt hlen (Nat.lt_of_lt_of_le hlt (Nat.le_trans hz (by decide))), hlt, G5, ?_, ((s1.trans g3.gx).trans g4.gx).trans g5.gx, S.stb (As.nf hO) (fun ⟨_, z⟩ => by cases z) pS5 hG5 (by rw [hacc]; exact fun z => by cases z), hG5, _, upd_same, ?_⟩
      · exact (((g2.trans g3).trans g4).trans g5).trans (.mut g5.sub hG5 hacc)
      · rw [take_some hx, List.filter_append, List.filter_cons_of_pos (by simp [hbx]), List.filter_nil, List.map_append]
        exact hats.app (.one r5)
  · have e : i = xs.length := by omega
    subst e
    have h2 := W.stop G' H' s1 g2.sub
    rw [List.length_map] at h2
    refine .inl ⟨h2, ?_⟩
    rw [List.take_length] at p2
    obtain ⟨pS2, hG2, acc, hacc, hats⟩ := p2
    exact q _ G' H' g2 pS2 ⟨D, acc, rfl, none_back g1 hD, hG2, hacc, hats⟩
theorem evl_lc {α : Type} {xs : List α} {enc : α → PyData} {own : List (Str × Nat)} {pos : Pos} {is : List Nat} (b : α → Bool) (g : α → PyData) (F : α → De → De) (hi : ItD X tg iter Δ S (xs.map enc)) (hc : X.calm = true) (hN : X.N.Nodup) (ok : BlkOk X.N X.env.scope scope own)
    (hz : xs.length ≤ 1000000) (his : ∀ i ∈ is, i ∈ own.map (·.2))
    (htg : ∀ x ∈ xs, AllB X scope fun Y => TgS Y tg is (enc x) (F x))
    (ht : ∀ D es, ¬ S.own D → ∀ x ∈ xs, AllB X scope fun Y => EvTs Y ifs (F x (wipeD Δ (own.map (·.2)))) (S.and (.acc X.K D es)) (b x))
    (he : ∀ D es, ¬ S.own D → ∀ x ∈ xs, b x = true → AllB X scope fun Y => Ev Y elt (F x (wipeD Δ (own.map (·.2)))) (S.and (.acc X.K D es)) (g x))
    (hs : ∀ x, foldedSetIterable iter X.env x = pure x := by intro _; rfl) :
    EvL X (.ListComp elt [⟨tg, iter, ifs, 0⟩] scope pos) Δ S ((xs.filter b).map g) := ev_lcR (lcl b g F hi ok hz his htg ht he) hc hN hs
end
end DL
namespace DL
open PySem PySem.Spec PyProof.Rows L2

/-! ### statements -/
/-- what is wanted behind a block, of what is known too -/
structure EndsG where
  nx : L2.St → Hp → Hp → Prop
  rt : V → Hp → Hp → Prop
  bk : L2.St → Hp → Hp → Prop := fun _ _ _ => False
  ct : L2.St → Hp → Hp → Prop := fun _ _ _ => False
def EndsG.at (D : EndsG) (G : Hp) : Ends where
  nx := fun σ H => ∃ G2, Same G G2 ∧ Same G2 H ∧ D.nx σ G2 H
  rt := fun v H => ∃ G2, Same G G2 ∧ Same G2 H ∧ D.rt v G2 H
  bk := fun σ H => ∃ G2, Same G G2 ∧ Same G2 H ∧ D.bk σ G2 H
  ct := fun σ H => ∃ G2, Same G G2 ∧ Same G2 H ∧ D.ct σ G2 H
structure LeE (D D' : Ends) : Prop where
  nx : ∀ σ H, D.nx σ H → D'.nx σ H
  rt : ∀ v H, D.rt v H → D'.rt v H
  bk : ∀ σ H, D.bk σ H → D'.bk σ H
  ct : ∀ σ H, D.ct σ H → D'.ct σ H
theorem LeE.refl (D : Ends) : LeE D D := ⟨fun _ _ h => h, fun _ _ h => h, fun _ _ h => h, fun _ _ h => h⟩
theorem LeE.trans {A B C : Ends} (a : LeE A B) (b : LeE B C) : LeE A C := ⟨fun σ H h => b.nx σ H (a.nx σ H h), fun σ H h => b.rt σ H (a.rt σ H h), fun σ H h => b.bk σ H (a.bk σ H h), fun σ H h => b.ct σ H (a.ct σ H h)⟩
theorem EndsG.le {D : EndsG} {G G' : Hp} (e : Same G G') : LeE (D.at G') (D.at G) :=
  ⟨fun _ _ ⟨G2, a, b⟩ => ⟨G2, e.trans a, b⟩, fun _ _ ⟨G2, a, b⟩ => ⟨G2, e.trans a, b⟩, fun _ _ ⟨G2, a, b⟩ => ⟨G2, e.trans a, b⟩, fun _ _ ⟨G2, a, b⟩ => ⟨G2, e.trans a, b⟩⟩
theorem SP.le {X : Cx} {pins : List (Addr × Obj)} {D D' : Ends} (l : LeE D D') {f : Flow} {s : Shared} (h : SP X pins D f s) : SP X pins D' f s := by
  cases f with
  | next => obtain ⟨σ, H, I, q⟩ := h; exact ⟨σ, H, I, l.nx _ _ q⟩
  | brk => obtain ⟨σ, H, I, q⟩ := h; exact ⟨σ, H, I, l.bk _ _ q⟩
  | cont => obtain ⟨σ, H, I, q⟩ := h; exact ⟨σ, H, I, l.ct _ _ q⟩
  | ret u => obtain ⟨v, σ, H, I, r, q⟩ := h; exact ⟨v, σ, H, I, r, l.rt _ _ q⟩
def Go (X : Cx) (sts : List Stmt) (D : EndsG) (Δ : De) (S : As) : Prop :=
  ∀ (pins : List (Addr × Obj)) (s : Shared) (σ : L2.St) (G H : Hp), Inv X pins σ H s → EnvOk X.K G σ Δ → Same G H → S.p G H → wpAny (model X.prog X.w) X.A (execs sts X.env) (SP X pins (D.at G)) X.xe s
def tGo (X : Cx) (sts : List Stmt) : TS := fun D' σ H => ∃ D Δ S G, Go X sts D Δ S ∧ LeE (D.at G) D' ∧ EnvOk X.K G σ Δ ∧ Same G H ∧ S.p G H
theorem pss_go (X : Cx) (sts : List Stmt) : PSs X sts (tGo X sts) := ⟨fun pins s σ H D' I ⟨D, Δ, S, G, h, l, a, b, c⟩ => wpAny_mono (h pins s σ G H I a b c) (fun _ _ q => SP.le l q) fun _ _ q => q⟩
section
variable {X : Cx} {e a b tg iter : Expr} {es : List Expr} {Δ : De} {S : As} {R : RR} {d d1 d2 : PyData} {ds : List PyData} {pos p : Pos} {st : Stmt} {sts rest body orelse : List Stmt} {D : EndsG}
theorem go_pss {t : TS} (h : PSs X sts t) (ht : ∀ (σ : L2.St) (G H : Hp) (D' : Ends), LeE (D.at G) D' → EnvOk X.K G σ Δ → Same G H → S.p G H → t D' σ H) : Go X sts D Δ S :=
  fun pins s σ G H I a b c => h.run pins s σ H (D.at G) I (ht σ G H _ (.refl _) a b c)
/-- the rest is next -/
def EndsG.th (D : EndsG) (X : Cx) (rest : List Stmt) : EndsG := { D with nx := fun σ G H => ∃ Δ S, Go X rest D Δ S ∧ EnvOk X.K G σ Δ ∧ S.p G H }
theorem go_cons {t : TS} (h : PS X st t) (ht : ∀ (σ : L2.St) (G H : Hp) (D' : Ends), LeE ((D.th X rest).at G) D' → EnvOk X.K G σ Δ → Same G H → S.p G H → t D' σ H) : Go X (st :: rest) D Δ S :=
  go_pss (pss_cons h (pss_go X rest)) fun σ G H D' l a b c => ht σ G H _ ⟨fun σ H ⟨G2, s1, s2, Δ', S', g, x, y⟩ => ⟨D, Δ', S', G2, g, (EndsG.le s1).trans l, x, s2, y⟩, l.rt, l.bk, l.ct⟩ a b c
theorem go_nil (h : ∀ (σ : L2.St) (G H : Hp), EnvOk X.K G σ Δ → Same G H → S.p G H → D.nx σ G H) : Go X [] D Δ S :=
  go_pss pss_nil fun σ G H D' l a b c => l.nx _ _ ⟨G, Same.refl _, b, h σ G H a b c⟩
/-- a block's end: on with the rest -/
theorem go_nil' (h : Go X rest D Δ S) : Go X [] (D.th X rest) Δ S := go_nil fun σ G H a b c => ⟨Δ, S, h, a, c⟩
theorem Go.le {T : As} (h : Go X sts D Δ T) (k : S.le T) : Go X sts D Δ S := fun pins s σ G H I a b c => h pins s σ G H I a b (k G H c)
theorem Go.env {Δ' : De} (h : Go X sts D Δ' S) (k : ∀ (i : Nat) (d : PyData), Δ'[i]? = some (some d) → Δ[i]? = some (some d)) (hl : Δ'.length = Δ.length) : Go X sts D Δ S :=
  fun pins s σ G H I a b c => h pins s σ G H I ⟨a.1.trans hl.symm, fun i d z => a.2 i d (k i d z)⟩ b c
/-- what holds now may be used -/
theorem go_use {C : Prop} (h : C → Go X sts D Δ S) (k : ∀ G H, Same G H → S.p G H → C) : Go X sts D Δ S := fun pins s σ G H I a b c => h (k G H b c) pins s σ G H I a b c
theorem go_pass : Go X rest D Δ S → Go X (.Pass pos :: rest) D Δ S := fun h => go_cons ps_pass fun σ G H D' l a b c => l.nx _ _ ⟨G, Same.refl _, b, Δ, S, h, a, c⟩
/-- name = e -/
theorem go_set (i : Nat) {x : Str} {p' : Pos} (he : Ev X e Δ S d) (hN : X.N.Nodup) (k : Go X rest D (Δ.set i (some d)) S) (hi : X.N[i]? = some x := by rfl) (hx : Loc X.env.scope x := by first | exact Or.inl rfl | exact Or.inr rfl)
    (hs : swapsWith e (some (.Name x p')) pos.line X.env = pure false := by rfl) (hf : X.fn x = true ∨ X.env.scope.names.lookup x = some .local := by first | exact .inl rfl | exact .inr rfl | assumption) : Go X (.Assign [.Name x p'] e pos :: rest) D Δ S :=
  go_cons (ps_set hN hi hx (pe_ev X e) hs hf) fun σ G H D' l a b c => ⟨Δ, S, _, G, he, a, b, c, fun v G2 H2 g p r => l.nx _ _ ⟨G2, g.gx, g.sub, _, S, k, (a.up g.gx).set r, p⟩⟩
/-- name = a new list that may change yet -/
theorem go_setL (i : Nat) {x : Str} {p' : Pos} (he : EvL X e Δ S ds) (hN : X.N.Nodup) (k : ∀ q : Addr, ¬ S.own q → Go X rest D (Δ.set i (some (ob q))) (S.and (.acc X.K q ds))) (hi : X.N[i]? = some x := by rfl) (hx : Loc X.env.scope x := by first | exact Or.inl rfl | exact Or.inr rfl)
    (hs : swapsWith e (some (.Name x p')) pos.line X.env = pure false := by rfl) (hf : X.fn x = true ∨ X.env.scope.names.lookup x = some .local := by first | exact .inl rfl | exact .inr rfl | assumption) : Go X (.Assign [.Name x p'] e pos :: rest) D Δ S :=
  go_cons (ps_set hN hi hx (pe_ev X e) hs hf) fun σ G H D' l a b c => ⟨Δ, S, _, G, he, a, b, c, fun v G2 H2 g p ⟨q, xs, e1, e2, e3, e4, e5⟩ => by
    subst e1
    exact l.nx _ _ ⟨G2, g.gx, g.sub, _, _, k q (not_own c e2), (a.up g.gx).set (.obj q), p, e3, xs, e4, e5⟩⟩
/-- y = [elt for .. in ..] on one line -/
theorem go_setLcR {y : Str} {py : Pos} {elt tg iter : Expr} {ifs : List Expr} {scope : Scope} {own : List (Str × Nat)} {spos : Pos} (i : Nat) {t : TE} (hc : X.calm = true) (hN : X.N.Nodup) (hy : X.N[i]? = some y)
    (h : PS X (.Assign [.Name y py] (.ListComp elt [⟨tg, iter, ifs, 0⟩] scope pos) spos) (tAsg t (gName i))) (ht : ∀ (σ : L2.St) (G H : Hp) (Q : VK), EnvOk X.K G σ Δ → Same G H → S.p G H → (∀ v G2 H2, Gr G H G2 H2 → S.p G2 H2 → R G H v G2 H2 → Q v H2) → t σ H Q)
    (k : ∀ (σ : L2.St) (G H : Hp) v G2 H2, EnvOk X.K G σ Δ → S.p G H → Gr G H G2 H2 → S.p G2 H2 → R G H v G2 H2 → ∃ Δ' S', Go X rest D Δ' S' ∧ EnvOk X.K G2 (σ.set i (some v)) Δ' ∧ S'.p G2 H2) :
    Go X (.Assign [.Name y py] (.ListComp elt [⟨tg, iter, ifs, 0⟩] scope pos) spos :: rest) D Δ S :=
  go_cons h fun σ G H D' l a b c => ht σ G H _ a b c fun v G2 H2 g p r => l.nx _ _ ⟨G2, g.gx, g.sub, k σ G H v G2 H2 a c g p r⟩
/-- return e -/
theorem go_ret (he : EvR X e Δ S R) (k : ∀ G H v G2 H2, Same G H → S.p G H → Gr G H G2 H2 → S.p G2 H2 → R G H v G2 H2 → ∃ G3, Same G G3 ∧ Same G3 H2 ∧ D.rt v G3 H2) : Go X (.Return (some e) pos :: rest) D Δ S :=
  go_cons (ps_ret (pe_ev X e)) fun σ G H D' l a b c => ⟨Δ, S, R, G, he, a, b, c, fun v G2 H2 g p r => l.rt _ _ (k G H v G2 H2 b c g p r)⟩
theorem go_if {k : Bool} (hc : EvT X e Δ S k) (ha : k = true → Go X body (D.th X rest) Δ S) (hb : k = false → Go X orelse (D.th X rest) Δ S) : Go X (.If e body orelse pos :: rest) D Δ S :=
  go_cons (ps_if (pt_ev X e) (pss_go X body) (pss_go X orelse)) fun σ G H D' l a b c => ⟨Δ, S, k, G, hc, a, b, c, fun G2 H2 g p => by
    cases k with
    | true => exact iteT ⟨_, Δ, S, G2, ha rfl, (EndsG.le g.gx).trans l, a.up g.gx, g.sub, p⟩
    | false => exact iteF ⟨_, Δ, S, G2, hb rfl, (EndsG.le g.gx).trans l, a.up g.gx, g.sub, p⟩⟩
/-- an expression whose value is dropped -/
theorem go_expr (he : EvR X e Δ S R) (k : ∀ (σ : L2.St) (G H : Hp) v G2 H2, EnvOk X.K G σ Δ → S.p G H → Gr G H G2 H2 → S.p G2 H2 → R G H v G2 H2 → ∃ Δ' S' G3, Same G2 G3 ∧ Same G3 H2 ∧ Go X rest D Δ' S' ∧ EnvOk X.K G3 σ Δ' ∧ S'.p G3 H2) (hs : swapsWith e none pos.line X.env = pure false := by rfl) : Go X (.Expr e pos :: rest) D Δ S :=
  go_cons (ps_expr (pe_ev X e) hs) fun σ G H D' l a b c => ⟨Δ, S, R, G, he, a, b, c, fun v G2 H2 g p r => by
    obtain ⟨Δ', S', G3, s1, s2, x, y, z⟩ := k σ G H v G2 H2 a c g p r
    exact l.nx _ _ ⟨G3, g.gx.trans s1, s2, Δ', S', x, y, z⟩⟩
/-- target = e, any target of names -/
theorem go_asg {is : List Nat} {f : De → De} (he : Ev X e Δ S d) (ht : TgS X tg is d f) (k : Go X rest D (f Δ) S) (hs : swapsWithSole [tg] e pos.line X.env = pure false := by rfl) (hw : swappedStores [tg] e X.env = pure none := by rfl)
    (h1 : (assignEach [tg] X.env).map (·.2) = [assign tg X.env] := by rfl) : Go X (.Assign [tg] e pos :: rest) D Δ S :=
  go_cons (ps_asg (g := fun v σ H Q => ∃ Δ is d f G, TgS X tg is d f ∧ EnvOk X.K G σ Δ ∧ Same G H ∧ At X.K G v d ∧ ∀ σ', EnvOk X.K G σ' (f Δ) → Q σ' H) (pe_ev X e) ⟨fun pins s σ H v u Q I r ⟨_, _, _, _, G, h, a, b, c, q⟩ => h pins s σ _ G H v u Q I r a b c fun σ' e' _ => q σ' e'⟩ hs hw h1)
    fun σ G H D' l a b c => ⟨Δ, S, _, G, he, a, b, c, fun v G2 H2 g p r => ⟨Δ, is, d, f, G2, ht, a.up g.gx, g.sub, r, fun σ' e' => l.nx _ _ ⟨G2, g.gx, g.sub, _, S, k, e', p⟩⟩⟩
/-- a, b = e1, e2 -/
theorem go_par {x y : Str} {px py pt pt2 : Pos} {kt k2} (i j : Nat) (ha : Ev X a Δ S d1) (hb : Ev X b Δ S d2) (hc : X.calm = true) (hN : X.N.Nodup) (k : Go X rest D ((Δ.set i (some d1)).set j (some d2)) S) (hij : i ≠ j := by decide) (hi : X.N[i]? = some x := by rfl) (hj : X.N[j]? = some y := by rfl)
    (hx : X.env.scope.names.lookup x = some .local := by rfl) (hy : X.env.scope.names.lookup y = some .local := by rfl) (hw : swappedStores [.Tuple [.Name x px, .Name y py] kt pt] (.Tuple [a, b] k2 pt2) X.env = pure (some [x, y]) := by rfl)
    (hs : swapsWithSole [.Tuple [.Name x px, .Name y py] kt pt] (.Tuple [a, b] k2 pt2) pos.line X.env = pure false := by rfl) (hs1 : starEach [a, b] X.env = (false, eval a X.env) :: starEach [b] X.env := by rfl) (hs2 : starEach [b] X.env = (false, eval b X.env) :: starEach [] X.env := by rfl) :
    Go X (.Assign [.Tuple [.Name x px, .Name y py] kt pt] (.Tuple [a, b] k2 pt2) pos :: rest) D Δ S :=
  go_cons (ps_par hc hN hi hj hij hx hy (pa_cons (pe_ev X a) (pa_cons (pe_ev X b) pa_nil hs2) hs1) hw hs) fun σ G H D' l a' b' c' => two ha hb a' b' c' fun v w G1 H1 g p e1 e2 =>
    ⟨v, w, rfl, l.nx _ _ ⟨G1, g.gx, g.sub, _, S, k, ((a'.up g.gx).set e1).set e2, p⟩⟩
/-- .. the second a new list that may change yet -/
theorem go_parL {x y : Str} {px py pt pt2 : Pos} {kt k2} (i j : Nat) (ha : Ev X a Δ S d1) (hb : EvL X b Δ S ds) (hc : X.calm = true) (hN : X.N.Nodup) (k : ∀ q : Addr, ¬ S.own q → Go X rest D ((Δ.set i (some d1)).set j (some (ob q))) (S.and (.acc X.K q ds))) (hij : i ≠ j := by decide) (hi : X.N[i]? = some x := by rfl) (hj : X.N[j]? = some y := by rfl)
    (hx : X.env.scope.names.lookup x = some .local := by rfl) (hy : X.env.scope.names.lookup y = some .local := by rfl) (hw : swappedStores [.Tuple [.Name x px, .Name y py] kt pt] (.Tuple [a, b] k2 pt2) X.env = pure (some [x, y]) := by rfl)
    (hs : swapsWithSole [.Tuple [.Name x px, .Name y py] kt pt] (.Tuple [a, b] k2 pt2) pos.line X.env = pure false := by rfl) (hs1 : starEach [a, b] X.env = (false, eval a X.env) :: starEach [b] X.env := by rfl) (hs2 : starEach [b] X.env = (false, eval b X.env) :: starEach [] X.env := by rfl) :
    Go X (.Assign [.Tuple [.Name x px, .Name y py] kt pt] (.Tuple [a, b] k2 pt2) pos :: rest) D Δ S :=
  go_cons (ps_par hc hN hi hj hij hx hy (pa_cons (pe_ev X a) (pa_cons (pe_ev X b) pa_nil hs2) hs1) hw hs) fun σ G H D' l a' b' c' => ⟨Δ, S, _, G, ha, a', b', c', fun v G1 H1 g1 p1 r1 => ⟨Δ, S, _, G1, hb, a'.up g1.gx, g1.sub, p1, fun w G2 H2 g2 p2 ⟨q, xs, e1, e2, e3, e4, e5⟩ => by
    subst e1
    exact ⟨v, _, rfl, l.nx _ _ ⟨G2, g1.gx.trans g2.gx, g2.sub, _, _, k q (not_own p1 e2), ((a'.up (g1.gx.trans g2.gx)).set (r1.up g2.gx)).set (.obj q), p2, e3, xs, e4, e5⟩⟩⟩⟩
/-- name op= e -/
theorem go_aug {x : Str} {p' : Pos} {op : Operator} {i j : Int} {f : Int → Int → Int} (n : Nat) (ho : PIp X op (ipI f)) (hd : Δ[n]? = some (some (.int i))) (he : Ev X e Δ S (.int j)) (hN : X.N.Nodup) (k : Go X rest D (Δ.set n (some (.int (f i j)))) S) (hi : X.N[n]? = some x := by rfl) (hx : Loc X.env.scope x := by first | exact Or.inl rfl | exact Or.inr rfl)
    (hf : X.fn x = true ∨ X.env.scope.names.lookup x = some .local := by first | exact .inl rfl | exact .inr rfl | assumption) : Go X (.AugAssign (.Name x p') op e pos :: rest) D Δ S :=
  go_cons (ps_aug hN hi hx (pe_ev X e) ho hf) fun σ G H D' l a b c => by
    obtain ⟨v, e1, e2⟩ := a.2 n _ hd
    cases e2
    exact ⟨_, e1, Δ, S, _, G, he, a, b, c, fun w G2 H2 g p r => by
      cases r
      exact ⟨i, j, rfl, rfl, l.nx _ _ ⟨G2, g.gx, g.sub, _, S, k, (a.up g.gx).set (.int _), p⟩⟩⟩
/-! lists that grow -/
/-- q.append(e) -/
theorem go_app {q : Addr} {o : Expr} {apos cpos : Pos} (ho : Ev X o Δ (S.and (.acc X.K q ds)) (ob q)) (he : Ev X e Δ (S.and (.acc X.K q ds)) d) (hS : ¬ S.fo q) (hz : ds.length < 1000000) (k : Go X rest D Δ (S.and (.acc X.K q (ds ++ [d]))))
    (hbase : attributeBase o "append" X.env (eval o X.env) = eval o X.env := by rfl)
    (hfew : ((backTo cpos (starEach [e] X.env)).all (fun x => !x.1) && (backToKw cpos (keywordEach [] X.env)).all (fun x => x.1.isSome) && decide ([e].length + ([] : List Keyword).length + (if ([] : List Keyword).isEmpty then 0 else 1) < 30)) = true := by rfl)
    (hline : (apos.endLine == cpos.line) = true := by rfl) (hs' : starEach [e] X.env = (false, eval e X.env) :: starEach [] X.env := by rfl) (hplain : (backTo cpos (starEach [] X.env)).any (·.1) = false := by rfl)
    (hs : swapsWith (.Call (.Attribute o "append" apos) [e] [] cpos) none pos.line X.env = pure false := by rfl) : Go X (.Expr (.Call (.Attribute o "append" apos) [e] [] cpos) pos :: rest) D Δ (S.and (.acc X.K q ds)) :=
  go_cons (ps_expr (pe_bm PySem.F.plainAttrs_list PySem.F.slot_list_append PySem.F.type_list_append mt_append (pe_ev X o) (pa_cons (pe_ev X e) pa_nil hs') hbase hfew hline hs' hplain) hs) fun σ G H D' l a b c => ⟨Δ, _, _, G, ho, a, b, c, fun v G1 H1 g1 p1 r1 => by
    rw [At.obj_eq r1]
    obtain ⟨xs, hx⟩ : ∃ xs, H1 q = some (.lst xs) := by obtain ⟨_, _, xs, h, _⟩ := p1; exact ⟨xs, h⟩
    refine ⟨.inl ⟨rfl, _, SqL.of hx⟩, Δ, _, _, G1, he, a.up g1.gx, g1.sub, p1, fun w G2 H2 g2 p2 r2 => ?_⟩
    obtain ⟨pS, hG, ys, hy, hats⟩ := p2
    refine ⟨q, ys, w, rfl, rfl, hy, Nat.lt_of_lt_of_le (by rw [hats.len]; exact hz) (by decide), l.nx _ _ ⟨G2, g1.gx.trans g2.gx, (Gr.mut g2.sub hG hy).sub, Δ, _, k, a.up (g1.gx.trans g2.gx), S.stb hS (fun ⟨_, z⟩ => by cases z) pS hG (by rw [hy]; exact fun z => by cases z), hG, _, upd_same, hats.app (.one r2)⟩⟩⟩
/-- q.extend(a new list) -/
theorem go_extend {q : Addr} {o : Expr} {es : List PyData} {apos cpos : Pos} (ho : Ev X o Δ (S.and (.acc X.K q ds)) (ob q)) (he : EvL X e Δ (S.and (.acc X.K q ds)) es) (hS : ¬ S.fo q) (hz : ds.length + es.length ≤ 16000000) (k : Go X rest D Δ (S.and (.acc X.K q (ds ++ es))))
    (hbase : attributeBase o "extend" X.env (eval o X.env) = eval o X.env := by rfl)
    (hfew : ((backTo cpos (starEach [e] X.env)).all (fun x => !x.1) && (backToKw cpos (keywordEach [] X.env)).all (fun x => x.1.isSome) && decide ([e].length + ([] : List Keyword).length + (if ([] : List Keyword).isEmpty then 0 else 1) < 30)) = true := by rfl)
    (hline : (apos.endLine == cpos.line) = true := by rfl) (hs' : starEach [e] X.env = (false, eval e X.env) :: starEach [] X.env := by rfl) (hplain : (backTo cpos (starEach [] X.env)).any (·.1) = false := by rfl)
    (hs : swapsWith (.Call (.Attribute o "extend" apos) [e] [] cpos) none pos.line X.env = pure false := by rfl) : Go X (.Expr (.Call (.Attribute o "extend" apos) [e] [] cpos) pos :: rest) D Δ (S.and (.acc X.K q ds)) :=
  go_cons (ps_expr (pe_bm PySem.F.plainAttrs_list PySem.F.slot_list_extend PySem.F.type_list_extend mt_extend (pe_ev X o) (pa_cons (pe_ev X e) pa_nil hs') hbase hfew hline hs' hplain) hs) fun σ G H D' l a b c => ⟨Δ, _, _, G, ho, a, b, c, fun v G1 H1 g1 p1 r1 => by
    rw [At.obj_eq r1]
    obtain ⟨xs, hx⟩ : ∃ xs, H1 q = some (.lst xs) := by obtain ⟨_, _, xs, h, _⟩ := p1; exact ⟨xs, h⟩
    refine ⟨.inl ⟨rfl, _, SqL.of hx⟩, Δ, _, _, G1, he, a.up g1.gx, g1.sub, p1, fun w G2 H2 g2 p2 ⟨r, zs, e1, e2, e3, e4, e5⟩ => ?_⟩
    subst e1
    obtain ⟨pS, hG, ys, hy, hats⟩ := p2
    refine ⟨q, r, ys, zs, rfl, rfl, hy, e4, Nat.le_trans (by rw [hats.len, e5.len]; exact hz) (by decide), l.nx _ _ ⟨G2, g1.gx.trans g2.gx, (Gr.mut g2.sub hG hy).sub, Δ, _, k, a.up (g1.gx.trans g2.gx), S.stb hS (fun ⟨_, z⟩ => by cases z) pS hG (by rw [hy]; exact fun z => by cases z), hG, _, upd_same, hats.app e5⟩⟩⟩

/-! ### loops -/
/-- a for: I, by the turn -/
def EndsG.loop (D : EndsG) (X : Cx) (rest : List Stmt) (I : De → As → Prop) : EndsG where
  nx := fun σ G H => ∃ Δ S, I Δ S ∧ EnvOk X.K G σ Δ ∧ S.p G H
  ct := fun σ G H => ∃ Δ S, I Δ S ∧ EnvOk X.K G σ Δ ∧ S.p G H
  bk := (D.th X rest).nx
  rt := D.rt
/-- a turn's end -/
theorem go_turn {I : De → As → Prop} (h : I Δ S) : Go X [] (D.loop X rest I) Δ S := go_nil fun σ G H a b c => ⟨Δ, S, h, a, c⟩
theorem go_cont {I : De → As → Prop} {more : List Stmt} (h : I Δ S) : Go X (.Continue pos :: more) (D.loop X rest I) Δ S :=
  go_cons ps_continue fun σ G H D' l a b c => l.ct _ _ ⟨G, Same.refl _, b, Δ, S, h, a, c⟩
theorem go_break {I : De → As → Prop} {more : List Stmt} (h : Go X rest D Δ S) : Go X (.Break pos :: more) (D.loop X rest I) Δ S :=
  go_cons ps_break fun σ G H D' l a b c => l.bk _ _ ⟨G, Same.refl _, b, Δ, S, h, a, c⟩
theorem go_for {α : Type} {xs : List α} {enc : α → PyData} {is : List Nat} (F : α → De → De) (hi : ItD X tg iter Δ S (xs.map enc)) (htg : ∀ x ∈ xs, TgS X tg is (enc x) (F x)) (hc : X.calm = true) (hp : PassesOwn (model X.prog X.w) X.A X.env X.xe)
    (I : Nat → De → As → Prop) (h0 : I 0 Δ S) (hb : ∀ (i : Nat) (x : α) (Δ' : De) (S' : As), xs[i]? = some x → I i Δ' S' → Go X body (D.loop X rest (I (i + 1))) (F x Δ') S')
    (hd : ∀ (Δ' : De) (S' : As), I xs.length Δ' S' → Go X rest D Δ' S') (hs : ∀ x, foldedSetIterable iter X.env x = pure x := by intro _; rfl) : Go X (.For tg iter body [] pos :: rest) D Δ S := by
  obtain ⟨wi, w1, w2⟩ := hi
  refine go_cons (ps_for (g := fun v σ H Q => ∃ Δ is d f G, TgS X tg is d f ∧ EnvOk X.K G σ Δ ∧ Same G H ∧ At X.K G v d ∧ ∀ σ', EnvOk X.K G σ' (f Δ) → Q σ' H) hp hc w1 ⟨fun pins s σ H v u Q I r ⟨_, _, _, _, G, h, a, b, c, q⟩ => h pins s σ _ G H v u Q I r a b c fun σ' e' _ => q σ' e'⟩ (pss_go X body) hs) fun σ G H D' l ha hb' hcS => ?_
  refine w2 σ G H _ ha hb' hcS fun J G1 H1 g1 p1 W => ?_
  refine ⟨fun i m σ H' => m = xs.length - i ∧ i ≤ xs.length ∧ ∃ G' Δ' S', Same G1 G' ∧ Same G' H' ∧ I i Δ' S' ∧ EnvOk X.K G' σ Δ' ∧ S'.p G' H', ⟨xs.length, by simp, Nat.zero_le _, G1, Δ, S, Same.refl _, g1.sub, h0, ha.up g1.gx, p1⟩, ?_⟩
  rintro i m σ' H' ⟨rfl, hle, G', Δ', S', s1, s2, hI, hE, hS⟩
  by_cases hlt : i < xs.length
  · obtain ⟨x, hx⟩ : ∃ x, xs[i]? = some x := ⟨xs[i], List.getElem?_eq_getElem hlt⟩
    have hmem : x ∈ xs := List.mem_of_getElem? hx
    have hxd : (xs.map enc)[i]? = some (enc x) := by rw [List.getElem?_map, hx]; rfl
    obtain ⟨j1, j2⟩ := W.go i (enc x) G' H' s1 s2 hxd
    refine .inr ⟨j1, fun σ'' H'' => ∃ G2, Same G1 G2 ∧ Same G2 H'' ∧ ∃ Δ'' S'', I (i + 1) Δ'' S'' ∧ EnvOk X.K G2 σ'' Δ'' ∧ S''.p G2 H'', fun σ'' H'' ⟨G2, t1, t2, Δ'', S'', t3, t4, t5⟩ => ⟨xs.length - (i + 1), by omega, rfl, hlt, G2, Δ'', S'', t1, t2, t3, t4, t5⟩, fun v H'' y => ?_⟩
    obtain ⟨G3, g3, s3, a3⟩ := j2 v H'' y
    refine ⟨Δ', is, enc x, F x, G3, htg x hmem, hE.up g3.gx, g3.sub, a3, fun σ3 e3 => ⟨_, _, S', G3, hb i x Δ' S' hx hI, ⟨?_, ?_, ?_, ?_⟩, e3, g3.sub, S'.cl g3 s3 hS⟩⟩
    · rintro σ4 H4 ⟨G4, t1, t2, t3⟩; exact ⟨G4, (s1.trans g3.gx).trans t1, t2, t3⟩
    · rintro σ4 H4 ⟨G4, t1, t2, t3⟩; exact l.rt _ _ ⟨G4, ((g1.gx.trans s1).trans g3.gx).trans t1, t2, t3⟩
    · rintro σ4 H4 ⟨G4, t1, t2, t3⟩; exact l.nx _ _ ⟨G4, ((g1.gx.trans s1).trans g3.gx).trans t1, t2, t3⟩
    · rintro σ4 H4 ⟨G4, t1, t2, t3⟩; exact ⟨G4, (s1.trans g3.gx).trans t1, t2, t3⟩
  · have e : i = xs.length := by omega
    subst e
    have h2 := W.stop G' H' s1 s2
    rw [List.length_map] at h2
    exact .inl ⟨h2, l.nx _ _ ⟨G', g1.gx.trans s1, s2, Δ', S', hd Δ' S' hI, hE, hS⟩⟩
/-- a while: W by a measure; what its test is worth there -/
theorem go_while {W : Nat → De → As → Prop} {T : De → As → Bool} (m : Nat) (h0 : W m Δ S) (hc : ∀ m Δ' S', W m Δ' S' → EvT X e Δ' S' (T Δ' S')) (hp : PassesOwn (model X.prog X.w) X.A X.env X.xe)
    (hb : ∀ m Δ' S', W m Δ' S' → T Δ' S' = true → Go X body (D.loop X rest fun Δ'' S'' => ∃ m', m' < m ∧ W m' Δ'' S'') Δ' S') (hd : ∀ m Δ' S', W m Δ' S' → T Δ' S' = false → Go X rest D Δ' S') : Go X (.While e body [] pos :: rest) D Δ S := by
  refine go_cons (ps_while hp (pt_ev X e) (pss_go X body)) fun σ G H D' l ha hb' hcS => ?_
  refine ⟨fun m σ' H' => ∃ G' Δ' S', Same G G' ∧ Same G' H' ∧ W m Δ' S' ∧ EnvOk X.K G' σ' Δ' ∧ S'.p G' H', ⟨m, G, Δ, S, Same.refl _, hb', h0, ha, hcS⟩, ?_⟩
  rintro m σ' H' ⟨G', Δ', S', s1, s2, hW, hE, hS⟩
  refine ⟨Δ', S', _, G', hc m Δ' S' hW, hE, s2, hS, fun G2 H2 g2 p2 => ?_⟩
  cases hT : T Δ' S' with
  | true =>
    refine iteT ⟨fun σ'' H'' => ∃ G3, Same G G3 ∧ Same G3 H'' ∧ ∃ Δ'' S'', (∃ m', m' < m ∧ W m' Δ'' S'') ∧ EnvOk X.K G3 σ'' Δ'' ∧ S''.p G3 H'', fun σ'' H'' ⟨G3, t1, t2, Δ'', S'', ⟨m', t3, t4⟩, t5, t6⟩ => ⟨m', t3, G3, Δ'', S'', t1, t2, t4, t5, t6⟩, ?_⟩
    refine ⟨_, Δ', S', G2, hb m Δ' S' hW hT, ⟨?_, ?_, ?_, ?_⟩, hE.up g2.gx, g2.sub, p2⟩
    · rintro σ4 H4 ⟨G4, t1, t2, t3⟩; exact ⟨G4, (s1.trans g2.gx).trans t1, t2, t3⟩
    · rintro σ4 H4 ⟨G4, t1, t2, t3⟩; exact l.rt _ _ ⟨G4, (s1.trans g2.gx).trans t1, t2, t3⟩
    · rintro σ4 H4 ⟨G4, t1, t2, t3⟩; exact l.nx _ _ ⟨G4, (s1.trans g2.gx).trans t1, t2, t3⟩
    · rintro σ4 H4 ⟨G4, t1, t2, t3⟩; exact ⟨G4, (s1.trans g2.gx).trans t1, t2, t3⟩
  | false => exact iteF (l.nx _ _ ⟨G2, s1.trans g2.gx, g2.sub, Δ', S', hd m Δ' S' hW hT, hE.up g2.gx, p2⟩)
end

/-! ### a def's promise by its body -/
/-- what a def that changes nothing hands back -/
def retP (G H : Hp) (R : RR) : EndsG where
  nx := fun _ G2 H2 => ∃ G3, (As.ext G H).p G3 H2 ∧ R G H .non G3 H2
  rt := fun v G2 H2 => ∃ G3, (As.ext G H).p G3 H2 ∧ R G H v G3 H2
def De.start (N : List Str) (ds : List PyData) : De := ds.map some ++ List.replicate (N.length - ds.length) none
theorem env_start {K : PySem.W.Frag} {G : Hp} {N : List Str} {vs : List V} {ds : List PyData} (h : Ats K G vs ds) : EnvOk K G (L2.start N vs) (De.start N ds) := by
  have hl := h.len
  refine ⟨by simp [L2.start, De.start, hl], fun i d e => ?_⟩
  unfold De.start at e
  unfold L2.start
  by_cases hi : i < ds.length
  · rw [List.getElem?_append_left (by simpa using hi), List.getElem?_map] at e
    cases q : ds[i]? with
    | none => rw [q] at e; cases e
    | some d0 =>
      rw [q] at e
      cases e
      obtain ⟨v, f1, f2⟩ := h.get q
      exact ⟨v, by rw [List.getElem?_append_left (by simpa [hl] using hi), List.getElem?_map, f1]; rfl, f2⟩
  · rw [List.getElem?_append_right (by simpa using hi)] at e
    rw [List.getElem?_replicate] at e
    split at e <;> cases e
section
variable {P : Program} {w : World} {K : PySem.W.Frag} {mg : Str → Option Value} {base : Heap}
/-- THE RULE for a def that changes nothing that stood -/
theorem fun_go {x qual : Str} {st : Stmt} {f : Addr} {fd : FuncData} {N ps : List Str} {k : Nat} {Pr : Hp → List PyData → RR → Prop} (F : Fun K x qual st f fd) (S : FnScope N ps (defScope st)) (len : ∀ G ds R, Pr G ds R → ds.length = ps.length)
    (hbody : ∀ (cdv : Value) (A : Around) (outer : List Env) (s : Shared) (H0 : Hp) (E : XK) (G H : Hp) (ds : List PyData) (R : RR), Room k (A.deeper (envOfC qual (defScope st) s.heap.objs.size f cdv)) → Pr G ds R →
      Go (cxOf CX0 P w K mg base N qual (defScope st) f cdv A outer s H0 E).nox (defBody st) (retP G H R) (De.start N ds) ((As.ext G H).and (.fact (Same G) fun _ _ e h => h.trans e))) : FnOk P w K mg base CX0 (k + 1) f fd ps (spP K Pr) := by
  refine F.ok S (fun vs H Q E h => ?_) (fun cdv A outer s H vs Q E hr h => ?_)
  · obtain ⟨G, ds, R, _, h2, h3, _⟩ := h
    rw [h2.len]
    exact len G ds R h3
  · obtain ⟨G, ds, R, h1, h2, h3, k1⟩ := h
    refine ⟨_, pss_go _ _, _, _, _, G, hbody cdv A outer s H E G H ds R hr h3, ⟨?_, ?_, ?_, ?_⟩, env_start h2, h1, ⟨⟨.refl h1, fun _ _ _ z => z⟩, Same.refl _⟩⟩
    · rintro σ H2 ⟨G2, _, _, G3, ⟨a, b⟩, r⟩; exact k1 _ G3 H2 a (fun x u z => b x u id z) r
    · rintro v H2 ⟨G2, _, _, G3, ⟨a, b⟩, r⟩; exact k1 _ G3 H2 a (fun x u z => b x u id z) r
    · rintro σ H2 ⟨_, _, _, h⟩; exact h.elim
    · rintro σ H2 ⟨_, _, _, h⟩; exact h.elim
end
section
variable {X : Cx} {e : Expr} {Δ : De} {S : As} {R : RR} {G H : Hp} {pos : Pos} {rest : List Stmt} {ds : List PyData} {q : Addr}
/-- return e, of a def that changes nothing -/
theorem go_retP {D : EndsG} (he : EvR X e Δ S R) (hS : S.le (.ext G H)) (hD : D.rt = (retP G H R).rt := by rfl) (hR : Back R := by first | exact back_at | exact back_nl) : Go X (.Return (some e) pos :: rest) D Δ S :=
  go_ret he fun G1 H1 v G2 H2 b c g p r => ⟨G2, g.gx, g.sub, by rw [hD]; exact ⟨G2, hS _ _ p, hR _ _ _ _ _ _ _ (hS _ _ c).1 r⟩⟩
/-- return the list that has grown -/
theorem go_retA {D : EndsG} (he : Ev X e Δ S (ob q)) (hS : S.le ((As.ext G H).and (.acc X.K q ds))) (hq : H q = none) (hD : D.rt = (retP G H (rNl X.K ds)).rt := by rfl) : Go X (.Return (some e) pos :: rest) D Δ S :=
  go_ret he fun G1 H1 v G2 H2 b c g p r => by
    obtain ⟨p1, p2, xs, p3, p4⟩ := hS _ _ p
    rw [At.obj_eq r]
    exact ⟨G2, g.gx, g.sub, by rw [hD]; exact ⟨G2, p1, q, xs, rfl, hq, p2, p3, p4⟩⟩
theorem as_l {S T : As} : (S.and T).le S := fun _ _ h => h.1
theorem as_r {S T : As} : (S.and T).le T := fun _ _ h => h.2
theorem As.le.trans {S T U : As} (a : S.le T) (b : T.le U) : S.le U := fun G H h => b G H (a G H h)
theorem as_and {S T U : As} (a : S.le T) (b : S.le U) : S.le (T.and U) := fun G H h => ⟨a G H h, b G H h⟩
theorem as_refl {S : As} : S.le S := fun _ _ h => h
end
end DL
namespace DL
open PySem PySem.Spec PyProof.Rows L2

/-! ### sorted -/
section
variable {K : PySem.W.Frag} {G H : Hp}
mutual
theorem At.dpA : ∀ (d : PyData) (v : V), W.alike d d = true → At K G v d → Dp K G v d
  | .none, _, _, h => by cases h; exact .non
  | .bool b, _, _, h => by cases h; exact .bl b
  | .int i, _, _, h => by cases h; exact .int i
  | .str x, _, _, h => by cases h; exact .str x
  | .list ds, _, c, h => by
    cases h with
    | lst hs ha => exact .lst (SqL.of hs) (Ats.dpA ds _ (by simpa [W.alike] using c) ha)
  | .tuple ds, _, c, h => by
    cases h with
    | tup hs ha => exact .tup (SqT.of hs) (Ats.dpA ds _ (by simpa [W.alike] using c) ha)
  | .dict kvs, v, c, h => by simp [W.alike] at c
theorem Ats.dpA : ∀ (ds : List PyData) (vs : List V), W.alikeAll ds ds = true → Ats K G vs ds → DpAll K G vs ds
  | [], _, _, h => by cases h; exact .nil
  | d :: ds, _, c, h => by
    have c' := W.alike_all_cons c
    cases h with
    | cons h1 h2 => exact .cons (At.dpA d _ c'.1 h1) (Ats.dpA ds _ c'.2 h2)
end
end
theorem collect_tup {prog : Program} {w : World} {A : Around} {E : Value → Shared → Prop} {s : Shared} {l : Addr} {vs : List Value} {Q : List Value → Shared → Prop} (hl : IsTup s.heap l vs.toArray) (hz : vs.length ≤ sizeLine)
    (h : Q vs { s with heap := (s.heap.push (seqObj "list" #[] 0)).update s.heap.objs.size (Obj.mapSeq (· ++ vs.toArray)) }) : wpAny (model prog w) A (collect (.ref l)) Q E s := by
  obtain ⟨o, ho, hcl, n, hdt⟩ := id hl
  unfold collect
  refine wpAny_bind (wpAny_runValue (codeAny_builtin entry_proto_collect' ?_))
  change wpAny _ _ (do again (.builtin "list.__iadd__" ⟨[← newList [], .ref l], []⟩)) _ _ s
  refine wpAny_bind (wpAny_newList (wpAny_pure ⟨Code.quiet_builtin _ (by decide +kernel), codeAny_builtin entry_list_iadd' ?_⟩))
  change wpAny _ _ (Builtin.List.listExtendWith (.ref s.heap.objs.size) (.ref l) (.ref s.heap.objs.size)) _ _ { s with heap := s.heap.push (seqObj "list" #[] 0) }
  unfold Builtin.List.listExtendWith
  have hol : (s.heap.push (seqObj "list" #[] 0)).get? l = some o := Heap.get?_push_of_some _ ho
  have hnw : (s.heap.push (seqObj "list" #[] 0)).get? s.heap.objs.size = some (seqObj "list" #[] 0) := Heap.get?_push_size _ rfl
  refine wpAny_bind (wpAny_typeOf (T := "tuple") ⟨o, hol, hcl⟩ ?_)
  have htt : (Value.type "tuple" == Value.type "tuple") = true := by rfl
  rw [if_pos (by rw [htt, Bool.or_true])]
  refine wpAny_bind (listItems_at hol hdt ?_)
  refine wpAny_bind (listItems_at hnw rfl ?_)
  rw [if_neg (by simp)]
  refine wpAny_bind (listUpdate_at hnw rfl ?_ (Nat.zero_le _) (by show (#[] ++ vs.toArray).size ≤ sizeLine + 1; simp only [Array.size_append, List.size_toArray, List.length_nil]; omega))
  refine wpAny_pure ?_
  change wpAny (model prog w) A (do let o ← load s.heap.objs.size; match o.data with | .seq xs _ => pure xs.toList | _ => unsupported "internal:collect") Q E { s with heap := (s.heap.push (seqObj "list" #[] 0)).update s.heap.objs.size (Obj.mapSeq (· ++ vs.toArray)) }
  refine wpAny_bind (wpAny_load (get?_update_seq hnw _) ?_)
  change wpAny _ _ (pure ((#[] : Array Value) ++ vs.toArray).toList) Q E _
  rw [show ((#[] : Array Value) ++ vs.toArray).toList = vs by simp]
  exact wpAny_pure h
/-- sorted(v, ..) of whatever collects vs, with its order -/
theorem sorted_run {prog : Program} {w : World} {A : Around} {E : Value → Shared → Prop} {s : Shared} {v : Value} {vs : List Value} {β : Type} {bs : List β} {enc : β → PyData} {R : Value → β → Prop} {kw : List (Str × Value)} {b : Bool} {Q : Value → Shared → Prop}
    (hcol : ∀ (Q : List Value → Shared → Prop), Q vs { s with heap := (s.heap.push (seqObj "list" #[] 0)).update s.heap.objs.size (Obj.mapSeq (· ++ vs.toArray)) } → wpAny (model prog w) A.in1 (collect v) Q (fun e s' => E e s') s)
    (ha1 : argsOk "sorted" ⟨[v], kw⟩) (ha2 : ∀ x, argsOk "list.sort" ⟨[.ref x], kw⟩) (hkw : ∀ a, Builtin.«list.sort» ⟨[.ref a], kw⟩ = Builtin.«list.sort» ⟨[.ref a], [(Str.ofString "reverse", .bool b)]⟩)
    (e : W.EachIs R vs bs) (er : W.EachIs (fun v b => ∃ as, Reads s.heap v (enc b) as) vs bs) (hal : W.AllAlike (bs.map enc)) (hk : W.Sortable (bs.map enc)) (hL : bs.length ≤ sizeLine) (hu : ∀ b, b ∈ bs → A.units + 2 + (enc b).depth < cLine)
    (h : ∀ out, out.length = bs.length → W.EachIs R out (bs.mergeSort (W.dataLe b enc)) → Q (.ref (s.heap.objs.size + 1)) { s with heap := sortedAll s.heap vs (List.toArray out) }) :
    wpAny (model prog w) A (call (.builtin "sorted") [v] kw) Q E s := by
  have er2 : W.EachIs (fun v b => ∃ as, Reads (W.sortingHeap (W.copyHeap s.heap vs) (s.heap.objs.size + 1) vs) v (enc b) as) vs bs := er.mono fun _ _ ⟨as, r⟩ => ⟨as, PyProof.Rows.Reads.keeps (fun _ _ => W.sorting_copy_old) r⟩
  have hL2 : vs.length ≤ sizeLine := by rw [e.length]; exact hL
  have hdep : ∀ d, d ∈ bs.map enc → A.in1.in1.units + d.depth < cLine := by
    intro d hd
    obtain ⟨z, hz, rfl⟩ := List.mem_map.mp hd
    exact hu z hz
  have S := W.SortsAt.data (prog := prog) (w := w) (A := A.in1.in1) (s := { s with heap := W.sortingHeap (W.copyHeap s.heap vs) (s.heap.objs.size + 1) vs }) (W.each_map (R := fun v d => ∃ as, Reads (W.sortingHeap (W.copyHeap s.heap vs) (s.heap.objs.size + 1) vs) v d as) enc er2) hal hk hdep
  refine PyProof.Rows.call_function_entry_kw kind_sorted plain_sorted entry_sorted ha1 ?_
  unfold Builtin.«sorted»
  refine wpAny_bind (m := checkCount "sorted" 1 1 _) (wpAny_pure ?_)
  refine wpAny_bind (hcol _ ?_)
  refine wpAny_bind (wpAny_newList ?_ hL2)
  have hsize : ((s.heap.push (seqObj "list" #[] 0)).update s.heap.objs.size (Obj.mapSeq (· ++ vs.toArray))).objs.size = s.heap.objs.size + 1 := by rw [Heap.size_update, size_push']
  change wpAny _ _ _ _ _ { s with heap := W.copyHeap s.heap vs }
  rw [hsize]
  refine wpAny_bind (wpAny_holding (wpAny_call_entry_kw slot_list_sort ⟨_, W.copyHeap_at s.heap vs, rfl⟩ entry_list_sort ?_ (ha2 _)))
  rw [hkw]
  refine W.list_sort_rev_vals (s := { s with heap := W.copyHeap s.heap vs }) (W.copyHeap_at s.heap vs) S hL2 ?_
  exact ⟨_, rfl, wpAny_pure ⟨_, rfl, h _ (by rw [W.sortVals_length b rfl]; exact e.length) (W.sortVals_data b e er2 hal)⟩⟩
/-- the data in order -/
def srt (b : Bool) (ds : List PyData) : List PyData := ds.mergeSort (W.dataLe b id)
theorem srt_map {β : Type} (b : Bool) (enc : β → PyData) (bs : List β) : srt b (bs.map enc) = (bs.mergeSort (W.dataLe b enc)).map enc :=
  (W.sort_maps enc (r := W.dataLe b enc) (s := W.dataLe b id) (l := bs) fun x _ y _ => by rw [W.dataLe_eq, W.dataLe_eq]; rfl).symm
section
variable {X : Cx} {e : Expr} {es : List Expr} {Δ : De} {S : As} {ds : List PyData} {d : PyData} {pos p : Pos}
theorem vals_each {K : PySem.W.Frag} {G : Hp} : ∀ {its : List Value} {xs : List V} {ds : List PyData}, Vals xs its → Ats K G xs ds → W.EachIs (fun v d => ∃ x, RelV x v ∧ At K G x d) its ds
  | _, _, [], r, h => by cases h; cases r; exact .nil
  | _, _, d :: ds, r, h => by
    cases h with
    | cons h1 h2 =>
      cases r with
      | cons r1 r2 => exact .cons ⟨_, r1, h1⟩ (vals_each r2 h2)
theorem each_vals {K : PySem.W.Frag} {G : Hp} : ∀ {its : List Value} {ds : List PyData}, W.EachIs (fun v d => ∃ x, RelV x v ∧ At K G x d) its ds → ∃ xs, Vals xs its ∧ Ats K G xs ds
  | _, _, .nil => ⟨[], .nil, .nil⟩
  | _, _, .cons ⟨x, r, a⟩ t => by
    obtain ⟨xs, r', a'⟩ := each_vals t
    exact ⟨x :: xs, .cons r r', .cons a a'⟩
/-- what sorting asks of data -/
structure Sok (ds : List PyData) : Prop where
  al : W.AllAlike ds
  so : W.Sortable ds
  de : ∀ d ∈ ds, d.depth ≤ 60
  le : ds.length ≤ 1000000
theorem sort_core {b : Bool} {kw : List (Str × Value)} {pins : List (Addr × Obj)} {s : Shared} {σ : L2.St} {G H : Hp} {a : Addr} {xs : List V} {Q : VK} (I : Inv X pins σ H s) (hu : X.A.units + 64 < cLine) (hs : SqL X.K H a xs ∨ SqT X.K H a xs) (hG : Same G H) (ha : Ats X.K G xs ds) (ok : Sok ds)
    (ha1 : argsOk "sorted" ⟨[.ref a], kw⟩) (ha2 : ∀ x, argsOk "list.sort" ⟨[.ref x], kw⟩) (hkw : ∀ a, Builtin.«list.sort» ⟨[.ref a], kw⟩ = Builtin.«list.sort» ⟨[.ref a], [(Str.ofString "reverse", .bool b)]⟩)
    (q : ∀ ys l, H l = none → Ats X.K G ys (srt b ds) → Q (.ref l) (upd H l (.lst ys))) : wpAny (model X.prog X.w) X.A (call (.builtin "sorted") [.ref a] kw) (EP X pins σ Q) X.xe s := by
  obtain ⟨its, rv, hz, hcol⟩ : ∃ its : List Value, Vals xs its ∧ xs.length ≤ sizeLine ∧ ∀ (E : Value → Shared → Prop) (Q : List Value → Shared → Prop), Q its { s with heap := (s.heap.push (seqObj "list" #[] 0)).update s.heap.objs.size (Obj.mapSeq (· ++ its.toArray)) } → wpAny (model X.prog X.w) X.A.in1 (collect (.ref a)) Q E s := by
    rcases hs with hs | hs
    · obtain ⟨its, rv, hl, hz⟩ := I.list hs
      exact ⟨its, rv, hz, fun E Q k => collect_list hl.isList k (by rw [← rv.length]; exact hz)⟩
    · obtain ⟨its, rv, hl, hz⟩ := I.tuple hs
      exact ⟨its, rv, hz, fun E Q k => collect_tup hl (by rw [← rv.length]; exact hz) k⟩
  have er : W.EachIs (fun v d => ∃ as, Reads s.heap v (id d) as) its ds := by
    have h0 := vals_each rv ha
    have h1 : ∀ {its : List Value} {es : List PyData}, (∀ d ∈ es, d ∈ ds) → W.EachIs (fun v d => ∃ x, RelV x v ∧ At X.K G x d) its es → W.EachIs (fun v d => ∃ as, Reads s.heap v (id d) as) its es := by
      intro its es hm he
      induction he with
      | nil => exact .nil
      | cons hx _ ih =>
        obtain ⟨x, r, at_⟩ := hx
        refine .cons ?_ (ih fun d hd => hm d (List.mem_cons_of_mem _ hd))
        exact Dp.reads I _ x _ (At.dpA _ _ (ok.al _ (hm _ List.mem_cons_self) _ (hm _ List.mem_cons_self)) (at_.up hG)) r
    exact h1 (fun _ h => h) h0
  refine sorted_run (bs := ds) (enc := id) (b := b) (R := fun v d => ∃ x, RelV x v ∧ At X.K G x d) (fun Q k => hcol _ Q k) ha1 ha2 hkw (vals_each rv ha) er (by simpa using ok.al) (by simpa using ok.so) (Nat.le_trans ok.le (by decide)) (fun d hd => by have := ok.de d hd; show X.A.units + 2 + d.depth < cLine; omega) fun out hlen hout => ?_
  obtain ⟨ys, r2, a2⟩ := each_vals hout
  obtain ⟨ep, hat⟩ := PyProof.Rows.sortedAll_at s.heap its (List.toArray out)
  refine ⟨.ref (s.heap.objs.size + 1), upd H (s.heap.objs.size + 1) (.lst ys), I.laid (t' := s.toks) (fun _ _ => PyProof.Rows.sortedAll_old) (Nat.le_succ _) ⟨?_, out, ep, r2, hat⟩, rfl, q ys _ (I.hok.fresh (Nat.le_succ _)) a2⟩
  rw [r2.length, hlen]
  exact Nat.le_trans ok.le (by decide)
theorem vals_ref1 {a : Addr} {us : List Value} (r : Vals [V.ref a] us) : us = [.ref a] := by
  cases r with
  | cons r t => cases t; cases r; rfl
/-- sorted(xs), xs a list or a tuple -/
theorem cd_sorted (hu : X.A.units + 64 < cLine) (ok : Sok ds) (hd : d = .list ds ∨ d = .tuple ds) : CallD X (.builtin "sorted") S [d] (rNl X.K (srt false ds)) := by
  refine ⟨fun vs H Q => ∃ G a xs, vs = [.ref a] ∧ (SqL X.K H a xs ∨ SqT X.K H a xs) ∧ Same G H ∧ Ats X.K G xs ds ∧ ∀ ys l, H l = none → Ats X.K G ys (srt false ds) → Q (.ref l) (upd H l (.lst ys)), ?_, ?_⟩
  · intro pins s σ H vs us Q I r h
    obtain ⟨G, a, xs, rfl, hs, hG, ha, q⟩ := h
    rw [vals_ref1 r]
    exact sort_core I hu hs hG ha ok (args_sorted1 _) (fun _ => args_list_sort _) (fun a => W.plain_is_rev a) q
  · intro G H vs Q b c h q
    cases h with
    | cons h1 h2 =>
      cases h2
      have fin : ∀ a xs, (SqL X.K H a xs ∨ SqT X.K H a xs) → Ats X.K G xs ds → ∃ G a' xs, ([V.ref a] : List V) = [.ref a'] ∧ (SqL X.K H a' xs ∨ SqT X.K H a' xs) ∧ Same G H ∧ Ats X.K G xs ds ∧ ∀ ys l, H l = none → Ats X.K G ys (srt false ds) → Q (.ref l) (upd H l (.lst ys)) := fun a xs hs ha =>
        ⟨G, a, xs, rfl, hs, b, ha, fun ys l hl hy => by
          obtain ⟨g2, p2⟩ := layH (o := .lst ys) (.refl b) c hl
          exact q _ _ _ g2 p2 ⟨l, ys, rfl, hl, b.free hl, upd_same, hy⟩⟩
      rcases hd with rfl | rfl
      · cases h1 with
        | lst hs ha => exact fin _ _ (.inl (Same_l b (SqL.of hs))) ha
      · cases h1 with
        | tup hs ha => exact fin _ _ (.inr (SqT.of (b _ _ hs))) ha
/-- sorted(xs, reverse=True) -/
theorem ev_sortedR {x : Str} {b : Bool} {kp cp : Pos} {cj} (hx : x = "sorted") (hu : X.A.units + 64 < cLine) (ok : Sok ds) (hd : d = .list ds ∨ d = .tuple ds) (hg : Gl X x) (hm : X.mg x = none) (ha : Ev X e Δ S d)
    (he1 : starEach [e] X.env = (false, eval e X.env) :: starEach [] X.env := by rfl)
    (hk : PK X [⟨some (Str.ofString "reverse"), .Constant (.bool b) cj cp, kp⟩] (tCons (tC (.bl b)) tNil) := by exact pk_cons pe_bl pk_nil)
    (he : backTo pos (starEach [e] X.env) = (false, eval e X.env) :: backTo pos (starEach [] X.env) := by rfl) (hpl : (backTo pos (starEach [e] X.env)).any (·.1) = false := by rfl)
    (hall : (backToKw pos (keywordEach [⟨some (Str.ofString "reverse"), .Constant (.bool b) cj cp, kp⟩] X.env)).all (·.1.isSome) = true := by rfl) (hnone : (backToKw pos (keywordEach [⟨some (Str.ofString "reverse"), .Constant (.bool b) cj cp, kp⟩] X.env)).any (·.1.isNone) = false := by rfl)
    (hks : (backToKw pos (keywordEach [⟨some (Str.ofString "reverse"), .Constant (.bool b) cj cp, kp⟩] X.env)).filterMap (·.1) = [Str.ofString "reverse"] := by rfl) :
    EvL X (.Call (.Name x p) [e] [⟨some (Str.ofString "reverse"), .Constant (.bool b) cj cp, kp⟩] pos) Δ S (srt b ds) := by
  subst hx
  have hc : CallRK X (.builtin "sorted") [Str.ofString "reverse"] (fun vs zs H Q => ∃ G a xs, vs = [.ref a] ∧ zs = [.bl b] ∧ (SqL X.K H a xs ∨ SqT X.K H a xs) ∧ Same G H ∧ Ats X.K G xs ds ∧ ∀ ys l, H l = none → Ats X.K G ys (srt b ds) → Q (.ref l) (upd H l (.lst ys))) := by
    intro pins s σ H vs zs us ws Q I r rz h
    obtain ⟨G, a, xs, rfl, rfl, hs, hG, ha, q⟩ := h
    rw [vals_ref1 r]
    cases rz with
    | cons r1 r2 =>
      cases r2
      cases r1
      exact sort_core I hu hs hG ha ok (args_sorted_rev _ _) (fun _ => args_list_sort_rev _ _) (fun _ => rfl) q
  refine ev_pe (pe_callBK hc hg hm (by decide +kernel) (pa_cons (pe_ev X e) pa_nil he1) hk (by decide) (by decide) he hpl hall hnone hks) fun σ G H Q a b' c q => ⟨Δ, S, _, G, ha, a, b', c, fun v G1 H1 g p1 r => ?_⟩
  have fin : ∀ a' xs, v = .ref a' → (SqL X.K H1 a' xs ∨ SqT X.K H1 a' xs) → Ats X.K G1 xs ds → ∃ G a xs, ([v] : List V) = [.ref a] ∧ ([V.bl b] : List V) = [.bl b] ∧ (SqL X.K H1 a xs ∨ SqT X.K H1 a xs) ∧ Same G H1 ∧ Ats X.K G xs ds ∧ ∀ ys l, H1 l = none → Ats X.K G ys (srt b ds) → Q (.ref l) (upd H1 l (.lst ys)) := fun a' xs e1 hs ha' =>
    ⟨G1, a', xs, by rw [e1], rfl, hs, g.sub, ha', fun ys l hl hy => by
      obtain ⟨g2, p2⟩ := layH (o := .lst ys) g p1 hl
      exact q _ _ _ g2 p2 ⟨l, ys, rfl, none_back g hl, g.sub.free hl, upd_same, hy⟩⟩
  rcases hd with rfl | rfl
  · cases r with
    | lst hs ha => exact fin _ _ rfl (.inl (Same_l g.sub (SqL.of hs))) ha
  · cases r with
    | tup hs ha => exact fin _ _ rfl (.inr (SqT.of (g.sub _ _ hs))) ha

/-! ### tuple(..), list(..), any, all, sum, max, min, abs, int -/
theorem cd_tuple (hd : d = .list ds ∨ d = .tuple ds) : CallD X (.type "tuple") S [d] (rAt X.K (.tuple ds)) := by
  refine ⟨_, call_tuple_of, fun G H vs Q b c h q => ?_⟩
  cases h with
  | cons h1 h2 =>
    cases h2
    rcases hd with rfl | rfl
    · cases h1 with
      | lst hs ha => exact ⟨_, _, rfl, .inl ⟨Same_l b (SqL.of hs), fun l hl => by
          obtain ⟨g2, p2⟩ := lay (o := .tup _) (.refl b) c hl
          exact q _ _ _ g2 p2 (.tup upd_same (ha.up (same_upd (b.free hl))))⟩⟩
    · cases h1 with
      | tup hs ha => exact ⟨_, _, rfl, .inr ⟨SqT.of (b _ _ hs), q _ G H (.refl b) c (.tup hs ha)⟩⟩
theorem cd_list (hd : d = .list ds ∨ d = .tuple ds) : CallD X (.type "list") S [d] (rNl X.K ds) := by
  refine ⟨_, call_list_of, fun G H vs Q b c h q => ?_⟩
  cases h with
  | cons h1 h2 =>
    cases h2
    have fin : ∀ xs, Ats X.K G xs ds → ∀ l, H l = none → Q (.ref l) (upd H l (.lst xs)) := fun xs ha l hl => by
      obtain ⟨g2, p2⟩ := layH (o := .lst xs) (.refl b) c hl
      exact q _ _ _ g2 p2 ⟨l, xs, rfl, hl, b.free hl, upd_same, ha⟩
    rcases hd with rfl | rfl
    · cases h1 with
      | lst hs ha => exact ⟨_, _, rfl, .inl (Same_l b (SqL.of hs)), fin _ ha⟩
    · cases h1 with
      | tup hs ha => exact ⟨_, _, rfl, .inr (SqT.of (b _ _ hs)), fin _ ha⟩
theorem cd_any {bs : List Bool} (hc : X.calm = true) : CallD X (.builtin "any") S [.list (bs.map .bool)] (rAt X.K (.bool (bs.any id))) :=
  ⟨_, cr_any hc, fun G H vs Q b c h q => by
    cases h with
    | cons h1 h2 =>
      cases h2
      cases h1 with
      | lst hs ha => exact ⟨_, bs, rfl, by rw [← Ats.of_bools ha]; exact Same_l b (SqL.of hs), q _ G H (.refl b) c (.bl _)⟩⟩
theorem cd_all {bs : List Bool} (hc : X.calm = true) : CallD X (.builtin "all") S [.list (bs.map .bool)] (rAt X.K (.bool (bs.all id))) :=
  ⟨_, cr_all hc, fun G H vs Q b c h q => by
    cases h with
    | cons h1 h2 =>
      cases h2
      cases h1 with
      | lst hs ha => exact ⟨_, bs, rfl, by rw [← Ats.of_bools ha]; exact Same_l b (SqL.of hs), q _ G H (.refl b) c (.bl _)⟩⟩
theorem cd_sum {ns : List Int} (hc : X.calm = true) : CallD X (.builtin "sum") S [.list (ns.map .int)] (rAt X.K (.int ns.sum)) :=
  ⟨_, cr_sum hc, fun G H vs Q b c h q => by
    cases h with
    | cons h1 h2 =>
      cases h2
      cases h1 with
      | lst hs ha => exact ⟨_, ns, rfl, by rw [← Ats.of_ints ha]; exact Same_l b (SqL.of hs), q _ G H (.refl b) c (.int _)⟩⟩
theorem cd_max2 {i j : Int} (hc : X.calm = true) : CallD X (.builtin "max") S [.int i, .int j] (rAt X.K (.int (max i j))) :=
  ⟨_, call_max2 hc, fun G H vs Q b c h q => by
    cases h with
    | cons h1 h2 =>
      cases h2 with
      | cons h2 h3 =>
        cases h3
        cases h1
        cases h2
        refine ⟨i, j, rfl, q _ G H (.refl b) c ?_⟩
        have e : (if j > i then j else i) = max i j := by rw [Int.max_def]; split <;> split <;> omega
        rw [e]; exact .int _⟩
theorem cd_min2 {i j : Int} (hc : X.calm = true) : CallD X (.builtin "min") S [.int i, .int j] (rAt X.K (.int (min i j))) :=
  ⟨_, call_min2 hc, fun G H vs Q b c h q => by
    cases h with
    | cons h1 h2 =>
      cases h2 with
      | cons h2 h3 =>
        cases h3
        cases h1
        cases h2
        refine ⟨i, j, rfl, q _ G H (.refl b) c ?_⟩
        have e : (if j < i then j else i) = min i j := by rw [Int.min_def]; split <;> split <;> omega
        rw [e]; exact .int _⟩
theorem cd_abs {i : Int} : CallD X (.builtin "abs") S [.int i] (rAt X.K (.int i.natAbs)) :=
  ⟨_, call_abs, fun G H vs Q b c h q => by
    cases h with
    | cons h1 h2 =>
      cases h2
      cases h1
      refine ⟨i, rfl, q _ G H (.refl b) c ?_⟩
      have e : (if i < 0 then -i else i) = (i.natAbs : Int) := by split <;> omega
      rw [e]; exact .int _⟩
theorem cd_intB {k : Bool} : CallD X (.type "int") S [.bool k] (rAt X.K (.int (if k then 1 else 0))) :=
  ⟨_, call_int1, fun G H vs Q b c h q => by
    cases h with
    | cons h1 h2 =>
      cases h2
      cases h1
      exact .inr ⟨k, rfl, q _ G H (.refl b) c (.int _)⟩⟩
/-- list(range(n)) -/
theorem evl_range {n : Int} {p1 p2 : Pos} (hc : X.calm = true) (hg : Gl X "list") (hm : X.mg "list" = none) (hg2 : Gl X "range") (hm2 : X.mg "range" = none) (ha : Ev X e Δ S (.int n)) (h0 : 0 ≤ n) (h1 : n ≤ 1000000)
    (na : starEach [e] X.env = (false, eval e X.env) :: starEach [] X.env := by rfl) (na2 : starEach [.Call (.Name "range" p2) [e] [] p1] X.env = (false, eval (.Call (.Name "range" p2) [e] [] p1) X.env) :: starEach [] X.env := by rfl) :
    EvL X (.Call (.Name "list" p) [.Call (.Name "range" p2) [e] [] p1] [] pos) Δ S ((List.range n.toNat).map fun k : Nat => .int k) :=
  ev_pe (pe_listRg hc hg hm (prg_1 hg2 hm2 (pe_ev X e) na) na2) fun σ G H Q a b c q => ⟨Δ, S, _, G, ha, a, b, c, fun v G1 H1 g p1 r => by
    cases r
    refine ⟨n, rfl, RgOk.of_le (by omega) (by omega) (by omega) h0, fun l hl => ?_⟩
    obtain ⟨g2, p2⟩ := layH (o := .lst (rgV 0 n)) g p1 hl
    refine q _ _ _ g2 p2 ⟨l, _, rfl, none_back g hl, g.sub.free hl, upd_same, ?_⟩
    unfold rgV
    rw [Int.sub_zero]
    refine Ats.of_get (by simp) fun i v d e1 e2 => ?_
    rw [List.getElem?_map] at e1 e2
    cases q : (List.range n.toNat)[i]? with
    | none => rw [q] at e1; cases e1
    | some j =>
      rw [q] at e1 e2
      cases e1
      cases e2
      show At X.K G1 (.int (0 + (j : Int))) (.int (j : Int))
      rw [Int.zero_add]
      exact .int _⟩
end
end DL
namespace DL
open PySem PySem.Spec PyProof.Rows L2

/-! ### values that are told by a property -/
abbrev rX (K : PySem.W.Frag) (P : PyData → Prop) : RR := fun _ _ v G2 _ => ∃ d, P d ∧ At K G2 v d
abbrev rXl (K : PySem.W.Frag) (P : List PyData → Prop) : RR := fun _ H v G2 H2 => ∃ ds, P ds ∧ ∃ p xs, v = .ref p ∧ H p = none ∧ G2 p = none ∧ H2 p = some (.lst xs) ∧ Ats K G2 xs ds
abbrev EvX (X : Cx) (e : Expr) (Δ : De) (S : As) (P : PyData → Prop) : Prop := EvR X e Δ S (rX X.K P)
abbrev EvXl (X : Cx) (e : Expr) (Δ : De) (S : As) (P : List PyData → Prop) : Prop := EvR X e Δ S (rXl X.K P)
theorem back_x {K : PySem.W.Frag} {P : PyData → Prop} : Back (rX K P) := fun _ _ _ _ _ _ _ _ h => h
theorem back_xl {K : PySem.W.Frag} {P : List PyData → Prop} : Back (rXl K P) := fun _ _ _ _ _ _ _ r ⟨ds, hp, p, xs, e, h, k⟩ => ⟨ds, hp, p, xs, e, none_back r h, k⟩
section
variable {X : Cx} {e a b tg iter : Expr} {es : List Expr} {Δ : De} {S : As} {R : RR} {d d1 d2 : PyData} {ds : List PyData} {pos p : Pos} {P P' P1 P2 : PyData → Prop} {PL : List PyData → Prop}
theorem EvR.x (h : Ev X e Δ S d) (k : P d) : EvX X e Δ S P := h.imp fun _ _ v G2 _ _ _ r => ⟨d, k, r⟩
theorem EvR.xx (h : EvX X e Δ S P) (k : ∀ d, P d → P' d) : EvX X e Δ S P' := h.imp fun _ _ v G2 _ _ _ ⟨d, z, r⟩ => ⟨d, k d z, r⟩
theorem EvR.xl (h : EvL X e Δ S ds) (k : PL ds) : EvXl X e Δ S PL := h.imp fun _ _ v G2 _ _ _ r => ⟨ds, k, r⟩
theorem EvR.xfrz (h : EvXl X e Δ S PL) (k : ∀ ds, PL ds → P (.list ds)) : EvX X e Δ S P :=
  fun pins s σ G H Q I a b c q => h pins s σ G H Q I a b c fun v G2 H2 g p ⟨ds, hp, x, xs, e1, e2, e3, e4, e5⟩ => by
    subst e1
    exact q _ (upd G2 x (.lst xs)) H2 (g.frz e2 e3 e4) (S.frz (not_own c e2) p e3 e4) ⟨_, k ds hp, .lst upd_same (e5.up (same_upd e3))⟩
theorem twoX {ta tb : Expr} {σ : L2.St} {G H : Hp} {k : V → V → Hp → Prop} (ha : EvX X ta Δ S P1) (hb : EvX X tb Δ S P2) (a : EnvOk X.K G σ Δ) (b : Same G H) (c : S.p G H)
    (q : ∀ x y d1 d2 G1 H1, P1 d1 → P2 d2 → Gr G H G1 H1 → S.p G1 H1 → At X.K G1 x d1 → At X.K G1 y d2 → k x y H1) : tEv X ta σ H fun x H1 => tEv X tb σ H1 fun y H2 => k x y H2 :=
  ⟨Δ, S, _, G, ha, a, b, c, fun x G1 H1 g1 p1 ⟨d1, z1, r1⟩ => ⟨Δ, S, _, G1, hb, a.up g1.gx, g1.sub, p1, fun y G2 H2 g2 p2 ⟨d2, z2, r2⟩ => q x y d1 d2 G2 H2 z1 z2 (g1.trans g2) p2 (r1.up g2.gx) r2⟩⟩
def opAny (X : Cx) (f : Value → Value → Sem Value) : R2 := fun x y H Q => ∃ r : R2, OpR X f r ∧ r x y H Q
theorem op_any (X : Cx) (f : Value → Value → Sem Value) : OpR X f (opAny X f) := fun pins s σ H x y v u Q I r1 r2 ⟨r, h, q⟩ => h pins s σ H x y v u Q I r1 r2 q
theorem OpD.x {f : Value → Value → Sem Value} (h : OpD X f S d1 d2 (rAt X.K d)) (k : P d) : OpD X f S d1 d2 (rX X.K P) := by
  obtain ⟨r, h1, h2⟩ := h
  exact ⟨r, h1, fun G H x y Q b c e1 e2 q => h2 G H x y Q b c e1 e2 fun v G2 H2 g p r => q v G2 H2 g p ⟨d, k, r⟩⟩
theorem evx_op {op : Operator} (ha : EvX X a Δ S P1) (hb : EvX X b Δ S P2) (ho : ∀ d1 d2, P1 d1 → P2 d2 → OpD X (binaryOp op) S d1 d2 R) (hR : Back R := by first | exact back_x | exact back_at | exact back_nl) : EvR X (.BinOp a op b pos) Δ S R :=
  ev_pe (pe_op (op_any X _) (pe_ev X a) (pe_ev X b)) fun σ G H Q a' b' c' q => twoX ha hb a' b' c' fun x y d1 d2 G1 H1 z1 z2 g p e1 e2 => by
    obtain ⟨r, h1, h2⟩ := ho d1 d2 z1 z2
    exact ⟨r, h1, h2 G1 H1 x y Q g.sub p e1 e2 fun v G2 H2 g2 p2 r2 => q v G2 H2 (g.trans g2) p2 (hR _ _ _ _ _ _ _ g r2)⟩
theorem evx_cmp {op : CmpOp} (ha : EvX X a Δ S P1) (hb : EvX X b Δ S P2) (ho : ∀ d1 d2, P1 d1 → P2 d2 → OpD X (compareOp op) S d1 d2 R) (hR : Back R := by first | exact back_x | exact back_at | exact back_nl) (hm : behindInMarks op b = false := by first | exact nomark _ | rfl | with_unfolding_all rfl) :
    EvR X (.Compare a [op] [b] pos) Δ S R :=
  ev_pe (pe_cmpR (op_any X _) (pe_ev X a) (pe_ev X b) hm) fun σ G H Q a' b' c' q => twoX ha hb a' b' c' fun x y d1 d2 G1 H1 z1 z2 g p e1 e2 => by
    obtain ⟨r, h1, h2⟩ := ho d1 d2 z1 z2
    exact ⟨r, h1, h2 G1 H1 x y Q g.sub p e1 e2 fun v G2 H2 g2 p2 r2 => q v G2 H2 (g.trans g2) p2 (hR _ _ _ _ _ _ _ g r2)⟩
def ixAny (X : Cx) : R2 := fun x y H Q => ∃ r : R2, IxR X r ∧ r x y H Q
theorem ix_any (X : Cx) : IxR X (ixAny X) := fun va sl pins s σ H x y v u Q I r1 r2 ⟨r, h, q⟩ e => h va sl pins s σ H x y v u Q I r1 r2 q e
theorem IxD.x (h : IxD X S d1 d2 (rAt X.K d)) (k : P d) : IxD X S d1 d2 (rX X.K P) := by
  obtain ⟨r, h1, h2⟩ := h
  exact ⟨r, h1, fun G H x y Q b c e1 e2 q => h2 G H x y Q b c e1 e2 fun v G2 H2 g p r => q v G2 H2 g p ⟨d, k, r⟩⟩
theorem evx_ix (ha : EvX X a Δ S P1) (hb : EvX X b Δ S P2) (ho : ∀ d1 d2, P1 d1 → P2 d2 → IxD X S d1 d2 R) (hR : Back R := by first | exact back_x | exact back_at | exact back_nl) (hs : PlainIx b := by exact fun _ _ => rfl) : EvR X (.Subscript a b pos) Δ S R :=
  ev_pe (pe_ix (ix_any X) (pe_ev X a) (pe_ev X b) hs) fun σ G H Q a' b' c' q => twoX ha hb a' b' c' fun x y d1 d2 G1 H1 z1 z2 g p e1 e2 => by
    obtain ⟨r, h1, h2⟩ := ho d1 d2 z1 z2
    exact ⟨r, h1, h2 G1 H1 x y Q g.sub p e1 e2 fun v G2 H2 g2 p2 r2 => q v G2 H2 (g.trans g2) p2 (hR _ _ _ _ _ _ _ g r2)⟩
/-- an item of a list that may still change -/
theorem evx_ixM {q : Addr} (hS : S.le (.acc X.K q ds)) (ha : Ev X a Δ S (ob q)) (hb : EvX X b Δ S P1) (e : ∀ d1, P1 d1 → ∃ i d, d1 = .int i ∧ atI ds i = some d ∧ P d) (hs : PlainIx b := by exact fun _ _ => rfl) : EvX X (.Subscript a b pos) Δ S P :=
  ev_pe (pe_ix ix_list (pe_ev X a) (pe_ev X b) hs) fun σ G H Q a' b' c' k => twoX (ha.x (P := (· = ob q)) rfl) hb a' b' c' fun x y d1 d2 G1 H1 z1 z2 g p e1 e2 => by
    subst z1
    obtain ⟨i, d, rfl, e3, e4⟩ := e d2 z2
    obtain ⟨_, xs, h1, h2⟩ := hS _ _ p
    rw [At.obj_eq e1]
    cases e2
    obtain ⟨v, f1, f2⟩ := h2.atI e3
    exact ⟨_, _, _, _, rfl, rfl, SqL.of h1, f1, k v G1 H1 g p ⟨d, e4, f2⟩⟩

/-! arguments -/
def EvAX (X : Cx) (es : List Expr) (Δ : De) (S : As) (PL : List PyData → Prop) : Prop :=
  ∀ (pos : Pos) (pins : List (Addr × Obj)) (s : Shared) (σ : L2.St) (G H : Hp) (Q : List V → Hp → Prop), Inv X pins σ H s → EnvOk X.K G σ Δ → Same G H → S.p G H →
    (∀ vs ds G2 H2, PL ds → Gr G H G2 H2 → S.p G2 H2 → Ats X.K G2 vs ds → Q vs H2) → wpAny (model X.prog X.w) X.A (spliced (backTo pos (starEach es X.env))) (AP X pins σ Q) X.xe s
def tEvAX (X : Cx) (es : List Expr) : TA := fun σ H Q => ∃ Δ S PL G, EvAX X es Δ S PL ∧ EnvOk X.K G σ Δ ∧ Same G H ∧ S.p G H ∧ ∀ vs ds G2 H2, PL ds → Gr G H G2 H2 → S.p G2 H2 → Ats X.K G2 vs ds → Q vs H2
theorem pa_evx (X : Cx) (es : List Expr) : PA X es (tEvAX X es) := ⟨fun pos pins s σ H Q I ⟨_, _, _, G, h, a, b, c, q⟩ => h pos pins s σ G H Q I a b c q⟩
theorem evax_pa {t : TA} (h : PA X es t) (ht : ∀ (σ : L2.St) (G H : Hp) (Q : List V → Hp → Prop), EnvOk X.K G σ Δ → Same G H → S.p G H → (∀ vs ds G2 H2, PL ds → Gr G H G2 H2 → S.p G2 H2 → Ats X.K G2 vs ds → Q vs H2) → t σ H Q) : EvAX X es Δ S PL :=
  fun pos pins s σ G H Q I a b c q => h.run pos pins s σ H Q I (ht σ G H Q a b c q)
theorem eax_nil : EvAX X [] Δ S (· = []) := evax_pa pa_nil fun _ G H _ _ b c q => q [] [] G H rfl (.refl b) c .nil
theorem eax_cons (h : EvX X e Δ S P) (hr : EvAX X es Δ S PL) (hs : starEach (e :: es) X.env = (false, eval e X.env) :: starEach es X.env := by rfl) : EvAX X (e :: es) Δ S (fun ds => ∃ d ds', ds = d :: ds' ∧ P d ∧ PL ds') :=
  evax_pa (pa_cons (pe_ev X e) (pa_evx X es) hs) fun σ G H Q a b c q => ⟨Δ, S, _, G, h, a, b, c, fun v G1 H1 g p ⟨d, z, r⟩ =>
    ⟨Δ, S, PL, G1, hr, a.up g.gx, g.sub, p, fun vs ds G2 H2 z2 g2 p2 r2 => q _ _ G2 H2 ⟨d, ds, rfl, z, z2⟩ (g.trans g2) p2 (.cons (r.up g2.gx) r2)⟩⟩
theorem eax_cons' (h : EvX X e Δ S P) (hr : EvA X es Δ S ds) (hs : starEach (e :: es) X.env = (false, eval e X.env) :: starEach es X.env := by rfl) : EvAX X (e :: es) Δ S (fun ds' => ∃ d, ds' = d :: ds ∧ P d) :=
  evax_pa (pa_cons (pe_ev X e) (pa_ev X es) hs) fun σ G H Q a b c q => ⟨Δ, S, _, G, h, a, b, c, fun v G1 H1 g p ⟨d, z, r⟩ =>
    ⟨Δ, S, ds, G1, hr, a.up g.gx, g.sub, p, fun vs G2 H2 g2 p2 r2 => q _ _ G2 H2 ⟨d, rfl, z⟩ (g.trans g2) p2 (.cons (r.up g2.gx) r2)⟩⟩
theorem EvA.x (h : EvA X es Δ S ds) (k : PL ds) : EvAX X es Δ S PL := fun pos pins s σ G H Q I a b c q => h pos pins s σ G H Q I a b c fun vs G2 H2 g p r => q vs ds G2 H2 k g p r
theorem EvAX.xx {PL' : List PyData → Prop} (h : EvAX X es Δ S PL) (k : ∀ ds, PL ds → PL' ds) : EvAX X es Δ S PL' := fun pos pins s σ G H Q I a b c q => h pos pins s σ G H Q I a b c fun vs ds G2 H2 z g p r => q vs ds G2 H2 (k ds z) g p r
theorem evx_tup {x1} (h : EvAX X es Δ S PL) (hl : ∀ ds, PL ds → ds.length ≤ 1000 ∧ P (.tuple ds)) : EvX X (.Tuple es x1 pos) Δ S P :=
  ev_pe (pe_tup (pa_evx X es)) fun σ G H Q a b c q => ⟨Δ, S, PL, G, h, a, b, c, fun vs ds G1 H1 z g p r => ⟨by rw [r.len]; exact Nat.le_trans (hl ds z).1 (by decide), fun l hl' => by
    obtain ⟨g2, p2⟩ := lay (o := .tup vs) g p hl'
    exact q _ _ _ g2 p2 ⟨_, (hl ds z).2, .tup upd_same (r.up (same_upd (g.sub.free hl')))⟩⟩⟩
theorem evx_lst (h : EvAX X es Δ S PL) (hl : ∀ ds, PL ds → ds.length ≤ 1000) : EvXl X (.List es pos) Δ S PL :=
  ev_pe (pe_lst (pa_evx X es)) fun σ G H Q a b c q => ⟨Δ, S, PL, G, h, a, b, c, fun vs ds G1 H1 z g p r => ⟨by rw [r.len]; exact Nat.le_trans (hl ds z) (by decide), fun l hl => by
    obtain ⟨g2, p2⟩ := layH (o := .lst vs) g p hl
    exact q _ _ _ g2 p2 ⟨ds, z, l, vs, rfl, none_back g hl, g.sub.free hl, upd_same, r⟩⟩⟩
def callAny (X : Cx) (f : Value) : List V → Hp → VK → Prop := fun vs H Q => ∃ r, CallR X f r ∧ r vs H Q
theorem call_any (X : Cx) (f : Value) : CallR X f (callAny X f) := fun pins s σ H xs us Q I r ⟨t, h, q⟩ => h pins s σ H xs us Q I r q
theorem CallD.x {f : Value} (h : CallD X f S ds (rAt X.K d)) (k : P d) : CallD X f S ds (rX X.K P) := by
  obtain ⟨r, h1, h2⟩ := h
  exact ⟨r, h1, fun G H vs Q b c e1 q => h2 G H vs Q b c e1 fun v G2 H2 g p r => q v G2 H2 g p ⟨d, k, r⟩⟩
theorem evx_callB {x : Str} {id : String} (hc : ∀ ds, PL ds → CallD X (.builtin id) S ds R) (hg : Gl X x) (hm : X.mg x = none) (hv : bootBuiltins x = some (.builtin id)) (ha : EvAX X (e :: es) Δ S PL) (hR : Back R := by first | exact back_x | exact back_at | exact back_nl)
    (hn : x ≠ "__name__" := by decide) (hdb : (x == ("__debug__" : Str)) = false := by decide) (he : starEach (e :: es) X.env = (false, eval e X.env) :: starEach es X.env := by rfl) (hpl : (backTo pos (starEach es X.env)).any (·.1) = false := by rfl) :
    EvR X (.Call (.Name x p) (e :: es) [] pos) Δ S R :=
  ev_pe (pe_callB (call_any X _) hg hm hv (pa_evx X _) hn hdb he hpl) fun σ G H Q a b c q => ⟨Δ, S, PL, G, ha, a, b, c, fun vs ds G1 H1 z g p r1 => by
    obtain ⟨r, h1, h2⟩ := hc ds z
    exact ⟨r, h1, h2 G1 H1 vs Q g.sub p r1 fun v G2 H2 g2 p2 r2 => q v G2 H2 (g.trans g2) p2 (hR _ _ _ _ _ _ _ g r2)⟩⟩
theorem evx_callTy {x : Str} {T : String} (hc : ∀ ds, PL ds → CallD X (.type T) S ds R) (hg : Gl X x) (hm : X.mg x = none) (hv : bootBuiltins x = some (.type T)) (ha : EvAX X (e :: es) Δ S PL) (hR : Back R := by first | exact back_x | exact back_at | exact back_nl)
    (hn : x ≠ "__name__" := by decide) (hdb : (x == ("__debug__" : Str)) = false := by decide) (he : starEach (e :: es) X.env = (false, eval e X.env) :: starEach es X.env := by rfl) (hpl : (backTo pos (starEach es X.env)).any (·.1) = false := by rfl) :
    EvR X (.Call (.Name x p) (e :: es) [] pos) Δ S R :=
  ev_pe (pe_callTy (call_any X _) hg hm hv (pa_evx X _) hn hdb he hpl) fun σ G H Q a b c q => ⟨Δ, S, PL, G, ha, a, b, c, fun vs ds G1 H1 z g p r1 => by
    obtain ⟨r, h1, h2⟩ := hc ds z
    exact ⟨r, h1, h2 G1 H1 vs Q g.sub p r1 fun v G2 H2 g2 p2 r2 => q v G2 H2 (g.trans g2) p2 (hR _ _ _ _ _ _ _ g r2)⟩⟩
theorem evx_c {x : Str} {k j : Nat} {Pr : Hp → List PyData → RR → Prop} (c : C8.Cal X.prog X.w X.K X.mg X.base k x (spP X.K Pr) []) (hr : Room j X.A) (hg : Gl X x) (ha : EvAX X (e :: es) Δ S PL) (hP : ∀ G H ds, PL ds → S.p G H → Pr G ds R) (hR : Back R := by first | exact back_x | exact back_xl | exact back_at | exact back_nl) (hk : k ≤ j := by decide)
    (hdb : (x == ("__debug__" : Str)) = false := by decide) (he : starEach (e :: es) X.env = (false, eval e X.env) :: starEach es X.env := by rfl) (hpl : (backTo pos (starEach es X.env)).any (·.1) = false := by rfl) :
    EvR X (.Call (.Name x p) (e :: es) [] pos) Δ S R :=
  ev_pe (C8.pe_c c hr hk hg (pa_evx X _) hdb he hpl) fun σ G H Q a b c q => ⟨Δ, S, PL, G, ha, a, b, c, fun vs ds G1 H1 z g p r1 => by
    show spP X.K Pr (vs ++ []) H1 Q _
    rw [List.append_nil]
    exact ⟨G1, ds, R, g.sub, r1, hP G1 H1 ds z p, fun v G2 H2 g2 s2 r2 => q v G2 H2 (g.trans g2) (S.cl g2 s2 p) (hR _ _ _ _ _ _ _ g r2)⟩⟩

/-! tests -/
def EvTX (X : Cx) (e : Expr) (Δ : De) (S : As) (P : Bool → Prop) : Prop :=
  ∀ (pins : List (Addr × Obj)) (s : Shared) (σ : L2.St) (G H : Hp) (Q : Bool → Hp → Prop), Inv X pins σ H s → EnvOk X.K G σ Δ → Same G H → S.p G H →
    (∀ b G2 H2, P b → Gr G H G2 H2 → S.p G2 H2 → Q b H2) → wpAny (model X.prog X.w) X.A (isTrue e X.env (eval e X.env)) (TP X pins σ Q) X.xe s
def EvWX (X : Cx) (e : Expr) (Δ : De) (S : As) (P : Bool → Prop) : Prop :=
  ∀ (whole : Sem Value) (pins : List (Addr × Obj)) (s : Shared) (σ : L2.St) (G H : Hp) (Q : Bool → Hp → Prop), Inv X pins σ H s → EnvOk X.K G σ Δ → Same G H → S.p G H →
    (∀ b G2 H2, P b → Gr G H G2 H2 → S.p G2 H2 → Q b H2) → wpAny (model X.prog X.w) X.A (isTrue e X.env whole) (TP X pins σ Q) X.xe s
def tEvTX (X : Cx) (e : Expr) : TT := fun σ H Q => ∃ Δ S P G, EvTX X e Δ S P ∧ EnvOk X.K G σ Δ ∧ Same G H ∧ S.p G H ∧ ∀ b G2 H2, P b → Gr G H G2 H2 → S.p G2 H2 → Q b H2
theorem pt_evx (X : Cx) (e : Expr) : PT X e (tEvTX X e) := ⟨fun pins s σ H Q I ⟨_, _, _, G, h, a, b, c, q⟩ => h pins s σ G H Q I a b c q⟩
def tEvWX (X : Cx) (e : Expr) : TT := fun σ H Q => ∃ Δ S P G, EvWX X e Δ S P ∧ EnvOk X.K G σ Δ ∧ Same G H ∧ S.p G H ∧ ∀ b G2 H2, P b → Gr G H G2 H2 → S.p G2 H2 → Q b H2
theorem pw_evx (X : Cx) (e : Expr) : PW X e (tEvWX X e) := ⟨fun w pins s σ H Q I ⟨_, _, _, G, h, a, b, c, q⟩ => h w pins s σ G H Q I a b c q⟩
variable {PB PB' : Bool → Prop}
theorem evtx_pt {t : TT} (h : PT X e t) (ht : ∀ (σ : L2.St) (G H : Hp) (Q : Bool → Hp → Prop), EnvOk X.K G σ Δ → Same G H → S.p G H → (∀ b G2 H2, PB b → Gr G H G2 H2 → S.p G2 H2 → Q b H2) → t σ H Q) : EvTX X e Δ S PB :=
  fun pins s σ G H Q I a b c q => h.run pins s σ H Q I (ht σ G H Q a b c q)
theorem evwx_pw {t : TT} (h : PW X e t) (ht : ∀ (σ : L2.St) (G H : Hp) (Q : Bool → Hp → Prop), EnvOk X.K G σ Δ → Same G H → S.p G H → (∀ b G2 H2, PB b → Gr G H G2 H2 → S.p G2 H2 → Q b H2) → t σ H Q) : EvWX X e Δ S PB :=
  fun w pins s σ G H Q I a b c q => h.run w pins s σ H Q I (ht σ G H Q a b c q)
theorem EvT.x {k : Bool} (h : EvT X e Δ S k) (z : PB k) : EvTX X e Δ S PB := fun pins s σ G H Q I a b c q => h pins s σ G H Q I a b c fun G2 H2 g p => q k G2 H2 z g p
theorem evtx_w (h : EvWX X e Δ S PB) : EvTX X e Δ S PB := h _
theorem evtx_val (h : EvX X e Δ S P) (hP : ∀ d, P d → ∃ k, d = .bool k ∧ PB k) (he : ∀ whole, isTrue e X.env whole = (do let v ← whole; standAt e.pos; holding [v] (truthy v)) := by intro _; rfl) : EvTX X e Δ S PB :=
  evtx_pt (pt_val (pe_ev X e) he) fun σ G H Q a' b' c' q => ⟨Δ, S, _, G, h, a', b', c', fun v G2 H2 g p ⟨d, z, r⟩ => by
    obtain ⟨k, rfl, z2⟩ := hP d z
    cases r
    exact ⟨k, rfl, q k G2 H2 z2 g p⟩⟩
theorem evtx_cmp {op : CmpOp} (ha : EvX X a Δ S P1) (hb : EvX X b Δ S P2) (ho : ∀ d1 d2, P1 d1 → P2 d2 → ∃ k, OpD X (compareOp op) S d1 d2 (rAt X.K (.bool k)) ∧ PB k) (hm : behindInMarks op b = false := by first | exact nomark _ | rfl | with_unfolding_all rfl) :
    EvTX X (.Compare a [op] [b] pos) Δ S PB :=
  evtx_pt (pt_cmpR (op_any X _) (pe_ev X a) (pe_ev X b) hm) fun σ G H Q a' b' c' q => twoX ha hb a' b' c' fun x y d1 d2 G1 H1 z1 z2 g p e1 e2 => by
    obtain ⟨k, ⟨r, h1, h2⟩, z⟩ := ho d1 d2 z1 z2
    exact ⟨r, h1, h2 G1 H1 x y _ g.sub p e1 e2 fun v G2 H2 g2 p2 r2 => by cases r2; exact ⟨k, rfl, q k G2 H2 z (g.trans g2) p2⟩⟩
theorem evwx_and1 (h : EvTX X a Δ S PB) : EvWX X (.BoolOp .And [a] pos) Δ S PB :=
  evwx_pw (pw_and1 (pt_evx X a)) fun σ G H Q a' b' c' q => ⟨Δ, S, PB, G, h, a', b', c', q⟩
theorem evwx_and {rest : List Expr} (h : EvTX X a Δ S PB) (h' : PB true → EvWX X (.BoolOp .And (b :: rest) pos) Δ S PB') : EvWX X (.BoolOp .And (a :: b :: rest) pos) Δ S (fun k => (PB true ∧ PB' k) ∨ (PB false ∧ k = false)) :=
  evwx_pw (pw_and (pt_evx X a) (pw_evx X _)) fun σ G H Q a' b' c' q => ⟨Δ, S, PB, G, h, a', b', c', fun k G2 H2 z g p => by
    cases k with
    | true => exact iteT ⟨Δ, S, PB', G2, h' z, a'.up g.gx, g.sub, p, fun k G3 H3 z3 g3 p3 => q k G3 H3 (.inl ⟨z, z3⟩) (g.trans g3) p3⟩
    | false => exact iteF (q false G2 H2 (.inr ⟨z, rfl⟩) g p)⟩
theorem EvTX.xx (h : EvTX X e Δ S PB) (k : ∀ b, PB b → PB' b) : EvTX X e Δ S PB' := fun pins s σ G H Q I a b c q => h pins s σ G H Q I a b c fun b' G2 H2 z g p => q b' G2 H2 (k b' z) g p
theorem EvWX.xx (h : EvWX X e Δ S PB) (k : ∀ b, PB b → PB' b) : EvWX X e Δ S PB' := fun w pins s σ G H Q I a b c q => h w pins s σ G H Q I a b c fun b' G2 H2 z g p => q b' G2 H2 (k b' z) g p
theorem evx_if {t : Expr} (ht : EvTX X t Δ S PB) (ha : PB true → EvR X a Δ S R) (hb : PB false → EvR X b Δ S R) (hR : Back R := by first | exact back_x | exact back_xl | exact back_at | exact back_nl) : EvR X (.IfExp t a b pos) Δ S R :=
  ev_pe (pe_ifExp (pt_evx X t) (pe_ev X a) (pe_ev X b)) fun σ G H Q a' b' c' q => ⟨Δ, S, PB, G, ht, a', b', c', fun k G2 H2 z g p => by
    cases k with
    | true => exact iteT ⟨Δ, S, R, G2, ha z, a'.up g.gx, g.sub, p, fun v G3 H3 g3 p3 r3 => q v G3 H3 (g.trans g3) p3 (hR _ _ _ _ _ _ _ g r3)⟩
    | false => exact iteF ⟨Δ, S, R, G2, hb z, a'.up g.gx, g.sub, p, fun v G3 H3 g3 p3 r3 => q v G3 H3 (g.trans g3) p3 (hR _ _ _ _ _ _ _ g r3)⟩⟩
end

/-! statements -/
section
variable {X : Cx} {e a b tg iter : Expr} {es : List Expr} {Δ : De} {S : As} {R : RR} {d d1 d2 : PyData} {ds : List PyData} {pos p : Pos} {P P' P1 P2 : PyData → Prop} {PL : List PyData → Prop} {st : Stmt} {sts rest body orelse : List Stmt} {D : EndsG} {PB : Bool → Prop}
theorem go_setX (i : Nat) {x : Str} {p' : Pos} (he : EvX X e Δ S P) (hN : X.N.Nodup) (k : ∀ d, P d → Go X rest D (Δ.set i (some d)) S) (hi : X.N[i]? = some x := by rfl) (hx : Loc X.env.scope x := by first | exact Or.inl rfl | exact Or.inr rfl)
    (hs : swapsWith e (some (.Name x p')) pos.line X.env = pure false := by rfl) (hf : X.fn x = true ∨ X.env.scope.names.lookup x = some .local := by first | exact .inl rfl | exact .inr rfl | assumption) : Go X (.Assign [.Name x p'] e pos :: rest) D Δ S :=
  go_cons (ps_set hN hi hx (pe_ev X e) hs hf) fun σ G H D' l a b c => ⟨Δ, S, _, G, he, a, b, c, fun v G2 H2 g p ⟨d, z, r⟩ => l.nx _ _ ⟨G2, g.gx, g.sub, _, S, k d z, (a.up g.gx).set r, p⟩⟩
theorem go_setXl (i : Nat) {x : Str} {p' : Pos} (he : EvXl X e Δ S PL) (hN : X.N.Nodup) (k : ∀ (q : Addr) (ds : List PyData), ¬ S.own q → PL ds → Go X rest D (Δ.set i (some (ob q))) (S.and (.acc X.K q ds))) (hi : X.N[i]? = some x := by rfl) (hx : Loc X.env.scope x := by first | exact Or.inl rfl | exact Or.inr rfl)
    (hs : swapsWith e (some (.Name x p')) pos.line X.env = pure false := by rfl) (hf : X.fn x = true ∨ X.env.scope.names.lookup x = some .local := by first | exact .inl rfl | exact .inr rfl | assumption) : Go X (.Assign [.Name x p'] e pos :: rest) D Δ S :=
  go_cons (ps_set hN hi hx (pe_ev X e) hs hf) fun σ G H D' l a b c => ⟨Δ, S, _, G, he, a, b, c, fun v G2 H2 g p ⟨ds, z, q, xs, e1, e2, e3, e4, e5⟩ => by
    subst e1
    exact l.nx _ _ ⟨G2, g.gx, g.sub, _, _, k q ds (not_own c e2) z, (a.up g.gx).set (.obj q), p, e3, xs, e4, e5⟩⟩
theorem go_ifX (hc : EvTX X e Δ S PB) (ha : PB true → Go X body (D.th X rest) Δ S) (hb : PB false → Go X orelse (D.th X rest) Δ S) : Go X (.If e body orelse pos :: rest) D Δ S :=
  go_cons (ps_if (pt_evx X e) (pss_go X body) (pss_go X orelse)) fun σ G H D' l a b c => ⟨Δ, S, PB, G, hc, a, b, c, fun k G2 H2 z g p => by
    cases k with
    | true => exact iteT ⟨_, Δ, S, G2, ha z, (EndsG.le g.gx).trans l, a.up g.gx, g.sub, p⟩
    | false => exact iteF ⟨_, Δ, S, G2, hb z, (EndsG.le g.gx).trans l, a.up g.gx, g.sub, p⟩⟩
theorem go_parX {x y : Str} {px py pt pt2 : Pos} {kt k2} (i j : Nat) (ha : EvX X a Δ S P1) (hb : EvX X b Δ S P2) (hc : X.calm = true) (hN : X.N.Nodup) (k : ∀ d1 d2, P1 d1 → P2 d2 → Go X rest D ((Δ.set i (some d1)).set j (some d2)) S) (hij : i ≠ j := by decide) (hi : X.N[i]? = some x := by rfl) (hj : X.N[j]? = some y := by rfl)
    (hx : X.env.scope.names.lookup x = some .local := by rfl) (hy : X.env.scope.names.lookup y = some .local := by rfl) (hw : swappedStores [.Tuple [.Name x px, .Name y py] kt pt] (.Tuple [a, b] k2 pt2) X.env = pure (some [x, y]) := by rfl)
    (hs : swapsWithSole [.Tuple [.Name x px, .Name y py] kt pt] (.Tuple [a, b] k2 pt2) pos.line X.env = pure false := by rfl) (hs1 : starEach [a, b] X.env = (false, eval a X.env) :: starEach [b] X.env := by rfl) (hs2 : starEach [b] X.env = (false, eval b X.env) :: starEach [] X.env := by rfl) :
    Go X (.Assign [.Tuple [.Name x px, .Name y py] kt pt] (.Tuple [a, b] k2 pt2) pos :: rest) D Δ S :=
  go_cons (ps_par hc hN hi hj hij hx hy (pa_cons (pe_ev X a) (pa_cons (pe_ev X b) pa_nil hs2) hs1) hw hs) fun σ G H D' l a' b' c' => twoX ha hb a' b' c' fun v w d1 d2 G1 H1 z1 z2 g p e1 e2 =>
    ⟨v, w, rfl, l.nx _ _ ⟨G1, g.gx, g.sub, _, S, k d1 d2 z1 z2, ((a'.up g.gx).set e1).set e2, p⟩⟩
theorem go_asgX {is : List Nat} {f : PyData → De → De} (he : EvX X e Δ S P) (ht : ∀ d, P d → TgS X tg is d (f d)) (k : ∀ d, P d → Go X rest D (f d Δ) S) (hs : swapsWithSole [tg] e pos.line X.env = pure false := by rfl) (hw : swappedStores [tg] e X.env = pure none := by rfl)
    (h1 : (assignEach [tg] X.env).map (·.2) = [assign tg X.env] := by rfl) : Go X (.Assign [tg] e pos :: rest) D Δ S :=
  go_cons (ps_asg (g := fun v σ H Q => ∃ Δ is d f G, TgS X tg is d f ∧ EnvOk X.K G σ Δ ∧ Same G H ∧ At X.K G v d ∧ ∀ σ', EnvOk X.K G σ' (f Δ) → Q σ' H) (pe_ev X e) ⟨fun pins s σ H v u Q I r ⟨_, _, _, _, G, h, a, b, c, q⟩ => h pins s σ _ G H v u Q I r a b c fun σ' e' _ => q σ' e'⟩ hs hw h1)
    fun σ G H D' l a b c => ⟨Δ, S, _, G, he, a, b, c, fun v G2 H2 g p ⟨d, z, r⟩ => ⟨Δ, is, d, f d, G2, ht d z, a.up g.gx, g.sub, r, fun σ' e' => l.nx _ _ ⟨G2, g.gx, g.sub, _, S, k d z, e', p⟩⟩⟩
theorem go_appX {q : Addr} {o : Expr} {apos cpos : Pos} (ho : Ev X o Δ (S.and (.acc X.K q ds)) (ob q)) (he : EvX X e Δ (S.and (.acc X.K q ds)) P) (hS : ¬ S.fo q) (hz : ds.length < 1000000) (k : ∀ d, P d → Go X rest D Δ (S.and (.acc X.K q (ds ++ [d]))))
    (hbase : attributeBase o "append" X.env (eval o X.env) = eval o X.env := by rfl)
    (hfew : ((backTo cpos (starEach [e] X.env)).all (fun x => !x.1) && (backToKw cpos (keywordEach [] X.env)).all (fun x => x.1.isSome) && decide ([e].length + ([] : List Keyword).length + (if ([] : List Keyword).isEmpty then 0 else 1) < 30)) = true := by rfl)
    (hline : (apos.endLine == cpos.line) = true := by rfl) (hs' : starEach [e] X.env = (false, eval e X.env) :: starEach [] X.env := by rfl) (hplain : (backTo cpos (starEach [] X.env)).any (·.1) = false := by rfl)
    (hs : swapsWith (.Call (.Attribute o "append" apos) [e] [] cpos) none pos.line X.env = pure false := by rfl) : Go X (.Expr (.Call (.Attribute o "append" apos) [e] [] cpos) pos :: rest) D Δ (S.and (.acc X.K q ds)) :=
  go_cons (ps_expr (pe_bm PySem.F.plainAttrs_list PySem.F.slot_list_append PySem.F.type_list_append mt_append (pe_ev X o) (pa_cons (pe_ev X e) pa_nil hs') hbase hfew hline hs' hplain) hs) fun σ G H D' l a b c => ⟨Δ, _, _, G, ho, a, b, c, fun v G1 H1 g1 p1 r1 => by
    rw [At.obj_eq r1]
    obtain ⟨xs, hx⟩ : ∃ xs, H1 q = some (.lst xs) := by obtain ⟨_, _, xs, h, _⟩ := p1; exact ⟨xs, h⟩
    refine ⟨.inl ⟨rfl, _, SqL.of hx⟩, Δ, _, _, G1, he, a.up g1.gx, g1.sub, p1, fun w G2 H2 g2 p2 ⟨d, z, r2⟩ => ?_⟩
    obtain ⟨pS, hG, ys, hy, hats⟩ := p2
    refine ⟨q, ys, w, rfl, rfl, hy, Nat.lt_of_lt_of_le (by rw [hats.len]; exact hz) (by decide), l.nx _ _ ⟨G2, g1.gx.trans g2.gx, (Gr.mut g2.sub hG hy).sub, Δ, _, k d z, a.up (g1.gx.trans g2.gx), S.stb hS (fun ⟨_, z⟩ => by cases z) pS hG (by rw [hy]; exact fun z => by cases z), hG, _, upd_same, hats.app (.one r2)⟩⟩⟩
/-- the list at q is known from now on, by the name in slot i -/
theorem go_frz {q : Addr} (i : Nat) (hS : ¬ S.own q) (hd : Δ[i]? = some (some (ob q))) (k : Go X sts D (Δ.set i (some (.list ds))) S) : Go X sts D Δ (S.and (.acc X.K q ds)) := by
  intro pins s σ G H I a b c
  obtain ⟨pS, hG, xs, hx, hats⟩ := c
  have sub : Same (upd G q (.lst xs)) H := fun b' u z => by
    by_cases hb : b' = q
    · subst hb; rw [upd_same] at z; cases z; exact hx
    · rw [upd_ne hb] at z; exact b b' u z
  obtain ⟨v, e1, e2⟩ := a.2 i _ hd
  rw [At.obj_eq e2] at e1
  have a2 : EnvOk X.K (upd G q (.lst xs)) σ (Δ.set i (some (.list ds))) := by
    have h := (a.up (same_upd (o := .lst xs) hG)).set (i := i) (v := .ref q) (d := .list ds) (.lst upd_same (hats.up (same_upd hG)))
    have e : σ.set i (some (V.ref q)) = σ := by
      refine List.ext_getElem? fun j => ?_
      by_cases hj : i = j
      · subst hj
        have hi : i < σ.length := (List.getElem?_eq_some_iff.mp e1).1
        rw [List.getElem?_set_self hi, e1]
      · rw [List.getElem?_set_ne hj]
    rw [e] at h
    exact h
  exact wpAny_mono (k pins s σ _ H I a2 sub (S.frz hS pS hG hx)) (fun _ _ z => SP.le (EndsG.le (same_upd hG)) z) fun _ _ z => z
end
end DL
namespace DL
open PySem PySem.Spec PyProof.Rows L2

/-! ### walks over what is told by a property -/
def ItDX (X : Cx) (tg iter : Expr) (Δ : De) (S : As) (P : List PyData → Prop) : Prop :=
  ∃ wi, PI X tg iter wi ∧ ∀ (σ : L2.St) (G H : Hp) (R : It → Hp → Prop), EnvOk X.K G σ Δ → Same G H → S.p G H → (∀ ds J G1 H1, P ds → Gr G H G1 H1 → S.p G1 H1 → Walk X.K J G1 ds → R J H1) → wi σ H R
inductive All2 {α β : Type} (R : α → β → Prop) : List α → List β → Prop
  | nil : All2 R [] []
  | cons {a : α} {b : β} {as : List α} {bs : List β} (h : R a b) (t : All2 R as bs) : All2 R (a :: as) (b :: bs)
section
variable {α β : Type} {R : α → β → Prop}
theorem All2.len {as : List α} {bs : List β} (h : All2 R as bs) : as.length = bs.length := by induction h with | nil => rfl | cons _ _ ih => simp [ih]
theorem All2.app {as cs : List α} {bs ds : List β} (h : All2 R as bs) (k : All2 R cs ds) : All2 R (as ++ cs) (bs ++ ds) := by induction h with | nil => exact k | cons h1 _ ih => exact .cons h1 ih
theorem All2.imp {R' : α → β → Prop} {as : List α} {bs : List β} (h : All2 R as bs) (k : ∀ a b, R a b → R' a b) : All2 R' as bs := by induction h with | nil => exact .nil | cons h1 _ ih => exact .cons (k _ _ h1) ih
theorem All2.right {P : β → Prop} {as : List α} {bs : List β} (h : All2 R as bs) (k : ∀ a b, R a b → P b) : ∀ b ∈ bs, P b := by
  induction h with
  | nil => intro b hb; cases hb
  | cons h1 _ ih =>
    intro b hb
    rcases List.mem_cons.mp hb with rfl | hb
    · exact k _ _ h1
    · exact ih b hb
/-- from a property of each item: their codes -/
theorem coded {γ : Type} {enc : γ → β} {P : γ → Prop} : ∀ {bs : List β}, (∀ b ∈ bs, ∃ c, b = enc c ∧ P c) → ∃ cs : List γ, bs = cs.map enc ∧ ∀ c ∈ cs, P c
  | [], _ => ⟨[], rfl, fun c h => by cases h⟩
  | b :: bs, h => by
    obtain ⟨c, rfl, hc⟩ := h b List.mem_cons_self
    obtain ⟨cs, rfl, hcs⟩ := coded (bs := bs) fun b hb => h b (List.mem_cons_of_mem _ hb)
    exact ⟨c :: cs, rfl, fun x hx => (List.mem_cons.mp hx).elim (fun e => e ▸ hc) (hcs x)⟩
end
section
variable {X : Cx} {scope : Scope} {e elt tg iter : Expr} {ifs : List Expr} {Δ : De} {S : As} {R : RR} {ds : List PyData} {pos p : Pos} {P : PyData → Prop}
theorem ItD.x {PL : List PyData → Prop} (h : ItD X tg iter Δ S ds) (k : PL ds) : ItDX X tg iter Δ S PL := by
  obtain ⟨wi, h1, h2⟩ := h
  exact ⟨wi, h1, fun σ G H R a b c q => h2 σ G H R a b c fun J G1 H1 g p w => q ds J G1 H1 k g p w⟩
theorem itx_range1 {PN : Nat → Prop} (hg : Gl X "range") (hm : X.mg "range" = none) (h : EvX X e Δ S fun d => ∃ n : Nat, d = .int (n : Int) ∧ n < 2 ^ 62 ∧ PN n) (hs' : starEach [e] X.env = (false, eval e X.env) :: starEach [] X.env := by rfl) (hs : starEach [e] X.env = [(false, eval e X.env)] := by rfl) :
    ItDX X tg (.Call (.Name "range" p) [e] [] pos) Δ S fun ds => ∃ n : Nat, PN n ∧ ds = (List.range n).map fun k : Nat => .int (k : Int) :=
  ⟨_, pi_range1 hg hm (pa_cons (pe_ev X e) pa_nil hs') hs, fun σ G H R a b c q => ⟨Δ, S, _, G, h, a, b, c, fun v G1 H1 g p ⟨d, ⟨n, hd, hn, hN⟩, r⟩ => by
    subst hd
    cases r
    refine ⟨n, rfl, by omega, by omega, q _ _ G1 H1 ⟨n, hN, ?_⟩ g p (walk_range 0 _)⟩
    rw [Int.toNat_natCast]
    exact List.map_congr_left fun k _ => by rw [Int.zero_add]⟩⟩
/-- [elt for tg in iter], told by properties -/
theorem lclX {α : Type} {enc : α → PyData} {own : List (Str × Nat)} {is : List Nat} {PX : List α → Prop} (Pe : α → PyData → Prop) (F : α → De → De) (hi : ItDX X tg iter Δ S fun ds => ∃ xs, PX xs ∧ ds = xs.map enc) (ok : BlkOk X.N X.env.scope scope own)
    (hz : ∀ xs, PX xs → xs.length ≤ 1000000) (his : ∀ i ∈ is, i ∈ own.map (·.2))
    (htg : ∀ xs, PX xs → ∀ x ∈ xs, AllB X scope fun Y => TgS Y tg is (enc x) (F x))
    (he : ∀ xs, PX xs → ∀ D es, ¬ S.own D → ∀ x ∈ xs, AllB X scope fun Y => EvX Y elt (F x (wipeD Δ (own.map (·.2)))) (S.and (.acc X.K D es)) (Pe x)) :
    LcR X elt tg iter [] own scope Δ S (rXl X.K (fun ds => ∃ xs, PX xs ∧ All2 Pe xs ds)) := by
  obtain ⟨wi, w1, w2⟩ := hi
  refine ⟨wi, w1, ok, fun σ G H Q ha hb hcS q => ?_⟩
  refine w2 σ G H _ ha hb hcS fun ds J G1 H1 hds g1 p1 W D hD => ?_
  obtain ⟨xs, hX, rfl⟩ := hds
  have hO : ¬ S.own D := not_own p1 hD
  have hG1 : G1 D = none := g1.sub.free hD
  refine ⟨fun i m H' => m = xs.length - i ∧ i ≤ xs.length ∧ ∃ G' es, Gr G H G' H' ∧ Same G1 G' ∧ All2 Pe (xs.take i) es ∧ (S.and (.acc X.K D es)).p G' H', ⟨xs.length, by simp, Nat.zero_le _, G1, [], ?_⟩, ?_⟩
  · obtain ⟨g2, p2⟩ := layH (S := S) (o := .lst []) g1 p1 hD
    exact ⟨g2, Same.refl _, .nil, p2, hG1, [], upd_same, .nil⟩
  rintro i m H' ⟨rfl, hle, G', es, g2, s1, hA, p2⟩
  have pS : S.p G' H' := p2.1
  by_cases hlt : i < xs.length
  · obtain ⟨x, hx⟩ : ∃ x, xs[i]? = some x := ⟨xs[i], List.getElem?_eq_getElem hlt⟩
    have hmem : x ∈ xs := List.mem_of_getElem? hx
    have hxd : (xs.map enc)[i]? = some (enc x) := by rw [List.getElem?_map, hx]; rfl
    obtain ⟨j1, j2⟩ := W.go i (enc x) G' H' s1 g2.sub hxd
    refine .inr ⟨j1, fun H'' => i + 1 ≤ xs.length ∧ ∃ G' es, Gr G H G' H'' ∧ Same G1 G' ∧ All2 Pe (xs.take (i + 1)) es ∧ (S.and (.acc X.K D es)).p G' H'', fun H'' ⟨h1, h2⟩ => ⟨xs.length - (i + 1), by omega, rfl, h1, h2⟩, fun v H'' y => ?_⟩
    obtain ⟨G3, g3, s3, a3⟩ := j2 v H'' y
    have p3 : (S.and (.acc X.K D es)).p G3 H'' := As.cl _ g3 s3 p2
    refine ⟨wipeD Δ (own.map (·.2)), is, enc x, F x, G3, htg xs hX x hmem, (ha.up (g2.gx.trans g3.gx)).wipe _, g3.sub, a3, fun σ' e' w' => ⟨?_, ?_⟩⟩
    · rw [w' _ his, wipe_wipe]
    refine ⟨_, _, true, G3, fun _ _ _ _ _ => evts_nil, e', g3.sub, p3, fun G4 H4 g4 p4 => ?_⟩
    refine iteT ⟨_, _, rX X.K (Pe x), G4, (fun s H C cl fp => he xs hX D _ hO x hmem s H C cl fp), e'.up g4.gx, g4.sub, p4, fun u G5 H5 g5 p5 ⟨d5, z5, r5⟩ => ?_⟩
    obtain ⟨pS5, hG5, acc, hacc, hats⟩ := p5
    have hlen : acc.length ≤ i := by
      rw [hats.len, ← hA.len, List.length_take]; omega
    refine ⟨acc, hacc, Nat.lt_of_le_of_lt hlen (Nat.lt_of_lt_of_le hlt (Nat.le_trans (hz xs hX) (by decide))), hlt, G5, es ++ [d5], ?_, ((s1.trans g3.gx).trans g4.gx).trans g5.gx, ?_, S.stb (As.nf hO) (fun ⟨_, z⟩ => by cases z) pS5 hG5 (by rw [hacc]; exact fun z => by cases z), hG5, _, upd_same, ?_⟩
    · exact (((g2.trans g3).trans g4).trans g5).trans (.mut g5.sub hG5 hacc)
    · rw [take_some hx]; exact hA.app (.cons z5 .nil)
    · exact hats.app (.one r5)
  · have e : i = xs.length := by omega
    subst e
    have h2 := W.stop G' H' s1 g2.sub
    rw [List.length_map] at h2
    refine .inl ⟨h2, ?_⟩
    rw [List.take_length] at hA
    obtain ⟨pS2, hG2, acc, hacc, hats⟩ := p2
    exact q _ G' H' g2 pS2 ⟨es, ⟨xs, hX, hA⟩, D, acc, rfl, none_back g1 hD, hG2, hacc, hats⟩
theorem evl_lcX {α : Type} {enc : α → PyData} {own : List (Str × Nat)} {is : List Nat} {PX : List α → Prop} (Pe : α → PyData → Prop) (F : α → De → De) (hi : ItDX X tg iter Δ S fun ds => ∃ xs, PX xs ∧ ds = xs.map enc) (hc : X.calm = true) (hN : X.N.Nodup) (ok : BlkOk X.N X.env.scope scope own)
    (hz : ∀ xs, PX xs → xs.length ≤ 1000000) (his : ∀ i ∈ is, i ∈ own.map (·.2))
    (htg : ∀ xs, PX xs → ∀ x ∈ xs, AllB X scope fun Y => TgS Y tg is (enc x) (F x))
    (he : ∀ xs, PX xs → ∀ D es, ¬ S.own D → ∀ x ∈ xs, AllB X scope fun Y => EvX Y elt (F x (wipeD Δ (own.map (·.2)))) (S.and (.acc X.K D es)) (Pe x))
    (hs : ∀ x, foldedSetIterable iter X.env x = pure x := by intro _; rfl) :
    EvXl X (.ListComp elt [⟨tg, iter, [], 0⟩] scope pos) Δ S (fun ds => ∃ xs, PX xs ∧ All2 Pe xs ds) := ev_lcR (lclX Pe F hi ok hz his htg he) hc hN hs
theorem go_forX {α : Type} {enc : α → PyData} {is : List Nat} {body rest : List Stmt} {D : EndsG} {PX : List α → Prop} (F : α → De → De) (hi : ItDX X tg iter Δ S fun ds => ∃ xs, PX xs ∧ ds = xs.map enc) (htg : ∀ xs, PX xs → ∀ x ∈ xs, TgS X tg is (enc x) (F x)) (hc : X.calm = true) (hp : PassesOwn (model X.prog X.w) X.A X.env X.xe)
    (I : List α → Nat → De → As → Prop) (h0 : ∀ xs, PX xs → I xs 0 Δ S) (hb : ∀ xs, PX xs → ∀ (i : Nat) (x : α) (Δ' : De) (S' : As), xs[i]? = some x → I xs i Δ' S' → Go X body (D.loop X rest (I xs (i + 1))) (F x Δ') S')
    (hd : ∀ xs, PX xs → ∀ (Δ' : De) (S' : As), I xs xs.length Δ' S' → Go X rest D Δ' S') (hs : ∀ x, foldedSetIterable iter X.env x = pure x := by intro _; rfl) : Go X (.For tg iter body [] pos :: rest) D Δ S := by
  obtain ⟨wi, w1, w2⟩ := hi
  refine go_cons (ps_for (g := fun v σ H Q => ∃ Δ is d f G, TgS X tg is d f ∧ EnvOk X.K G σ Δ ∧ Same G H ∧ At X.K G v d ∧ ∀ σ', EnvOk X.K G σ' (f Δ) → Q σ' H) hp hc w1 ⟨fun pins s σ H v u Q I r ⟨_, _, _, _, G, h, a, b, c, q⟩ => h pins s σ _ G H v u Q I r a b c fun σ' e' _ => q σ' e'⟩ (pss_go X body) hs) fun σ G H D' l ha hb' hcS => ?_
  refine w2 σ G H _ ha hb' hcS fun ds J G1 H1 hds g1 p1 W => ?_
  obtain ⟨xs, hX, rfl⟩ := hds
  refine ⟨fun i m σ H' => m = xs.length - i ∧ i ≤ xs.length ∧ ∃ G' Δ' S', Same G1 G' ∧ Same G' H' ∧ I xs i Δ' S' ∧ EnvOk X.K G' σ Δ' ∧ S'.p G' H', ⟨xs.length, by simp, Nat.zero_le _, G1, Δ, S, Same.refl _, g1.sub, h0 xs hX, ha.up g1.gx, p1⟩, ?_⟩
  rintro i m σ' H' ⟨rfl, hle, G', Δ', S', s1, s2, hI, hE, hS⟩
  by_cases hlt : i < xs.length
  · obtain ⟨x, hx⟩ : ∃ x, xs[i]? = some x := ⟨xs[i], List.getElem?_eq_getElem hlt⟩
    have hmem : x ∈ xs := List.mem_of_getElem? hx
    have hxd : (xs.map enc)[i]? = some (enc x) := by rw [List.getElem?_map, hx]; rfl
    obtain ⟨j1, j2⟩ := W.go i (enc x) G' H' s1 s2 hxd
    refine .inr ⟨j1, fun σ'' H'' => ∃ G2, Same G1 G2 ∧ Same G2 H'' ∧ ∃ Δ'' S'', I xs (i + 1) Δ'' S'' ∧ EnvOk X.K G2 σ'' Δ'' ∧ S''.p G2 H'', fun σ'' H'' ⟨G2, t1, t2, Δ'', S'', t3, t4, t5⟩ => ⟨xs.length - (i + 1), by omega, rfl, hlt, G2, Δ'', S'', t1, t2, t3, t4, t5⟩, fun v H'' y => ?_⟩
    obtain ⟨G3, g3, s3, a3⟩ := j2 v H'' y
    refine ⟨Δ', is, enc x, F x, G3, htg xs hX x hmem, hE.up g3.gx, g3.sub, a3, fun σ3 e3 => ⟨_, _, S', G3, hb xs hX i x Δ' S' hx hI, ⟨?_, ?_, ?_, ?_⟩, e3, g3.sub, S'.cl g3 s3 hS⟩⟩
    · rintro σ4 H4 ⟨G4, t1, t2, t3⟩; exact ⟨G4, (s1.trans g3.gx).trans t1, t2, t3⟩
    · rintro σ4 H4 ⟨G4, t1, t2, t3⟩; exact l.rt _ _ ⟨G4, ((g1.gx.trans s1).trans g3.gx).trans t1, t2, t3⟩
    · rintro σ4 H4 ⟨G4, t1, t2, t3⟩; exact l.nx _ _ ⟨G4, ((g1.gx.trans s1).trans g3.gx).trans t1, t2, t3⟩
    · rintro σ4 H4 ⟨G4, t1, t2, t3⟩; exact ⟨G4, (s1.trans g3.gx).trans t1, t2, t3⟩
  · have e : i = xs.length := by omega
    subst e
    have h2 := W.stop G' H' s1 s2
    rw [List.length_map] at h2
    exact .inl ⟨h2, l.nx _ _ ⟨G', g1.gx.trans s1, s2, Δ', S', hd xs hX Δ' S' hI, hE, hS⟩⟩
end

/-! ### assertions with an unknown -/
def As.ex {ι : Type} (T : ι → As) (f o : Addr → Prop) (hf : ∀ i, (T i).fo = f) (ho : ∀ i, (T i).own = o) (fo : ∀ a, f a → o a) : As where
  p := fun G H => ∃ i, (T i).p G H
  fo := f
  own := o
  fo_own := fun h => fo _ h
  fr := fun r e ⟨i, h⟩ => ⟨i, (T i).fr r (by rw [hf i]; exact e) h⟩
  dom := fun ⟨i, h⟩ k => (T i).dom h (by rw [ho i]; exact k)
  stb := fun n t ⟨i, h⟩ g k => ⟨i, (T i).stb (by rw [hf i]; exact n) t h g k⟩
  frz := fun n ⟨i, h⟩ g k => ⟨i, (T i).frz (by rw [ho i]; exact n) h g k⟩
section
variable {X : Cx} {e elt tg iter : Expr} {ifs : List Expr} {Δ : De} {S T : As} {R : RR} {ds : List PyData} {d : PyData} {pos p : Pos} {sts rest : List Stmt} {D : EndsG}
theorem go_ex {ι : Type} {T : ι → As} {f o : Addr → Prop} {hf : ∀ i, (T i).fo = f} {ho : ∀ i, (T i).own = o} {fo : ∀ a, f a → o a} (h : ∀ i, Go X sts D Δ (S.and (T i))) : Go X sts D Δ (S.and (.ex T f o hf ho fo)) :=
  fun pins s σ G H I a b ⟨c, i, k⟩ => h i pins s σ G H I a b ⟨c, k⟩
theorem as_ex {ι : Type} {T : ι → As} {f o : Addr → Prop} {hf : ∀ i, (T i).fo = f} {ho : ∀ i, (T i).own = o} {fo : ∀ a, f a → o a} (i : ι) : (T i).le (.ex T f o hf ho fo) := fun G H h => ⟨i, h⟩
theorem as_mono {S S' T T' : As} (a : S.le S') (b : T.le T') : (S.and T).le (S'.and T') := fun G H h => ⟨a G H h.1, b G H h.2⟩
/-- S is T and what T's changes don't touch -/
def Has (S T : As) : Prop := ∃ S' : As, S.le (S'.and T) ∧ (S'.and T).le S ∧ ∀ a, S'.fo a → ¬ T.fo a
theorem has_here (h : ∀ a, S.fo a → ¬ T.fo a) : Has (S.and T) T := ⟨S, as_refl, as_refl, h⟩
theorem Has.and {U : As} (h : Has S T) (k : ∀ a, U.fo a → ¬ T.fo a) : Has (S.and U) T := by
  obtain ⟨S', h1, h2, h3⟩ := h
  exact ⟨S'.and U, fun G H z => ⟨⟨(h1 _ _ z.1).1, z.2⟩, (h1 _ _ z.1).2⟩, fun G H z => ⟨h2 _ _ ⟨z.1.1, z.2⟩, z.1.2⟩, fun a z => z.elim (h3 a) (k a)⟩
theorem Has.le (h : Has S T) : S.le T := by
  obtain ⟨S', h1, _⟩ := h
  exact fun G H z => (h1 _ _ z).2
theorem EvR.as {S' : As} (h : EvR X e Δ S' R) (a : S.le S') (b : S'.le S) : EvR X e Δ S R :=
  fun pins s σ G H Q I e1 e2 e3 q => h pins s σ G H Q I e1 e2 (a _ _ e3) fun v G2 H2 g p r => q v G2 H2 g (b _ _ p) r

/-! ### promises of defs that change what they are handed -/
/-- T: what they ask of what may change; R tells of it behind -/
def spM (K : PySem.W.Frag) (Pr : Hp → List PyData → As → RR → Prop) : Sp := fun vs H Q _ => ∃ G ds T R, Same G H ∧ Ats K G vs ds ∧ T.p G H ∧ Pr G ds T R ∧ ∀ v G2 H2, Gr G H G2 H2 → (∀ a o, ¬ T.fo a → H a = some o → H2 a = some o) → R G H v G2 H2 → Q v H2
def rAnd (T : As) (R : RR) : RR := fun G H v G2 H2 => T.p G2 H2 ∧ R G H v G2 H2
theorem evx_cM {x : Str} {k j : Nat} {es : List Expr} {Pr : Hp → List PyData → As → RR → Prop} {PL : List PyData → Prop} (c : C8.Cal X.prog X.w X.K X.mg X.base k x (spM X.K Pr) []) (hr : Room j X.A) (hg : Gl X x) (ha : EvAX X (e :: es) Δ S PL) (hT : Has S T) (hP : ∀ G H ds, PL ds → S.p G H → Pr G ds T (rAnd T R))
    (hR : Back R := by first | exact back_x | exact back_xl | exact back_at | exact back_nl) (hk : k ≤ j := by decide)
    (hdb : (x == ("__debug__" : Str)) = false := by decide) (he : starEach (e :: es) X.env = (false, eval e X.env) :: starEach es X.env := by rfl) (hpl : (backTo pos (starEach es X.env)).any (·.1) = false := by rfl) :
    EvR X (.Call (.Name x p) (e :: es) [] pos) Δ S R := by
  obtain ⟨S', h1, h2, h3⟩ := hT
  exact ev_pe (C8.pe_c c hr hk hg (pa_evx X _) hdb he hpl) fun σ G H Q a b c q => ⟨Δ, S, PL, G, ha, a, b, c, fun vs ds G1 H1 z g p r1 => by
    show spM X.K Pr (vs ++ []) H1 Q _
    rw [List.append_nil]
    exact ⟨G1, ds, T, _, g.sub, r1, (h1 _ _ p).2, hP G1 H1 ds z p, fun v G2 H2 g2 s2 ⟨t2, r2⟩ => q v G2 H2 (g.trans g2) (h2 _ _ ⟨S'.fr g2 (fun a o n k => s2 a o (h3 a n) k) (h1 _ _ p).1, t2⟩) (hR _ _ _ _ _ _ _ g r2)⟩⟩
/-- name = f(..), what may change is another then -/
theorem go_setM {x y : Str} {k j : Nat} {es : List Expr} {Pr : Hp → List PyData → As → RR → Prop} (i : Nat) {p' p2 p3 : Pos} (c : C8.Cal X.prog X.w X.K X.mg X.base k x (spM X.K Pr) []) (hr : Room j X.A) (hg : Gl X x) (ha : EvA X (e :: es) Δ (S.and T) ds) (hT : ∀ a, S.fo a → ¬ T.fo a) (hP : ∀ G H, (S.and T).p G H → Pr G ds T R) (hN : X.N.Nodup)
    (kk : ∀ G H v G2 H2, S.p G2 H2 → R G H v G2 H2 → ∃ d S', At X.K G2 v d ∧ S'.p G2 H2 ∧ Go X rest D (Δ.set i (some d)) S') (hk : k ≤ j := by decide)
    (hdb : (x == ("__debug__" : Str)) = false := by decide) (he : starEach (e :: es) X.env = (false, eval e X.env) :: starEach es X.env := by rfl) (hpl : (backTo p2 (starEach es X.env)).any (·.1) = false := by rfl)
    (hi : X.N[i]? = some y := by rfl) (hx : Loc X.env.scope y := by first | exact Or.inl rfl | exact Or.inr rfl)
    (hs : swapsWith (.Call (.Name x p3) (e :: es) [] p2) (some (.Name y p')) pos.line X.env = pure false := by rfl) (hf : X.fn y = true ∨ X.env.scope.names.lookup y = some .local := by first | exact .inl rfl | exact .inr rfl | assumption) :
    Go X (.Assign [.Name y p'] (.Call (.Name x p3) (e :: es) [] p2) pos :: rest) D Δ (S.and T) :=
  go_cons (ps_set hN hi hx (C8.pe_c c hr hk hg (pa_ev X _) hdb he hpl) hs hf) fun σ G H D' l a b c => ⟨Δ, _, ds, G, ha, a, b, c, fun vs G1 H1 g p r1 => by
    show spM X.K Pr (vs ++ []) H1 _ _
    rw [List.append_nil]
    refine ⟨G1, ds, T, R, g.sub, r1, p.2, hP G1 H1 p, fun v G2 H2 g2 s2 r2 => ?_⟩
    obtain ⟨d, S', e1, e2, e3⟩ := kk _ _ _ _ _ (S.fr g2 (fun a o n k => s2 a o (hT a n) k) p.1) r2
    exact l.nx _ _ ⟨G2, g.gx.trans g2.gx, g2.sub, _, S', e3, (a.up (g.gx.trans g2.gx)).set e1, e2⟩⟩
/-- what a def hands back -/
def retM (G H : Hp) (o : Addr → Prop) (R : RR) : EndsG where
  nx := fun _ G2 H2 => ∃ G3, (As.extx G H o).p G3 H2 ∧ R G H .non G3 H2
  rt := fun v G2 H2 => ∃ G3, (As.extx G H o).p G3 H2 ∧ R G H v G3 H2
end
section
variable {P : Program} {w : World} {K : PySem.W.Frag} {mg : Str → Option Value} {base : Heap}
theorem fun_goM {x qual : Str} {st : Stmt} {f : Addr} {fd : FuncData} {N ps : List Str} {k : Nat} {Pr : Hp → List PyData → As → RR → Prop} (F : Fun K x qual st f fd) (S : FnScope N ps (defScope st)) (len : ∀ G ds T R, Pr G ds T R → ds.length = ps.length)
    (hbody : ∀ (cdv : Value) (A : Around) (outer : List Env) (s : Shared) (H0 : Hp) (E : XK) (G H : Hp) (ds : List PyData) (T : As) (R : RR), Room k (A.deeper (envOfC qual (defScope st) s.heap.objs.size f cdv)) → Pr G ds T R →
      Go (cxOf CX0 P w K mg base N qual (defScope st) f cdv A outer s H0 E).nox (defBody st) (retM G H T.fo R) (De.start N ds) (((As.extx G H T.fo).and (.fact (Same G) fun _ _ e h => h.trans e)).and T)) : FnOk P w K mg base CX0 (k + 1) f fd ps (spM K Pr) := by
  refine F.ok S (fun vs H Q E h => ?_) (fun cdv A outer s H vs Q E hr h => ?_)
  · obtain ⟨G, ds, T, R, _, h2, _, h3, _⟩ := h
    rw [h2.len]
    exact len G ds T R h3
  · obtain ⟨G, ds, T, R, h1, h2, hT, h3, k1⟩ := h
    refine ⟨_, pss_go _ _, _, _, _, G, hbody cdv A outer s H E G H ds T R hr h3, ⟨?_, ?_, ?_, ?_⟩, env_start h2, h1, ⟨⟨⟨.refl h1, fun _ _ _ z => z⟩, Same.refl _⟩, hT⟩⟩
    · rintro σ H2 ⟨G2, _, _, G3, ⟨a, b⟩, r⟩; exact k1 _ G3 H2 a b r
    · rintro v H2 ⟨G2, _, _, G3, ⟨a, b⟩, r⟩; exact k1 _ G3 H2 a b r
    · rintro σ H2 ⟨_, _, _, h⟩; exact h.elim
    · rintro σ H2 ⟨_, _, _, h⟩; exact h.elim
end
section
variable {X : Cx} {e o i : Expr} {Δ : De} {S T : As} {R R' : RR} {ds : List PyData} {d d1 : PyData} {pos p apos cpos : Pos} {sts rest : List Stmt} {D : EndsG} {G H : Hp} {q : Addr} {P P' : PyData → Prop}
/-- return e, of a def that changes what o says -/
theorem go_retM {f : Addr → Prop} (he : EvR X e Δ S R') (hS : S.le (.extx G H f)) (k : ∀ v G1 H1 G2 H2, Gr G H G1 H1 → S.p G2 H2 → R' G1 H1 v G2 H2 → R G H v G2 H2) (hD : D.rt = (retM G H f R).rt := by rfl) : Go X (.Return (some e) pos :: rest) D Δ S :=
  go_ret he fun G1 H1 v G2 H2 b c g p r => ⟨G2, g.gx, g.sub, by rw [hD]; exact ⟨G2, hS _ _ p, k v G1 H1 G2 H2 (hS _ _ c).1 p r⟩⟩

/-! ### lists that change -/
theorem get_list (X : Cx) : PGet X (rIxL X.K) := by
  intro pins s σ H x y v u Q I rx ry h
  obtain ⟨p, xs, i, z, rfl, rfl, hq, he, q⟩ := h
  cases rx
  obtain ⟨t, rfl⟩ := ry
  obtain ⟨its, r, pl, hz⟩ := I.list hq
  obtain ⟨j, h1, h2, h3, h4, h5⟩ := atI_get he
  obtain ⟨w, ew, rw'⟩ := r.get h2
  have hl := r.length
  have hn := line63
  have fin : EP X pins σ Q w s := ⟨z, H, I, rw', q⟩
  by_cases h0 : 0 ≤ i
  · have hj : i.toNat = j := by
      rw [seqIndex_of h0 h5] at h1; exact Option.some.inj h1
    exact wpAny_mono (wpAny_getItem_list (Q := fun r s' => r = w ∧ EP X pins σ Q r s') pl.isList h0 (by omega) (by rw [hj]; simpa using ew) ⟨rfl, fin⟩) (fun _ _ z => z.2) fun _ _ z => z
  · have hj : (i + (its.toArray.size : Int)).toNat = j := by
      rw [seqIndex_neg (by omega) h4] at h1; rw [List.size_toArray, ← hl]; exact Option.some.inj h1
    exact wpAny_mono (wpAny_getItem_list_neg (Q := fun r s' => r = w ∧ EP X pins σ Q r s') pl.isList (by omega) (by rw [List.size_toArray] <;> omega) (by omega) (by rw [hj]; simpa using ew) ⟨rfl, fin⟩) (fun _ _ z => z.2) fun _ _ z => z
theorem acc_set {H' : Hp} (hS : ¬ S.fo q) {xs : List V} (pS : S.p G H) (hG : G q = none) (hH : H q = some (.lst xs)) {ys : List V} {es : List PyData} (h : Ats X.K G ys es) : (S.and (.acc X.K q es)).p G (upd H q (.lst ys)) :=
  ⟨S.stb hS (fun ⟨_, z⟩ => by cases z) pS hG (by rw [hH]; exact fun z => by cases z), hG, _, upd_same, h⟩
/-- q[k] = e -/
theorem go_setIx {k : Int} {n : Nat} (ho : Ev X o Δ (S.and (.acc X.K q ds)) (ob q)) (hi : Ev X i Δ (S.and (.acc X.K q ds)) (.int k)) (he : EvX X e Δ (S.and (.acc X.K q ds)) P) (hS : ¬ S.fo q) (hn : ixN ds.length k = some n) (kk : ∀ d, P d → Go X rest D Δ (S.and (.acc X.K q (ds.set n d))))
    (ha : ∀ v, assign (.Subscript o i p) X.env v = (do
      let ov ← holding [v] (eval o X.env)
      let iv ← holding [v, ov] (eval i X.env)
      standAt p
      holding [v, ov, iv] (setItem ov iv v)
      release [v, ov, iv] []) := by intro _; rfl)
    (hs : swapsWithSole [.Subscript o i p] e pos.line X.env = pure false := by rfl) (hw : swappedStores [.Subscript o i p] e X.env = pure none := by rfl)
    (h1 : (assignEach [.Subscript o i p] X.env).map (·.2) = [assign (.Subscript o i p) X.env] := by rfl) : Go X (.Assign [.Subscript o i p] e pos :: rest) D Δ (S.and (.acc X.K q ds)) :=
  go_cons (ps_asg (pe_ev X e) (pg_sub (pe_ev X o) (pe_ev X i) set_list ha) hs hw h1) fun σ G H D' l a b c => ⟨Δ, _, _, G, he, a, b, c, fun v G1 H1 g1 p1 ⟨d, z, r1⟩ => ⟨Δ, _, _, G1, ho, a.up g1.gx, g1.sub, p1, fun x G2 H2 g2 p2 r2 => ⟨Δ, _, _, G2, hi, (a.up g1.gx).up g2.gx, g2.sub, p2, fun y G3 H3 g3 p3 r3 => by
    obtain ⟨pS, hG, ys, hy, hats⟩ := p3
    cases r3
    refine ⟨q, ys, k, n, At.obj_eq r2, rfl, hy, by rw [hats.len]; exact hn, l.nx _ _ ⟨G3, (g1.gx.trans g2.gx).trans g3.gx, (Gr.mut g3.sub hG hy).sub, Δ, _, kk d z, ((a.up g1.gx).up g2.gx).up g3.gx, acc_set (H' := H3) hS pS hG hy (hats.set (r1.up (g2.gx.trans g3.gx)) n)⟩⟩⟩⟩⟩
/-- q[k] op= e, of ints -/
theorem go_augIx {k j : Int} {n : Nat} {op : Operator} {f : Int → Int → Int} {m : Int} (hp : PIp X op (ipI f)) (ho : Ev X o Δ (S.and (.acc X.K q ds)) (ob q)) (hi : Ev X i Δ (S.and (.acc X.K q ds)) (.int k)) (he : Ev X e Δ (S.and (.acc X.K q ds)) (.int j)) (hS : ¬ S.fo q) (hn : ixN ds.length k = some n) (hm : ds[n]? = some (.int m))
    (kk : Go X rest D Δ (S.and (.acc X.K q (ds.set n (.int (f m j))))))
    (ha : ∀ ov iv new, augStore i ov iv new = (do holding [new, ov, iv] (setItem ov iv new); release [new, ov, iv] []; pure .next) := by intros; rfl) : Go X (.AugAssign (.Subscript o i p) op e pos :: rest) D Δ (S.and (.acc X.K q ds)) :=
  go_cons (ps_augS (pe_ev X o) (pe_ev X i) (get_list X) (pe_ev X e) hp set_list ha) fun σ G H D' l a b c => ⟨Δ, _, _, G, ho, a, b, c, fun x G1 H1 g1 p1 r1 => ⟨Δ, _, _, G1, hi, a.up g1.gx, g1.sub, p1, fun y G2 H2 g2 p2 r2 => by
    obtain ⟨pS, hG, ys, hy, hats⟩ := id p2
    rw [At.obj_eq r1]
    cases r2
    have eI : atI ds k = some (.int m) := by unfold L2.atI; rw [hn]; exact hm
    obtain ⟨v, f1, f2⟩ := hats.atI eI
    cases f2
    refine ⟨q, ys, k, _, rfl, rfl, SqL.of hy, f1, Δ, _, _, G2, he, (a.up g1.gx).up g2.gx, g2.sub, p2, fun w G3 H3 g3 p3 r3 => ?_⟩
    cases r3
    obtain ⟨pS, hG, ys, hy, hats⟩ := p3
    refine ⟨m, j, rfl, rfl, q, ys, k, n, rfl, rfl, hy, by rw [hats.len]; exact hn, l.nx _ _ ⟨G3, (g1.gx.trans g2.gx).trans g3.gx, (Gr.mut g3.sub hG hy).sub, Δ, _, kk, ((a.up g1.gx).up g2.gx).up g3.gx, acc_set (H' := H3) hS pS hG hy (hats.set (.int _) n)⟩⟩⟩⟩
/-- q.insert(n, e) -/
theorem go_insert (hi : EvX X i Δ (S.and (.acc X.K q ds)) P) (hP : ∀ d, P d → ∃ n : Nat, d = .int (n : Int) ∧ n ≤ 1000000) (ho : Ev X o Δ (S.and (.acc X.K q ds)) (ob q)) (he : EvX X e Δ (S.and (.acc X.K q ds)) P') (hS : ¬ S.fo q) (hz : ds.length < 1000000) (k : ∀ (n : Nat) d, P (.int (n : Int)) → P' d → Go X rest D Δ (S.and (.acc X.K q (ds.take n ++ [d] ++ ds.drop n))))
    (hbase : attributeBase o "insert" X.env (eval o X.env) = eval o X.env := by rfl)
    (hfew : ((backTo cpos (starEach [i, e] X.env)).all (fun x => !x.1) && (backToKw cpos (keywordEach [] X.env)).all (fun x => x.1.isSome) && decide ([i, e].length + ([] : List Keyword).length + (if ([] : List Keyword).isEmpty then 0 else 1) < 30)) = true := by rfl)
    (hline : (apos.endLine == cpos.line) = true := by rfl) (hs' : starEach [i, e] X.env = (false, eval i X.env) :: starEach [e] X.env := by rfl) (hs2 : starEach [e] X.env = (false, eval e X.env) :: starEach [] X.env := by rfl) (hplain : (backTo cpos (starEach [e] X.env)).any (·.1) = false := by rfl)
    (hs : swapsWith (.Call (.Attribute o "insert" apos) [i, e] [] cpos) none pos.line X.env = pure false := by rfl) : Go X (.Expr (.Call (.Attribute o "insert" apos) [i, e] [] cpos) pos :: rest) D Δ (S.and (.acc X.K q ds)) :=
  go_cons (ps_expr (pe_bm PySem.F.plainAttrs_list PySem.F.slot_list_insert PySem.F.type_list_insert mt_insert (pe_ev X o) (pa_cons (pe_ev X i) (pa_cons (pe_ev X e) pa_nil hs2) hs') hbase hfew hline hs' hplain) hs) fun σ G H D' l a b c => ⟨Δ, _, _, G, ho, a, b, c, fun v G1 H1 g1 p1 r1 => by
    rw [At.obj_eq r1]
    obtain ⟨xs, hx⟩ : ∃ xs, H1 q = some (.lst xs) := by obtain ⟨_, _, xs, h, _⟩ := p1; exact ⟨xs, h⟩
    refine ⟨.inl ⟨rfl, _, SqL.of hx⟩, Δ, _, _, G1, hi, a.up g1.gx, g1.sub, p1, fun y G2 H2 g2 p2 ⟨dy, zy, ry⟩ => ⟨Δ, _, _, G2, he, (a.up g1.gx).up g2.gx, g2.sub, p2, fun w G3 H3 g3 p3 ⟨d, z, r2⟩ => ?_⟩⟩
    obtain ⟨n, rfl, hn⟩ := hP dy zy
    cases ry
    obtain ⟨pS, hG, ys, hy, hats⟩ := p3
    refine ⟨q, ys, (n : Int), w, rfl, rfl, hy, Nat.lt_of_lt_of_le (by rw [hats.len]; exact hz) (by decide), Int.natCast_nonneg n, by omega, l.nx _ _ ⟨G3, (g1.gx.trans g2.gx).trans g3.gx, (Gr.mut g3.sub hG hy).sub, Δ, _, k n d zy z, ((a.up g1.gx).up g2.gx).up g3.gx, ?_⟩⟩
    rw [Int.toNat_natCast]
    exact acc_set (H' := H3) hS pS hG hy (((hats.take n).app (.one r2)).app (hats.drop n))⟩

/-! ### isinstance -/
theorem tyx_of {K : PySem.W.Frag} {v : V} (h : At K G v d) (e : Same G H) : (∀ t, (d = .none → t = "NoneType") → (∀ b, d = .bool b → t = "bool") → (∀ b, d = .int b → t = "int") → (∀ b, d = .str b → t = "str") → (∀ b, d = .list b → t = "list") → (∀ b, d = .tuple b → t = "tuple") → (∀ b, d ≠ .dict b) → TyX K H v (.type t)) := by
  intro t h1 h2 h3 h4 h5 h6 h7
  cases h with
  | non => rw [h1 rfl]; exact .base .non
  | bl b => rw [h2 _ rfl]; exact .base (.bl b)
  | int i => rw [h3 _ rfl]; exact .base (.int i)
  | str x => rw [h4 _ rfl]; exact .base (.str x)
  | lst hs ha =>
    rw [h5 _ rfl]
    exact .base (.lst (e _ _ hs))
  | tup hs ha =>
    rw [h6 _ rfl]
    exact .base (.tup (e _ _ hs))
  | obj a => exact absurd rfl (h7 _)
  | ins _ _ => exact absurd rfl (h7 _)
  | scr _ _ => exact absurd rfl (h7 _)
def tyN : PyData → Option String
  | .none => some "NoneType"
  | .bool _ => some "bool"
  | .int _ => some "int"
  | .str _ => some "str"
  | .list _ => some "list"
  | .tuple _ => some "tuple"
  | _ => none
theorem tyx {K : PySem.W.Frag} {v : V} {t : String} (h : At K G v d) (e : Same G H) (ht : tyN d = some t) : TyX K H v (.type t) := by
  refine tyx_of h e t ?_ ?_ ?_ ?_ ?_ ?_ ?_
  all_goals (try rintro b rfl)
  all_goals (try rintro rfl)
  all_goals (first | (cases ht; rfl) | cases ht)
/-- isinstance(e, T), T a built-in type -/
theorem ev_isi {x T : Str} {t tn : String} {r : Bool} {p1 p2 : Pos} (hx : x = "isinstance") (hg : Gl X x) (hm : X.mg x = none) (hgT : Gl X T) (hmT : X.mg T = none) (hvT : bootBuiltins T = some (.type tn)) (he : Ev X e Δ S d) (ht : tyN d = some t) (hk : kitB t tn = some r) (hnT : T ≠ "__name__" := by decide) (hdT : (T == ("__debug__" : Str)) = false := by decide)
    (hs1 : starEach [e, .Name T p1] X.env = (false, eval e X.env) :: starEach [.Name T p1] X.env := by rfl) (hs2 : starEach [.Name T p1] X.env = (false, eval (.Name T p1) X.env) :: starEach [] X.env := by rfl) (hpl : (backTo pos (starEach [.Name T p1] X.env)).any (·.1) = false := by rfl) :
    Ev X (.Call (.Name x p2) [e, .Name T p1] [] pos) Δ S (.bool r) := by
  subst hx
  exact ev_pe (pe_callB call_isi hg hm (by decide +kernel) (pa_cons (pe_ev X e) (pa_cons (pe_bltn (v := .ty tn) hgT hmT hvT rfl hnT hdT) pa_nil hs2) hs1) (by decide) (by decide) hs1 hpl) fun σ G H Q a b c q => ⟨Δ, S, _, G, he, a, b, c, fun v G1 H1 g p r1 =>
    ⟨v, .ty tn, _, _, r, rfl, .ty tn, tyx r1 g.sub ht, kit_ty hk, q _ G1 H1 g p (.bl r)⟩⟩
end
end DL
namespace DL
open PySem PySem.Spec PyProof.Rows L2

/-! ### zip of lists and tuples, two or three -/
/-- b: a tuple -/
def Sq (b : Bool) (K : PySem.W.Frag) (H : Hp) (a : Addr) (xs : List V) : Prop := if b then SqT K H a xs else SqL K H a xs
def IsSq (b : Bool) (h : Heap) (a : Addr) (its : Array Value) : Prop := if b then h.IsTuple a its else h.IsList a its
def IsIt (b : Bool) (h : Heap) (it a : Addr) (i : Nat) : Prop := if b then h.IsTupleIter it a i else h.IsListIter it a i
theorem sq_get {b : Bool} {X : Cx} {pins : List (Addr × Obj)} {σ : L2.St} {H : Hp} {s : Shared} {a : Addr} {xs : List V} (I : Inv X pins σ H s) (h : Sq b X.K H a xs) : ∃ its : List Value, Vals xs its ∧ IsSq b s.heap a its.toArray := by
  cases b with
  | true =>
    obtain ⟨its, r, p, _⟩ := I.tuple h
    exact ⟨its, r, p⟩
  | false =>
    obtain ⟨its, r, p, _⟩ := I.list h
    exact ⟨its, r, p.isList⟩
theorem sq_inj {b : Bool} {X : Cx} {pins : List (Addr × Obj)} {σ : L2.St} {H : Hp} {s : Shared} {a : Addr} {xs ys : List V} (I : Inv X pins σ H s) (h : Sq b X.K H a xs) (h' : Sq b X.K H a ys) : xs = ys := by
  cases b with
  | true => exact I.tuple_inj h h'
  | false => exact I.list_inj h h'
theorem draws_sq (b : Bool) {prog : Program} {w : World} {A : Around} (hh : A.handled = none) (it a : Addr) (hne : a ≠ it) (its : Array Value) :
    Draws prog w A it [it, a] its.size (fun i v => its[i]? = some v) (fun i h => IsIt b h it a i ∧ IsSq b h a its) := by
  cases b with
  | true => exact Draws.tuple hh it a hne its
  | false => exact Draws.list hh it a hne its
def itO (b : Bool) (a : Addr) : Obj := if b then { cls := .type "tuple_iterator", data := .fields #[.ref a, .int 0 0] } else { cls := .type "list_iterator", data := .fields #[.ref a, .int 0 0] }
theorem begins_sq (b : Bool) (a : Addr) (its : Array Value) : Begins (.ref a) (itO b a) fun h => IsSq b h a its := by
  cases b with
  | true => exact begins_tuple a its
  | false => exact begins_list a its
theorem isIt_ex {b : Bool} {h : Heap} {it a : Addr} {i : Nat} (x : IsIt b h it a i) : ∃ o, h.get? it = some o ∧ ∀ v, o.data ≠ .cell v := by
  cases b with
  | true => obtain ⟨o, e, _, d⟩ := x; exact ⟨o, e, fun v z => by rw [d] at z; cases z⟩
  | false => obtain ⟨o, e, _, d⟩ := x; exact ⟨o, e, fun v z => by rw [d] at z; cases z⟩
theorem isIt_at {b : Bool} {h h' : Heap} {it a : Addr} {i : Nat} (x : IsIt b h it a i) (k : ∀ o, h.get? it = some o → h'.get? it = some o) : IsIt b h' it a i := by
  cases b with
  | true => exact Heap.IsTupleIter.at x k
  | false => exact Heap.IsListIter.at x k
theorem isIt_new {b : Bool} {h : Heap} {it a : Addr} (e : h.get? it = some (itO b a)) : IsIt b h it a 0 := by
  cases b with
  | true => exact ⟨_, e, rfl, rfl⟩
  | false => exact ⟨_, e, rfl, rfl⟩
theorem isSq_lt {b : Bool} {h : Heap} {a : Addr} {its : Array Value} (x : IsSq b h a its) : a < h.objs.size := by
  cases b with
  | true => obtain ⟨o, e, _⟩ := x; exact Heap.lt_size e
  | false => obtain ⟨o, e, _⟩ := x; exact Heap.lt_size e
theorem isSq_ne {b : Bool} {h : Heap} {a it : Addr} {its : Array Value} {b' : Bool} {a' : Addr} {i : Nat} (x : IsSq b h a its) (y : IsIt b' h it a' i) : a ≠ it := by
  rintro rfl
  cases b with
  | true =>
    obtain ⟨o, e, c, _⟩ := x
    cases b' with
    | true => obtain ⟨o', e', c', _⟩ := y; rw [e] at e'; cases e'; rw [c] at c'; exact absurd (Value.type.inj c') (by decide)
    | false => obtain ⟨o', e', c', _⟩ := y; rw [e] at e'; cases e'; rw [c] at c'; exact absurd (Value.type.inj c') (by decide)
  | false =>
    obtain ⟨o, e, c, _⟩ := x
    cases b' with
    | true => obtain ⟨o', e', c', _⟩ := y; rw [e] at e'; cases e'; rw [c] at c'; exact absurd (Value.type.inj c') (by decide)
    | false => obtain ⟨o', e', c', _⟩ := y; rw [e] at e'; cases e'; rw [c] at c'; exact absurd (Value.type.inj c') (by decide)
theorem sq_up {b : Bool} {K : PySem.W.Frag} {H H' : Hp} {a : Addr} {xs : List V} (e : Same H H') (h : Sq b K H a xs) : Sq b K H' a xs := by
  cases b with
  | true => exact Same_t e h
  | false => exact Same_l e h
def ItzG (K : PySem.W.Frag) (p q : Bool) (a b : Addr) : It :=
  ⟨fun i H => ∃ (xs ys : List V) (x y : V), Sq p K H a xs ∧ Sq q K H b ys ∧ xs[i]? = some x ∧ ys[i]? = some y,
    fun i H v H' => ∃ T x y, v = .ref T ∧ H T = none ∧ H' = upd H T (.tup [x, y]) ∧ (∀ xs, Sq p K H a xs → xs[i]? = some x) ∧ ∀ ys, Sq q K H b ys → ys[i]? = some y,
    fun i H => ∃ xs ys : List V, Sq p K H a xs ∧ Sq q K H b ys ∧ i = min xs.length ys.length⟩
theorem turn_zipG {P : Program} {w : World} {K : PySem.W.Frag} {elts : List Expr} {kk : Nat} {tpos : Pos} {p q : Bool} {a b z TI TO i1 i2 : Addr} (D : ZipSep2 z TI TO i1 i2 [i1, a] [i2, b]) :
    Turn P w K (.Tuple elts kk tpos) (ItzG K p q a b) [z, TI, TO, i1, i2] z (fun i h => IsZip h z TI TO .none ∧ IsPair h TI (.ref i1) (.ref i2) ∧ (∃ x y, IsPair h TO x y) ∧ IsIt p h i1 a i ∧ IsIt q h i2 b i) where
  mem := by simp
  obj := fun i h st c hc => by
    obtain ⟨hz, hTI, ⟨x, y, hTO⟩, h1, h2⟩ := st
    obtain ⟨o1, e1, d1⟩ := isIt_ex h1
    obtain ⟨o2, e2, d2⟩ := isIt_ex h2
    rcases (by simpa using hc : c = z ∨ c = TI ∨ c = TO ∨ c = i1 ∨ c = i2) with rfl | rfl | rfl | rfl | rfl
    · exact ⟨_, hz, fun v z => nomatch z⟩
    · exact ⟨_, hTI, fun v z => nomatch z⟩
    · exact ⟨_, hTO, fun v z => nomatch z⟩
    · exact ⟨o1, e1, d1⟩
    · exact ⟨o2, e2, d2⟩
  keep := fun i h h' st k => by
    obtain ⟨hz, hTI, ⟨x, y, hTO⟩, h1, h2⟩ := st
    exact ⟨k z (by simp) _ hz, k TI (by simp) _ hTI, ⟨x, y, k TO (by simp) _ hTO⟩, isIt_at h1 (k i1 (by simp)), isIt_at h2 (k i2 (by simp))⟩
  item := by
    intro X hP hw hK hc i pins s σ H E I hf st hg
    subst hP hw hK
    obtain ⟨hz, hTI, ⟨x0, y0, hTO⟩, h1, h2⟩ := st
    obtain ⟨xs, ys, x, y, hqx, hqy, hx, hy⟩ := hg
    obtain ⟨its, rv, pa⟩ := sq_get I hqx
    obtain ⟨its2, rv2, pb⟩ := sq_get I hqy
    have hzl : z < s.heap.objs.size := Heap.lt_size hz
    have lx : i < its.toArray.size := by rw [List.size_toArray, ← rv.length]; exact (List.getElem?_eq_some_iff.mp hx).1
    have ly : i < its2.toArray.size := by rw [List.size_toArray, ← rv2.length]; exact (List.getElem?_eq_some_iff.mp hy).1
    refine wpAny_pyNext_zipD2_item D (draws_sq p (by simp [I.ok.hd hc]) i1 a (isSq_ne pa h1) its.toArray) (draws_sq q (by simp [I.ok.hd hc]) i2 b (isSq_ne pb h2) its2.toArray) hz hTI hTO ⟨h1, pa⟩ ⟨h2, pb⟩ lx ly fun u u2 h' tk hu hu2 z' TO' s1' s2' hT hsz hk => ?_
    refine ⟨_, rfl, wpAny_letOwnedTupleGo_zip (s := { s with heap := h', toks := tk }) z' fun h'' z'' sb => ?_⟩
    obtain ⟨u', e1, ru⟩ := rv.get hx
    obtain ⟨u2', e2, ru2⟩ := rv2.get hy
    have hu : its.toArray[i]? = some u := hu
    have hu2 : its2.toArray[i]? = some u2 := hu2
    rw [List.getElem?_toArray, e1] at hu
    rw [List.getElem?_toArray, e2] at hu2
    cases hu
    cases hu2
    have hT2 : h''.get? s.heap.objs.size = some { cls := .type "tuple", data := .seq #[u, u2] } := (sb.2 _ (Nat.ne_of_gt hzl)).trans hT
    have new : ObjOk X.prog X.w (upd H s.heap.objs.size (.tup [x, y])) h'' s.heap.objs.size (.tup [x, y]) := ⟨by show 2 ≤ sizeLine; decide, [u, u2], .cons ru (.cons ru2 .nil), ⟨_, hT2, rfl, _, rfl⟩⟩
    have I1 : Inv X pins σ (upd H s.heap.objs.size (.tup [x, y])) { s with heap := h'', toks := tk } :=
      I.turnedNew (t' := tk) (ch := [z, TI, TO, i1, i2]) (fun c o hb w => (sb.2 c (fun v => hb (by simp [v]))).trans (hk c o (fun v => hb (by simp [v])) (fun v => hb (by simp [v])) (fun v => hb (by simp [v])) (fun v => hb (by simp [v])) w)) hf (Nat.le_refl _) new
    refine ⟨.ref s.heap.objs.size, _, I1, rfl, ⟨_, x, y, rfl, I.hok.fresh (Nat.le_refl _), rfl, fun l hl => by rw [sq_inj I hl hqx]; exact hx, fun l hl => by rw [sq_inj I hl hqy]; exact hy⟩, ⟨z'', ?_, ⟨u, u2, (sb.2 _ D.TOz).trans TO'⟩, isIt_at s1'.1 fun o w => (sb.2 _ (Ne.symm D.zi1)).trans w, isIt_at s2'.1 fun o w => (sb.2 _ (Ne.symm D.zi2)).trans w⟩, fun c hcm => ?_⟩
    · exact (sb.2 _ D.TIz).trans (hk _ _ D.TIz D.TITO D.TIi1 D.TIi2 hTI)
    · obtain ⟨o1, e1, _⟩ := isIt_ex h1
      obtain ⟨o2, e2, _⟩ := isIt_ex h2
      have hlt : c < s.heap.objs.size := by
        rcases (by simpa using hcm : c = z ∨ c = TI ∨ c = TO ∨ c = i1 ∨ c = i2) with rfl | rfl | rfl | rfl | rfl
        · exact hzl
        · exact Heap.lt_size hTI
        · exact Heap.lt_size hTO
        · exact Heap.lt_size e1
        · exact Heap.lt_size e2
      rw [upd_ne (Nat.ne_of_lt hlt)]
      exact (hf c hcm).1
  done := by
    intro X hP hw hK hc i pins s σ H E I hf st hg
    subst hP hw hK
    obtain ⟨hz, hTI, ⟨x0, y0, hTO⟩, h1, h2⟩ := st
    obtain ⟨xs, ys, hqx, hqy, hend⟩ := hg
    obtain ⟨its, rv, pa⟩ := sq_get I hqx
    obtain ⟨its2, rv2, pb⟩ := sq_get I hqy
    have l1 : its.toArray.size = xs.length := by rw [List.size_toArray, rv.length]
    have l2 : its2.toArray.size = ys.length := by rw [List.size_toArray, rv2.length]
    exact wpAny_pyNext_zipD2_end D (draws_sq p (by simp [I.ok.hd hc]) i1 a (isSq_ne pa h1) its.toArray) (draws_sq q (by simp [I.ok.hd hc]) i2 b (isSq_ne pb h2) its2.toArray) hz hTI hTO ⟨h1, pa⟩ ⟨h2, pb⟩ (by omega) (by omega) (by omega) fun h' tk hk => ⟨rfl, I.turnedL (t' := tk) (ch := [z, TI, TO, i1, i2]) (fun c o hb w =>
      hk c o (fun v => hb (by simp [v])) (fun v => hb (by simp [v])) (fun v => hb (by simp [v])) (fun v => hb (by simp [v])) w) hf⟩
  self := fun A i s Q E st h => wpAny_pyIter_zip st.1 h
def iZipG (K : PySem.W.Frag) (p q : Bool) (ta : TA) : TI := fun σ H R => ta σ H fun vs H1 => ∃ a b xs ys, vs = [.ref a, .ref b] ∧ Sq p K H1 a xs ∧ Sq q K H1 b ys ∧ R (ItzG K p q a b) H1
theorem pi_zipG {X : Cx} {p q : Bool} {e e2 : Expr} {ta : TA} {pp pos tpos : Pos} {elts : List Expr} {kk : Nat} (hg : Gl X "zip") (hm : X.mg "zip" = none) (ha : PA X [e, e2] ta)
    (hs : starEach [e, e2] X.env = (false, eval e X.env) :: starEach [e2] X.env := by rfl) (hpl : (backTo pos (starEach [e2] X.env)).any (·.1) = false := by rfl) :
    PI X (.Tuple elts kk tpos) (.Call (.Name "zip" pp) [e, e2] [] pos) (iZipG X.K p q ta) := by
  refine ⟨fun pins s σ H R I h => ?_⟩
  refine Call_ (ld_blt I hg hm PyProof.Rows.boot_zip (PyProof.Rows.callWith_type1 (thn (ha.run pos pins s σ H _ I h) fun us s1 ⟨vs, H1, I1, r1, q1⟩ => ?_) hs hpl))
  obtain ⟨a, b, xs, ys, rfl, hqx, hqy, q1⟩ := q1
  obtain ⟨u1, u2, rfl, r1, r2⟩ := vals2 r1
  cases r1
  cases r2
  obtain ⟨its, rv, p1⟩ := sq_get I1 hqx
  obtain ⟨its2, rv2, p2⟩ := sq_get I1 hqy
  refine zip_begins2 (begins_sq p a its.toArray) (begins_sq q b its2.toArray) p1 p2 fun h' hz hTI hTO h1 h2 hsz hk => wpAny_pyIter_zip hz ?_
  have I2 : Inv X pins σ H1 { s1 with heap := h' } := I1.kept (t' := s1.toks) hk
  refine ⟨s1.heap.objs.size + 4, [s1.heap.objs.size + 4, s1.heap.objs.size + 2, s1.heap.objs.size + 3, s1.heap.objs.size, s1.heap.objs.size + 1], _, _, H1, rfl, I2, turn_zipG (zip_sep2 (fp1 := [a]) (fp2 := [b]) (fun c hc => by rw [List.mem_singleton.mp hc]; exact isSq_lt p1) (fun c hc => by rw [List.mem_singleton.mp hc]; exact isSq_lt p2)), ⟨hz, hTI, ⟨_, _, hTO⟩, isIt_new h1, isIt_new h2⟩, fun c hcm => ?_, q1⟩
  have hle : s1.heap.objs.size ≤ c := by
    rcases (by simpa using hcm : c = s1.heap.objs.size + 4 ∨ c = s1.heap.objs.size + 2 ∨ c = s1.heap.objs.size + 3 ∨ c = s1.heap.objs.size ∨ c = s1.heap.objs.size + 1) with z | z | z | z | z
    · rw [z]; exact Nat.le_add_right _ _
    · rw [z]; exact Nat.le_add_right _ _
    · rw [z]; exact Nat.le_add_right _ _
    · rw [z]; exact Nat.le_refl _
    · rw [z]; exact Nat.le_add_right _ _
  exact I1.fpOk hle (I1.hok.fresh hle)
/-- the datum of such a sequence -/
def sqD (b : Bool) (ds : List PyData) : PyData := if b then .tuple ds else .list ds
theorem at_sq {K : PySem.W.Frag} {G : Hp} {b : Bool} {v : V} {ds : List PyData} (h : At K G v (sqD b ds)) : ∃ a xs, v = .ref a ∧ Sq b K G a xs ∧ Ats K G xs ds := by
  cases b with
  | true => cases h with | tup hs ha => exact ⟨_, _, rfl, SqT.of hs, ha⟩
  | false => cases h with | lst hs ha => exact ⟨_, _, rfl, SqL.of hs, ha⟩
section
variable {X : Cx} {e e2 e3 tg : Expr} {Δ : De} {S : As} {ds ds2 ds3 : List PyData} {pos p tpos : Pos}
theorem it_zip {elts : List Expr} {kk : Nat} (b b2 : Bool) (hg : Gl X "zip") (hm : X.mg "zip" = none) (h : Ev X e Δ S (sqD b ds)) (h' : Ev X e2 Δ S (sqD b2 ds2))
    (hs : starEach [e, e2] X.env = (false, eval e X.env) :: starEach [e2] X.env := by rfl) (hs2 : starEach [e2] X.env = (false, eval e2 X.env) :: starEach [] X.env := by rfl) (hpl : (backTo pos (starEach [e2] X.env)).any (·.1) = false := by rfl) :
    ItD X (.Tuple elts kk tpos) (.Call (.Name "zip" p) [e, e2] [] pos) Δ S ((ds.zip ds2).map fun z => .tuple [z.1, z.2]) :=
  ⟨_, pi_zipG (p := b) (q := b2) hg hm (pa_cons (pe_ev X e) (pa_cons (pe_ev X e2) pa_nil hs2) hs) hs hpl, fun σ G H R a b' c q => ⟨Δ, S, _, G, h, a, b', c, fun v G1 H1 g p1 r => ⟨Δ, S, _, G1, h', a.up g.gx, g.sub, p1, fun v2 G2 H2 g2 p2 r2 => by
    obtain ⟨x1, xs, rfl, hx, hd⟩ := at_sq r
    obtain ⟨x2, ys, rfl, hx2, hd2⟩ := at_sq r2
    have hx := sq_up g2.gx hx
    have hd := hd.up g2.gx
    refine ⟨_, _, _, _, rfl, sq_up g2.sub hx, sq_up g2.sub hx2, q _ G2 H2 (g.trans g2) p2 ⟨fun G3 H3 s1 s2 => ⟨_, _, sq_up s2 (sq_up s1 hx), sq_up s2 (sq_up s1 hx2), ?_⟩, fun i d G3 H3 s1 s2 e1 => ?_⟩⟩
    · simp only [List.length_map, List.length_zip]
      rw [hd.len, hd2.len]
    · rw [List.getElem?_map] at e1
      cases w : (ds.zip ds2)[i]? with
      | none => rw [w] at e1; cases e1
      | some d0 =>
        rw [w] at e1
        cases e1
        obtain ⟨q1, q2⟩ := List.getElem?_zip_eq_some.mp w
        obtain ⟨u, f1, f2⟩ := hd.get q1
        obtain ⟨u2, f1', f2'⟩ := hd2.get q2
        refine ⟨⟨_, _, u, u2, sq_up s2 (sq_up s1 hx), sq_up s2 (sq_up s1 hx2), f1, f1'⟩, fun x H' y => ?_⟩
        obtain ⟨T, x', y', rfl, hT, rfl, y1, y2⟩ := y
        have z1 := y1 _ (sq_up s2 (sq_up s1 hx))
        rw [f1] at z1; cases z1
        have z2 := y2 _ (sq_up s2 (sq_up s1 hx2))
        rw [f1'] at z2; cases z2
        exact ⟨upd G3 T (.tup [u, u2]), .new s2 hT, same_upd hT, .tup upd_same (.cons ((f2.up s1).up (same_upd (s2.free hT))) (.one ((f2'.up s1).up (same_upd (s2.free hT)))))⟩⟩⟩⟩
end
end DL
namespace DL
open PySem PySem.Spec PyProof.Rows L2
def ItzH (K : PySem.W.Frag) (p q r : Bool) (a b c : Addr) : It :=
  ⟨fun i H => ∃ (xs ys zs : List V) (x y z : V), Sq p K H a xs ∧ Sq q K H b ys ∧ Sq r K H c zs ∧ xs[i]? = some x ∧ ys[i]? = some y ∧ zs[i]? = some z,
    fun i H v H' => ∃ T x y z, v = .ref T ∧ H T = none ∧ H' = upd H T (.tup [x, y, z]) ∧ (∀ xs, Sq p K H a xs → xs[i]? = some x) ∧ (∀ ys, Sq q K H b ys → ys[i]? = some y) ∧ ∀ zs, Sq r K H c zs → zs[i]? = some z,
    fun i H => ∃ xs ys zs : List V, Sq p K H a xs ∧ Sq q K H b ys ∧ Sq r K H c zs ∧ i = min xs.length (min ys.length zs.length)⟩
theorem turn_zipH {P : Program} {w : World} {K : PySem.W.Frag} {elts : List Expr} {kk : Nat} {tpos : Pos} {p q r : Bool} {a b d z TI TO i1 i2 i3 : Addr} (D : ZipSep3 z TI TO i1 i2 i3 [i1, a] [i2, b] [i3, d]) :
    Turn P w K (.Tuple elts kk tpos) (ItzH K p q r a b d) [z, TI, TO, i1, i2, i3] z (fun i h => IsZip h z TI TO .none ∧ IsTupOf3 h TI (.ref i1) (.ref i2) (.ref i3) ∧ (∃ x y w, IsTupOf3 h TO x y w) ∧ IsIt p h i1 a i ∧ IsIt q h i2 b i ∧ IsIt r h i3 d i) where
  mem := by simp
  obj := fun i h st c hc => by
    obtain ⟨hz, hTI, ⟨x, y, w, hTO⟩, h1, h2, h3⟩ := st
    obtain ⟨o1, e1, d1⟩ := isIt_ex h1
    obtain ⟨o2, e2, d2⟩ := isIt_ex h2
    obtain ⟨o3, e3, d3⟩ := isIt_ex h3
    rcases (by simpa using hc : c = z ∨ c = TI ∨ c = TO ∨ c = i1 ∨ c = i2 ∨ c = i3) with rfl | rfl | rfl | rfl | rfl | rfl
    · exact ⟨_, hz, fun v z => nomatch z⟩
    · exact ⟨_, hTI, fun v z => nomatch z⟩
    · exact ⟨_, hTO, fun v z => nomatch z⟩
    · exact ⟨o1, e1, d1⟩
    · exact ⟨o2, e2, d2⟩
    · exact ⟨o3, e3, d3⟩
  keep := fun i h h' st k => by
    obtain ⟨hz, hTI, ⟨x, y, w, hTO⟩, h1, h2, h3⟩ := st
    exact ⟨k z (by simp) _ hz, k TI (by simp) _ hTI, ⟨x, y, w, k TO (by simp) _ hTO⟩, isIt_at h1 (k i1 (by simp)), isIt_at h2 (k i2 (by simp)), isIt_at h3 (k i3 (by simp))⟩
  item := by
    intro X hP hw hK hc i pins s σ H E I hf st hg
    subst hP hw hK
    obtain ⟨hz, hTI, ⟨x0, y0, w0, hTO⟩, h1, h2, h3⟩ := st
    obtain ⟨xs, ys, zs, x, y, z', hqx, hqy, hqz, hx, hy, hzz⟩ := hg
    obtain ⟨its, rv, pa⟩ := sq_get I hqx
    obtain ⟨its2, rv2, pb⟩ := sq_get I hqy
    obtain ⟨its3, rv3, pc⟩ := sq_get I hqz
    have hzl : z < s.heap.objs.size := Heap.lt_size hz
    have lx : i < its.toArray.size := by rw [List.size_toArray, ← rv.length]; exact (List.getElem?_eq_some_iff.mp hx).1
    have ly : i < its2.toArray.size := by rw [List.size_toArray, ← rv2.length]; exact (List.getElem?_eq_some_iff.mp hy).1
    have lz : i < its3.toArray.size := by rw [List.size_toArray, ← rv3.length]; exact (List.getElem?_eq_some_iff.mp hzz).1
    refine wpAny_pyNext_zipD3_item D (draws_sq p (by simp [I.ok.hd hc]) i1 a (isSq_ne pa h1) its.toArray) (draws_sq q (by simp [I.ok.hd hc]) i2 b (isSq_ne pb h2) its2.toArray) (draws_sq r (by simp [I.ok.hd hc]) i3 d (isSq_ne pc h3) its3.toArray) hz hTI hTO ⟨h1, pa⟩ ⟨h2, pb⟩ ⟨h3, pc⟩ lx ly lz fun u u2 u3 h' tk hu hu2 hu3 z1' TO' s1' s2' s3' hT hsz hk => ?_
    refine ⟨_, rfl, wpAny_letOwnedTupleGo_zip (s := { s with heap := h', toks := tk }) z1' fun h'' z'' sb => ?_⟩
    obtain ⟨v1, e1, ru⟩ := rv.get hx
    obtain ⟨v2, e2, ru2⟩ := rv2.get hy
    obtain ⟨v3, e3, ru3⟩ := rv3.get hzz
    have hu : its.toArray[i]? = some u := hu
    have hu2 : its2.toArray[i]? = some u2 := hu2
    have hu3 : its3.toArray[i]? = some u3 := hu3
    rw [List.getElem?_toArray, e1] at hu
    rw [List.getElem?_toArray, e2] at hu2
    rw [List.getElem?_toArray, e3] at hu3
    cases hu
    cases hu2
    cases hu3
    have hT2 : h''.get? s.heap.objs.size = some { cls := .type "tuple", data := .seq #[u, u2, u3] } := (sb.2 _ (Nat.ne_of_gt hzl)).trans hT
    have new : ObjOk X.prog X.w (upd H s.heap.objs.size (.tup [x, y, z'])) h'' s.heap.objs.size (.tup [x, y, z']) := ⟨by show 3 ≤ sizeLine; decide, [u, u2, u3], .cons ru (.cons ru2 (.cons ru3 .nil)), ⟨_, hT2, rfl, _, rfl⟩⟩
    have I1 : Inv X pins σ (upd H s.heap.objs.size (.tup [x, y, z'])) { s with heap := h'', toks := tk } :=
      I.turnedNew (t' := tk) (ch := [z, TI, TO, i1, i2, i3]) (fun c o hb w => (sb.2 c (fun v => hb (by simp [v]))).trans (hk c o (fun v => hb (by simp [v])) (fun v => hb (by simp [v])) (fun v => hb (by simp [v])) (fun v => hb (by simp [v])) (fun v => hb (by simp [v])) w)) hf (Nat.le_refl _) new
    refine ⟨.ref s.heap.objs.size, _, I1, rfl, ⟨_, x, y, z', rfl, I.hok.fresh (Nat.le_refl _), rfl, fun l hl => by rw [sq_inj I hl hqx]; exact hx, fun l hl => by rw [sq_inj I hl hqy]; exact hy, fun l hl => by rw [sq_inj I hl hqz]; exact hzz⟩, ⟨z'', ?_, ⟨u, u2, u3, (sb.2 _ D.TOz).trans TO'⟩, isIt_at s1'.1 fun o w => (sb.2 _ (Ne.symm D.zi1)).trans w, isIt_at s2'.1 fun o w => (sb.2 _ (Ne.symm D.zi2)).trans w, isIt_at s3'.1 fun o w => (sb.2 _ (Ne.symm D.zi3)).trans w⟩, fun c hcm => ?_⟩
    · exact (sb.2 _ D.TIz).trans (hk _ _ D.TIz D.TITO D.TIi1 D.TIi2 D.TIi3 hTI)
    · obtain ⟨o1, e1, _⟩ := isIt_ex h1
      obtain ⟨o2, e2, _⟩ := isIt_ex h2
      obtain ⟨o3, e3, _⟩ := isIt_ex h3
      have hlt : c < s.heap.objs.size := by
        rcases (by simpa using hcm : c = z ∨ c = TI ∨ c = TO ∨ c = i1 ∨ c = i2 ∨ c = i3) with rfl | rfl | rfl | rfl | rfl | rfl
        · exact hzl
        · exact Heap.lt_size hTI
        · exact Heap.lt_size hTO
        · exact Heap.lt_size e1
        · exact Heap.lt_size e2
        · exact Heap.lt_size e3
      rw [upd_ne (Nat.ne_of_lt hlt)]
      exact (hf c hcm).1
  done := by
    intro X hP hw hK hc i pins s σ H E I hf st hg
    subst hP hw hK
    obtain ⟨hz, hTI, ⟨x0, y0, w0, hTO⟩, h1, h2, h3⟩ := st
    obtain ⟨xs, ys, zs, hqx, hqy, hqz, hend⟩ := hg
    obtain ⟨its, rv, pa⟩ := sq_get I hqx
    obtain ⟨its2, rv2, pb⟩ := sq_get I hqy
    obtain ⟨its3, rv3, pc⟩ := sq_get I hqz
    have l1 : its.toArray.size = xs.length := by rw [List.size_toArray, rv.length]
    have l2 : its2.toArray.size = ys.length := by rw [List.size_toArray, rv2.length]
    have l3 : its3.toArray.size = zs.length := by rw [List.size_toArray, rv3.length]
    exact wpAny_pyNext_zipD3_end D (draws_sq p (by simp [I.ok.hd hc]) i1 a (isSq_ne pa h1) its.toArray) (draws_sq q (by simp [I.ok.hd hc]) i2 b (isSq_ne pb h2) its2.toArray) (draws_sq r (by simp [I.ok.hd hc]) i3 d (isSq_ne pc h3) its3.toArray) hz hTI hTO ⟨h1, pa⟩ ⟨h2, pb⟩ ⟨h3, pc⟩ (by omega) (by omega) (by omega) (by omega) fun h' tk hk => ⟨rfl, I.turnedL (t' := tk) (ch := [z, TI, TO, i1, i2, i3]) (fun c o hb w =>
      hk c o (fun v => hb (by simp [v])) (fun v => hb (by simp [v])) (fun v => hb (by simp [v])) (fun v => hb (by simp [v])) (fun v => hb (by simp [v])) w) hf⟩
  self := fun A i s Q E st h => wpAny_pyIter_zip st.1 h
def iZipH (K : PySem.W.Frag) (p q r : Bool) (ta : TA) : TI := fun σ H R => ta σ H fun vs H1 => ∃ a b c xs ys zs, vs = [.ref a, .ref b, .ref c] ∧ Sq p K H1 a xs ∧ Sq q K H1 b ys ∧ Sq r K H1 c zs ∧ R (ItzH K p q r a b c) H1
theorem pi_zipH {X : Cx} {p q r : Bool} {e e2 e3 : Expr} {ta : TA} {pp pos tpos : Pos} {elts : List Expr} {kk : Nat} (hg : Gl X "zip") (hm : X.mg "zip" = none) (ha : PA X [e, e2, e3] ta)
    (hs : starEach [e, e2, e3] X.env = (false, eval e X.env) :: starEach [e2, e3] X.env := by rfl) (hpl : (backTo pos (starEach [e2, e3] X.env)).any (·.1) = false := by rfl) :
    PI X (.Tuple elts kk tpos) (.Call (.Name "zip" pp) [e, e2, e3] [] pos) (iZipH X.K p q r ta) := by
  refine ⟨fun pins s σ H R I h => ?_⟩
  refine Call_ (ld_blt I hg hm PyProof.Rows.boot_zip (PyProof.Rows.callWith_type1 (thn (ha.run pos pins s σ H _ I h) fun us s1 ⟨vs, H1, I1, r1, q1⟩ => ?_) hs hpl))
  obtain ⟨a, b, d, xs, ys, zs, rfl, hqx, hqy, hqz, q1⟩ := q1
  cases r1 with
  | cons r1 r' =>
  obtain ⟨u2, u3, rfl, r2, r3⟩ := vals2 r'
  cases r1
  cases r2
  cases r3
  obtain ⟨its, rv, p1⟩ := sq_get I1 hqx
  obtain ⟨its2, rv2, p2⟩ := sq_get I1 hqy
  obtain ⟨its3, rv3, p3⟩ := sq_get I1 hqz
  refine zip_begins3 (begins_sq p a its.toArray) (begins_sq q b its2.toArray) (begins_sq r d its3.toArray) p1 p2 p3 fun h' hz hTI hTO h1 h2 h3 hsz hk => wpAny_pyIter_zip hz ?_
  have I2 : Inv X pins σ H1 { s1 with heap := h' } := I1.kept (t' := s1.toks) hk
  refine ⟨s1.heap.objs.size + 5, [s1.heap.objs.size + 5, s1.heap.objs.size + 3, s1.heap.objs.size + 4, s1.heap.objs.size, s1.heap.objs.size + 1, s1.heap.objs.size + 2], _, _, H1, rfl, I2, turn_zipH (zip_sep3 (fp1 := [a]) (fp2 := [b]) (fp3 := [d]) (fun c hc => by rw [List.mem_singleton.mp hc]; exact isSq_lt p1) (fun c hc => by rw [List.mem_singleton.mp hc]; exact isSq_lt p2) (fun c hc => by rw [List.mem_singleton.mp hc]; exact isSq_lt p3)), ⟨hz, hTI, ⟨_, _, _, hTO⟩, isIt_new h1, isIt_new h2, isIt_new h3⟩, fun c hcm => ?_, q1⟩
  have hle : s1.heap.objs.size ≤ c := by
    rcases (by simpa using hcm : c = s1.heap.objs.size + 5 ∨ c = s1.heap.objs.size + 3 ∨ c = s1.heap.objs.size + 4 ∨ c = s1.heap.objs.size ∨ c = s1.heap.objs.size + 1 ∨ c = s1.heap.objs.size + 2) with z | z | z | z | z | z
    · rw [z]; exact Nat.le_add_right _ _
    · rw [z]; exact Nat.le_add_right _ _
    · rw [z]; exact Nat.le_add_right _ _
    · rw [z]; exact Nat.le_refl _
    · rw [z]; exact Nat.le_add_right _ _
    · rw [z]; exact Nat.le_add_right _ _
  exact I1.fpOk hle (I1.hok.fresh hle)
section
variable {X : Cx} {e e2 e3 tg : Expr} {Δ : De} {S : As} {ds ds2 ds3 : List PyData} {pos p tpos : Pos}
theorem it_zip3 {elts : List Expr} {kk : Nat} (b b2 b3 : Bool) (hg : Gl X "zip") (hm : X.mg "zip" = none) (h : Ev X e Δ S (sqD b ds)) (h' : Ev X e2 Δ S (sqD b2 ds2)) (h'' : Ev X e3 Δ S (sqD b3 ds3))
    (hs : starEach [e, e2, e3] X.env = (false, eval e X.env) :: starEach [e2, e3] X.env := by rfl) (hs2 : starEach [e2, e3] X.env = (false, eval e2 X.env) :: starEach [e3] X.env := by rfl) (hs3 : starEach [e3] X.env = (false, eval e3 X.env) :: starEach [] X.env := by rfl) (hpl : (backTo pos (starEach [e2, e3] X.env)).any (·.1) = false := by rfl) :
    ItD X (.Tuple elts kk tpos) (.Call (.Name "zip" p) [e, e2, e3] [] pos) Δ S ((ds.zip (ds2.zip ds3)).map fun z => .tuple [z.1, z.2.1, z.2.2]) :=
  ⟨_, pi_zipH (p := b) (q := b2) (r := b3) hg hm (pa_cons (pe_ev X e) (pa_cons (pe_ev X e2) (pa_cons (pe_ev X e3) pa_nil hs3) hs2) hs) hs hpl, fun σ G H R a b' c q => ⟨Δ, S, _, G, h, a, b', c, fun v G1 H1 g p1 r => ⟨Δ, S, _, G1, h', a.up g.gx, g.sub, p1, fun v2 G2 H2 g2 p2 r2 => ⟨Δ, S, _, G2, h'', (a.up g.gx).up g2.gx, g2.sub, p2, fun v3 G3 H3 g3 p3 r3 => by
    obtain ⟨x1, xs, rfl, hx, hd⟩ := at_sq r
    obtain ⟨x2, ys, rfl, hx2, hd2⟩ := at_sq r2
    obtain ⟨x3, zs, rfl, hx3, hd3⟩ := at_sq r3
    have hx := sq_up (g2.gx.trans g3.gx) hx
    have hd := hd.up (g2.gx.trans g3.gx)
    have hx2 := sq_up g3.gx hx2
    have hd2 := hd2.up g3.gx
    refine ⟨_, _, _, _, _, _, rfl, sq_up g3.sub hx, sq_up g3.sub hx2, sq_up g3.sub hx3, q _ G3 H3 ((g.trans g2).trans g3) p3 ⟨fun G4 H4 s1 s2 => ⟨_, _, _, sq_up s2 (sq_up s1 hx), sq_up s2 (sq_up s1 hx2), sq_up s2 (sq_up s1 hx3), ?_⟩, fun i d G4 H4 s1 s2 e1 => ?_⟩⟩
    · simp only [List.length_map, List.length_zip]
      rw [hd.len, hd2.len, hd3.len]
    · rw [List.getElem?_map] at e1
      cases w : (ds.zip (ds2.zip ds3))[i]? with
      | none => rw [w] at e1; cases e1
      | some d0 =>
        rw [w] at e1
        cases e1
        obtain ⟨q1, q2⟩ := List.getElem?_zip_eq_some.mp w
        obtain ⟨q2, q3⟩ := List.getElem?_zip_eq_some.mp q2
        obtain ⟨u, f1, f2⟩ := hd.get q1
        obtain ⟨u2, f1', f2'⟩ := hd2.get q2
        obtain ⟨u3, f1'', f2''⟩ := hd3.get q3
        refine ⟨⟨_, _, _, u, u2, u3, sq_up s2 (sq_up s1 hx), sq_up s2 (sq_up s1 hx2), sq_up s2 (sq_up s1 hx3), f1, f1', f1''⟩, fun x H' y => ?_⟩
        obtain ⟨T, x', y', z', rfl, hT, rfl, y1, y2, y3⟩ := y
        have z1 := y1 _ (sq_up s2 (sq_up s1 hx))
        rw [f1] at z1; cases z1
        have z2 := y2 _ (sq_up s2 (sq_up s1 hx2))
        rw [f1'] at z2; cases z2
        have z3 := y3 _ (sq_up s2 (sq_up s1 hx3))
        rw [f1''] at z3; cases z3
        exact ⟨upd G4 T (.tup [u, u2, u3]), .new s2 hT, same_upd hT, .tup upd_same (.cons ((f2.up s1).up (same_upd (s2.free hT))) (.cons ((f2'.up s1).up (same_upd (s2.free hT))) (.one ((f2''.up s1).up (same_upd (s2.free hT))))))⟩⟩⟩⟩⟩
end
end DL
namespace DL
open PySem PySem.Spec PyProof.Rows L2

/-! ### defs that want to know what guards stand (repr) -/
structure FnG (P : Program) (w : World) (K : PySem.W.Frag) (mg : Str → Option Value) (base : Heap) (k : Nat) (f : Addr) (fd : FuncData) (ps : List Str) (sp : Sp) : Prop where
  len : ∀ vs H Q E, sp vs H Q E → vs.length = ps.length
  go : ∀ (A : Around) (outer : List Env) (s : Shared) (H : Hp) (args : Args) (us : List Value) (vs : List V) (Q : VK) (E : XK), A.guards = some [] → Room k A → Env0 P w K mg base A outer s H → BindsTo s fd args (ps.zip us) → Vals vs us → sp vs H Q E →
    codeAny (model P w) A (.call (.ref f) args) (CR CX0 outer P w H s Q E) s
section
variable {P : Program} {w : World} {K : PySem.W.Frag} {mg : Str → Option Value} {base : Heap}
theorem fn_goG {x qual : Str} {st : Stmt} {f : Addr} {fd : FuncData} {N ps : List Str} {k : Nat} {Pr : Hp → List PyData → As → RR → Prop} (F : Fun K x qual st f fd) (S : FnScope N ps (defScope st)) (len : ∀ G ds T R, Pr G ds T R → ds.length = ps.length)
    (hbody : ∀ (cdv : Value) (A : Around) (outer : List Env) (s : Shared) (H0 : Hp) (E : XK) (G H : Hp) (ds : List PyData) (T : As) (R : RR), Room k (A.deeper (envOfC qual (defScope st) s.heap.objs.size f cdv)) → (A.deeper (envOfC qual (defScope st) s.heap.objs.size f cdv)).guards = some [] → Pr G ds T R →
      Go (cxOf CX0 P w K mg base N qual (defScope st) f cdv A outer s H0 E).nox (defBody st) (retM G H T.fo R) (De.start N ds) (((As.extx G H T.fo).and (.fact (Same G) fun _ _ e h => h.trans e)).and T)) : FnG P w K mg base (k + 1) f fd ps (spM K Pr) := by
  obtain ⟨oc, od, kV, doc, pm, an, cdv, ct, osl, rfl, lk, hcd⟩ := F.ex
  refine ⟨fun vs H Q E ⟨G, ds, T, R, _, h2, _, h3, _⟩ => (by rw [h2.len]; exact len G ds T R h3), ?_⟩
  intro A outer s H args us vs Q E hgd hr e0 hb r hsp
  have hl : vs.length = ps.length := by obtain ⟨G, ds, T, R, _, h2, _, h3, _⟩ := id hsp; rw [h2.len]; exact len G ds T R h3
  have inK : K.In s.heap := e0.mod.kin.keeps fun b o e => (e0.bs b o e).1
  have nol : s.heap.NoLimit := e0.mod.nolimit.keeps fun b o e => (e0.bs b o e).1
  refine codeAny_call_function hr.depth (inK _ _ lk) rfl S.co S.gen rfl (PySem.W.codeRec_of inK hcd) (hb _ _ _ _ ?_)
  have kinds : ∀ y ∈ ps.zip us, (defScope st).names.lookup y.1 = some .local ∨ ((defScope st).names.lookup y.1 = some .cell ∧ ((cellsFrom (s.heap.objs.size + 1) (defScope st).names []).lookup y.1).isSome = true) := by
    rintro ⟨n, v⟩ hy
    rcases S.par n (List.of_mem_zip hy).1 with q | q
    · left; exact q
    · right; exact ⟨q, PySem.W.cellsFrom_some _ _ _ (.inl q)⟩
  refine wpAny_newFunctionEnv_cells S.kind kinds fun env he s1 x1 => ?_
  subst he
  refine ⟨nol.keeps x1.toInCall.keep, codeAny_func ?_⟩
  obtain ⟨G, ds, T, R, h1, h2, hT, h3, k1⟩ := hsp
  have body := hbody cdv A outer s H E G H ds T R (hr.deeper _) hgd h3
  have run := (pss_go _ (defBody st)).nox (X := cxOf CX0 P w K mg base N qual (defScope st) f cdv A outer s H E)
  have I0 : Inv (cxOf CX0 P w K mg base N qual (defScope st) f cdv A outer s H E) [] (L2.start N vs) H s1 := inv_start S hr.hd e0 hl r x1
  refine wpAny_mono (run.run [] s1 (L2.start N vs) H { nx := fun _ H' => Q .non H', rt := Q } I0 ⟨_, _, _, G, body, ⟨?_, ?_, ?_, ?_⟩, env_start h2, h1, ⟨⟨⟨.refl h1, fun _ _ _ z => z⟩, Same.refl _⟩, hT⟩⟩) (fun fl s' hs => ?_) fun e s' hs => hs
  · rintro σ H2 ⟨G2, _, _, G3, ⟨a, b⟩, r⟩; exact k1 _ G3 H2 a b r
  · rintro v H2 ⟨G2, _, _, G3, ⟨a, b⟩, r⟩; exact k1 _ G3 H2 a b r
  · rintro σ H2 ⟨_, _, _, h⟩; exact h.elim
  · rintro σ H2 ⟨_, _, _, h⟩; exact h.elim
  · cases fl with
    | ret u => obtain ⟨v, σ', H', J, rv, q⟩ := hs; exact ⟨v, H', J.os, J.bare, J.base, J.hok, rv, q⟩
    | next => obtain ⟨σ', H', J, q⟩ := hs; exact ⟨V.non, H', J.os, J.bare, J.base, J.hok, rfl, q⟩
    | brk => obtain ⟨_, _, _, q⟩ := hs; exact q.elim
    | cont => obtain ⟨_, _, _, q⟩ := hs; exact q.elim
/-- such a def, called by its name -/
structure CalG (P : Program) (w : World) (K : PySem.W.Frag) (mg : Str → Option Value) (base : Heap) (k : Nat) (x : Str) (sp : Sp) : Prop where
  ex : ∃ (f : Addr) (fd : FuncData) (ps : List Str), FnG P w K mg base k f fd ps sp ∧ mg x = some (.ref f) ∧ PySem.W.keepIn K (.ref f) = true ∧ Binds K fd ps []
end
section
variable {X : Cx} {x : Str} {k j : Nat} {sp : Sp} {p pos : Pos} {e : Expr} {es : List Expr} {t : TA}
theorem pe_cG (c : CalG X.prog X.w X.K X.mg X.base k x sp) (hgd : X.A.guards = some []) (hr : Room j X.A) (hk : k ≤ j) (hg : Gl X x) (ha : PA X (e :: es) t)
    (hdb : (x == ("__debug__" : Str)) = false := by decide) (he : starEach (e :: es) X.env = (false, eval e X.env) :: starEach es X.env := by rfl) (hpl : (backTo pos (starEach es X.env)).any (·.1) = false := by rfl) :
    PE X (.Call (.Name x p) (e :: es) [] pos) (tCall sp [] E0 t) := by
  obtain ⟨f, fd, ps, F, hm, kp, b⟩ := c.ex
  refine ⟨fun pins s σ H Q I h => wpAny_Call_Name_kw (ld_glob I hg hm ?_ hdb)⟩
  refine PySem.W.callWith_K (h₀ := X.base) I.ok.mod.kin kp (thn (ha.run pos pins s σ H _ I h) fun us s1 ⟨vs, H1, I1, r, q⟩ => ⟨I1.kIn, ?_⟩) he hpl
  have q : sp vs H1 Q E0 := by have z : sp (vs ++ []) H1 Q E0 := q; rwa [List.append_nil] at z
  have hl : us.length = ps.length := by rw [← r.length]; exact F.len _ _ _ _ q
  have hb := b s1 us I1.kIn (by rw [List.append_nil]; exact hl)
  rw [List.append_nil] at hb
  refine wpAny_call (codeAny_mono (F.go X.A X.stack s1 H1 ⟨us, []⟩ us vs Q E0 hgd (hr.mono hk) I1.env0 hb r q) fun rs s' hq => ?_)
  cases rs with
  | error e => exact hq.elim
  | ok fl => cases fl with
    | ret u => exact I1.after hq
    | next => exact hq.elim
    | brk => exact hq.elim
    | cont => exact hq.elim
variable {Δ : De} {S T : As} {R : RR} {d : PyData} {ds : List PyData}
theorem evx_cG {Pr : Hp → List PyData → As → RR → Prop} {PL : List PyData → Prop} (c : CalG X.prog X.w X.K X.mg X.base k x (spM X.K Pr)) (hgd : X.A.guards = some []) (hr : Room j X.A) (hg : Gl X x) (ha : EvAX X (e :: es) Δ S PL) (hT : Has S T) (hP : ∀ G H ds, PL ds → S.p G H → Pr G ds T (rAnd T R))
    (hR : Back R := by first | exact back_x | exact back_xl | exact back_at | exact back_nl) (hk : k ≤ j := by decide)
    (hdb : (x == ("__debug__" : Str)) = false := by decide) (he : starEach (e :: es) X.env = (false, eval e X.env) :: starEach es X.env := by rfl) (hpl : (backTo pos (starEach es X.env)).any (·.1) = false := by rfl) :
    EvR X (.Call (.Name x p) (e :: es) [] pos) Δ S R := by
  obtain ⟨S', h1, h2, h3⟩ := hT
  exact ev_pe (pe_cG c hgd hr hk hg (pa_evx X _) hdb he hpl) fun σ G H Q a b c q => ⟨Δ, S, PL, G, ha, a, b, c, fun vs ds G1 H1 z g p r1 => by
    show spM X.K Pr (vs ++ []) H1 Q _
    rw [List.append_nil]
    exact ⟨G1, ds, T, _, g.sub, r1, (h1 _ _ p).2, hP G1 H1 ds z p, fun v G2 H2 g2 s2 ⟨t2, r2⟩ => q v G2 H2 (g.trans g2) (h2 _ _ ⟨S'.fr g2 (fun a o n k => s2 a o (h3 a n) k) (h1 _ _ p).1, t2⟩) (hR _ _ _ _ _ _ _ g r2)⟩⟩
theorem has_tt : Has S .tt := ⟨S, fun _ _ h => ⟨h, True.intro⟩, fun _ _ h => h.1, fun _ _ h => h⟩
/-- what can be shown -/
structure Shw (d : PyData) : Prop where
  sh : SeqAt.shaped d = true
  ok : d.showable = true
  de : d.depth ≤ 60
  ln : d.shown.length ≤ sizeLine
theorem call_repr (hgd : X.A.guards = some []) (hu : X.A.units + 64 < cLine) (h : Shw d) (hd : (∃ ds, d = .list ds) ∨ ∃ ds, d = .tuple ds) : CallD X (.builtin "repr") S [d] (rAt X.K (.str d.shown)) := by
  refine ⟨fun vs H Q => ∃ a, vs = [.ref a] ∧ Dp X.K H (.ref a) d ∧ Q (.str d.shown) H, ?_, ?_⟩
  · intro pins s σ H vs us Q I r ⟨a, e, hp, q⟩
    subst e
    rw [vals_ref1 r]
    obtain ⟨as, rd⟩ := Dp.reads I d (.ref a) (.ref a) hp rfl
    refine repr_of_reads' rd h.ok (fun z => ?_) hgd (by have := h.de; omega) (fun _ _ z => z) (fun h' u tk hk => ?_) h.ln
    · rw [PyData.hasDict_of_canLay d (SeqAt.canLay_of_shaped h.sh)] at z; cases z
    · exact ⟨.str d.shown, H, I.kept (t' := tk) hk, ⟨u, rfl⟩, q⟩
  · intro G H vs Q b c ha q
    cases ha with
    | cons h1 h2 =>
      cases h2
      have hp := At.dps h1 b h.sh
      rcases hd with ⟨ds, rfl⟩ | ⟨ds, rfl⟩
      · cases h1 with
        | lst hs ha => exact ⟨_, rfl, hp, q _ G H (.refl b) c (.str _)⟩
      · cases h1 with
        | tup hs ha => exact ⟨_, rfl, hp, q _ G H (.refl b) c (.str _)⟩
end
end DL
namespace DL
open PySem PySem.Spec PyProof.Rows L2

/-! ### instances -/
def fIx (f : Str) : List Str → Option Nat
  | [] => none
  | x :: xs => if f == x then some 0 else (fIx f xs).map (· + 1)
theorem fIx_get {f : Str} : ∀ {fs : List (Str × V)} {n : Nat}, fIx f (fs.map (·.1)) = some n → ∃ v, fs.lookup f = some v ∧ (fs.map (·.2))[n]? = some v
  | [], n, h => by cases h
  | (g, x) :: r, n, h => by
    have h : (if f == g then some 0 else (fIx f (r.map (·.1))).map (· + 1)) = some n := h
    show ∃ v, (match f == g with | true => some x | false => r.lookup f) = some v ∧ _
    cases e : f == g with
    | true =>
      rw [e] at h
      have h : some 0 = some n := h
      cases h
      exact ⟨x, rfl, rfl⟩
    | false =>
      rw [e] at h
      have h : (fIx f (r.map (·.1))).map (· + 1) = some n := h
      obtain ⟨m, hm, rfl⟩ := Option.map_eq_some_iff.mp h
      obtain ⟨v, h1, h2⟩ := fIx_get hm
      exact ⟨v, h1, h2⟩
theorem fIx_none {f : Str} : ∀ {fs : List (Str × V)}, fIx f (fs.map (·.1)) = none → fs.lookup f = none
  | [], _ => rfl
  | (g, x) :: r, h => by
    have h : (if f == g then some 0 else (fIx f (r.map (·.1))).map (· + 1)) = none := h
    show (match f == g with | true => some x | false => r.lookup f) = none
    cases e : f == g with
    | true =>
      rw [e] at h
      have h : some 0 = (none : Option Nat) := h
      cases h
    | false =>
      rw [e] at h
      have h : (fIx f (r.map (·.1))).map (· + 1) = none := h
      exact fIx_none (Option.map_eq_none_iff.mp h)
theorem putF_new {f : Str} {v : V} : ∀ {fs : List (Str × V)}, fIx f (fs.map (·.1)) = none → putF f v fs = fs ++ [(f, v)]
  | [], _ => rfl
  | (g, x) :: r, h => by
    have h : (if f == g then some 0 else (fIx f (r.map (·.1))).map (· + 1)) = none := h
    cases e : f == g with
    | true =>
      rw [e] at h
      have h : some 0 = (none : Option Nat) := h
      cases h
    | false =>
      rw [e] at h
      have h : (fIx f (r.map (·.1))).map (· + 1) = none := h
      have ne : g ≠ f := fun z => by rw [z] at e; simp at e
      show (if g = f then (g, v) :: r else (g, x) :: putF f v r) = _
      rw [if_neg ne, putF_new (Option.map_eq_none_iff.mp h)]
      rfl
def instC (K : PySem.W.Frag) (C : Addr) (ns : List Str) (ds : List PyData) (G : Hp) (o : HO) : Prop := ∃ (dx : Addr) (fs : List (Str × V)), o = .ins C dx fs ∧ fs.map (·.1) = ns ∧ Ats K G (fs.map (·.2)) ds
/-- an instance that is being made -/
def As.inst (K : PySem.W.Frag) (x C : Addr) (ns : List Str) (ds : List PyData) : As :=
  .has x (instC K C ns ds) (fun _ _ _ e h => by
    obtain ⟨dx, fs, h1, h2, h3⟩ := h
    exact ⟨dx, fs, h1, h2, h3.up e⟩) (fun _ _ h => by
    obtain ⟨_, _, h, _⟩ := h
    cases h)
section
variable {X : Cx} {o e : Expr} {es : List Expr} {Δ : De} {S T : As} {R : RR} {d : PyData} {ds es' : List PyData} {ns : List Str} {pos p apos : Pos} {f : Str} {a C x : Addr} {P : PyData → Prop} {PL : List PyData → Prop} {rest : List Stmt} {D : EndsG}
/-- o.f -/
theorem ev_fld (n : Nat) (ho : Ev X o Δ S (insD a C ns ds)) (c : Cls X.K C) (na : NoAttr X.K C f) (hd : ds[n]? = some d) (hn : fIx f ns = some n := by decide +kernel) (hb : attributeBase o f X.env (eval o X.env) = eval o X.env := by rfl) : Ev X (.Attribute o f pos) Δ S d :=
  ev_pe (pe_fld (pe_ev X o) hb) fun σ G H Q a' b c' q => ⟨Δ, S, _, G, ho, a', b, c', fun v G1 H1 g p1 r => by
    generalize hD : insD a C ns ds = D0 at r
    cases r with
    | ins hs ha =>
      injection hD with h1
      injection h1 with h1 _
      injection h1 with h1 h2
      injection h1 with h1
      injection h2 with h2
      injection h2 with h2 h3
      injection h2 with h2
      injection h3 with h3 h4
      injection h3 with h3
      injection h4 with h4 _
      injection h4 with h4
      cases Int.ofNat.inj h1
      cases Int.ofNat.inj h2
      have h3 := List.map_inj_right (f := PyData.str) (fun a b z => by injection z) |>.mp h3
      subst h4
      rw [h3] at hn
      obtain ⟨v, f1, f2⟩ := fIx_get hn
      obtain ⟨v', f3, f4⟩ := ha.get hd
      rw [f2] at f3
      cases f3
      exact ⟨_, _, _, _, v, rfl, g.sub _ _ hs, c, na, f1, q v G1 H1 g p1 f4⟩
    | _ => cases hD⟩
theorem At.ins_inv {K : PySem.W.Frag} {G : Hp} {v : V} (h : At K G v (insD a C ns ds)) : v = .ref a ∧ ∃ dx fs, G a = some (.ins C dx fs) ∧ fs.map (·.1) = ns ∧ Ats K G (fs.map (·.2)) ds := by
  generalize hD : insD a C ns ds = D0 at h
  cases h with
  | ins hs ha =>
    injection hD with h1
    injection h1 with h1 _
    injection h1 with h1 h2
    injection h1 with h1
    injection h2 with h2
    injection h2 with h2 h3
    injection h2 with h2
    injection h3 with h3 h4
    injection h3 with h3
    injection h4 with h4 _
    injection h4 with h4
    cases Int.ofNat.inj h1
    cases Int.ofNat.inj h2
    have h3 := List.map_inj_right (f := PyData.str) (fun a b z => by injection z) |>.mp h3
    subst h4
    exact ⟨rfl, _, _, hs, h3.symm, ha⟩
  | _ => cases hD
theorem At.ins_ob {K : PySem.W.Frag} {G : Hp} {v : V} (h : At K G v (insD a C ns ds)) : At K G v (ob a) := by
  rw [h.ins_inv.1]; exact .obj a
theorem EvR.ob (h : Ev X e Δ S (insD a C ns ds)) : Ev X e Δ S (ob a) := h.imp fun _ _ _ _ _ _ _ r => r.ins_ob
/-- a field of what is being made -/
theorem ev_fldM (n : Nat) (hS : S.le (.inst X.K a C ns ds)) (ho : Ev X o Δ S (ob a)) (c : Cls X.K C) (na : NoAttr X.K C f) (hd : ds[n]? = some d) (hn : fIx f ns = some n := by decide +kernel) (hb : attributeBase o f X.env (eval o X.env) = eval o X.env := by rfl) : Ev X (.Attribute o f pos) Δ S d :=
  ev_pe (pe_fld (pe_ev X o) hb) fun σ G H Q a' b c' q => ⟨Δ, S, _, G, ho, a', b, c', fun v G1 H1 g p1 r => by
    obtain ⟨_, o1, h1, dx, fs, rfl, h2, h3⟩ := hS _ _ p1
    rw [At.obj_eq r]
    rw [← h2] at hn
    obtain ⟨v, f1, f2⟩ := fIx_get hn
    obtain ⟨v', f3, f4⟩ := h3.get hd
    rw [f2] at f3
    cases f3
    exact ⟨_, _, _, _, v, rfl, h1, c, na, f1, q v G1 H1 g p1 f4⟩⟩
/-- x.f = e, f a new field -/
theorem go_fld (ho : Ev X o Δ (S.and (.inst X.K x C ns ds)) (ob x)) (he : EvX X e Δ (S.and (.inst X.K x C ns ds)) P) (c : Cls X.K C) (na : NoAttr X.K C f) (hS : ¬ S.fo x) (k : ∀ d, P d → Go X rest D Δ (S.and (.inst X.K x C (ns ++ [f]) (ds ++ [d])))) (hn : fIx f ns = none := by decide +kernel) (hl : ns.length < 1000 := by decide)
    (hs : swapsWith e (some (.Attribute o f p)) pos.line X.env = pure false := by rfl) : Go X (.Assign [.Attribute o f p] e pos :: rest) D Δ (S.and (.inst X.K x C ns ds)) :=
  go_cons (ps_fld (pe_ev X o) (pe_ev X e) hs) fun σ G H D' l a b c' => ⟨Δ, _, _, G, he, a, b, c', fun v G1 H1 g1 p1 ⟨d, z, r1⟩ => ⟨Δ, _, _, G1, ho, a.up g1.gx, g1.sub, p1, fun w G2 H2 g2 p2 r2 => by
    obtain ⟨pS, hG, o1, h1, dx, fs, rfl, h2, h3⟩ := p2
    rw [At.obj_eq r2]
    have hz : fs.length < 1000 := by have := congrArg List.length h2; rw [List.length_map] at this; omega
    refine ⟨x, C, dx, fs, rfl, h1, c, na, hz, l.nx _ _ ⟨G2, g1.gx.trans g2.gx, fun b' u q => ?_, Δ, _, k d z, a.up (g1.gx.trans g2.gx), S.stb hS (fun ⟨_, z⟩ => by cases z) pS hG (by rw [h1]; exact fun z => by cases z), hG, _, upd_same, dx, _, rfl, ?_, ?_⟩⟩
    · rw [upd_ne (ne_of_none q hG)]; exact g2.sub _ _ q
    · rw [putF_new (by rw [h2]; exact hn), List.map_append, h2]; rfl
    · rw [putF_new (by rw [h2]; exact hn), List.map_append]
      exact h3.app (.one (r1.up g2.gx))⟩⟩
/-- x.f = a new list that may change yet -/
theorem go_fldL {nm : Str} {np : Pos} (i0 : Nat) (hd0 : Δ[i0]? = some (some (DL.ob x))) (he : EvL X e Δ (S.and (.inst X.K x C ns ds)) es') (c : Cls X.K C) (na : NoAttr X.K C f) (hS : ¬ S.fo x) (k : ∀ q, ¬ S.own q → q ≠ x → Go X rest D Δ ((S.and (.acc X.K q es')).and (.inst X.K x C (ns ++ [f]) (ds ++ [ob q])))) (hn : fIx f ns = none := by decide +kernel) (hl : ns.length < 1000 := by decide)
    (hN0 : X.N[i0]? = some nm := by rfl) (hv0 : Vis X.env.scope nm := by first | exact Or.inl rfl | exact Or.inr (Or.inl rfl) | exact Or.inr (Or.inr rfl)) (hx1 : (nm == ("__debug__" : Str)) = false := by decide) (hx2 : (nm == ("__classdict__" : Str)) = false := by decide)
    (hs : swapsWith e (some (.Attribute (.Name nm np) f p)) pos.line X.env = pure false := by rfl) : Go X (.Assign [.Attribute (.Name nm np) f p] e pos :: rest) D Δ (S.and (.inst X.K x C ns ds)) :=
  go_cons (ps_fld (ta := fun σ H Q => ∃ G, EnvOk X.K G σ Δ ∧ Same G H ∧ ∀ v, At X.K G v (ob x) → Q v H) ⟨fun pins s σ H Q I ⟨G, a, b, q⟩ => by
    obtain ⟨v, z1, z2⟩ := a.2 i0 _ hd0
    exact (pe_var hN0 hv0 hx1 hx2).run pins s σ H Q I ⟨v, z1, q v z2⟩⟩ (pe_ev X e) hs) fun σ G H D' l a b c' => ⟨Δ, _, _, G, he, a, b, c', fun v G1 H1 g1 p1 ⟨q, xs, e1, e2, e3, e4, e5⟩ => ⟨G1, a.up g1.gx, g1.sub, fun w r2 => by
    subst e1
    obtain ⟨pS, hG, o1, h1, dx, fs, rfl, h2, h3⟩ := p1
    obtain ⟨pS0, hG0, o0, h0, _⟩ := c'
    have hq : q ≠ x := by rintro rfl; rw [e2] at h0; cases h0
    have nq : ¬ S.own q := not_own pS0 e2
    rw [At.obj_eq r2]
    have hz : fs.length < 1000 := by have := congrArg List.length h2; rw [List.length_map] at this; omega
    refine ⟨x, C, dx, fs, rfl, h1, c, na, hz, l.nx _ _ ⟨G1, g1.gx, fun b' u z => ?_, Δ, _, k q nq hq, a.up g1.gx, ⟨S.stb hS (fun ⟨_, z⟩ => by cases z) pS hG (by rw [h1]; exact fun z => by cases z), e3, xs, ?_, e5⟩, hG, _, upd_same, dx, _, rfl, ?_, ?_⟩⟩
    · rw [upd_ne (ne_of_none z hG)]; exact g1.sub _ _ z
    · rw [upd_ne hq]; exact e4
    · rw [putF_new (by rw [h2]; exact hn), List.map_append, h2]; rfl
    · rw [putF_new (by rw [h2]; exact hn), List.map_append]
      exact h3.app (.one (.obj q))⟩⟩
/-- x.f = a new list that may change yet -/
theorem go_fldXl {nm : Str} {np : Pos} (i0 : Nat) (hd0 : Δ[i0]? = some (some (DL.ob x))) (he : EvXl X e Δ (S.and (.inst X.K x C ns ds)) PL) (c : Cls X.K C) (na : NoAttr X.K C f) (hS : ¬ S.fo x) (k : ∀ q es', PL es' → ¬ S.own q → q ≠ x → Go X rest D Δ ((S.and (.acc X.K q es')).and (.inst X.K x C (ns ++ [f]) (ds ++ [ob q])))) (hn : fIx f ns = none := by decide +kernel) (hl : ns.length < 1000 := by decide)
    (hN0 : X.N[i0]? = some nm := by rfl) (hv0 : Vis X.env.scope nm := by first | exact Or.inl rfl | exact Or.inr (Or.inl rfl) | exact Or.inr (Or.inr rfl)) (hx1 : (nm == ("__debug__" : Str)) = false := by decide) (hx2 : (nm == ("__classdict__" : Str)) = false := by decide)
    (hs : swapsWith e (some (.Attribute (.Name nm np) f p)) pos.line X.env = pure false := by rfl) : Go X (.Assign [.Attribute (.Name nm np) f p] e pos :: rest) D Δ (S.and (.inst X.K x C ns ds)) :=
  go_cons (ps_fld (ta := fun σ H Q => ∃ G, EnvOk X.K G σ Δ ∧ Same G H ∧ ∀ v, At X.K G v (ob x) → Q v H) ⟨fun pins s σ H Q I ⟨G, a, b, q⟩ => by
    obtain ⟨v, z1, z2⟩ := a.2 i0 _ hd0
    exact (pe_var hN0 hv0 hx1 hx2).run pins s σ H Q I ⟨v, z1, q v z2⟩⟩ (pe_ev X e) hs) fun σ G H D' l a b c' => ⟨Δ, _, _, G, he, a, b, c', fun v G1 H1 g1 p1 ⟨es', hes, q, xs, e1, e2, e3, e4, e5⟩ => ⟨G1, a.up g1.gx, g1.sub, fun w r2 => by
    subst e1
    obtain ⟨pS, hG, o1, h1, dx, fs, rfl, h2, h3⟩ := p1
    obtain ⟨pS0, hG0, o0, h0, _⟩ := c'
    have hq : q ≠ x := by rintro rfl; rw [e2] at h0; cases h0
    have nq : ¬ S.own q := not_own pS0 e2
    rw [At.obj_eq r2]
    have hz : fs.length < 1000 := by have := congrArg List.length h2; rw [List.length_map] at this; omega
    refine ⟨x, C, dx, fs, rfl, h1, c, na, hz, l.nx _ _ ⟨G1, g1.gx, fun b' u z => ?_, Δ, _, k q es' hes nq hq, a.up g1.gx, ⟨S.stb hS (fun ⟨_, z⟩ => by cases z) pS hG (by rw [h1]; exact fun z => by cases z), e3, xs, ?_, e5⟩, hG, _, upd_same, dx, _, rfl, ?_, ?_⟩⟩
    · rw [upd_ne (ne_of_none z hG)]; exact g1.sub _ _ z
    · rw [upd_ne hq]; exact e4
    · rw [putF_new (by rw [h2]; exact hn), List.map_append, h2]; rfl
    · rw [putF_new (by rw [h2]; exact hn), List.map_append]
      exact h3.app (.one (.obj q))⟩⟩
/-- C(e, ..): an instance that is known then -/
theorem evx_mk {n : Str} {k j : Nat} {Pr : Hp → List PyData → As → RR → Prop} (c : C8.Mak X.prog X.w X.K X.mg X.base k n C (spM X.K Pr) []) (hr : Room j X.A) (hg : Gl X n) (ha : EvAX X (e :: es) Δ S PL)
    (hP : ∀ G H ds, PL ds → S.p G H → ∀ a, ∃ ns ds', Pr G (ob a :: ds) (.inst X.K a C [] []) (fun _ _ v G2 H2 => v = .non ∧ (As.inst X.K a C ns ds').p G2 H2) ∧ P (insD a C ns ds')) (hk : k + 1 ≤ j := by decide)
    (hdb : (n == ("__debug__" : Str)) = false := by decide) (he : starEach (e :: es) X.env = (false, eval e X.env) :: starEach es X.env := by rfl) (hpl : (backTo pos (starEach es X.env)).any (·.1) = false := by rfl) :
    EvX X (.Call (.Name n p) (e :: es) [] pos) Δ S P :=
  ev_pe (C8.pe_mk c hr hk hg (pa_evx X _) hdb he hpl) fun σ G H Q a b c' q => ⟨Δ, S, PL, G, ha, a, b, c', fun vs ds G1 H1 z g p1 r1 y dx hy hdx hne => by
    obtain ⟨ns, ds', h1, h2⟩ := hP G1 H1 ds z p1 y
    show spM X.K Pr (V.ref y :: (vs ++ [])) _ _ _
    rw [List.append_nil]
    have s1 : Same H1 (upd H1 dx (.own y)) := same_upd hdx
    have hy2 : upd H1 dx (.own y) y = none := by rw [upd_ne (Ne.symm hne)]; exact hy
    have s2 : Same H1 (upd (upd H1 dx (.own y)) y (.ins C dx [])) := s1.trans (same_upd hy2)
    have gr : Gr G1 H1 G1 (upd (upd H1 dx (.own y)) y (.ins C dx [])) := Gr.h g.sub s2
    have hGy : G1 y = none := g.sub.free hy
    refine ⟨G1, ob y :: ds, As.inst X.K y C [] [], _, g.sub.trans s2, .cons (.obj y) r1, ⟨hGy, _, upd_same, dx, [], rfl, rfl, .nil⟩, h1, fun v G2 H2 g2 fr ⟨hv, hG2, o2, e1, dx2, fs, e2, e3, e4⟩ => ?_⟩
    subst e2 e3
    have pS2 : S.p G2 H2 := S.fr g2 (fun b o n k => fr b o (fun hb => by
      have hb : b = y := hb
      subst hb
      exact not_own p1 hy (S.fo_own n)) k) (S.cl gr s2 p1)
    refine ⟨hv, q _ (upd G2 y (.ins C dx2 fs)) H2 ?_ (S.frz (not_own p1 hy) pS2 hG2 e1) ⟨_, h2, .ins upd_same (e4.up (same_upd hG2))⟩⟩
    exact ((g.trans gr).trans g2).frz (none_back g hy) hG2 e1⟩
/-- o.m(e, ..), o an instance that is known -/
theorem ev_mt {m : Str} {k j : Nat} {pl : Sem Bool} {Pr : Hp → List PyData → RR → Prop} (c : C8.Met X.prog X.w X.K X.mg X.base k C m (spP X.K Pr) []) (hr : Room j X.A) (ho : Ev X o Δ S (insD a C ns ds)) (ha : EvA X (e :: es) Δ S es') (hP : ∀ G H, S.p G H → Pr G (insD a C ns ds :: es') R)
    (hR : Back R := by first | exact back_at | exact back_nl) (hm : fIx m ns = none := by decide +kernel) (hk : k ≤ j := by decide)
    (hst : starEach (e :: es) X.env = (false, eval e X.env) :: starEach es X.env := by rfl) (hpl : (backTo pos (starEach es X.env)).any (·.1) = false := by rfl)
    (ht : eval (.Call (.Attribute o m apos) (e :: es) [] pos) X.env = (do
      let ov ← eval o X.env
      standAt apos.atName
      let (f, first) ← holding [ov] (getMethod ov m pl)
      callWith pos f first (backTo pos (starEach (e :: es) X.env)) (backToKw pos (keywordEach [] X.env))) := by rfl) :
    EvR X (.Call (.Attribute o m apos) (e :: es) [] pos) Δ S R :=
  ev_pe (C8.pe_mt (pl := pl) c hr hk (pe_ev X o) (pa_ev X _) hst hpl ht) fun σ G H Q a' b c' q => ⟨Δ, S, _, G, ho, a', b, c', fun v G1 H1 g p1 r => by
    obtain ⟨rfl, dx, fs, h1, h2, h3⟩ := r.ins_inv
    refine ⟨a, dx, fs, rfl, g.sub _ _ h1, fIx_none (by rw [h2]; exact hm), Δ, S, es', G1, ha, a'.up g.gx, g.sub, p1, fun vs G2 H2 g2 p2 r2 => ?_⟩
    show spP X.K Pr (V.ref a :: (vs ++ [])) H2 Q _
    rw [List.append_nil]
    exact ⟨G2, _ :: es', R, g2.sub, .cons (r.up g2.gx) r2, hP _ _ p2, fun v G3 H3 g3 s3 r3 => q v G3 H3 ((g.trans g2).trans g3) (S.cl g3 s3 p2) (hR _ _ _ _ _ _ _ (g.trans g2) r3)⟩⟩
theorem ev_mt0 {m : Str} {k j : Nat} {pl : Sem Bool} {Pr : Hp → List PyData → RR → Prop} (c : C8.Met X.prog X.w X.K X.mg X.base k C m (spP X.K Pr) []) (hr : Room j X.A) (ho : Ev X o Δ S (insD a C ns ds)) (hP : ∀ G H, S.p G H → Pr G [insD a C ns ds] R)
    (hR : Back R := by first | exact back_at | exact back_nl) (hm : fIx m ns = none := by decide +kernel) (hk : k ≤ j := by decide)
    (ht : eval (.Call (.Attribute o m apos) [] [] pos) X.env = (do
      let ov ← eval o X.env
      standAt apos.atName
      let (f, first) ← holding [ov] (getMethod ov m pl)
      callWith pos f first (backTo pos (starEach [] X.env)) (backToKw pos (keywordEach [] X.env))) := by rfl) :
    EvR X (.Call (.Attribute o m apos) [] [] pos) Δ S R :=
  ev_pe (C8.pe_mt0 (pl := pl) c hr hk (pe_ev X o) ht) fun σ G H Q a' b c' q => ⟨Δ, S, _, G, ho, a', b, c', fun v G1 H1 g p1 r => by
    obtain ⟨rfl, dx, fs, h1, h2, h3⟩ := r.ins_inv
    refine ⟨a, dx, fs, rfl, g.sub _ _ h1, fIx_none (by rw [h2]; exact hm), ?_⟩
    show spP X.K Pr [V.ref a] H1 Q E0
    exact ⟨G1, _, R, g.sub, .one r, hP _ _ p1, fun v G3 H3 g3 s3 r3 => q v G3 H3 (g.trans g3) (S.cl g3 s3 p1) (hR _ _ _ _ _ _ _ g r3)⟩⟩
end
end DL
namespace DL
open PySem PySem.Spec PyProof.Rows L2

/-! ### dicts, by their data -/
section
variable {κ κ' : Type} [DecidableEq κ] [DecidableEq κ']
def zk (f : κ → κ') (kvs : List (κ × PyData)) (vs : List V) : List (κ' × V) := List.zipWith (fun kv v => (f kv.1, v)) kvs vs
def dGet (kvs : List (κ × PyData)) (k : κ) : Option PyData := (kvs.find? fun kv => decide (kv.1 = k)).map (·.2)
def dPut (kvs : List (κ × PyData)) (k : κ) (d : PyData) : List (κ × PyData) := if (kvs.any fun kv => decide (kv.1 = k)) = true then kvs.map (fun kv => if kv.1 = k then (kv.1, d) else kv) else kvs ++ [(k, d)]
theorem dGet_any (k : κ) : ∀ kvs : List (κ × PyData), (kvs.any fun kv => decide (kv.1 = k)) = (dGet kvs k).isSome
  | [] => rfl
  | p :: r => by
    have ih := dGet_any k r
    by_cases e : p.1 = k
    · simp [dGet, e]
    · simp only [List.any_cons, decide_eq_false e, Bool.false_or, ih]
      simp [dGet, List.find?_cons, e]
theorem zk_len {f : κ → κ'} {kvs : List (κ × PyData)} {vs : List V} (h : kvs.length = vs.length) : (zk f kvs vs).length = kvs.length := by
  unfold zk; rw [List.length_zipWith]; omega
variable {K : PySem.W.Frag} {G : Hp} {f : κ → κ'} (hf : ∀ a b, f a = f b → a = b)
include hf in
theorem zk_get (k : κ) : ∀ {kvs : List (κ × PyData)} {vs : List V}, Ats K G vs (kvs.map (·.2)) → (dGet kvs k = none → valV (zk f kvs vs) (f k) = none) ∧ ∀ d, dGet kvs k = some d → ∃ v, valV (zk f kvs vs) (f k) = some v ∧ At K G v d
  | [], _, h => by
    cases h
    exact ⟨fun _ => rfl, fun d e => by cases e⟩
  | p :: r, _, h => by
    cases h with
    | @cons v vs _ _ h1 h2 =>
      obtain ⟨i1, i2⟩ := zk_get k h2
      show (dGet (p :: r) k = none → valV ((f p.1, v) :: zk f r vs) (f k) = none) ∧ ∀ d, dGet (p :: r) k = some d → ∃ v', valV ((f p.1, v) :: zk f r vs) (f k) = some v' ∧ At K G v' d
      by_cases e : p.1 = k
      · have e1 : dGet (p :: r) k = some p.2 := by simp [dGet, e]
        refine ⟨fun z => (by rw [e1] at z; cases z), fun d z => ⟨v, valV_pos (by rw [e]), ?_⟩⟩
        rw [e1] at z; cases z; exact h1
      · have e1 : dGet (p :: r) k = dGet r k := by simp [dGet, List.find?_cons, e]
        have e2 : valV ((f p.1, v) :: zk f r vs) (f k) = valV (zk f r vs) (f k) := valV_neg (fun z => e (hf _ _ z))
        rw [e1, e2]
        exact ⟨i1, i2⟩
include hf in
theorem zk_put {v : V} {d : PyData} {k : κ} (hv : At K G v d) {kvs : List (κ × PyData)} {vs : List V} (h : Ats K G vs (kvs.map (·.2))) : ∃ vs', putK (zk f kvs vs) (f k) v = zk f (dPut kvs k d) vs' ∧ Ats K G vs' ((dPut kvs k d).map (·.2)) := by
  have hany : ((zk f kvs vs).any fun kv => decide (kv.1 = f k)) = (kvs.any fun kv => decide (kv.1 = k)) := by
    rw [valV_any, dGet_any]
    obtain ⟨h1, h2⟩ := zk_get hf k h
    cases e : dGet kvs k with
    | none => rw [h1 e]; rfl
    | some d => obtain ⟨v, q, _⟩ := h2 d e; rw [q]; rfl
  unfold putK dPut
  rw [hany]
  split
  · have go : ∀ {kvs : List (κ × PyData)} {vs : List V}, Ats K G vs (kvs.map (·.2)) → ∃ vs', (zk f kvs vs).map (fun kv => if kv.1 = f k then (kv.1, v) else kv) = zk f (kvs.map fun kv => if kv.1 = k then (kv.1, d) else kv) vs' ∧ Ats K G vs' ((kvs.map fun kv => if kv.1 = k then (kv.1, d) else kv).map (·.2)) := by
      intro kvs
      induction kvs with
      | nil => intro vs h; cases h; exact ⟨[], rfl, .nil⟩
      | cons p r ih =>
        intro vs h
        cases h with
        | @cons u us _ _ h1 h2 =>
          obtain ⟨vs', e1, e2⟩ := ih h2
          by_cases e : p.1 = k
          · refine ⟨v :: vs', ?_, ?_⟩
            · show (if f p.1 = f k then (f p.1, v) else (f p.1, u)) :: (zk f r us).map _ = _
              rw [if_pos (by rw [e]), e1, List.map_cons, if_pos e]
              rfl
            · rw [List.map_cons, if_pos e]
              exact .cons hv e2
          · refine ⟨u :: vs', ?_, ?_⟩
            · show (if f p.1 = f k then (f p.1, v) else (f p.1, u)) :: (zk f r us).map _ = _
              rw [if_neg (fun z => e (hf _ _ z)), e1, List.map_cons, if_neg e]
              rfl
            · rw [List.map_cons, if_neg e]
              exact .cons h1 e2
    exact go h
  · have hl : kvs.length = vs.length := by have := h.len; rw [List.length_map] at this; omega
    refine ⟨vs ++ [v], ?_, ?_⟩
    · unfold zk
      rw [List.zipWith_append hl]
      rfl
    · rw [List.map_append]
      exact h.app (.one hv)
theorem dPut_len (kvs : List (κ × PyData)) (k : κ) (d : PyData) : (dPut kvs k d).length ≤ kvs.length + 1 := by
  unfold dPut
  split
  · rw [List.length_map]; omega
  · simp
theorem dGet_put (kvs : List (κ × PyData)) (k j : κ) (d : PyData) : dGet (dPut kvs k d) j = if j = k then some d else dGet kvs j := by
  have hmap : ∀ kvs : List (κ × PyData), dGet (kvs.map fun kv => if kv.1 = k then (kv.1, d) else kv) j = (dGet kvs j).map fun x => if j = k then d else x := by
    intro kvs
    induction kvs with
    | nil => rfl
    | cons p r ih =>
      unfold dGet at ih ⊢
      rw [List.map_cons]
      by_cases e : p.1 = k
      · rw [if_pos e]
        by_cases e2 : p.1 = j
        · simp [List.find?_cons, e2, e2.symm.trans e]
        · simp only [List.find?_cons, decide_eq_false e2]; exact ih
      · rw [if_neg e]
        by_cases e2 : p.1 = j
        · have : ¬ j = k := fun z => e (e2.trans z)
          simp [List.find?_cons, e2, this]
        · simp only [List.find?_cons, decide_eq_false e2]; exact ih
  have hany := dGet_any k kvs
  unfold dPut
  split
  · rename_i h
    rw [hmap]
    rw [hany] at h
    obtain ⟨x, hx⟩ := Option.isSome_iff_exists.mp h
    by_cases e : j = k
    · rw [if_pos e, e, hx, Option.map_some, if_pos rfl]
    · simp only [if_neg e]; cases dGet kvs j <;> rfl
  · rename_i h
    rw [hany] at h
    have hn : dGet kvs k = none := by simpa using h
    by_cases e : j = k
    · subst e
      rw [if_pos rfl]
      unfold dGet at hn ⊢
      rw [List.find?_append]
      have : kvs.find? (fun kv => decide (kv.1 = j)) = none := by simpa using hn
      rw [this]
      simp
    · rw [if_neg e]
      unfold dGet
      rw [List.find?_append]
      cases q : kvs.find? (fun kv => decide (kv.1 = j)) with
      | some x => rfl
      | none => simp [Ne.symm e]
end
/-! tuple keys of ints; int keys -/
def tkf (k : List Int) : List L2.Key := k.map Sum.inl
theorem tkf_inj (a b : List Int) (h : tkf a = tkf b) : a = b := (List.map_inj_right (fun _ _ z => Sum.inl.inj z)).mp h
theorem tkf_kV (k : List Int) : (tkf k).map kV = k.map V.int := by unfold tkf; rw [List.map_map]; rfl
def ikf (k : Int) : L2.Key := Sum.inl k
theorem ikf_inj (a b : Int) (h : ikf a = ikf b) : a = b := Sum.inl.inj h
def dTC (K : PySem.W.Frag) (kvs : List (List Int × PyData)) (G : Hp) (o : HO) : Prop := ∃ vs : List V, o = .dT (zk tkf kvs vs) ∧ Ats K G vs (kvs.map (·.2))
def As.dT (K : PySem.W.Frag) (p : Addr) (kvs : List (List Int × PyData)) : As :=
  .has p (dTC K kvs) (fun _ _ _ e h => by obtain ⟨vs, h1, h2⟩ := h; exact ⟨vs, h1, h2.up e⟩) (fun _ _ h => by obtain ⟨_, h, _⟩ := h; cases h)
def dKC (K : PySem.W.Frag) (kvs : List (Int × PyData)) (G : Hp) (o : HO) : Prop := ∃ vs : List V, o = .dK (zk ikf kvs vs) ∧ Ats K G vs (kvs.map (·.2))
def As.dK (K : PySem.W.Frag) (p : Addr) (kvs : List (Int × PyData)) : As :=
  .has p (dKC K kvs) (fun _ _ _ e h => by obtain ⟨vs, h1, h2⟩ := h; exact ⟨vs, h1, h2.up e⟩) (fun _ _ h => by obtain ⟨_, h, _⟩ := h; cases h)
section
variable {X : Cx} {o e : Expr} {es : List Expr} {Δ : De} {S T : As} {R : RR} {d : PyData} {ds : List PyData} {pos p apos : Pos} {q : Addr} {P : PyData → Prop} {rest : List Stmt} {D : EndsG} {k : List Int} {kvs : List (List Int × PyData)} {i : Int} {ivs : List (Int × PyData)}
theorem tup_key {K : PySem.W.Frag} {G : Hp} {v : V} (h : At K G v (.tuple (k.map .int))) : ∃ b, v = .ref b ∧ G b = some (.tup ((tkf k).map kV)) := by
  cases h with
  | tup hs ha => exact ⟨_, rfl, by rw [tkf_kV, ← Ats.of_ints ha]; exact hs⟩
theorem dT_get {G H : Hp} (h : (As.dT X.K q kvs).p G H) (e : Same G H) {v : V} (hv : At X.K G v (.tuple (k.map .int))) : (dGet kvs k = none → DGet H q v none) ∧ ∀ d, dGet kvs k = some d → ∃ u, DGet H q v (some u) ∧ At X.K G u d := by
  obtain ⟨_, o, h1, vs, rfl, h2⟩ := h
  obtain ⟨b, rfl, hb⟩ := tup_key hv
  obtain ⟨g1, g2⟩ := zk_get (f := tkf) tkf_inj k h2
  refine ⟨fun z => ?_, fun d z => ?_⟩
  · have := DGet.t h1 (e _ _ hb)
    rw [g1 z] at this
    exact this
  · obtain ⟨u, f1, f2⟩ := g2 d z
    refine ⟨u, ?_, f2⟩
    have := DGet.t h1 (e _ _ hb)
    rw [f1] at this
    exact this
/-- k in o, k not in o -/
theorem evt_dTin (hu : X.A.units + 1 < cLine) (hS : S.le (.dT X.K q kvs)) (he : Ev X e Δ S (.tuple (k.map .int))) (ho : Ev X o Δ S (ob q)) (hm : behindInMarks .In o = false := by first | exact nomark _ | rfl | with_unfolding_all rfl) : EvT X (.Compare e [.In] [o] pos) Δ S (dGet kvs k).isSome :=
  evt_pt (pt_cmp (pc_din hu (pe_ev X e) (pe_ev X o)) hm) fun σ G H Q a b c q' => two he ho a b c fun x y G1 H1 g p1 e1 e2 => by
    rw [At.obj_eq e2]
    obtain ⟨g1, g2⟩ := dT_get (hS _ _ p1) g.sub e1
    cases w : dGet kvs k with
    | none => exact ⟨_, none, rfl, g1 w, false, rfl, (by have z := q' G1 H1 g p1; rw [w] at z; exact z)⟩
    | some d => obtain ⟨u, f1, f2⟩ := g2 d w; exact ⟨_, some u, rfl, f1, true, rfl, (by have z := q' G1 H1 g p1; rw [w] at z; exact z)⟩
theorem evt_dTnotin (hu : X.A.units + 1 < cLine) (hS : S.le (.dT X.K q kvs)) (he : Ev X e Δ S (.tuple (k.map .int))) (ho : Ev X o Δ S (ob q)) (hm : behindInMarks .NotIn o = false := by first | exact nomark _ | rfl | with_unfolding_all rfl) : EvT X (.Compare e [.NotIn] [o] pos) Δ S (!(dGet kvs k).isSome) :=
  evt_pt (pt_cmp (pc_dnotin hu (pe_ev X e) (pe_ev X o)) hm) fun σ G H Q a b c q' => two he ho a b c fun x y G1 H1 g p1 e1 e2 => by
    rw [At.obj_eq e2]
    obtain ⟨g1, g2⟩ := dT_get (hS _ _ p1) g.sub e1
    cases w : dGet kvs k with
    | none => exact ⟨_, none, rfl, g1 w, true, rfl, (by have z := q' G1 H1 g p1; rw [w] at z; exact z)⟩
    | some d => obtain ⟨u, f1, f2⟩ := g2 d w; exact ⟨_, some u, rfl, f1, false, rfl, (by have z := q' G1 H1 g p1; rw [w] at z; exact z)⟩
/-- o[k] -/
theorem ev_dTget (hu : X.A.units + 1 < cLine) (hS : S.le (.dT X.K q kvs)) (ho : Ev X o Δ S (ob q)) (he : Ev X e Δ S (.tuple (k.map .int))) (hd : dGet kvs k = some d) (hs : NoSl e := by exact fun _ _ => rfl) : Ev X (.Subscript o e pos) Δ S d :=
  ev_pe (pe_dget hu (pe_ev X o) (pe_ev X e) hs) fun σ G H Q a b c q' => two ho he a b c fun x y G1 H1 g p1 e1 e2 => by
    rw [At.obj_eq e1]
    obtain ⟨u, f1, f2⟩ := (dT_get (hS _ _ p1) g.sub e2).2 d hd
    exact ⟨_, u, rfl, f1, q' u G1 H1 g p1 f2⟩
/-- o[k] = v -/
theorem go_dTput {v : Expr} (hu : X.A.units + 1 < cLine) (hv : EvX X v Δ (S.and (.dT X.K q kvs)) P) (ho : Ev X o Δ (S.and (.dT X.K q kvs)) (ob q)) (he : Ev X e Δ (S.and (.dT X.K q kvs)) (.tuple (k.map .int))) (hS : ¬ S.fo q) (hz : kvs.length < 16000000) (kk : ∀ d, P d → Go X rest D Δ (S.and (.dT X.K q (dPut kvs k d))))
    (hs : swapsWith v (some (.Subscript o e p)) pos.line X.env = pure false := by rfl) : Go X (.Assign [.Subscript o e p] v pos :: rest) D Δ (S.and (.dT X.K q kvs)) :=
  go_cons (ps_dput hu (pe_ev X o) (pe_ev X e) (pe_ev X v) hs) fun σ G H D' l a b c => ⟨Δ, _, _, G, hv, a, b, c, fun w G1 H1 g1 p1 ⟨d, z, r1⟩ => ⟨Δ, _, _, G1, ho, a.up g1.gx, g1.sub, p1, fun x G2 H2 g2 p2 r2 => ⟨Δ, _, _, G2, he, (a.up g1.gx).up g2.gx, g2.sub, p2, fun y G3 H3 g3 p3 r3 => by
    obtain ⟨pS, hG, o1, h1, vs, rfl, h2⟩ := p3
    obtain ⟨b', rfl, hb⟩ := tup_key r3
    rw [At.obj_eq r2]
    have hl : (zk tkf kvs vs).length < sizeLine := by
      rw [zk_len (by have := h2.len; rw [List.length_map] at this; omega)]
      exact Nat.lt_of_lt_of_le hz (by decide)
    obtain ⟨vs', e1, e2⟩ := zk_put (f := tkf) tkf_inj (k := k) (r1.up (g2.gx.trans g3.gx)) h2
    refine ⟨q, _, rfl, DPut.t h1 (g3.sub _ _ hb) hl, l.nx _ _ ⟨G3, (g1.gx.trans g2.gx).trans g3.gx, fun b2 u q2 => ?_, Δ, _, kk d z, ((a.up g1.gx).up g2.gx).up g3.gx, S.stb hS (fun ⟨_, z⟩ => by cases z) pS hG (by rw [h1]; exact fun z => by cases z), hG, _, upd_same, vs', by rw [e1], e2⟩⟩
    rw [upd_ne (ne_of_none q2 hG)]; exact g3.sub _ _ q2⟩⟩⟩
/-- name = {}, a dict of tuple keys -/
theorem go_newT {x : Str} {p' : Pos} (n : Nat) (hN : X.N.Nodup) (kk : ∀ q, ¬ S.own q → Go X rest D (Δ.set n (some (ob q))) (S.and (.dT X.K q []))) (hi : X.N[n]? = some x := by rfl) (hx : Loc X.env.scope x := by first | exact Or.inl rfl | exact Or.inr rfl)
    (hs : swapsWith (.Dict [] [] p) (some (.Name x p')) pos.line X.env = pure false := by rfl) (hf : X.fn x = true ∨ X.env.scope.names.lookup x = some .local := by first | exact .inl rfl | exact .inr rfl | assumption) : Go X (.Assign [.Name x p'] (.Dict [] [] p) pos :: rest) D Δ S :=
  go_cons (ps_set hN hi hx pe_dnewT hs hf) fun σ G H D' l a b c q hq => by
    have n2 := Gr.h (H2 := upd H q (.dT [])) b (same_upd hq)
    exact l.nx _ _ ⟨G, Same.refl _, n2.sub, _, _, kk q (not_own c hq), a.set (.obj q), S.cl n2 (same_upd hq) c, b.free hq, _, upd_same, [], rfl, .nil⟩
/-- list(o) -/
theorem evl_listT {x : Str} (hx : x = "list") (hc : X.calm = true) (hS : S.le (.dT X.K q kvs)) (hg : Gl X x) (hm : X.mg x = none) (ho : Ev X o Δ S (ob q)) (he : starEach [o] X.env = (false, eval o X.env) :: starEach [] X.env := by rfl) (hpl : (backTo pos (starEach [] X.env)).any (·.1) = false := by rfl) :
    EvL X (.Call (.Name x p) [o] [] pos) Δ S (kvs.map fun kv => .tuple (kv.1.map .int)) := by
  subst hx
  refine ev_pe (pe_callTy (call_list_dT hc) hg hm (by decide +kernel) (pa_cons (pe_ev X o) pa_nil he) (by decide) (by decide) he hpl) fun σ G H Q a b c q' => ⟨Δ, S, _, G, ho, a, b, c, fun v G1 H1 g p1 r => ?_⟩
  obtain ⟨hG, o1, h1, vs, rfl, h2⟩ := hS _ _ p1
  rw [At.obj_eq r]
  refine ⟨q, _, rfl, .inl h1, fun l bs hl hk => ?_⟩
  have hlen : kvs.length = vs.length := by have := h2.len; rw [List.length_map] at this; omega
  -- the keys' tuples are known from now on
  have go : ∀ (kvs : List (List Int × PyData)) (vs : List V) (bs : List Addr) (G' : Hp), kvs.length = vs.length → IsKeys H1 (zk tkf kvs vs) bs → Gr G1 H1 G' H1 → S.p G' H1 → ∃ G2, Gr G1 H1 G2 H1 ∧ S.p G2 H1 ∧ Ats X.K G2 (bs.map V.ref) (kvs.map fun kv => .tuple (kv.1.map .int)) := by
    intro kvs
    induction kvs with
    | nil =>
      intro vs bs G' hl hk gr pS
      cases hk
      exact ⟨G', gr, pS, .nil⟩
    | cons kv kvs ih =>
      intro vs bs G' hl hk gr pS
      cases vs with
      | nil => cases hl
      | cons v vs =>
        cases hk with
        | @cons _ b _ bs hb ht =>
          obtain ⟨G2, gr2, pS2, hats⟩ := ih vs bs G' (by simpa using hl) ht gr pS
          have hb : H1 b = some (.tup ((tkf kv.1).map kV)) := hb
          rw [tkf_kV] at hb
          by_cases hG2 : G2 b = none
          · have gt := Gr.tup gr2.sub hb
            have pS3 : S.p (upd G2 b (.tup (kv.1.map V.int))) H1 := by
              refine S.fr ?_ (fun _ _ _ z => z) pS2
              exact gt
            exact ⟨_, gr2.trans gt, pS3, .cons (.tup upd_same (Ats.ints kv.1)) (hats.up (same_upd hG2))⟩
          · have e : G2 b = some (.tup (kv.1.map V.int)) := by
              cases w : G2 b with
              | none => exact absurd w hG2
              | some u =>
                have := gr2.sub _ _ w
                rw [hb] at this; rw [this]
            exact ⟨G2, gr2, pS2, .cons (.tup e (Ats.ints kv.1)) hats⟩
  obtain ⟨G2, gr2, pS2, hats⟩ := go kvs vs bs G1 hlen hk (.refl g.sub) p1
  obtain ⟨g3, p3⟩ := layH (o := .lst (bs.map V.ref)) (g.trans gr2) pS2 hl
  exact q' _ _ _ g3 p3 ⟨l, _, rfl, none_back g hl, gr2.sub.free hl, upd_same, hats⟩
end
end DL
namespace DL
open PySem PySem.Spec PyProof.Rows L2
section
variable {X : Cx} {scope : Scope} {e elt tg iter : Expr} {ifs : List Expr} {Δ : De} {S : As} {ds : List PyData} {d : PyData} {pos p : Pos} {P : PyData → Prop}
/-- [elt for tg in iter] -/
theorem evl_map {α : Type} {xs : List α} {enc : α → PyData} {is : List Nat} (own : List (Str × Nat)) (g : α → PyData) (F : α → De → De) (hi : ItD X tg iter Δ S (xs.map enc)) (hc : X.calm = true) (hN : X.N.Nodup) (ok : BlkOk X.N X.env.scope scope own)
    (hz : xs.length ≤ 1000000) (his : ∀ i ∈ is, i ∈ own.map (·.2)) (htg : ∀ x ∈ xs, AllB X scope fun Y => TgS Y tg is (enc x) (F x))
    (he : ∀ D es, ¬ S.own D → ∀ x ∈ xs, AllB X scope fun Y => Ev Y elt (F x (wipeD Δ (own.map (·.2)))) (S.and (.acc X.K D es)) (g x))
    (hs : ∀ x, foldedSetIterable iter X.env x = pure x := by intro _; rfl) :
    EvL X (.ListComp elt [⟨tg, iter, [], 0⟩] scope pos) Δ S (xs.map g) :=
  (evl_lc (own := own) (fun _ => true) g F hi hc hN ok hz his htg (fun _ _ _ _ _ => fun _ _ _ _ _ => evts_nil) (fun D es hD x hx _ => he D es hD x hx) hs).isL (by rw [List.filter_eq_self.mpr fun _ _ => rfl])
/-- [elt for tg in iter if c] -/
theorem evl_fil {α : Type} {xs : List α} {enc : α → PyData} {c : Expr} {is : List Nat} (own : List (Str × Nat)) (b : α → Bool) (g : α → PyData) (F : α → De → De) (hi : ItD X tg iter Δ S (xs.map enc)) (hc : X.calm = true) (hN : X.N.Nodup) (ok : BlkOk X.N X.env.scope scope own)
    (hz : xs.length ≤ 1000000) (his : ∀ i ∈ is, i ∈ own.map (·.2)) (htg : ∀ x ∈ xs, AllB X scope fun Y => TgS Y tg is (enc x) (F x))
    (ht : ∀ D es, ¬ S.own D → ∀ x ∈ xs, AllB X scope fun Y => EvT Y c (F x (wipeD Δ (own.map (·.2)))) (S.and (.acc X.K D es)) (b x))
    (he : ∀ D es, ¬ S.own D → ∀ x ∈ xs, b x = true → AllB X scope fun Y => Ev Y elt (F x (wipeD Δ (own.map (·.2)))) (S.and (.acc X.K D es)) (g x))
    (hs : ∀ x, foldedSetIterable iter X.env x = pure x := by intro _; rfl) :
    EvL X (.ListComp elt [⟨tg, iter, [c], 0⟩] scope pos) Δ S ((xs.filter b).map g) :=
  evl_lc (own := own) b g F hi hc hN ok hz his htg (fun D es hD x hx => fun s H C cl fp => evts_one (ht D es hD x hx s H C cl fp)) he hs
section
variable {α : Type} {xs : List α}
theorem ev_all {x : Str} {b : α → Bool} (hx : x = "all") (hc : X.calm = true) (hg : Gl X x) (hm : X.mg x = none) (h : Ev X e Δ S (.list (xs.map fun x => .bool (b x)))) (he : starEach [e] X.env = (false, eval e X.env) :: starEach [] X.env := by rfl) (hpl : (backTo pos (starEach [] X.env)).any (·.1) = false := by rfl) :
    Ev X (.Call (.Name x p) [e] [] pos) Δ S (.bool (xs.all b)) := by
  subst hx
  refine EvR.is (ev_callB (cd_all (bs := xs.map b) hc) hg hm (by decide +kernel) (ea_cons (EvR.is h (by rw [List.map_map]; rfl)) ea_nil he) back_at (by decide) (by decide) he hpl) (by rw [List.all_map]; rfl)
theorem ev_any {x : Str} {b : α → Bool} (hx : x = "any") (hc : X.calm = true) (hg : Gl X x) (hm : X.mg x = none) (h : Ev X e Δ S (.list (xs.map fun x => .bool (b x)))) (he : starEach [e] X.env = (false, eval e X.env) :: starEach [] X.env := by rfl) (hpl : (backTo pos (starEach [] X.env)).any (·.1) = false := by rfl) :
    Ev X (.Call (.Name x p) [e] [] pos) Δ S (.bool (xs.any b)) := by
  subst hx
  refine EvR.is (ev_callB (cd_any (bs := xs.map b) hc) hg hm (by decide +kernel) (ea_cons (EvR.is h (by rw [List.map_map]; rfl)) ea_nil he) back_at (by decide) (by decide) he hpl) (by rw [List.any_map]; rfl)
theorem ev_sum {x : Str} {f : α → Int} (hx : x = "sum") (hc : X.calm = true) (hg : Gl X x) (hm : X.mg x = none) (h : Ev X e Δ S (.list (xs.map fun x => .int (f x)))) (he : starEach [e] X.env = (false, eval e X.env) :: starEach [] X.env := by rfl) (hpl : (backTo pos (starEach [] X.env)).any (·.1) = false := by rfl) :
    Ev X (.Call (.Name x p) [e] [] pos) Δ S (.int (xs.map f).sum) := by
  subst hx
  refine ev_callB (cd_sum (ns := xs.map f) hc) hg hm (by decide +kernel) (ea_cons (EvR.is h (by rw [List.map_map]; rfl)) ea_nil he) back_at (by decide) (by decide) he hpl
end
theorem ev_tupleC {x : Str} (hx : x = "tuple") (hg : Gl X x) (hm : X.mg x = none) (hd : d = .list ds ∨ d = .tuple ds) (h : Ev X e Δ S d) (he : starEach [e] X.env = (false, eval e X.env) :: starEach [] X.env := by rfl) (hpl : (backTo pos (starEach [] X.env)).any (·.1) = false := by rfl) :
    Ev X (.Call (.Name x p) [e] [] pos) Δ S (.tuple ds) := by
  subst hx
  exact ev_callTy (cd_tuple hd) hg hm (by decide +kernel) (ea_cons h ea_nil he) back_at (by decide) (by decide) he hpl
theorem evl_list {x : Str} (hx : x = "list") (hg : Gl X x) (hm : X.mg x = none) (hd : d = .list ds ∨ d = .tuple ds) (h : Ev X e Δ S d) (he : starEach [e] X.env = (false, eval e X.env) :: starEach [] X.env := by rfl) (hpl : (backTo pos (starEach [] X.env)).any (·.1) = false := by rfl) :
    EvL X (.Call (.Name x p) [e] [] pos) Δ S ds := by
  subst hx
  exact ev_callTy (cd_list hd) hg hm (by decide +kernel) (ea_cons h ea_nil he) back_nl (by decide) (by decide) he hpl
/-- list(what may still change) -/
theorem evl_listM {x : Str} {q : Addr} (hx : x = "list") (hg : Gl X x) (hm : X.mg x = none) (hS : S.le (.acc X.K q ds)) (h : Ev X e Δ S (ob q)) (he : starEach [e] X.env = (false, eval e X.env) :: starEach [] X.env := by rfl) (hpl : (backTo pos (starEach [] X.env)).any (·.1) = false := by rfl) :
    EvL X (.Call (.Name x p) [e] [] pos) Δ S ds := by
  subst hx
  refine ev_pe (pe_callTy call_list_of hg hm (by decide +kernel) (pa_cons (pe_ev X e) pa_nil he) (by decide) (by decide) he hpl) fun σ G H Q a b c q' => ⟨Δ, S, _, G, h, a, b, c, fun v G1 H1 g p1 r => ?_⟩
  obtain ⟨hG, xs, h1, h2⟩ := hS _ _ p1
  rw [At.obj_eq r]
  refine ⟨_, _, rfl, .inl (SqL.of h1), fun l hl => ?_⟩
  obtain ⟨g2, p2⟩ := layH (o := .lst xs) g p1 hl
  exact q' _ _ _ g2 p2 ⟨l, xs, rfl, none_back g hl, g.sub.free hl, upd_same, h2⟩
theorem evl_sorted {x : Str} (hx : x = "sorted") (hu : X.A.units + 64 < cLine) (ok : Sok ds) (hg : Gl X x) (hm : X.mg x = none) (hd : d = .list ds ∨ d = .tuple ds) (h : Ev X e Δ S d) (he : starEach [e] X.env = (false, eval e X.env) :: starEach [] X.env := by rfl) (hpl : (backTo pos (starEach [] X.env)).any (·.1) = false := by rfl) :
    EvL X (.Call (.Name x p) [e] [] pos) Δ S (srt false ds) := by
  subst hx
  exact ev_callB (cd_sorted hu ok hd) hg hm (by decide +kernel) (ea_cons h ea_nil he) back_nl (by decide) (by decide) he hpl
/-- return e, of a def that changes nothing; its promise is known -/
theorem go_rt {R : RR} {G H : Hp} {rest : List Stmt} {D : EndsG} (hD : D.rt = (retP G H R).rt) (hS : S.le (.ext G H)) (he : EvR X e Δ S R) (hR : Back R := by first | exact back_at | exact back_nl | exact back_x | exact back_xl) : Go X (.Return (some e) pos :: rest) D Δ S := go_retP he hS hD hR
end
end DL
namespace DL
open PySem PySem.Spec PyProof.Rows L2
/-- the law's bag: its state -/
structure BagS where
  c : Int
  b : Int
  n : Int
  ns : List Int
  hc : 0 ≤ c
  hb : 0 ≤ b ∧ b < 2147483647
  hn : 0 ≤ n
  hns : ∀ z ∈ ns, 0 ≤ z
def bagDs (x : BagS) : List PyData := [.int x.c, .int x.b, .int x.n, .list (x.ns.map .int)]
def As.bag (K : PySem.W.Frag) (p : Addr) : As := .ex (fun x : BagS => .acc K p (bagDs x)) (fun a => a = p) (fun a => a = p) (fun _ => rfl) (fun _ => rfl) (fun _ h => h)
/-- a def that is handed the bag first -/
def spB (K : PySem.W.Frag) (Pr : Hp → List PyData → RR → Prop) : Sp := spM K fun G ds T R => ∃ p ds' R', ds = ob p :: ds' ∧ T = As.bag K p ∧ Pr G ds' R' ∧ R = rAnd (As.bag K p) R'
def rBag (K : PySem.W.Frag) : RR := fun _ H v G2 H2 => ∃ p, v = .ref p ∧ H p = none ∧ (As.bag K p).p G2 H2
theorem back_bag {K : PySem.W.Frag} : Back (rBag K) := fun _ _ _ _ _ _ _ r ⟨p, e, h, k⟩ => ⟨p, e, none_back r h, k⟩
section
variable {X : Cx} {scope : Scope} {e a elt tg iter : Expr} {es : List Expr} {ifs : List Expr} {Δ : De} {S T : As} {R : RR} {ds : List PyData} {d : PyData} {pos p : Pos} {P : PyData → Prop} {PL : List PyData → Prop} {rest : List Stmt} {D : EndsG} {i j : Int}
theorem od_fdivW (h : CDivW i j) : OpD X (binaryOp .FloorDiv) S (.int i) (.int j) (rAt X.K (.int (i / j))) := opd_C op_fdivW h fun _ => .int _
/-- name = e, anything -/
theorem go_setG (i : Nat) {x : Str} {p' : Pos} (he : EvR X e Δ S R) (hN : X.N.Nodup) (k : ∀ G H v G2 H2, S.p G H → Gr G H G2 H2 → S.p G2 H2 → R G H v G2 H2 → ∃ d S', At X.K G2 v d ∧ S'.p G2 H2 ∧ Go X rest D (Δ.set i (some d)) S') (hi : X.N[i]? = some x := by rfl) (hx : Loc X.env.scope x := by first | exact Or.inl rfl | exact Or.inr rfl)
    (hs : swapsWith e (some (.Name x p')) pos.line X.env = pure false := by rfl) (hf : X.fn x = true ∨ X.env.scope.names.lookup x = some .local := by first | exact .inl rfl | exact .inr rfl | assumption) : Go X (.Assign [.Name x p'] e pos :: rest) D Δ S :=
  go_cons (ps_set hN hi hx (pe_ev X e) hs hf) fun σ G H D' l a b c => ⟨Δ, S, R, G, he, a, b, c, fun v G2 H2 g p r => by
    obtain ⟨d, S', e1, e2, e3⟩ := k G H v G2 H2 c g p r
    exact l.nx _ _ ⟨G2, g.gx, g.sub, _, S', e3, (a.up g.gx).set e1, e2⟩⟩
theorem go_setBag (i : Nat) {x : Str} {p' : Pos} (he : EvR X e Δ S (rBag X.K)) (hN : X.N.Nodup) (k : ∀ q, ¬ S.own q → Go X rest D (Δ.set i (some (ob q))) (S.and (.bag X.K q))) (hi : X.N[i]? = some x := by rfl) (hx : Loc X.env.scope x := by first | exact Or.inl rfl | exact Or.inr rfl)
    (hs : swapsWith e (some (.Name x p')) pos.line X.env = pure false := by rfl) (hf : X.fn x = true ∨ X.env.scope.names.lookup x = some .local := by first | exact .inl rfl | exact .inr rfl | assumption) : Go X (.Assign [.Name x p'] e pos :: rest) D Δ S :=
  go_setG i he hN (fun G H v G2 H2 c g p ⟨q, e1, e2, e3⟩ => by
    subst e1
    exact ⟨ob q, S.and (.bag X.K q), .obj q, ⟨p, e3⟩, k q (not_own c e2)⟩) hi hx hs hf
theorem bag_has {K : PySem.W.Frag} {q : Addr} (h : ¬ S.fo q) : Has (S.and (.bag K q)) (.bag K q) := has_here fun a ha e => h (by have e : a = q := e; rw [← e]; exact ha)
theorem Has.acc {K K' : PySem.W.Frag} {q r : Addr} (h : Has S (.bag K q)) (hr : r ≠ q) : Has (S.and (.acc K' r ds)) (.bag K q) := h.and fun a ha e => hr (by have ha : a = r := ha; have e : a = q := e; rw [← ha, e])
theorem Has.ne {K : PySem.W.Frag} {q r : Addr} (h : Has S (.bag K q)) (hr : ¬ S.own r) (hs : ∀ a, (As.bag K q).own a → S.own a) : r ≠ q := fun e => hr (hs r e)
/-- f(bag, ..) -/
theorem evx_cB {x : Str} {k j : Nat} {q : Addr} {Pr : Hp → List PyData → RR → Prop} (c : C8.Cal X.prog X.w X.K X.mg X.base k x (spB X.K Pr) []) (hr : Room j X.A) (hg : Gl X x) (hT : Has S (.bag X.K q)) (ha : EvAX X (e :: es) Δ S fun ds => ∃ ds', ds = ob q :: ds' ∧ PL ds') (hP : ∀ G H ds, PL ds → S.p G H → Pr G ds R)
    (hR : Back R := by first | exact back_x | exact back_xl | exact back_at | exact back_nl) (hk : k ≤ j := by decide)
    (hdb : (x == ("__debug__" : Str)) = false := by decide) (he : starEach (e :: es) X.env = (false, eval e X.env) :: starEach es X.env := by rfl) (hpl : (backTo pos (starEach es X.env)).any (·.1) = false := by rfl) :
    EvR X (.Call (.Name x p) (e :: es) [] pos) Δ S R :=
  evx_cM c hr hg ha hT (fun G H ds ⟨ds', e1, e2⟩ h => ⟨q, ds', R, e1, rfl, hP G H ds' e2 h, rfl⟩) hR hk hdb he hpl
theorem eax_bag {q : Addr} {bg : Expr} (h : Ev X bg Δ S (ob q)) (hr : EvAX X es Δ S PL) (hs : starEach (bg :: es) X.env = (false, eval bg X.env) :: starEach es X.env := by rfl) : EvAX X (bg :: es) Δ S fun ds => ∃ ds', ds = ob q :: ds' ∧ PL ds' :=
  (eax_cons (h.x (P := (· = ob q)) rfl) hr hs).xx fun ds ⟨d, ds', e1, e2, e3⟩ => ⟨ds', by rw [e1, e2], e3⟩
theorem eax_one (h : EvX X e Δ S P) (hs : starEach [e] X.env = (false, eval e X.env) :: starEach [] X.env := by rfl) : EvAX X [e] Δ S fun ds => ∃ d, ds = [d] ∧ P d :=
  (eax_cons h eax_nil hs).xx fun ds ⟨d, ds', e1, e2, e3⟩ => ⟨d, by rw [e1, e3], e2⟩
theorem evx_tupleC {x : Str} (hx : x = "tuple") (hg : Gl X x) (hm : X.mg x = none) (h : EvX X e Δ S fun d => ∃ ds, d = .list ds ∧ PL ds) (he : starEach [e] X.env = (false, eval e X.env) :: starEach [] X.env := by rfl) (hpl : (backTo pos (starEach [] X.env)).any (·.1) = false := by rfl) :
    EvX X (.Call (.Name x p) [e] [] pos) Δ S fun d => ∃ ds, d = .tuple ds ∧ PL ds := by
  subst hx
  refine evx_callTy (T := "tuple") (PL := fun ds => ∃ es, ds = [.list es] ∧ PL es) (fun ds ⟨es, e1, e2⟩ => ?_) hg hm (by decide +kernel) ((eax_one h he).xx fun ds ⟨d, e1, es, e2, e3⟩ => ⟨es, by rw [e1, e2], e3⟩) back_x (by decide) (by decide) he hpl
  subst e1
  exact (cd_tuple (.inl rfl)).x ⟨es, rfl, e2⟩
theorem ItD.is {ds' : List PyData} (h : ItD X tg iter Δ S ds) (q : ds = ds') : ItD X tg iter Δ S ds' := q ▸ h
/-- range(n) -/
theorem it_rng {n : Nat} (hg : Gl X "range") (hm : X.mg "range" = none) (h : Ev X e Δ S (.int n)) (h2 : n < 2 ^ 62) (hs' : starEach [e] X.env = (false, eval e X.env) :: starEach [] X.env := by rfl) (hs : starEach [e] X.env = [(false, eval e X.env)] := by rfl) :
    ItD X tg (.Call (.Name "range" p) [e] [] pos) Δ S ((List.range n).map fun k : Nat => .int (k : Int)) :=
  (it_range1 hg hm h (by omega) (by omega) hs' hs).is (by rw [Int.toNat_natCast]; exact List.map_congr_left fun k _ => by rw [Int.zero_add])
theorem fresh_ext {G H : Hp} {o : Addr → Prop} {q : Addr} (h : ¬ (As.extx G H o).own q) : H q = none := Classical.byContradiction h
theorem go_rtM {G H : Hp} {f : Addr → Prop} {R' : RR} (hD : D.rt = (retM G H f R).rt) (hS : S.le (.extx G H f)) (he : EvR X e Δ S R') (k : ∀ v G1 H1 G2 H2, Gr G H G1 H1 → S.p G2 H2 → R' G1 H1 v G2 H2 → R G H v G2 H2) : Go X (.Return (some e) pos :: rest) D Δ S := go_retM he hS k hD
/-- name = [elt for ..] on one line -/
theorem go_setLc {y : Str} {py : Pos} {own : List (Str × Nat)} {spos : Pos} (i : Nat) (h : LcR X elt tg iter ifs own scope Δ S R) (hc : X.calm = true) (hN : X.N.Nodup)
    (k : ∀ G H v G2 H2, S.p G H → Gr G H G2 H2 → S.p G2 H2 → R G H v G2 H2 → ∃ d S' G3, At X.K G3 v d ∧ Same G2 G3 ∧ Same G3 H2 ∧ S'.p G3 H2 ∧ Go X rest D (Δ.set i (some d)) S') (hy : X.N[i]? = some y := by rfl) (hyl : X.env.scope.names.lookup y = some .local := by rfl)
    (hsw : swapsWith (.ListComp elt [⟨tg, iter, ifs, 0⟩] scope pos) (some (.Name y py)) spos.line X.env = pure true := by rfl) (hs : ∀ x, foldedSetIterable iter X.env x = pure x := by intro _; rfl) :
    Go X (.Assign [.Name y py] (.ListComp elt [⟨tg, iter, ifs, 0⟩] scope pos) spos :: rest) D Δ S := by
  obtain ⟨wi, w1, ok, w2⟩ := h
  exact go_cons (ps_setLc hc hN hy hyl hsw w1 ok (pg_tgB X scope tg) (pts_tsB X scope ifs) (pe_evB X scope elt) hs) fun σ G H D' l a b c => w2 σ G H _ a b c fun v G2 H2 g p r => by
    obtain ⟨d, S', G3, e1, e2, e3, e4, e5⟩ := k G H v G2 H2 c g p r
    exact l.nx _ _ ⟨G3, g.gx.trans e2, e3, _, S', e5, ((a.up g.gx).up e2).set e1, e4⟩
/-- .. a list that is known then -/
theorem go_setLcF {y : Str} {py : Pos} {own : List (Str × Nat)} {spos : Pos} (i : Nat) (h : LcR X elt tg iter ifs own scope Δ S (rNl X.K ds)) (hc : X.calm = true) (hN : X.N.Nodup) (k : Go X rest D (Δ.set i (some (.list ds))) S) (hy : X.N[i]? = some y := by rfl) (hyl : X.env.scope.names.lookup y = some .local := by rfl)
    (hsw : swapsWith (.ListComp elt [⟨tg, iter, ifs, 0⟩] scope pos) (some (.Name y py)) spos.line X.env = pure true := by rfl) (hs : ∀ x, foldedSetIterable iter X.env x = pure x := by intro _; rfl) :
    Go X (.Assign [.Name y py] (.ListComp elt [⟨tg, iter, ifs, 0⟩] scope pos) spos :: rest) D Δ S :=
  go_setLc i h hc hN (fun G H v G2 H2 c g p ⟨q, xs, e1, e2, e3, e4, e5⟩ => by
    subst e1
    refine ⟨.list ds, S, upd G2 q (.lst xs), .lst upd_same (e5.up (same_upd e3)), same_upd e3, fun b u z => ?_, S.frz (not_own c e2) p e3 e4, k⟩
    by_cases hb : b = q
    · subst hb; rw [upd_same] at z; cases z; exact e4
    · rw [upd_ne hb] at z; exact g.sub b u z) hy hyl hsw hs
theorem go_setLcX {y : Str} {py : Pos} {own : List (Str × Nat)} {spos : Pos} (i : Nat) (h : LcR X elt tg iter ifs own scope Δ S (rXl X.K PL)) (hc : X.calm = true) (hN : X.N.Nodup) (k : ∀ ds, PL ds → Go X rest D (Δ.set i (some (.list ds))) S) (hy : X.N[i]? = some y := by rfl) (hyl : X.env.scope.names.lookup y = some .local := by rfl)
    (hsw : swapsWith (.ListComp elt [⟨tg, iter, ifs, 0⟩] scope pos) (some (.Name y py)) spos.line X.env = pure true := by rfl) (hs : ∀ x, foldedSetIterable iter X.env x = pure x := by intro _; rfl) :
    Go X (.Assign [.Name y py] (.ListComp elt [⟨tg, iter, ifs, 0⟩] scope pos) spos :: rest) D Δ S :=
  go_setLc i h hc hN (fun G H v G2 H2 c g p ⟨ds, hds, q, xs, e1, e2, e3, e4, e5⟩ => by
    subst e1
    refine ⟨.list ds, S, upd G2 q (.lst xs), .lst upd_same (e5.up (same_upd e3)), same_upd e3, fun b u z => ?_, S.frz (not_own c e2) p e3 e4, k ds hds⟩
    by_cases hb : b = q
    · subst hb; rw [upd_same] at z; cases z; exact e4
    · rw [upd_ne hb] at z; exact g.sub b u z) hy hyl hsw hs
/-! data that can be compared -/
theorem shaped_ints (ns : List Int) : SeqAt.shaped (.list (ns.map .int)) = true := by
  have h1 : ∀ ns : List Int, PyData.canLayAll0 (ns.map .int) = true := fun ns => by
    induction ns with
    | nil => rfl
    | cons n ns ih => simpa [PyData.canLayAll0, PyData.canLay0] using ih
  have h2 : ∀ ns : List Int, PyData.depthAll (ns.map .int) = 0 := fun ns => by
    induction ns with
    | nil => rfl
    | cons n ns ih => simp [PyData.depthAll, PyData.depth, ih]
  unfold SeqAt.shaped
  simp [PyData.canLay0, h1, PyData.depth, h2]
theorem shaped_nil : SeqAt.shaped (.list []) = true := shaped_ints []
theorem eqv_nil (ds : List PyData) : PyData.eqv (.list ds) (.list []) = ds.isEmpty := by
  cases ds <;> simp [PyData.eqv, PyData.eqvAll]
end
end DL
namespace DL
open PySem
/-- a tuple's parts -/
def unT : PyData → List PyData
  | .tuple ds => ds
  | _ => []
end DL
namespace DL
open PySem PySem.Spec PyProof.Rows L2

/-! ### more of dicts -/
/-- dicts that are known, and locked -/
def DFT (K : PySem.W.Frag) (p : Addr) (kvs : List (List Int × PyData)) (G : Hp) : Prop := ∃ (od : Obj) (vs : List V), G p = some (.frz od (.dT (zk tkf kvs vs))) ∧ Ats K G vs (kvs.map (·.2))
theorem DFT.up {K : PySem.W.Frag} {p : Addr} {kvs : List (List Int × PyData)} {G G' : Hp} (h : DFT K p kvs G) (e : Same G G') : DFT K p kvs G' := by obtain ⟨od, vs, h1, h2⟩ := h; exact ⟨od, vs, e _ _ h1, h2.up e⟩
def DFK (K : PySem.W.Frag) (p : Addr) (kvs : List (Int × PyData)) (G : Hp) : Prop := ∃ (od : Obj) (vs : List V), G p = some (.frz od (.dK (zk ikf kvs vs))) ∧ Ats K G vs (kvs.map (·.2))
theorem DFK.up {K : PySem.W.Frag} {p : Addr} {kvs : List (Int × PyData)} {G G' : Hp} (h : DFK K p kvs G) (e : Same G G') : DFK K p kvs G' := by obtain ⟨od, vs, h1, h2⟩ := h; exact ⟨od, vs, e _ _ h1, h2.up e⟩
def As.dfT (K : PySem.W.Frag) (p : Addr) (kvs : List (List Int × PyData)) : As := .fact (DFT K p kvs) fun _ _ e h => h.up e
def As.dfK (K : PySem.W.Frag) (p : Addr) (kvs : List (Int × PyData)) : As := .fact (DFK K p kvs) fun _ _ e h => h.up e
def rDT (K : PySem.W.Frag) (kvs : List (List Int × PyData)) : RR := fun _ _ v G2 _ => ∃ p, v = .ref p ∧ DFT K p kvs G2
def rDK (K : PySem.W.Frag) (kvs : List (Int × PyData)) : RR := fun _ _ v G2 _ => ∃ p, v = .ref p ∧ DFK K p kvs G2
section
variable {X : Cx} {o e : Expr} {es : List Expr} {Δ : De} {S T : As} {R : RR} {d : PyData} {ds : List PyData} {pos p apos cpos tpos : Pos} {q : Addr} {P : PyData → Prop} {sts rest : List Stmt} {D : EndsG} {k : List Int} {kvs : List (List Int × PyData)} {i : Int} {ivs : List (Int × PyData)}
/-- the dict at q is known from now on -/
theorem go_lockT (hS : ¬ S.own q) (h : Go X sts D Δ (S.and (.dfT X.K q kvs))) : Go X sts D Δ (S.and (.dT X.K q kvs)) := by
  rintro pins s σ G H I a b ⟨pS, hG, o1, h1, vs, rfl, h2⟩
  obtain ⟨od, J⟩ := I.lock h1 True.intro
  have sub : Same (upd G q (.frz od (.dT (zk tkf kvs vs)))) (upd H q (.frz od (.dT (zk tkf kvs vs)))) := fun b' v z => by
    by_cases hb : b' = q
    · subst hb; rw [upd_same] at z ⊢; exact z
    · rw [upd_ne hb] at z ⊢; exact b b' v z
  have pS2 : S.p G (upd H q (.frz od (.dT (zk tkf kvs vs)))) := S.stb (As.nf hS) (fun ⟨_, z⟩ => by cases z) pS hG (by rw [h1]; exact fun z => by cases z)
  have pS3 := S.frz hS pS2 hG upd_same
  exact wpAny_mono (h pins s σ _ _ J (a.up (same_upd hG)) sub ⟨pS3, od, vs, upd_same, h2.up (same_upd hG)⟩) (fun _ _ z => SP.le (EndsG.le (same_upd hG)) z) fun _ _ z => z
theorem go_lockK (hS : ¬ S.own q) (h : Go X sts D Δ (S.and (.dfK X.K q ivs))) : Go X sts D Δ (S.and (.dK X.K q ivs)) := by
  rintro pins s σ G H I a b ⟨pS, hG, o1, h1, vs, rfl, h2⟩
  obtain ⟨od, J⟩ := I.lock h1 True.intro
  have sub : Same (upd G q (.frz od (.dK (zk ikf ivs vs)))) (upd H q (.frz od (.dK (zk ikf ivs vs)))) := fun b' v z => by
    by_cases hb : b' = q
    · subst hb; rw [upd_same] at z ⊢; exact z
    · rw [upd_ne hb] at z ⊢; exact b b' v z
  have pS2 : S.p G (upd H q (.frz od (.dK (zk ikf ivs vs)))) := S.stb (As.nf hS) (fun ⟨_, z⟩ => by cases z) pS hG (by rw [h1]; exact fun z => by cases z)
  have pS3 := S.frz hS pS2 hG upd_same
  exact wpAny_mono (h pins s σ _ _ J (a.up (same_upd hG)) sub ⟨pS3, od, vs, upd_same, h2.up (same_upd hG)⟩) (fun _ _ z => SP.le (EndsG.le (same_upd hG)) z) fun _ _ z => z
theorem EvR.dT (h : Ev X e Δ S (DL.ob q)) (hS : S.le (.dfT X.K q kvs)) : EvR X e Δ S (rDT X.K kvs) := h.imp fun G H v G2 H2 g p r => ⟨q, At.obj_eq r, hS _ _ p⟩
theorem EvR.dK (h : Ev X e Δ S (DL.ob q)) (hS : S.le (.dfK X.K q ivs)) : EvR X e Δ S (rDK X.K ivs) := h.imp fun G H v G2 H2 g p r => ⟨q, At.obj_eq r, hS _ _ p⟩
theorem zk_at {κ κ' : Type} {f : κ → κ'} {K : PySem.W.Frag} {G : Hp} : ∀ {kvs : List (κ × PyData)} {vs : List V} {i : Nat} {kv : κ × PyData}, Ats K G vs (kvs.map (·.2)) → kvs[i]? = some kv → ∃ v, (zk f kvs vs)[i]? = some (f kv.1, v) ∧ At K G v kv.2
  | [], _, i, kv, _, e => by simp at e
  | p :: r, _, i, kv, h, e => by
    cases h with
    | @cons v vs _ _ h1 h2 =>
      cases i with
      | zero => cases (show some p = some kv from e); exact ⟨v, rfl, h1⟩
      | succ i => exact zk_at (i := i) h2 e
/-- for .. in d.items(), of int keys -/
theorem it_itemsK {elts : List Expr} {kk : Nat} (h : EvR X e Δ S (rDK X.K ivs)) (hbase : attributeBase e "items" X.env (eval e X.env) = eval e X.env := by rfl) (hline : (apos.endLine == cpos.line) = true := by rfl) :
    ItD X (.Tuple elts kk tpos) (.Call (.Attribute e "items" apos) [] [] cpos) Δ S (ivs.map fun kv => .tuple [.int kv.1, kv.2]) :=
  ⟨_, pi_items (pe_ev X e) hbase hline, fun σ G H R a b c q => ⟨Δ, S, _, G, h, a, b, c, fun v G1 H1 g p1 ⟨d, e1, od, vs, h1, h2⟩ => by
    subst e1
    have hl : (zk ikf ivs vs).length = ivs.length := zk_len (by have := h2.len; rw [List.length_map] at this; omega)
    refine ⟨d, od, _, rfl, g.sub _ _ h1, q _ G1 H1 g p1 ⟨fun G2 H2 s1 s2 => ⟨s2 _ _ (s1 _ _ h1), by rw [hl, List.length_map]; exact Nat.le_refl _⟩, fun i d2 G2 H2 s1 s2 e2 => ?_⟩⟩
    rw [List.getElem?_map] at e2
    cases w : ivs[i]? with
    | none => rw [w] at e2; cases e2
    | some kv =>
      rw [w] at e2
      cases e2
      obtain ⟨u, f1, f2⟩ := zk_at (f := ikf) h2 w
      refine ⟨⟨s2 _ _ (s1 _ _ h1), (List.getElem?_eq_some_iff.mp f1).1⟩, fun x H' y => ?_⟩
      obtain ⟨T, k, u', e3, rfl, hT, rfl⟩ := y
      rw [f1] at e3
      cases e3
      exact ⟨upd G2 T (.tup [.int kv.1, u]), .new s2 hT, same_upd hT, .tup upd_same (.cons (.int _) (.one ((f2.up s1).up (same_upd (s2.free hT)))))⟩⟩⟩

/-! items of a dict of tuple keys -/
def ItiT (d : Addr) (o : Obj) (kvs : List (List L2.Key × V)) : It :=
  ⟨fun i H => H d = some (.frz o (.dT kvs)) ∧ i < kvs.length, fun i H x H' => ∃ T k v b, kvs[i]? = some (k, v) ∧ x = .ref T ∧ H T = none ∧ H b = some (.tup (k.map kV)) ∧ H' = upd H T (.tup [.ref b, v]), fun i H => H d = some (.frz o (.dT kvs)) ∧ kvs.length ≤ i⟩
theorem frzT2 {pins : List (Addr × Obj)} {σ : L2.St} {H : Hp} {s : Shared} {d : Addr} {o : Obj} {kvs : List (List L2.Key × V)} (I : Inv X pins σ H s) (h : H d = some (.frz o (.dT kvs))) :
    (d == sysModules) = false ∧ ∃ (es : Array DictEntry) (ep : Nat), DT.Raw s.heap d es ep ∧ o.data = .dict es ep ∧ es.size = kvs.length ∧
      ∀ (i : Nat) (k : List L2.Key) (v : V), kvs[i]? = some (k, v) → ∃ (en : DictEntry) (b : Addr), es[i]? = some en ∧ en.key = .ref b ∧ H b = some (.tup (k.map kV)) ∧ RelV v en.val := by
  obtain ⟨hd, z, hs, xs, pr, o', es, ep, ho, hx, hdt, he, _⟩ := I.hok d _ h
  rw [hd] at ho
  cases ho
  refine ⟨hs, es, ep, ⟨o, hd, hx, hdt⟩, hdt, ?_, fun i k v e => ?_⟩
  · have l1 : es.size = xs.length := size_of_entries he
    have l2 : kvs.length = xs.length := Paired.length pr
    omega
  · obtain ⟨b, hb, e1, e2, e3⟩ := paired_get pr e
    have q := entry_at he i
    rw [hb] at q
    exact ⟨_, b.2.1, q, rfl, e2, e3⟩
theorem turn_itemsT {P : Program} {w : World} {K : PySem.W.Frag} {d : Addr} {o : Obj} {es : Array DictEntry} {ep : Nat} {kvs : List (List L2.Key × V)} {elts : List Expr} {kk : Nat} {tpos : Pos} (it : Addr) (hod : o.data = .dict es ep) (hsz : es.size = kvs.length) :
    Turn P w K (.Tuple elts kk tpos) (ItiT d o kvs) [it] it (fun i h => ∃ ok ov, IsItemIter h it d i es.size ep ok ov) where
  mem := by simp
  obj := fun i h st b hb => by
    have e : b = it := by simpa using hb
    subst e
    obtain ⟨ok, ov, e⟩ := st
    exact ⟨_, e, fun v z => nomatch z⟩
  keep := fun i h h' st k => let ⟨ok, ov, e⟩ := st; ⟨ok, ov, k it (by simp) _ e⟩
  item := by
    intro X hP hw hK hc i pins s σ H E I hf st hg
    subst hP hw hK
    obtain ⟨hd, hi⟩ := hg
    obtain ⟨hs, es', ep', raw, hdt, hsz', ent⟩ := frzT2 I hd
    obtain ⟨rfl, rfl⟩ := dict_ep hod hdt
    obtain ⟨⟨k, v⟩, hkv⟩ : ∃ p, kvs[i]? = some p := ⟨kvs[i], List.getElem?_eq_getElem hi⟩
    obtain ⟨en, b, e1, e2, e3, e4⟩ := ent i k v hkv
    obtain ⟨ok, ov, he⟩ := st
    have hlt : it < s.heap.objs.size := Heap.lt_size he
    have hi2 : i < es'.size := by rw [hsz]; exact hi
    have hen : es'[i] = en := by
      rw [Array.getElem?_eq_getElem hi2] at e1; exact Option.some.inj e1
    refine DT.nextI he raw hi2 fun h' ho hT hz hk => ?_
    rw [hen] at ho hT
    refine ⟨_, rfl, wpAny_letOwnedTupleGo_items (s := { s with heap := h' }) ho fun h'' he' sb => ?_⟩
    have hT2 : h''.get? s.heap.objs.size = some { cls := .type "tuple", data := .seq #[en.key, en.val] } := (sb.2 _ (Nat.ne_of_gt hlt)).trans hT
    have new : ObjOk X.prog X.w (upd H s.heap.objs.size (.tup [.ref b, v])) h'' s.heap.objs.size (.tup [.ref b, v]) :=
      ⟨by show 2 ≤ sizeLine; decide, [en.key, en.val], .cons e2 (.cons e4 .nil), ⟨_, hT2, rfl, _, rfl⟩⟩
    have I1 : Inv X pins σ (upd H s.heap.objs.size (.tup [.ref b, v])) { s with heap := h'' } :=
      I.turnedNew (t' := s.toks) (ch := [it]) (fun b ob hb e => (sb.2 b (by simpa using hb)).trans (hk b ob (by simpa using hb) e)) hf (Nat.le_refl _) new
    refine ⟨.ref s.heap.objs.size, _, I1, rfl, ⟨_, k, v, b, hkv, rfl, I.hok.fresh (Nat.le_refl _), e3, rfl⟩, ⟨_, _, he'⟩, fun b hb => ?_⟩
    have e : b = it := by simpa using hb
    rw [e, upd_ne (Nat.ne_of_lt hlt)]
    exact (hf it (by simp)).1
  done := by
    intro X hP hw hK hc i pins s σ H E I hf st hg
    subst hP hw hK
    obtain ⟨hd, hi⟩ := hg
    obtain ⟨f0, f1, f2, f3, f4, f5⟩ := hf it (by simp)
    obtain ⟨hs, es', ep', raw, hdt, hsz', ent⟩ := frzT2 I hd
    obtain ⟨rfl, rfl⟩ := dict_ep hod hdt
    obtain ⟨ok, ov, he⟩ := st
    exact DT.endI (I.ok.hd hc) he raw (by rw [hsz]; exact hi) fun h' eb => ⟨rfl, I.turned (t' := s.toks) (fun b ob hb e => eb b ob hb e) f0 f1 f3 f4 f5⟩
  self := fun A i s Q E st h => let ⟨_, _, e⟩ := st; PySem.W.kcp_self e h
def iItemsT (td : TE) : TI := fun σ H R => td σ H fun x H1 => ∃ d o kvs, x = .ref d ∧ H1 d = some (.frz o (.dT kvs)) ∧ R (ItiT d o kvs) H1
theorem pi_itemsT {td : TE} {elts : List Expr} {kk : Nat} (he : PE X e td) (hbase : attributeBase e "items" X.env (eval e X.env) = eval e X.env := by rfl) (hline : (apos.endLine == cpos.line) = true := by rfl) :
    PI X (.Tuple elts kk tpos) (.Call (.Attribute e "items" apos) [] [] cpos) (iItemsT td) := by
  refine ⟨fun pins s σ H R I h => ?_⟩
  refine wpAny_Call_method (T := "dict") (id := "dict.items") hbase rfl hline F.plainAttrs_dict F.slot_dict_items F.type_dict_items (thn (he.run pins s σ H _ I h) fun u s1 ⟨x, H1, I1, rx, d, o, kvs, ex, hd, q⟩ => ?_)
  subst ex
  obtain rfl : u = Value.ref d := rx
  obtain ⟨hs, es, ep, raw, hdt, hsz, ent⟩ := frzT2 I1 hd
  refine ⟨raw.typeIs, fun b q => by cases q; obtain ⟨ob, h1, h2, _⟩ := id raw; exact ⟨ob, h1, h2.2.1⟩, ?_⟩
  have I2 : Inv X pins σ H1 { s1 with heap := s1.heap.push { cls := .type "dict_items", data := .fields #[.ref d] } } := I1.kept (t' := s1.toks) fun b ob q => Heap.get?_push_of_some _ q
  have fin : wpAny (model X.prog X.w) X.A (pyIter (.ref s1.heap.objs.size)) (PIE X pins σ (.Tuple elts kk tpos) R) X.xe { s1 with heap := s1.heap.push { cls := .type "dict_items", data := .fields #[.ref d] } } :=
    DT.iterI ⟨_, Heap.get?_push_size _ rfl, rfl, rfl⟩ (raw.push _) (pi_one (tk := s1.toks) I2 _ (turn_itemsT _ hdt hsz) ⟨.none, .none, Heap.get?_push_size _ rfl⟩ q)
  show wpAny _ _ (callWith cpos (.builtin "dict.items") [.ref d] [] []) _ X.xe s1
  exact method_meetsIn F.slot_dict_items F.entry_dict_items rfl (PySem.evalArgs_none ⟨rfl, raw.typeIs, F.args_dict_items_1 _, _, DT.meetsItems (es := es) (ep := ep) hs, ⟨raw, fin⟩⟩)
theorem it_itemsT {elts : List Expr} {kk : Nat} (h : EvR X e Δ S (rDT X.K kvs)) (hbase : attributeBase e "items" X.env (eval e X.env) = eval e X.env := by rfl) (hline : (apos.endLine == cpos.line) = true := by rfl) :
    ItD X (.Tuple elts kk tpos) (.Call (.Attribute e "items" apos) [] [] cpos) Δ S (kvs.map fun kv => .tuple [.tuple (kv.1.map .int), kv.2]) :=
  ⟨_, pi_itemsT (pe_ev X e) hbase hline, fun σ G H R a b c q => ⟨Δ, S, _, G, h, a, b, c, fun v G1 H1 g p1 ⟨d, e1, od, vs, h1, h2⟩ => by
    subst e1
    have hl : (zk tkf kvs vs).length = kvs.length := zk_len (by have := h2.len; rw [List.length_map] at this; omega)
    refine ⟨d, od, _, rfl, g.sub _ _ h1, q _ G1 H1 g p1 ⟨fun G2 H2 s1 s2 => ⟨s2 _ _ (s1 _ _ h1), by rw [hl, List.length_map]; exact Nat.le_refl _⟩, fun i d2 G2 H2 s1 s2 e2 => ?_⟩⟩
    rw [List.getElem?_map] at e2
    cases w : kvs[i]? with
    | none => rw [w] at e2; cases e2
    | some kv =>
      rw [w] at e2
      cases e2
      obtain ⟨u, f1, f2⟩ := zk_at (f := tkf) h2 w
      refine ⟨⟨s2 _ _ (s1 _ _ h1), (List.getElem?_eq_some_iff.mp f1).1⟩, fun x H' y => ?_⟩
      obtain ⟨T, k, u', b2, e3, rfl, hT, hb, rfl⟩ := y
      rw [f1] at e3
      cases e3
      rw [tkf_kV] at hb
      -- the key's tuple is known from now on
      have fin : ∀ G3, Gr G2 H2 G3 H2 → G3 b2 = some (.tup (kv.1.map V.int)) → ∃ G', Gr G2 H2 G' (upd H2 T (.tup [.ref b2, u])) ∧ Same H2 (upd H2 T (.tup [.ref b2, u])) ∧ At X.K G' (.ref T) (.tuple [.tuple (kv.1.map .int), kv.2]) := fun G3 g3 e =>
        ⟨upd G3 T (.tup [.ref b2, u]), g3.trans (.new g3.sub hT), same_upd hT, .tup upd_same (.cons (.tup (same_upd (g3.sub.free hT) _ _ e) (Ats.ints _)) (.one ((f2.up (s1.trans g3.gx)).up (same_upd (g3.sub.free hT)))))⟩
      cases w2 : G2 b2 with
      | none => exact fin _ (Gr.tup s2 hb) upd_same
      | some u2 =>
        have := s2 _ _ w2
        rw [hb] at this
        cases this
        exact fin G2 (.refl s2) w2⟩⟩

/-! setdefault -/
theorem mt_setdef : MtR X "dict.setdefault" (fun x xs H Q => ∃ (a : Addr) (kvs : List (L2.Key × V)) (k : L2.Key) (v : V), x = .ref a ∧ xs = [kV k, v] ∧ H a = some (.dK kvs) ∧ kvs.length < sizeLine ∧ (∀ u, valV kvs k = some u → Q u H) ∧ (valV kvs k = none → Q v (upd H a (.dK (putK kvs k v))))) := by
  intro pins s σ H x xs v us Q I rx rxs h
  obtain ⟨a, kvs, k, y, rfl, rfl, ha, hz, q1, q2⟩ := h
  cases rx
  obtain ⟨u1, u2, rfl, r1, r2⟩ := vals2 rxs
  obtain ⟨z, hd, vs, rel, dd⟩ := dk_of I.hok ha
  refine call_meetsIn PySem.F.slot_dict_setdefault dd.typeIs PySem.F.entry_dict_setdefault (PySem.F.args_dict_setdefault_3 _ _ _) (kt_meets_setdefault (mixKind X.prog X.w) a (kV_is r1) hd u2) ⟨vs, dd, by rw [← rel.length]; exact z, fun w hw => ?_, fun hn h' dd' hs => ?_⟩
  · have r := rel.val k
    rw [hw] at r
    cases ev : valV kvs k with
    | none => rw [ev] at r; exact (show False from r).elim
    | some v0 => rw [ev] at r; exact ⟨v0, H, I.tok _, r, q1 v0 ev⟩
  · have r := rel.val k
    rw [hn] at r
    have e : valV kvs k = none := by
      cases ev : valV kvs k with
      | none => rfl
      | some v0 => rw [ev] at r; exact (show False from r).elim
    have hl : (putK kvs k y).length ≤ sizeLine := by have := length_putK kvs k y; omega
    have he : ∃ q, h'.get? a = some q := let ⟨q, _, _, hq, _⟩ := dd'; ⟨q, hq⟩
    exact ⟨y, _, d_write I (by rw [ha]; exact True.intro) hs he (dk_new hl hd (rel.put k r2) dd'), r2, q2 e⟩
def dDef (ivs : List (Int × PyData)) (i : Int) (d : PyData) : List (Int × PyData) := if (dGet ivs i).isSome then ivs else ivs ++ [(i, d)]
theorem dDef_put {ivs : List (Int × PyData)} {i : Int} {d : PyData} (h : dGet ivs i = none) : dPut ivs i d = ivs ++ [(i, d)] := by
  unfold dPut
  rw [dGet_any, h]
  rfl
/-- o.setdefault(i, d), as a statement -/
theorem go_sdef {e2 : Expr} (ho : Ev X o Δ (S.and (.dK X.K q ivs)) (ob q)) (he : Ev X e Δ (S.and (.dK X.K q ivs)) (.int i)) (hv : Ev X e2 Δ (S.and (.dK X.K q ivs)) d) (hS : ¬ S.fo q) (hz : ivs.length < 16000000) (kk : Go X rest D Δ (S.and (.dK X.K q (dDef ivs i d))))
    (hbase : attributeBase o "setdefault" X.env (eval o X.env) = eval o X.env := by rfl)
    (hfew : ((backTo cpos (starEach [e, e2] X.env)).all (fun x => !x.1) && (backToKw cpos (keywordEach [] X.env)).all (fun x => x.1.isSome) && decide ([e, e2].length + ([] : List Keyword).length + (if ([] : List Keyword).isEmpty then 0 else 1) < 30)) = true := by rfl)
    (hline : (apos.endLine == cpos.line) = true := by rfl) (hs' : starEach [e, e2] X.env = (false, eval e X.env) :: starEach [e2] X.env := by rfl) (hs2 : starEach [e2] X.env = (false, eval e2 X.env) :: starEach [] X.env := by rfl) (hplain : (backTo cpos (starEach [e2] X.env)).any (·.1) = false := by rfl)
    (hs : swapsWith (.Call (.Attribute o "setdefault" apos) [e, e2] [] cpos) none pos.line X.env = pure false := by rfl) : Go X (.Expr (.Call (.Attribute o "setdefault" apos) [e, e2] [] cpos) pos :: rest) D Δ (S.and (.dK X.K q ivs)) :=
  go_cons (ps_expr (pe_bm PySem.F.plainAttrs_dict PySem.F.slot_dict_setdefault PySem.F.type_dict_setdefault mt_setdef (pe_ev X o) (pa_cons (pe_ev X e) (pa_cons (pe_ev X e2) pa_nil hs2) hs') hbase hfew hline hs' hplain) hs) fun σ G H D' l a b c => ⟨Δ, _, _, G, ho, a, b, c, fun v G1 H1 g1 p1 r1 => by
    rw [At.obj_eq r1]
    obtain ⟨_, _, o1, h1, vs1, rfl, _⟩ := id p1
    refine ⟨.inr (.inr (.inl ⟨rfl, .inl ⟨_, h1⟩⟩)), Δ, _, _, G1, he, a.up g1.gx, g1.sub, p1, fun w G2 H2 g2 p2 r2 => ⟨Δ, _, _, G2, hv, (a.up g1.gx).up g2.gx, g2.sub, p2, fun y G3 H3 g3 p3 r3 => ?_⟩⟩
    cases r2
    obtain ⟨pS, hG, o2, h2, vs, rfl, h3⟩ := p3
    have hlen : (zk ikf ivs vs).length = ivs.length := zk_len (by have := h3.len; rw [List.length_map] at this; omega)
    obtain ⟨z1, z2⟩ := zk_get (f := ikf) ikf_inj i h3
    refine ⟨q, _, ikf i, y, rfl, rfl, h2, by rw [hlen]; exact Nat.lt_of_lt_of_le hz (by decide), fun u hu => ?_, fun hn => ?_⟩
    · have e : dDef ivs i d = ivs := by
        unfold dDef
        cases w : dGet ivs i with
        | none => rw [z1 w] at hu; cases hu
        | some _ => rfl
      rw [e] at kk
      exact l.nx _ _ ⟨G3, (g1.gx.trans g2.gx).trans g3.gx, g3.sub, Δ, _, kk, ((a.up g1.gx).up g2.gx).up g3.gx, pS, hG, _, h2, vs, rfl, h3⟩
    · have e : dGet ivs i = none := by
        cases w : dGet ivs i with
        | none => rfl
        | some d => obtain ⟨v, e, _⟩ := z2 d w; rw [hn] at e; cases e
      obtain ⟨vs', e1, e2⟩ := zk_put (f := ikf) ikf_inj (k := i) r3 h3
      have e3 : dDef ivs i d = dPut ivs i d := by unfold dDef; rw [e, dDef_put e]; rfl
      rw [e3] at kk
      refine l.nx _ _ ⟨G3, (g1.gx.trans g2.gx).trans g3.gx, fun b2 u q2 => ?_, Δ, _, kk, ((a.up g1.gx).up g2.gx).up g3.gx, S.stb hS (fun ⟨_, z⟩ => by cases z) pS hG (by rw [h2]; exact fun z => by cases z), hG, _, upd_same, vs', by rw [e1], e2⟩
      rw [upd_ne (ne_of_none q2 hG)]; exact g3.sub _ _ q2⟩
/-- name = {}, a dict of int keys -/
theorem go_newK {x : Str} {p' : Pos} (n : Nat) (hN : X.N.Nodup) (kk : ∀ q, ¬ S.own q → Go X rest D (Δ.set n (some (ob q))) (S.and (.dK X.K q []))) (hi : X.N[n]? = some x := by rfl) (hx : Loc X.env.scope x := by first | exact Or.inl rfl | exact Or.inr rfl)
    (hs : swapsWith (.Dict [] [] p) (some (.Name x p')) pos.line X.env = pure false := by rfl) (hf : X.fn x = true ∨ X.env.scope.names.lookup x = some .local := by first | exact .inl rfl | exact .inr rfl | assumption) : Go X (.Assign [.Name x p'] (.Dict [] [] p) pos :: rest) D Δ S :=
  go_cons (ps_set hN hi hx pe_dnewK hs hf) fun σ G H D' l a b c q hq => by
    have n2 := Gr.h (H2 := upd H q (.dK [])) b (same_upd hq)
    exact l.nx _ _ ⟨G, Same.refl _, n2.sub, _, _, kk q (not_own c hq), a.set (.obj q), S.cl n2 (same_upd hq) c, b.free hq, _, upd_same, [], rfl, .nil⟩
end
end DL
namespace DL
open PySem PySem.Spec PyProof.Rows L2
/-- a new dict of int keys; of tuple keys -/
def rNK (K : PySem.W.Frag) (kvs : List (Int × PyData)) : RR := fun _ H v G2 H2 => ∃ p, v = .ref p ∧ H p = none ∧ (As.dK K p kvs).p G2 H2
def rNT (K : PySem.W.Frag) (kvs : List (List Int × PyData)) : RR := fun _ H v G2 H2 => ∃ p, v = .ref p ∧ H p = none ∧ (As.dT K p kvs).p G2 H2
theorem back_nk {K : PySem.W.Frag} {kvs : List (Int × PyData)} : Back (rNK K kvs) := fun _ _ _ _ _ _ _ r ⟨p, e, h, k⟩ => ⟨p, e, none_back r h, k⟩
theorem back_nt {K : PySem.W.Frag} {kvs : List (List Int × PyData)} : Back (rNT K kvs) := fun _ _ _ _ _ _ _ r ⟨p, e, h, k⟩ => ⟨p, e, none_back r h, k⟩
section
variable {X : Cx} {scope : Scope} {o e kx vx tg iter : Expr} {ifs : List Expr} {Δ : De} {S T : As} {R : RR} {d : PyData} {ds : List PyData} {pos p : Pos} {q : Addr} {k : List Int} {kvs : List (List Int × PyData)} {ivs : List (Int × PyData)}
theorem dK_len {K : PySem.W.Frag} {G H : Hp} (h : (As.dK K q ivs).p G H) : ∃ vs, H q = some (.dK (zk ikf ivs vs)) ∧ Ats K G vs (ivs.map (·.2)) ∧ (zk ikf ivs vs).length = ivs.length := by
  obtain ⟨_, o, h1, vs, rfl, h2⟩ := h
  exact ⟨vs, h1, h2, zk_len (by have := h2.len; rw [List.length_map] at this; omega)⟩
/-- {k: v for tg in iter} -/
theorem ev_dc {α : Type} {xs : List α} {enc : α → PyData} {is : List Nat} (own : List (Str × Nat)) (kf : α → Int) (gf : α → PyData) (F : α → De → De) (hi : ItD X tg iter Δ S (xs.map enc)) (hc : X.calm = true) (hN : X.N.Nodup) (ok : BlkOk X.N X.env.scope scope own)
    (hz : xs.length ≤ 1000000) (his : ∀ i ∈ is, i ∈ own.map (·.2)) (htg : ∀ x ∈ xs, AllB X scope fun Y => TgS Y tg is (enc x) (F x))
    (hk : ∀ D es, ¬ S.own D → ∀ x ∈ xs, AllB X scope fun Y => Ev Y kx (F x (wipeD Δ (own.map (·.2)))) (S.and (.dK X.K D es)) (.int (kf x)))
    (hv : ∀ D es, ¬ S.own D → ∀ x ∈ xs, AllB X scope fun Y => Ev Y vx (F x (wipeD Δ (own.map (·.2)))) (S.and (.dK X.K D es)) (gf x))
    (hs : ∀ x, foldedSetIterable iter X.env x = pure x := by intro _; rfl) :
    EvR X (.DictComp kx vx [⟨tg, iter, [], 0⟩] scope pos) Δ S (rNK X.K (xs.foldl (fun acc x => dPut acc (kf x) (gf x)) [])) := by
  obtain ⟨wi, w1, w2⟩ := hi
  refine ev_pe (pe_dc hc hN w1 ok (pg_tgB X scope tg) (pts_tsB X scope []) (pe_evB X scope kx) (pe_evB X scope vx) hs) fun σ G H Q ha hb hcS q => ?_
  refine w2 σ G H _ ha hb hcS fun J G1 H1 g1 p1 W D hD => ?_
  have hO : ¬ S.own D := not_own p1 hD
  have hG1 : G1 D = none := g1.sub.free hD
  refine ⟨fun i m H' => m = xs.length - i ∧ i ≤ xs.length ∧ ∃ G' es, Gr G H G' H' ∧ Same G1 G' ∧ es = (xs.take i).foldl (fun acc x => dPut acc (kf x) (gf x)) [] ∧ es.length ≤ i ∧ (S.and (.dK X.K D es)).p G' H', ⟨xs.length, by simp, Nat.zero_le _, G1, [], ?_⟩, ?_⟩
  · obtain ⟨g2, p2⟩ := layH (S := S) (o := .dK []) g1 p1 hD
    exact ⟨g2, Same.refl _, rfl, Nat.le_refl _, p2, hG1, _, upd_same, [], rfl, .nil⟩
  rintro i m H' ⟨rfl, hle, G', es, g2, s1, hes, hln, p2⟩
  have pS : S.p G' H' := p2.1
  by_cases hlt : i < xs.length
  · obtain ⟨x, hx⟩ : ∃ x, xs[i]? = some x := ⟨xs[i], List.getElem?_eq_getElem hlt⟩
    have hmem : x ∈ xs := List.mem_of_getElem? hx
    have hxd : (xs.map enc)[i]? = some (enc x) := by rw [List.getElem?_map, hx]; rfl
    obtain ⟨j1, j2⟩ := W.go i (enc x) G' H' s1 g2.sub hxd
    refine .inr ⟨j1, fun H'' => i + 1 ≤ xs.length ∧ ∃ G' es, Gr G H G' H'' ∧ Same G1 G' ∧ es = (xs.take (i + 1)).foldl (fun acc x => dPut acc (kf x) (gf x)) [] ∧ es.length ≤ i + 1 ∧ (S.and (.dK X.K D es)).p G' H'', fun H'' ⟨h1, h2⟩ => ⟨xs.length - (i + 1), by omega, rfl, h1, h2⟩, fun v H'' y => ?_⟩
    obtain ⟨G3, g3, s3, a3⟩ := j2 v H'' y
    have p3 : (S.and (.dK X.K D es)).p G3 H'' := As.cl _ g3 s3 p2
    refine ⟨wipeD Δ (own.map (·.2)), is, enc x, F x, G3, htg x hmem, (ha.up (g2.gx.trans g3.gx)).wipe _, g3.sub, a3, fun σ' e' w' => ⟨?_, ?_⟩⟩
    · rw [w' _ his, wipe_wipe]
    refine ⟨_, _, true, G3, fun _ _ _ _ _ => evts_nil, e', g3.sub, p3, fun G4 H4 g4 p4 => ?_⟩
    refine iteT ⟨_, _, rAt X.K (.int (kf x)), G4, (fun s H C cl fp => hk D _ hO x hmem s H C cl fp), e'.up g4.gx, g4.sub, p4, fun y G5 H5 g5 p5 r5 => ⟨_, _, rAt X.K (gf x), G5, (fun s H C cl fp => hv D _ hO x hmem s H C cl fp), (e'.up g4.gx).up g5.gx, g5.sub, p5, fun z G6 H6 g6 p6 r6 => ?_⟩⟩
    cases r5
    obtain ⟨pS6, hG6, o6, h6, vs, rfl, hats⟩ := p6
    have hl : (zk ikf es vs).length = es.length := zk_len (by have := hats.len; rw [List.length_map] at this; omega)
    obtain ⟨vs', e1, e2⟩ := zk_put (f := ikf) ikf_inj (k := kf x) r6 hats
    refine ⟨_, ikf (kf x), rfl, h6, by rw [hl]; exact Nat.lt_of_le_of_lt hln (Nat.lt_of_lt_of_le hlt (Nat.le_trans hz (by decide))), hlt, G6, dPut es (kf x) (gf x), ?_, (((s1.trans g3.gx).trans g4.gx).trans g5.gx).trans g6.gx, ?_, ?_, S.stb (As.nf hO) (fun ⟨_, z⟩ => by cases z) pS6 hG6 (by rw [h6]; exact fun z => by cases z), hG6, _, upd_same, vs', by rw [e1], e2⟩
    · refine ((((g2.trans g3).trans g4).trans g5).trans g6).trans ⟨Same.refl _, fun b u q => ?_, fun _ q k => absurd q k, fun b o q => ?_⟩
      · rw [upd_ne (ne_of_none q hG6)]; exact g6.sub b u q
      · by_cases hb : b = D
        · subst hb; exact ⟨_, upd_same, fun ⟨_, z⟩ => by cases z⟩
        · exact ⟨o, by rw [upd_ne hb]; exact q, fun z => z⟩
    · rw [take_some hx, List.foldl_append, ← hes]; rfl
    · have := dPut_len es (kf x) (gf x); omega
  · have e : i = xs.length := by omega
    subst e
    have h2 := W.stop G' H' s1 g2.sub
    rw [List.length_map] at h2
    rw [List.take_length] at hes
    subst hes
    exact .inl ⟨h2, q _ G' H' g2 p2.1 ⟨D, rfl, none_back g1 hD, p2.2⟩⟩
/-- list(a new dict) -/
theorem evl_listNK {x : Str} (hx : x = "list") (hc : X.calm = true) (hg : Gl X x) (hm : X.mg x = none) (h : EvR X e Δ S (rNK X.K ivs)) (he : starEach [e] X.env = (false, eval e X.env) :: starEach [] X.env := by rfl) (hpl : (backTo pos (starEach [] X.env)).any (·.1) = false := by rfl) :
    EvL X (.Call (.Name x p) [e] [] pos) Δ S (ivs.map fun kv => .int kv.1) := by
  subst hx
  refine ev_pe (pe_callTy (call_list_dK hc) hg hm (by decide +kernel) (pa_cons (pe_ev X e) pa_nil he) (by decide) (by decide) he hpl) fun σ G H Q a b c q' => ⟨Δ, S, _, G, h, a, b, c, fun v G1 H1 g p1 ⟨r, e1, e2, e3⟩ => ?_⟩
  subst e1
  obtain ⟨vs, h1, h2, hl⟩ := dK_len e3
  refine ⟨r, _, rfl, h1, fun l hl' => ?_⟩
  obtain ⟨g3, p3⟩ := layH (o := .lst ((zk ikf ivs vs).map fun kv => kV kv.1)) g p1 hl'
  refine q' _ _ _ g3 p3 ⟨l, _, rfl, none_back g hl', g.sub.free hl', upd_same, ?_⟩
  have go : ∀ (ivs : List (Int × PyData)) (vs : List V), ivs.length = vs.length → Ats X.K G1 ((zk ikf ivs vs).map fun kv => kV kv.1) (ivs.map fun kv => .int kv.1) := by
    intro ivs
    induction ivs with
    | nil => intro vs _; exact .nil
    | cons kv r ih =>
      intro vs hl
      cases vs with
      | nil => cases hl
      | cons v vs => exact .cons (.int kv.1) (ih vs (by simpa using hl))
  exact go ivs vs (by have := h2.len; rw [List.length_map] at this; omega)
/-- list(a dict that may still change) -/
theorem evl_listK {x : Str} (hx : x = "list") (hc : X.calm = true) (hg : Gl X x) (hm : X.mg x = none) (hS : S.le (.dK X.K q ivs)) (h : Ev X e Δ S (ob q)) (he : starEach [e] X.env = (false, eval e X.env) :: starEach [] X.env := by rfl) (hpl : (backTo pos (starEach [] X.env)).any (·.1) = false := by rfl) :
    EvL X (.Call (.Name x p) [e] [] pos) Δ S (ivs.map fun kv => .int kv.1) := by
  subst hx
  refine ev_pe (pe_callTy (call_list_dK hc) hg hm (by decide +kernel) (pa_cons (pe_ev X e) pa_nil he) (by decide) (by decide) he hpl) fun σ G H Q a b c q' => ⟨Δ, S, _, G, h, a, b, c, fun v G1 H1 g p1 r1 => ?_⟩
  rw [At.obj_eq r1]
  obtain ⟨vs, h1, h2, hl⟩ := dK_len (hS _ _ p1)
  refine ⟨q, _, rfl, h1, fun l hl' => ?_⟩
  obtain ⟨g3, p3⟩ := layH (o := .lst ((zk ikf ivs vs).map fun kv => kV kv.1)) g p1 hl'
  refine q' _ _ _ g3 p3 ⟨l, _, rfl, none_back g hl', g.sub.free hl', upd_same, ?_⟩
  have go : ∀ (ivs : List (Int × PyData)) (vs : List V), ivs.length = vs.length → Ats X.K G1 ((zk ikf ivs vs).map fun kv => kV kv.1) (ivs.map fun kv => .int kv.1) := by
    intro ivs
    induction ivs with
    | nil => intro vs _; exact .nil
    | cons kv r ih =>
      intro vs hl
      cases vs with
      | nil => cases hl
      | cons v vs => exact .cons (.int kv.1) (ih vs (by simpa using hl))
  exact go ivs vs (by have := h2.len; rw [List.length_map] at this; omega)

/-! {k: v}, k a tuple -/
def tDisp1T (tk tv : TE) : TE := fun σ H Q => ∀ p, H p = none → tk σ (upd H p (.dT [])) fun x H1 => tv σ H1 fun y H2 => H2 p = some (.dT []) ∧ ∃ (b : Addr) (k : List L2.Key), x = .ref b ∧ H2 b = some (.tup (k.map kV)) ∧ Q (.ref p) (upd H2 p (.dT [(k, y)]))
theorem pe_disp1T {k v : Expr} {tk tv : TE} (hu : X.A.units + 1 < cLine) (hk : PE X k tk) (hv : PE X v tv) : PE X (.Dict [some k] [v] pos) (tDisp1T tk tv) := by
  refine ⟨fun pins s σ H Q I q => ?_⟩
  have hn := I.hok.fresh (Nat.le_refl s.heap.objs.size)
  have I1 := I.laid (a := s.heap.objs.size) (o := .dT []) (h' := s.heap.push { cls := .type "dict", data := .dict #[] }) (t' := s.toks) (fun _ _ q => Heap.get?_push_of_some _ q) (Nat.le_refl _) (dt_empty s.heap I.big)
  rw [arm_eval_Dict, zip_pairTrees [some k] [v] X.env pos rfl rfl, dictDisplay_pairs _ (by simp [pairTrees]) (by simp [pairTrees])]
  refine wpAny_bind (wpAny_standAt (wpAny_bind (wpAny_subDictH (knd := tupleKind (mixKind X.prog X.w)) (show X.A.units < cLine by omega) (by simp [pairTrees]) ?_)))
  refine pairTrees_cons_walk (thn (hk.run pins _ σ _ _ I1 (q _ hn)) fun kv s2 ⟨x, H1, I2, rx, q1⟩ => thn (hv.run pins s2 σ H1 _ I2 q1) fun vv s3 ⟨y, H2, I3, ry, h0, b, key, ex, hb, q2⟩ => ?_)
  subst ex
  cases (show kv = Value.ref b from rx)
  refine pairTrees_nil_walk ?_
  obtain ⟨z, hd, xs', rel, dd⟩ := dt_of I3.hok h0
  cases rel
  refine ⟨[(key, b, vv)], ⟨rfl, rfl, key_of I3.hok hb, trivial⟩, dd, fun h' tk hm hs => wpAny_pure ?_⟩
  obtain ⟨o, es, ep, hq, h2, h3, h4, _, h5⟩ := hm
  refine ⟨.ref s.heap.objs.size, _, d_write (ob := .dT [(key, y)]) (t' := tk) I3 (by rw [h0]; exact True.intro) hs ⟨o, hq⟩ ⟨by show 1 ≤ sizeLine; decide, hd, [(key, b, vv)], .cons ⟨rfl, ?_, ry⟩ .nil, o, es, ep, hq, h2, h3, h4, h5⟩, rfl, q2⟩
  show (upd H2 s.heap.objs.size (.dT [(key, y)])) b = some (.tup (key.map kV))
  rw [upd_ne (ne_of hb h0 (fun z => nomatch z))]
  exact hb
/-- name = {k: v}, a dict of tuple keys -/
theorem go_new1T {x : Str} {p' : Pos} {kx vx : Expr} (n : Nat) (hu : X.A.units + 1 < cLine) (hN : X.N.Nodup) (hk : ∀ q, ¬ S.own q → Ev X kx Δ (S.and (.dT X.K q [])) (.tuple (k.map .int))) (hv : ∀ q, ¬ S.own q → Ev X vx Δ (S.and (.dT X.K q [])) d) {rest : List Stmt} {D : EndsG} (kk : ∀ q, ¬ S.own q → Go X rest D (Δ.set n (some (ob q))) (S.and (.dT X.K q [(k, d)]))) (hi : X.N[n]? = some x := by rfl) (hx : Loc X.env.scope x := by first | exact Or.inl rfl | exact Or.inr rfl)
    (hs : swapsWith (.Dict [some kx] [vx] p) (some (.Name x p')) pos.line X.env = pure false := by rfl) (hf : X.fn x = true ∨ X.env.scope.names.lookup x = some .local := by first | exact .inl rfl | exact .inr rfl | assumption) : Go X (.Assign [.Name x p'] (.Dict [some kx] [vx] p) pos :: rest) D Δ S :=
  go_cons (ps_set hN hi hx (pe_disp1T hu (pe_ev X kx) (pe_ev X vx)) hs hf) fun σ G H D' l a b c q hq => by
    have n2 := Gr.h (H2 := upd H q (.dT [])) b (same_upd hq)
    have hO := not_own c hq
    refine ⟨Δ, _, _, G, hk q hO, a, n2.sub, ⟨S.cl n2 (same_upd hq) c, b.free hq, _, upd_same, [], rfl, .nil⟩, fun v G1 H1 g1 p1 r1 => ⟨Δ, _, _, G1, hv q hO, a.up g1.gx, g1.sub, p1, fun w G2 H2 g2 p2 r2 => ?_⟩⟩
    obtain ⟨pS, hG, o1, h1, vs, rfl, h2⟩ := p2
    cases h2
    obtain ⟨b', rfl, hb⟩ := tup_key r1
    refine ⟨h1, b', tkf k, rfl, g2.sub _ _ (g2.gx _ _ hb), l.nx _ _ ⟨G2, g1.gx.trans g2.gx, fun b2 u q2 => ?_, _, _, kk q hO, ((a.up g1.gx).up g2.gx).set (.obj q), S.stb (As.nf hO) (fun ⟨_, z⟩ => by cases z) pS hG (by rw [h1]; exact fun z => by cases z), hG, _, upd_same, [w], rfl, .one r2⟩⟩
    rw [upd_ne (ne_of_none q2 hG)]; exact g2.sub _ _ q2
end
end DL
namespace DL
open PySem PySem.Spec PyProof.Rows L2
section
variable {X : Cx} {S : As} {ds es : List PyData} {d : PyData} {a b : Expr} {Δ : De} {pos : Pos}
/-- xs + ys -/
theorem od_catL (h : ds.length + es.length ≤ 1000000) : OpD X (binaryOp .Add) S (.list ds) (.list es) (rNl X.K (ds ++ es)) :=
  ⟨_, op_cat, fun G H x y Q b c h1 h2 q => by
    cases h1 with
    | lst hs ha =>
      cases h2 with
      | lst hs' ha' =>
        refine ⟨_, _, _, _, rfl, rfl, b _ _ hs, b _ _ hs', by rw [ha.len, ha'.len]; exact Nat.le_trans h (by decide), fun p hp => ?_⟩
        obtain ⟨g2, p2⟩ := layH (o := .lst _) (.refl b) c hp
        exact q _ _ _ g2 p2 ⟨p, _, rfl, hp, b.free hp, upd_same, ha.app ha'⟩⟩
/-- [d] * n -/
theorem od_repL {n : Nat} (h : n ≤ 1000000) : OpD X (binaryOp .Mult) S (.list [d]) (.int n) (rNl X.K (List.replicate n d)) :=
  ⟨_, op_rep, fun G H x y Q b c h1 h2 q => by
    cases h1 with
    | lst hs ha =>
      cases ha with
      | @cons v vs _ _ h1 h3 =>
        cases h3
        cases h2
        refine ⟨_, _, _, rfl, rfl, b _ _ hs, by omega, by omega, by simp; exact Nat.le_trans h (by decide), fun p hp => ?_⟩
        obtain ⟨g2, p2⟩ := layH (o := .lst (List.replicate (n : Int).toNat [v]).flatten) (.refl b) c hp
        refine q _ _ _ g2 p2 ⟨p, _, rfl, hp, b.free hp, upd_same, ?_⟩
        rw [Int.toNat_natCast]
        have go : ∀ n : Nat, Ats X.K G (List.replicate n [v]).flatten (List.replicate n d) := fun n => by
          induction n with
          | zero => exact .nil
          | succ n ih => rw [List.replicate_succ, List.flatten_cons, List.replicate_succ]; exact .cons h1 ih
        exact go n⟩
end
end DL
namespace DL
open PySem PySem.Spec PyProof.Rows L2
section
variable {X : Cx} {o e a b : Expr} {es : List Expr} {Δ : De} {S T : As} {R : RR} {d d1 : PyData} {ds es' : List PyData} {ns : List Str} {pos p apos cpos p' : Pos} {f : Str} {r C x : Addr} {P : PyData → Prop} {PL : List PyData → Prop} {rest : List Stmt} {D : EndsG}
theorem go_fld1 (ho : Ev X o Δ (S.and (.inst X.K x C ns ds)) (ob x)) (he : Ev X e Δ (S.and (.inst X.K x C ns ds)) d) (c : Cls X.K C) (na : NoAttr X.K C f) (hS : ¬ S.fo x) (k : Go X rest D Δ (S.and (.inst X.K x C (ns ++ [f]) (ds ++ [d])))) (hn : fIx f ns = none := by decide +kernel) (hl : ns.length < 1000 := by decide)
    (hs : swapsWith e (some (.Attribute o f p)) pos.line X.env = pure false := by rfl) : Go X (.Assign [.Attribute o f p] e pos :: rest) D Δ (S.and (.inst X.K x C ns ds)) :=
  go_fld (P := fun d' => d' = d) ho (EvR.x he rfl) c na hS (fun d' h => by rw [h]; exact k) hn hl hs
/-- {}, whatever it becomes -/
theorem evx_dict0 (h : ∀ p, P (ob p)) : EvX X (.Dict [] [] pos) Δ S P :=
  ev_pe pe_dnewK fun σ G H Q a b c q p hp => by
    have n2 := Gr.h (H2 := upd H p (.dK [])) b (same_upd hp)
    exact q _ G _ n2 (S.cl n2 (same_upd hp) c) ⟨ob p, h p, .obj p⟩
/-- o.m(e, ..), o an instance that is being made -/
theorem evx_mtM {m : Str} {k j : Nat} {pl : Sem Bool} {Pr : Hp → List PyData → As → RR → Prop} (c : C8.Met X.prog X.w X.K X.mg X.base k C m (spM X.K Pr) []) (hr : Room j X.A) (ho : Ev X o Δ S (ob r)) (hi : S.le (.inst X.K r C ns ds)) (ha : EvAX X (e :: es) Δ S PL) (hT : Has S T) (hP : ∀ G H ds', PL ds' → S.p G H → Pr G (ob r :: ds') T (rAnd T R))
    (hR : Back R := by first | exact back_x | exact back_at | exact back_nl) (hm : fIx m ns = none := by decide +kernel) (hk : k ≤ j := by decide)
    (hst : starEach (e :: es) X.env = (false, eval e X.env) :: starEach es X.env := by rfl) (hpl : (backTo pos (starEach es X.env)).any (·.1) = false := by rfl)
    (ht : eval (.Call (.Attribute o m apos) (e :: es) [] pos) X.env = (do
      let ov ← eval o X.env
      standAt apos.atName
      let (f, first) ← holding [ov] (getMethod ov m pl)
      callWith pos f first (backTo pos (starEach (e :: es) X.env)) (backToKw pos (keywordEach [] X.env))) := by rfl) :
    EvR X (.Call (.Attribute o m apos) (e :: es) [] pos) Δ S R := by
  obtain ⟨S', h1, h2, h3⟩ := hT
  exact ev_pe (C8.pe_mt (pl := pl) c hr hk (pe_ev X o) (pa_evx X _) hst hpl ht) fun σ G H Q a' b c' q => ⟨Δ, S, _, G, ho, a', b, c', fun v G1 H1 g p1 r1 => by
    obtain ⟨_, o1, e1, dx, fs, rfl, e2, e3⟩ := hi _ _ p1
    refine ⟨r, dx, fs, At.obj_eq r1, e1, fIx_none (by rw [e2]; exact hm), Δ, S, PL, G1, ha, a'.up g.gx, g.sub, p1, fun vs ds' G2 H2 z g2 p2 r2 => ?_⟩
    show spM X.K Pr (v :: (vs ++ [])) H2 Q E0
    rw [List.append_nil]
    exact ⟨G2, ob r :: ds', T, _, g2.sub, .cons (r1.up g2.gx) r2, (h1 _ _ p2).2, hP _ _ ds' z p2, fun v G3 H3 g3 s3 ⟨t3, r3⟩ => q v G3 H3 ((g.trans g2).trans g3) (h2 _ _ ⟨S'.fr g3 (fun a o n k => s3 a o (h3 a n) k) (h1 _ _ p2).1, t3⟩) (hR _ _ _ _ _ _ _ (g.trans g2) r3)⟩⟩
/-- o.m(e, ..), o known, what it changes is kept -/
theorem evx_mtK {m : Str} {k j : Nat} {pl : Sem Bool} {Pr : Hp → List PyData → As → RR → Prop} (c : C8.Met X.prog X.w X.K X.mg X.base k C m (spM X.K Pr) []) (hr : Room j X.A) (ho : Ev X o Δ S (insD r C ns ds)) (ha : EvAX X (e :: es) Δ S PL) (hT : Has S T) (hP : ∀ G H ds', PL ds' → S.p G H → Pr G (insD r C ns ds :: ds') T (rAnd T R))
    (hR : Back R := by first | exact back_x | exact back_at | exact back_nl) (hm : fIx m ns = none := by decide +kernel) (hk : k ≤ j := by decide)
    (hst : starEach (e :: es) X.env = (false, eval e X.env) :: starEach es X.env := by rfl) (hpl : (backTo pos (starEach es X.env)).any (·.1) = false := by rfl)
    (ht : eval (.Call (.Attribute o m apos) (e :: es) [] pos) X.env = (do
      let ov ← eval o X.env
      standAt apos.atName
      let (f, first) ← holding [ov] (getMethod ov m pl)
      callWith pos f first (backTo pos (starEach (e :: es) X.env)) (backToKw pos (keywordEach [] X.env))) := by rfl) :
    EvR X (.Call (.Attribute o m apos) (e :: es) [] pos) Δ S R := by
  obtain ⟨S', h1, h2, h3⟩ := hT
  exact ev_pe (C8.pe_mt (pl := pl) c hr hk (pe_ev X o) (pa_evx X _) hst hpl ht) fun σ G H Q a' b c' q => ⟨Δ, S, _, G, ho, a', b, c', fun v G1 H1 g p1 r1 => by
    obtain ⟨rfl, dx, fs, e1, e2, e3⟩ := r1.ins_inv
    refine ⟨r, dx, fs, rfl, g.sub _ _ e1, fIx_none (by rw [e2]; exact hm), Δ, S, PL, G1, ha, a'.up g.gx, g.sub, p1, fun vs ds' G2 H2 z g2 p2 r2 => ?_⟩
    show spM X.K Pr (V.ref r :: (vs ++ [])) H2 Q E0
    rw [List.append_nil]
    exact ⟨G2, _ :: ds', T, _, g2.sub, .cons (r1.up g2.gx) r2, (h1 _ _ p2).2, hP _ _ ds' z p2, fun v G3 H3 g3 s3 ⟨t3, r3⟩ => q v G3 H3 ((g.trans g2).trans g3) (h2 _ _ ⟨S'.fr g3 (fun a o n k => s3 a o (h3 a n) k) (h1 _ _ p2).1, t3⟩) (hR _ _ _ _ _ _ _ (g.trans g2) r3)⟩⟩
/-- name = o.m() -/
theorem go_setMt0 {m y : Str} {k j : Nat} {pl : Sem Bool} {Pr : Hp → List PyData → As → RR → Prop} (i : Nat) (c : C8.Met X.prog X.w X.K X.mg X.base k C m (spM X.K Pr) []) (hr : Room j X.A) (ho : Ev X o Δ (S.and T) (insD r C ns ds)) (hT : ∀ a, S.fo a → ¬ T.fo a) (hP : ∀ G H, (S.and T).p G H → Pr G [insD r C ns ds] T R) (hN : X.N.Nodup)
    (kk : ∀ G H v G2 H2, S.p G2 H2 → R G H v G2 H2 → ∃ d S', At X.K G2 v d ∧ S'.p G2 H2 ∧ Go X rest D (Δ.set i (some d)) S') (hm : fIx m ns = none := by decide +kernel) (hk : k ≤ j := by decide)
    (ht : eval (.Call (.Attribute o m apos) [] [] cpos) X.env = (do
      let ov ← eval o X.env
      standAt apos.atName
      let (f, first) ← holding [ov] (getMethod ov m pl)
      callWith cpos f first (backTo cpos (starEach [] X.env)) (backToKw cpos (keywordEach [] X.env))) := by rfl)
    (hi : X.N[i]? = some y := by rfl) (hx : Loc X.env.scope y := by first | exact Or.inl rfl | exact Or.inr rfl)
    (hs : swapsWith (.Call (.Attribute o m apos) [] [] cpos) (some (.Name y p')) pos.line X.env = pure false := by rfl) (hf : X.fn y = true ∨ X.env.scope.names.lookup y = some .local := by first | exact .inl rfl | exact .inr rfl | assumption) :
    Go X (.Assign [.Name y p'] (.Call (.Attribute o m apos) [] [] cpos) pos :: rest) D Δ (S.and T) :=
  go_cons (ps_set hN hi hx (C8.pe_mt0 (pl := pl) c hr hk (pe_ev X o) ht) hs hf) fun σ G H D' l a b c' => ⟨Δ, _, _, G, ho, a, b, c', fun v G1 H1 g p1 r1 => by
    obtain ⟨rfl, dx, fs, e1, e2, e3⟩ := r1.ins_inv
    refine ⟨r, dx, fs, rfl, g.sub _ _ e1, fIx_none (by rw [e2]; exact hm), ?_⟩
    refine ⟨G1, _, T, R, g.sub, .one r1, p1.2, hP _ _ p1, fun v G2 H2 g2 s2 r2 => ?_⟩
    obtain ⟨d, S', h1, h2, h3⟩ := kk _ _ _ _ _ (S.fr g2 (fun a o n k => s2 a o (hT a n) k) p1.1) r2
    exact l.nx _ _ ⟨G2, g.gx.trans g2.gx, g2.sub, _, S', h3, (a.up (g.gx.trans g2.gx)).set h1, h2⟩⟩
/-- name = C(e, ..), an instance that is known then, with what it holds -/
theorem go_setMk {n y : Str} {k j : Nat} {Pr : Hp → List PyData → As → RR → Prop} {Rm : Addr → RR} (i : Nat) (c : C8.Mak X.prog X.w X.K X.mg X.base k n C (spM X.K Pr) []) (hr : Room j X.A) (hg : Gl X n) (ha : EvA X (e :: es) Δ S ds) (hP : ∀ G H, S.p G H → ∀ a, Pr G (ob a :: ds) (.inst X.K a C [] []) (Rm a)) (hN : X.N.Nodup)
    (kk : ∀ a G H v G2 H2, ¬ S.own a → (∀ b, H b = none → ¬ S.own b) → S.p G2 H2 → Rm a G H v G2 H2 → v = .non ∧ ∃ ns ds' S', ¬ S'.own a ∧ S'.p G2 H2 ∧ (As.inst X.K a C ns ds').p G2 H2 ∧ Go X rest D (Δ.set i (some (insD a C ns ds'))) S') (hk : k + 1 ≤ j := by decide)
    (hdb : (n == ("__debug__" : Str)) = false := by decide) (he : starEach (e :: es) X.env = (false, eval e X.env) :: starEach es X.env := by rfl) (hpl : (backTo cpos (starEach es X.env)).any (·.1) = false := by rfl)
    (hi : X.N[i]? = some y := by rfl) (hx : Loc X.env.scope y := by first | exact Or.inl rfl | exact Or.inr rfl)
    (hs : swapsWith (.Call (.Name n p) (e :: es) [] cpos) (some (.Name y p')) pos.line X.env = pure false := by rfl) (hf : X.fn y = true ∨ X.env.scope.names.lookup y = some .local := by first | exact .inl rfl | exact .inr rfl | assumption) :
    Go X (.Assign [.Name y p'] (.Call (.Name n p) (e :: es) [] cpos) pos :: rest) D Δ S :=
  go_cons (ps_set hN hi hx (C8.pe_mk c hr hk hg (pa_ev X _) hdb he hpl) hs hf) fun σ G H D' l a b c' => ⟨Δ, S, ds, G, ha, a, b, c', fun vs G1 H1 g p1 r1 z dx hy hdx hne => by
    show spM X.K Pr (V.ref z :: (vs ++ [])) _ _ _
    rw [List.append_nil]
    have s1 : Same H1 (upd H1 dx (.own z)) := same_upd hdx
    have hy2 : upd H1 dx (.own z) z = none := by rw [upd_ne (Ne.symm hne)]; exact hy
    have s2 : Same H1 (upd (upd H1 dx (.own z)) z (.ins C dx [])) := s1.trans (same_upd hy2)
    have gr : Gr G1 H1 G1 (upd (upd H1 dx (.own z)) z (.ins C dx [])) := Gr.h g.sub s2
    have hGy : G1 z = none := g.sub.free hy
    refine ⟨G1, ob z :: ds, As.inst X.K z C [] [], Rm z, g.sub.trans s2, .cons (.obj z) r1, ⟨hGy, _, upd_same, dx, [], rfl, rfl, .nil⟩, hP _ _ p1 z, fun v G2 H2 g2 fr r2 => ?_⟩
    have pS2 : S.p G2 H2 := S.fr g2 (fun b o n k => fr b o (fun hb => by
      have hb : b = z := hb
      subst hb
      exact not_own p1 hy (S.fo_own n)) k) (S.cl gr s2 p1)
    obtain ⟨hv, ns, ds', S', n1, n2, ⟨hG2, o2, e1, dx2, fs, e2, e3, e4⟩, n4⟩ := kk z _ _ v G2 H2 (not_own p1 hy) (fun b hb => not_own (S.cl gr s2 p1) hb) pS2 r2
    subst e2 e3
    refine ⟨hv, l.nx _ _ ⟨upd G2 z (.ins C dx2 fs), (g.gx.trans g2.gx).trans (same_upd hG2), fun b' u w => ?_, _, S', n4, ((a.up (g.gx.trans g2.gx)).up (same_upd hG2)).set (.ins upd_same (e4.up (same_upd hG2))), S'.frz n1 n2 hG2 e1⟩⟩
    by_cases hb : b' = z
    · subst hb; rw [upd_same] at w; cases w; exact e1
    · rw [upd_ne hb] at w; exact g2.sub b' u w⟩
/-- a, b = e1, {} -/
theorem go_parK {x y : Str} {px py pt pt2 pd : Pos} {kt k2} (i j : Nat) (ha : Ev X a Δ S d1) (hc : X.calm = true) (hN : X.N.Nodup) (k : ∀ q : Addr, ¬ S.own q → Go X rest D ((Δ.set i (some d1)).set j (some (ob q))) (S.and (.dK X.K q []))) (hij : i ≠ j := by decide) (hi : X.N[i]? = some x := by rfl) (hj : X.N[j]? = some y := by rfl)
    (hx : X.env.scope.names.lookup x = some .local := by rfl) (hy : X.env.scope.names.lookup y = some .local := by rfl) (hw : swappedStores [.Tuple [.Name x px, .Name y py] kt pt] (.Tuple [a, .Dict [] [] pd] k2 pt2) X.env = pure (some [x, y]) := by rfl)
    (hs : swapsWithSole [.Tuple [.Name x px, .Name y py] kt pt] (.Tuple [a, .Dict [] [] pd] k2 pt2) pos.line X.env = pure false := by rfl) (hs1 : starEach [a, .Dict [] [] pd] X.env = (false, eval a X.env) :: starEach [.Dict [] [] pd] X.env := by rfl) (hs2 : starEach [.Dict [] [] pd] X.env = (false, eval (.Dict [] [] pd) X.env) :: starEach [] X.env := by rfl) :
    Go X (.Assign [.Tuple [.Name x px, .Name y py] kt pt] (.Tuple [a, .Dict [] [] pd] k2 pt2) pos :: rest) D Δ S :=
  go_cons (ps_par hc hN hi hj hij hx hy (pa_cons (pe_ev X a) (pa_cons pe_dnewK pa_nil hs2) hs1) hw hs) fun σ G H D' l a' b' c' => ⟨Δ, S, _, G, ha, a', b', c', fun v G1 H1 g1 p1 r1 q hq => by
    have n2 := Gr.h (H2 := upd H1 q (.dK [])) g1.sub (same_upd hq)
    exact ⟨v, _, rfl, l.nx _ _ ⟨G1, g1.gx, n2.sub, _, _, k q (not_own p1 hq), ((a'.up g1.gx).set r1).set (.obj q), S.cl n2 (same_upd hq) p1, g1.sub.free hq, _, upd_same, [], rfl, .nil⟩⟩⟩
theorem eqv_ints (xs ys : List Int) : PyData.eqv (.list (xs.map .int)) (.list (ys.map .int)) = decide (xs = ys) := by
  have go : ∀ xs ys : List Int, PyData.eqvAll (xs.map .int) (ys.map .int) = decide (xs = ys) := by
    intro xs
    induction xs with
    | nil => intro ys; cases ys <;> simp [PyData.eqvAll]
    | cons x xs ih =>
      intro ys
      cases ys with
      | nil => simp [PyData.eqvAll]
      | cons y ys =>
        rw [List.map_cons, List.map_cons, PyData.eqvAll, ih]
        have : PyData.eqv (.int x) (.int y) = decide (x = y) := by
          rw [PyData.eqv]
          by_cases h : x = y <;> simp [h]
        rw [this]
        by_cases h : x = y <;> simp [h]
  rw [PyData.eqv]
  exact go xs ys
end
end DL
namespace DL
open PySem PySem.Spec PyProof.Rows L2
section
variable {X : Cx} {e : Expr} {Δ : De} {S : As} {apos cpos tpos : Pos}
theorem it_itemsKX {PI : List (Int × PyData) → Prop} {elts : List Expr} {kk : Nat} (h : EvR X e Δ S fun G H v G2 H2 => ∃ ivs, PI ivs ∧ rDK X.K ivs G H v G2 H2) (hbase : attributeBase e "items" X.env (eval e X.env) = eval e X.env := by rfl) (hline : (apos.endLine == cpos.line) = true := by rfl) :
    ItDX X (.Tuple elts kk tpos) (.Call (.Attribute e "items" apos) [] [] cpos) Δ S fun ds => ∃ ivs, PI ivs ∧ ds = ivs.map fun kv => .tuple [.int kv.1, kv.2] :=
  ⟨_, pi_items (pe_ev X e) hbase hline, fun σ G H R a b c q => ⟨Δ, S, _, G, h, a, b, c, fun v G1 H1 g p1 ⟨ivs, hPI, d, e1, od, vs, h1, h2⟩ => by
    subst e1
    have hl : (zk ikf ivs vs).length = ivs.length := zk_len (by have := h2.len; rw [List.length_map] at this; omega)
    refine ⟨d, od, _, rfl, g.sub _ _ h1, q _ _ G1 H1 ⟨ivs, hPI, rfl⟩ g p1 ⟨fun G2 H2 s1 s2 => ⟨s2 _ _ (s1 _ _ h1), by rw [hl, List.length_map]; exact Nat.le_refl _⟩, fun i d2 G2 H2 s1 s2 e2 => ?_⟩⟩
    rw [List.getElem?_map] at e2
    cases w : ivs[i]? with
    | none => rw [w] at e2; cases e2
    | some kv =>
      rw [w] at e2
      cases e2
      obtain ⟨u, f1, f2⟩ := zk_at (f := ikf) h2 w
      refine ⟨⟨s2 _ _ (s1 _ _ h1), (List.getElem?_eq_some_iff.mp f1).1⟩, fun x H' y => ?_⟩
      obtain ⟨T, k, u', e3, rfl, hT, rfl⟩ := y
      rw [f1] at e3
      cases e3
      exact ⟨upd G2 T (.tup [.int kv.1, u]), .new s2 hT, same_upd hT, .tup upd_same (.cons (.int _) (.one ((f2.up s1).up (same_upd (s2.free hT)))))⟩⟩⟩
end
end DL
namespace DL
open PySem PySem.Spec PyProof.Rows L2
section
variable {X : Cx} {e elt tg iter : Expr} {Δ : De} {S : As} {pos p : Pos} {i j : Int}
theorem od_pow (h : CPow i j) : OpD X (binaryOp .Pow) S (.int i) (.int j) (rAt X.K (.int (i ^ j.toNat))) := opd_C op_pow h fun _ => .int _
theorem itx_xx {P P' : List PyData → Prop} (h : ItDX X tg iter Δ S P) (k : ∀ ds, P ds → P' ds) : ItDX X tg iter Δ S P' := by
  obtain ⟨wi, h1, h2⟩ := h
  exact ⟨wi, h1, fun σ G H R a b c q => h2 σ G H R a b c fun ds J G1 H1 z g p w => q ds J G1 H1 (k ds z) g p w⟩
def intTo (m : Int) (d : PyData) : Prop := ∃ i : Int, d = .int i ∧ 0 ≤ i ∧ i < m
theorem itx_rng {m : Int} (hg : Gl X "range") (hm : X.mg "range" = none) (h : EvX X e Δ S (intTo m)) (h2 : m ≤ 2 ^ 62) (hs' : starEach [e] X.env = (false, eval e X.env) :: starEach [] X.env := by rfl) (hs : starEach [e] X.env = [(false, eval e X.env)] := by rfl) :
    ItDX X tg (.Call (.Name "range" p) [e] [] pos) Δ S fun ds => ∃ xs : List Nat, (∃ n : Nat, xs = List.range n ∧ (n : Int) < m) ∧ ds = xs.map fun k : Nat => .int (k : Int) :=
  itx_xx (itx_range1 (PN := fun n => (n : Int) < m) hg hm (EvR.xx h fun d ⟨i, hd, h0, h1⟩ => ⟨i.toNat, by rw [hd, Int.toNat_of_nonneg h0], by omega, by omega⟩) hs' hs) fun ds ⟨n, hn, hd⟩ => ⟨List.range n, ⟨n, rfl, hn⟩, hd⟩
/-- over a list that is told by a property -/
theorem itx_list {α : Type} {enc : α → PyData} {PX : List α → Prop} {P : PyData → Prop} (h : EvX X e Δ S P) (k : ∀ d, P d → ∃ xs : List α, PX xs ∧ d = .list (xs.map enc)) : ItDX X tg e Δ S fun ds => ∃ xs, PX xs ∧ ds = xs.map enc :=
  ⟨_, pi_list (pe_ev X e), fun σ G H R a b c q => ⟨Δ, S, _, G, h, a, b, c, fun v G1 H1 g p ⟨d, hd, r⟩ => by
    obtain ⟨xs, hX, rfl⟩ := k d hd
    cases r with
    | lst hs hd =>
      have hs : SqL X.K G1 _ _ := SqL.of hs
      refine ⟨_, rfl, ⟨_, g.sub.seq hs⟩, q _ _ G1 H1 ⟨xs, hX, rfl⟩ g p ⟨fun G2 H2 s1 s2 => ⟨_, s2.seq (s1.seq hs), by rw [hd.len]; exact Nat.le_refl _⟩, fun i d G2 H2 s1 s2 e1 => ?_⟩⟩
      obtain ⟨v, f1, f2⟩ := hd.get e1
      refine ⟨⟨_, v, s2.seq (s1.seq hs), f1⟩, fun x H' y => ?_⟩
      obtain ⟨rfl, y⟩ := y
      have := y _ (s2.seq (s1.seq hs))
      rw [f1] at this; cases this
      exact ⟨G2, .refl s2, Same.refl _, f2.up s1⟩⟩⟩
section
variable {ifs : List Expr} {scope : Scope} {rest : List Stmt} {D : EndsG}
/-- name = [elt for ..] on one line, a list that is told by a property and that may change -/
theorem go_setLcM {PL : List PyData → Prop} {y : Str} {py : Pos} {own : List (Str × Nat)} {spos : Pos} (i : Nat) (h : LcR X elt tg iter ifs own scope Δ S (rXl X.K PL)) (hc : X.calm = true) (hN : X.N.Nodup) (k : ∀ (q : Addr) (ds : List PyData), ¬ S.own q → PL ds → Go X rest D (Δ.set i (some (ob q))) (S.and (.acc X.K q ds))) (hy : X.N[i]? = some y := by rfl) (hyl : X.env.scope.names.lookup y = some .local := by rfl)
    (hsw : swapsWith (.ListComp elt [⟨tg, iter, ifs, 0⟩] scope pos) (some (.Name y py)) spos.line X.env = pure true := by rfl) (hs : ∀ x, foldedSetIterable iter X.env x = pure x := by intro _; rfl) :
    Go X (.Assign [.Name y py] (.ListComp elt [⟨tg, iter, ifs, 0⟩] scope pos) spos :: rest) D Δ S :=
  go_setLc i h hc hN (fun G H v G2 H2 c g p ⟨ds, hds, q, xs, e1, e2, e3, e4, e5⟩ => by
    subst e1
    exact ⟨ob q, S.and (.acc X.K q ds), G2, .obj q, Same.refl _, g.sub, ⟨p, e3, xs, e4, e5⟩, k q ds (not_own c e2) hds⟩) hy hyl hsw hs
end
end
end DL
namespace DL
open PySem PySem.Spec PyProof.Rows L2
/-- what the row asks of the run -/
def EndsTrue (st : Shared) (r : Except Value Flow) (t : Shared) : Prop := r = .ok (.ret (.bool true)) ∧ OldK st.heap t.heap ∧ t.os = st.os ∧ AllBare t.gens
/-- the law's own call, for a def that wants to know that no guard stands -/
theorem run_law {P : Program} {w : World} {K : PySem.W.Frag} {mg mb : Str → Option Value} {sp : Sp} {fd : FuncData} {st : Shared} {fa a : Addr} {x : Str} {k : Nat} {us : List Value} {ns : List Int} (kin : K.In st.heap) (g1 : st.heap.Ns mainGlobals mg) (g2 : st.heap.Ns builtinsNs mb) (g3 : ∀ y : Str, y ≠ "__name__" → mb y = bootBuiltins y) (g4 : st.heap.NoLimit) (g5 : st.gens = #[])
    (ao : st.heap.get? a = some { cls := .type "list", data := .seq us.toArray }) (areI : IntsAre us ns) (few : ns.length ≤ sizeLine) (room : Room k callerA) (F : ∀ b0 : Heap, K.In b0 → b0.Ns mainGlobals mg → FnG P w K mg b0 k fa fd [x] sp) (bind : ∀ (s : Shared) (u : Value), BindsTo s fd ⟨[u], []⟩ [(x, u)])
    (hsp : ∀ T : Hp, SqL K T a (ns.map V.int) → sp [.ref a] T (fun v _ => v = .bl true) fun _ _ _ => False) : codeAny (model P w) callerA (.call (.ref fa) ⟨[.ref a], []⟩) (EndsTrue st) st := by
  have lens := areI.length
  have vals := vals_ints areI
  obtain ⟨T, hT⟩ : ∃ T : Hp, ∀ b, T b = if b = a ∧ K.lookup a = none then some (.frz { cls := .type "list", data := .seq us.toArray } (.lst (ns.map V.int))) else none := ⟨_, fun _ => rfl⟩
  have only : ∀ {b u}, T b = some u → b = a ∧ K.lookup a = none ∧ u = .frz { cls := .type "list", data := .seq us.toArray } (.lst (ns.map V.int)) := by
    intro b u e
    rw [hT] at e
    split at e
    · rename_i h; exact ⟨h.1, h.2, (Option.some.inj e).symm⟩
    · cases e
  have tracked : HOk P w T st.heap := by
    intro b u e
    obtain ⟨rfl, _, rfl⟩ := only e
    exact ⟨ao, by rw [List.length_map]; exact few, us, _, vals, ao⟩
  have below : ∀ {b : Addr} {o : Obj}, T b = none → st.heap.get? b = some o → (hidT st.heap T).get? b = some o := fun n e => hidT_get e n
  have names : ∀ {b : Addr} {m : Str → Option Value}, st.heap.Ns b m → (hidT st.heap T).Ns b m := by
    rintro b m ⟨o, es, ep, e, d, r⟩
    refine ⟨o, es, ep, below ?_ e, d, r⟩
    cases z : T b with
    | none => rfl
    | some u =>
      obtain ⟨rfl, _, _⟩ := only z
      rw [ao] at e
      cases e
      cases d
  have kin0 : K.In (hidT st.heap T) := by
    intro b o e
    refine below ?_ (kin b o e)
    cases z : T b with
    | none => rfl
    | some u =>
      obtain ⟨rfl, n, _⟩ := only z
      rw [n] at e
      cases e
  have script : SqL K T a (ns.map V.int) := by
    cases z : K.lookup a with
    | none => exact .inl (.inr ⟨{ cls := .type "list", data := .seq us.toArray }, by rw [hT, if_pos ⟨rfl, z⟩]⟩)
    | some o =>
      have e := kin a o z
      rw [ao] at e
      cases e
      refine .inr ⟨_, us.toArray, _, z, rfl, rfl, rfl, ?_, ?_⟩
      · rw [List.size_toArray, lens]; exact few
      · simpa using vals
  obtain ⟨mc, f1, f2⟩ := g4
  have hE : Env0 P w K mg (hidT st.heap T) callerA [] st T := ⟨rfl, ⟨kin0, names g1, ⟨mb, names g2, g3⟩, ⟨mc, names f1, f2⟩⟩, (fun _ _ e => of_hidT e), Nat.le_of_eq (hidT_size _ _), trivial, (fun b z => by cases z), tracked, .of_eq g5⟩
  refine codeAny_mono ((F _ kin0 (names g1)).go callerA [] st T ⟨[.ref a], []⟩ [.ref a] [.ref a] _ _ rfl room hE (bind st (.ref a)) (.cons rfl .nil) (hsp T script)) fun r t h => ?_
  cases r with
  | error e => exact h.elim
  | ok fl =>
    cases fl with
    | next => exact h.elim
    | brk => exact h.elim
    | cont => exact h.elim
    | ret u =>
      obtain ⟨v, T2, os, bare, un, ok2, rv, q⟩ := h
      have q : v = .bl true := q
      subst q
      obtain rfl : u = Value.bool true := rv
      refine ⟨rfl, OldK.of_keep fun b o e => ?_, os, bare⟩
      cases z : T b with
      | none => exact un.keep b o e z (by rintro ⟨⟩) (by simp)
      | some y =>
        obtain ⟨rfl, _, rfl⟩ := only z
        obtain ⟨e2, _⟩ := ok2 b _ (un.frzs b _ _ z)
        rw [ao] at e
        cases e
        exact e2
/-- what k_head leaves, from such a def's promise -/
theorem walkG {l : PySem.W.OpenLaw} {n k : Nat} {q : Program} {x : Str} {loose : List Str} {XP : (Str → Option Value) → Heap → Prop} {YP : World → Heap → Prop} {d : DefRec} {K : Params → PySem.W.Frag} {sp : World → Sp} (most : l.most = some n) (le : n ≤ sizeLine) (nodef : d.params.defaults = []) (room : Room k callerA) (kin : ∀ (w : World) (h : Heap), YP w h → (K w.params).In h)
    (F : ∀ (w : World) (mg : Str → Option Value) (fa : Addr) (h : Heap), (K w.params).In h → h.Ns mainGlobals mg → mg d.name = some (.ref fa) → ∃ fd : FuncData, (∀ (s : Shared) (u : Value), BindsTo s fd ⟨[u], []⟩ [(x, u)]) ∧ ∀ b0 : Heap, (K w.params).In b0 → b0.Ns mainGlobals mg → FnG l.prog w (K w.params) mg b0 k fa fd [x] (sp w))
    (hsp : ∀ (w : World) (T : Hp) (a : Addr) (ns : List Int), SqL (K w.params) T a (ns.map V.int) → sp w [.ref a] T (fun v _ => v = .bl true) fun _ _ _ => False) : PySem.W.WalkO q loose XP YP l.row.toRowW d [] (fun f vs => PySem.call f vs) := by
  refine Att.attach_call most nodef fun w s0 st mg mb fa o pm cd doc a us ns G Y ho hd hcd hmg ao areI hl hg => ?_
  obtain ⟨fd, hb, hF⟩ := F w mg fa _ (kin w _ Y) G.T.g hmg
  exact run_law (kin w _ Y) G.T.g G.T.b G.T.builtins G.T.nolimit hg ao areI (Nat.le_trans hl le) room hF hb fun T => hsp w T a ns
end DL
namespace DL
open PySem PySem.Spec PyProof.Rows L2
/-! ### enumerate of a tuple -/
theorem meets_enum1 {v : Value} {o : Obj} {H : Heap → Prop} (B : Begins v o H) :
    Meets (Builtin.«enumerate.__new__» ⟨[.type "enumerate", v], []⟩) (fun _ R s => H s.heap ∧ R (.ok (.ret (.ref (s.heap.push o).objs.size))) { s with heap := (s.heap.push o).push { cls := .type "enumerate", data := .fields #[.none, .bool false, .ref s.heap.objs.size, rawInt 0, .none, .none] } }) := by
  refine .of_wp fun prog w A R s h => ?_
  obtain ⟨hp, g, d, tk, os⟩ := s
  obtain ⟨hv, hr⟩ := h
  have hsub := sub_enumerate
  have it : ∀ {A' : Around} {E Q : Value → Shared → Prop}, Q (.ref hp.objs.size) ⟨hp.push o, g, d, tk, os⟩ → wpAny (model prog w) A' (pyIter v) Q E ⟨hp, g, d, tk, os⟩ := fun q => B.iter prog w _ _ _ _ hv q
  wp_walk using it
  refine wpAny_stack_any fun st => wpAny_pure ?_
  split
  · rename_i c _ _ _ _ _
    cases (c == Value.type "enumerate") <;> (wp_walk using it; exact ⟨_, rfl, hr⟩)
  · wp_walk using it
    exact ⟨_, rfl, hr⟩
theorem call_enum1 {prog : Program} {w : World} {A : Around} {E : Value → Shared → Prop} {s : Shared} {v : Value} {o : Obj} {H : Heap → Prop} {Q : Value → Shared → Prop} (B : Begins v o H) (hv : H s.heap)
    (q : ∀ h', IsEnum h' (s.heap.objs.size + 1) s.heap.objs.size 0 .none → h'.get? s.heap.objs.size = some o → (∀ b o, s.heap.get? b = some o → h'.get? b = some o) → Q (.ref (s.heap.objs.size + 1)) { s with heap := h' }) :
    wpAny (model prog w) A (call (.type "enumerate") [v]) Q E s := by
  refine callType_new F.called_enumerate (by decide) (F.typeCall_enumerate_1 _) (F.newCall_enumerate_1 _) (fun obj => F.args_object_init_2 obj _) F.entry_enumerate_new (meets_enum1 B) ⟨hv, ?_⟩
  have hz : (s.heap.push o).objs.size = s.heap.objs.size + 1 := Heap.size_push ..
  have he := Heap.get?_push_size (s.heap.push o) (o := { cls := .type "enumerate", data := .fields #[.none, .bool false, .ref s.heap.objs.size, rawInt 0, .none, .none] }) rfl
  show _ ∧ _
  rw [hz] at he ⊢
  exact ⟨⟨_, he, rfl⟩, q _ he (Heap.get?_push_of_some _ (Heap.get?_push_size _ B.free)) fun b u e => Heap.get?_push_of_some _ (Heap.get?_push_of_some _ e)⟩
def ItEn (K : PySem.W.Frag) (b : Bool) (a : Addr) : It :=
  ⟨fun i H => ∃ (xs : List V) (x : V), Sq b K H a xs ∧ xs[i]? = some x, fun i H v H' => ∃ T x, v = .ref T ∧ H T = none ∧ H' = upd H T (.tup [.int (i : Nat), x]) ∧ ∀ xs, Sq b K H a xs → xs[i]? = some x, fun i H => ∃ xs : List V, Sq b K H a xs ∧ xs.length = i⟩
theorem turn_enumG {P : Program} {w : World} {K : PySem.W.Frag} {elts : List Expr} {kk : Nat} {tpos : Pos} (b : Bool) (a e it : Addr) :
    Turn P w K (.Tuple elts kk tpos) (ItEn K b a) [e, it] e (fun i h => (∃ old, IsEnum h e it ((i : Nat) : Int) old) ∧ IsIt b h it a i ∧ e ≠ it ∧ e ≠ a) where
  mem := by simp
  obj := fun i h st c hc => by
    obtain ⟨⟨old, he⟩, h1, _⟩ := st
    obtain ⟨o, e1, d⟩ := isIt_ex h1
    rcases (by simpa using hc : c = e ∨ c = it) with rfl | rfl
    · exact ⟨_, he, fun v q => nomatch q⟩
    · exact ⟨o, e1, d⟩
  keep := fun i h h' st k => by
    obtain ⟨⟨old, he⟩, h1, h2⟩ := st
    exact ⟨⟨old, k e (by simp) _ he⟩, isIt_at h1 (k it (by simp)), h2⟩
  item := by
    intro X hP hw hK hc i pins s σ H E I hf st hg
    subst hP hw hK
    obtain ⟨⟨old, he⟩, h1, hne, hea⟩ := st
    obtain ⟨xs, x, hq, hx⟩ := hg
    obtain ⟨its, rv, pa⟩ := sq_get I hq
    have hel : e < s.heap.objs.size := Heap.lt_size he
    have hil : it < s.heap.objs.size := by obtain ⟨_, z, _⟩ := isIt_ex h1; exact Heap.lt_size z
    have lx : i < its.toArray.size := by rw [List.size_toArray, ← rv.length]; exact (List.getElem?_eq_some_iff.mp hx).1
    refine wpAny_pyNext_enum_itemD (draws_sq b (by simp [I.ok.hd hc]) it a (isSq_ne pa h1) its.toArray) he ⟨h1, pa⟩ lx hne (by simp [hne, hea]) fun u h' tk hu ho s1 hT hsz hk => ?_
    refine ⟨_, rfl, wpAny_letOwnedTupleGo_enum (s := { s with heap := h', toks := tk + 1 }) ho fun h'' he' sb => ?_⟩
    obtain ⟨u', e1, ru⟩ := rv.get hx
    have hu : its.toArray[i]? = some u := hu
    rw [List.getElem?_toArray, e1] at hu
    cases hu
    have hT2 : h''.get? s.heap.objs.size = some { cls := .type "tuple", data := .seq #[.int i tk, u] } := (sb.2 _ (Nat.ne_of_gt hel)).trans hT
    have new : ObjOk X.prog X.w (upd H s.heap.objs.size (.tup [.int (i : Nat), x])) h'' s.heap.objs.size (.tup [.int (i : Nat), x]) := ⟨by show 2 ≤ sizeLine; decide, [.int i tk, u], .cons ⟨_, rfl⟩ (.cons ru .nil), ⟨_, hT2, rfl, _, rfl⟩⟩
    have I1 : Inv X pins σ (upd H s.heap.objs.size (.tup [.int (i : Nat), x])) { s with heap := h'', toks := tk + 1 } :=
      I.turnedNew (t' := tk + 1) (ch := [e, it]) (fun c o hb q => (sb.2 c (fun z => hb (by simp [z]))).trans (hk c o (fun z => hb (by simp [z])) (fun z => hb (by simp [z])) q)) hf (Nat.le_refl _) new
    refine ⟨.ref s.heap.objs.size, _, I1, rfl, ⟨_, x, rfl, I.hok.fresh (Nat.le_refl _), rfl, fun ys hy => by rw [sq_inj I hy hq]; exact hx⟩, ⟨⟨u, ?_⟩, isIt_at s1.1 fun o q => (sb.2 it (Ne.symm hne)).trans q, hne, hea⟩, fun c hcm => ?_⟩
    · have e1 : ((i + 1 : Nat) : Int) = (i : Int) + 1 := by omega
      rw [e1]; exact he'
    · have hlt : c < s.heap.objs.size := by
        rcases (by simpa using hcm : c = e ∨ c = it) with rfl | rfl
        · exact hel
        · exact hil
      rw [upd_ne (Nat.ne_of_lt hlt)]
      exact (hf c hcm).1
  done := by
    intro X hP hw hK hc i pins s σ H E I hf st hg
    subst hP hw hK
    obtain ⟨⟨old, he⟩, h1, hne, hea⟩ := st
    obtain ⟨xs, hq, hx⟩ := hg
    obtain ⟨its, rv, pa⟩ := sq_get I hq
    obtain ⟨f0, f1, f2, f3, f4, f5⟩ := hf it (by simp)
    have e1 : i = its.toArray.size := by rw [List.size_toArray, ← rv.length, hx]
    subst e1
    exact wpAny_pyNext_enum_endD (draws_sq b (by simp [I.ok.hd hc]) it a (isSq_ne pa h1) its.toArray) he ⟨h1, pa⟩ fun h' eb => ⟨rfl, I.turned (t' := s.toks) (fun c o hb q => eb c o hb q) f0 f1 f3 f4 f5⟩
  self := fun A i s Q E st h => let ⟨⟨_, he⟩, _⟩ := st; wpAny_pyIter_enum he h
def iEnumG (K : PySem.W.Frag) (b : Bool) (ta : TA) : TI := fun σ H R => ta σ H fun vs H1 => ∃ a xs, vs = [.ref a] ∧ Sq b K H1 a xs ∧ R (ItEn K b a) H1
theorem pi_enumG {X : Cx} {b : Bool} {e : Expr} {ta : TA} {p pos tpos : Pos} {elts : List Expr} {kk : Nat} (hg : Gl X "enumerate") (hm : X.mg "enumerate" = none) (ha : PA X [e] ta) (hs : starEach [e] X.env = [(false, eval e X.env)] := by rfl) :
    PI X (.Tuple elts kk tpos) (.Call (.Name "enumerate" p) [e] [] pos) (iEnumG X.K b ta) := by
  refine ⟨fun pins s σ H R I h => Call_ (ld_blt I hg hm boot_enumerate (callWith_type1 (thn (ha.run pos pins s σ H _ I h) fun us s1 ⟨vs, H1, I1, r1, q1⟩ => ?_) hs rfl))⟩
  obtain ⟨a, xs, rfl, hq, q⟩ := q1
  rw [vals_ref1 r1]
  obtain ⟨its, rv, pa⟩ := sq_get I1 hq
  refine call_enum1 (begins_sq b a its.toArray) pa fun h' he hit hk => wpAny_pyIter_enum he ?_
  have I2 : Inv X pins σ H1 { s1 with heap := h' } := I1.kept (t' := s1.toks) hk
  have hal : a < s1.heap.objs.size := isSq_lt pa
  refine ⟨s1.heap.objs.size + 1, [s1.heap.objs.size + 1, s1.heap.objs.size], _, _, H1, rfl, I2, turn_enumG b a (s1.heap.objs.size + 1) s1.heap.objs.size, ⟨⟨.none, he⟩, isIt_new hit, Nat.succ_ne_self _, Nat.ne_of_gt (Nat.lt_succ_of_lt hal)⟩, fun c hc => ?_, q⟩
  have hle : s1.heap.objs.size ≤ c := by
    rcases (by simpa using hc : c = s1.heap.objs.size + 1 ∨ c = s1.heap.objs.size) with rfl | rfl
    · exact Nat.le_succ _
    · exact Nat.le_refl _
  exact I1.fpOk hle (I1.hok.fresh hle)
section
variable {X : Cx} {e : Expr} {Δ : De} {S : As} {ds : List PyData} {pos p tpos : Pos}
theorem it_enumT {elts : List Expr} {kk : Nat} (b : Bool) (hg : Gl X "enumerate") (hm : X.mg "enumerate" = none) (h : Ev X e Δ S (sqD b ds)) (hs' : starEach [e] X.env = (false, eval e X.env) :: starEach [] X.env := by rfl) (hs : starEach [e] X.env = [(false, eval e X.env)] := by rfl) :
    ItD X (.Tuple elts kk tpos) (.Call (.Name "enumerate" p) [e] [] pos) Δ S (ds.zipIdx.map fun z => .tuple [.int (z.2 : Nat), z.1]) :=
  ⟨_, pi_enumG (b := b) hg hm (pa_cons (pe_ev X e) pa_nil hs') hs, fun σ G H R a b' c q => ⟨Δ, S, _, G, h, a, b', c, fun v G1 H1 g p r => by
    obtain ⟨a', xs, rfl, hsq, hd⟩ := at_sq r
    refine ⟨_, _, rfl, sq_up g.sub hsq, q _ G1 H1 g p ⟨fun G2 H2 s1 s2 => ⟨_, sq_up s2 (sq_up s1 hsq), by simp [hd.len]⟩, fun i d G2 H2 s1 s2 e1 => ?_⟩⟩
    rw [List.getElem?_map, List.getElem?_zipIdx] at e1
    cases q : ds[i]? with
    | none => rw [q] at e1; cases e1
    | some d0 =>
      rw [q] at e1
      cases e1
      obtain ⟨v, f1, f2⟩ := hd.get q
      refine ⟨⟨_, v, sq_up s2 (sq_up s1 hsq), f1⟩, fun x H' y => ?_⟩
      obtain ⟨T, x', rfl, hT, rfl, y⟩ := y
      have := y _ (sq_up s2 (sq_up s1 hsq))
      rw [f1] at this; cases this
      refine ⟨upd G2 T (.tup [.int (i : Nat), v]), .new s2 hT, same_upd hT, .tup upd_same (.cons ?_ (.one ((f2.up s1).up (same_upd (s2.free hT)))))⟩
      rw [Nat.zero_add]
      exact .int _⟩⟩
end
end DL
namespace DL
open PySem PySem.Spec PyProof.Rows L2
/-! ### set(xs), by an invariant of one's own -/
/-- adding v leads from J to J' -/
def Adds (P : Program) (w : World) (A : Around) (S : Addr) (J J' : Heap → Prop) (v : Value) : Prop :=
  ∀ (s : Shared) (Q : Bool → Shared → Prop) (E : Value → Shared → Prop), J s.heap → (∀ b h' tk, s.toks ≤ tk → Heap.SameBut S s.heap h' → J' h' → Q b { s with heap := h', toks := tk }) → wpAny (model P w) A (holding [v] (setAdd S v)) Q E s
section
variable {P : Program} {w : World} {A : Around} {E : Value → Shared → Prop} {s : Shared}
theorem set_loop {I : Addr} {fp wr : List Addr} {G : Array GenState → Array GenState → Prop} {n : Nat} {Pv : Nat → Value → Prop} {St : Nat → Shared → Prop} {R : Result → Shared → Prop} (W : WalksS P w A.in1 I fp wr G n Pv St) (S : Addr) (hS : S ∉ fp) (J : Nat → Heap → Prop)
    (hJ : ∀ (i : Nat) (h h' : Heap), J i h → (∀ b o, b ∉ wr → h.get? b = some o → h'.get? b = some o) → J i h') (ha : ∀ (i : Nat) (v : Value), i < n → Pv i v → Adds P w A.in1 S (J i) (J (i + 1)) v) :
    ∀ (k i : Nat) (s : Shared), k + i = n → St i s → J i s.heap → (∀ s', Moved (S :: wr) G s s' → J n s'.heap → R (.ok (.ret .none)) s') → codeAny (model P w) A (.builtin "set.update.loop" ⟨[.ref S, .ref I], []⟩) R s := by
  have up : ∀ b ∈ wr, b ∈ S :: wr := fun b hb => List.mem_cons_of_mem _ hb
  intro k
  induction k with
  | zero =>
    intro i s hk st j hR
    obtain rfl : i = n := by omega
    refine codeAny_builtin F.entry_set_update_loop ?_
    rw [Around.under_plainId F.plain_set_update_loop _]
    change wpAny _ A.in1 (pyNext (.ref I) >>= _) _ _ s
    exact wpAny_bind (W.done s _ _ st fun s' m => wpAny_pure (hR s' (m.mono up) (hJ _ _ _ j m.heap)))
  | succ k ih =>
    intro i s hk st j hR
    refine codeAny_builtin F.entry_set_update_loop ?_
    rw [Around.under_plainId F.plain_set_update_loop _]
    change wpAny _ A.in1 (pyNext (.ref I) >>= _) _ _ s
    refine wpAny_bind (W.item i s _ _ (by omega) st fun v s' hv st' m => ?_)
    change wpAny _ A.in1 (holding [v] (setAdd S v) >>= _) _ _ s'
    refine wpAny_bind (ha i v (by omega) hv s' _ _ (hJ _ _ _ j m.heap) fun b h' tk ht sb j' => ?_)
    refine wpAny_pure ⟨plainId_quiet F.plain_set_update_loop _, ih (i + 1) _ (by omega) (W.frame _ s' _ _ st' ht fun c hc o e => ?_) j' fun s'' m'' j'' => hR s'' (Moved.trans W.gtrans ((m.mono up).then_heap ht fun c o hc e => ?_) m'') j''⟩
    · rw [sb.2 c fun z => hS (z ▸ hc)]; exact e
    · rw [sb.2 c fun z => hc (z ▸ List.mem_cons_self)]; exact e
/-- the new set's object -/
abbrev setO (w : World) : Obj := { cls := Value.type "set", dict := none, data := .set #[] 0 (.fresh 0 0 (!w.params.followText "set-order")) }
set_option maxHeartbeats 6000000 in
theorem call_set_by {l : Addr} {items : Array Value} (J : Nat → Heap → Prop) {Q : Value → Shared → Prop} (hh : A.handled = none) (hl : s.heap.IsList l items)
    (j0 : ∀ h', (∀ b o, s.heap.get? b = some o → h'.get? b = some o) → h'.get? s.heap.objs.size = some (setO w) → J 0 h')
    (jk : ∀ (i : Nat) (h h' : Heap), J i h → (∀ b o, b ≠ s.heap.objs.size + 1 → h.get? b = some o → h'.get? b = some o) → J i h')
    (ja : ∀ (i : Nat) (v : Value), items[i]? = some v → Adds P w A.in1.in1.in1 s.heap.objs.size (J i) (J (i + 1)) v)
    (q : ∀ (h' : Heap) (tk : Nat), J items.size h' → (∀ b o, s.heap.get? b = some o → h'.get? b = some o) → Q (.ref s.heap.objs.size) { s with heap := h', toks := tk }) :
    wpAny (model P w) A (call (.type "set") [.ref l]) Q E s := by
  obtain ⟨c, tl, hmro⟩ := F.called_set.mro
  have hmade := F.called_set.made
  have hsub := F.called_set.sub
  refine wpAny_call (codeAny_of_tree ?_)
  change wpAny _ _ (PySem.callAny (.type "set") _) _ _ _
  refine wpAny_pure ⟨Code.quiet_builtin _ (by decide +kernel), codeAny_builtin F.entry_type_call ?_⟩
  rw [Around.under_plain (weight_type_call_type "set" [.ref l] []) rfl]
  have t1 := F.called_set.notType
  have t2 := F.called_set.canCreate
  have t3 := F.typeCall_set_1 (.ref l)
  repeat (any_goals (first | assumption | wp_step))
  have hlt : l < s.heap.objs.size := by obtain ⟨o, e, _⟩ := hl; exact Heap.lt_size e
  refine codeAny_mono (code_set_led1 (.ref l) (E := E) (Q₁ := fun ob s1 => ob = .ref s.heap.objs.size ∧ s1 = { s with heap := s.heap.push (setO w) }) ⟨rfl, rfl⟩) fun r s1 hr => ?_
  match r, hr with
  | .ok (.ret ob), hr =>
    obtain ⟨rfl, rfl⟩ := hr
    have hS : (s.heap.push (setO w)).get? s.heap.objs.size = some (setO w) := Heap.get?_push_size _ rfl
    have hT : Shared.TypeIs { s with heap := s.heap.push (setO w) } (.ref s.heap.objs.size) "set" := ⟨_, hS, rfl⟩
    have hli := F.called_set.init.lookup
    have hbi := F.called_set.init.bind (.ref s.heap.objs.size)
    repeat (any_goals (first | assumption | wp_step))
    refine codeAny_mono (codeAny_call_builtin (R := wants (fun r s2 => r = .none ∧ ∃ h' tk, s2 = { s with heap := h', toks := tk } ∧ J items.size h' ∧ ∀ b o, s.heap.get? b = some o → h'.get? b = some o) E) F.called_set.init.plain F.entry_set_init (check_set_init_1 hT ?_)) fun r2 s2 hr2 => ?_
    · obtain ⟨⟨oc, od, odt, osl⟩, hol, hcl, nl, hdl⟩ := hl
      simp only at hcl hdl
      subst hcl hdl
      have hol' : (s.heap.push (setO w)).get? l = some { cls := .type "list", dict := od, data := .seq items nl, slots := osl } := Heap.get?_push_of_some _ hol
      have hsls := F.sub_list_set
      have hslf := F.sub_list_frozenset
      have hne : (Value.type "list" == Value.type "dict") = false := by decide
      have hl1 : (s.heap.push (setO w)).IsList l items := ⟨_, hol', rfl, nl, rfl⟩
      unfold Builtin.«set.__init__» noKeywords Builtin.Frozenset.updateFrom
      generalize hPI : pyIter = PI
      wp_walk
      subst hPI
      refine wpAny_pyIter_list hl1 (wpAny_bind (wpAny_runValue ?_))
      have hz1 : (s.heap.push (setO w)).objs.size = s.heap.objs.size + 1 := Heap.size_push ..
      have gone : ∀ b, s.heap.objs.size ≤ b → s.heap.get? b = none := fun b hb => by
        cases e : s.heap.get? b with
        | none => rfl
        | some o => exact absurd (Nat.lt_of_lt_of_le (Heap.lt_size e) hb) (Nat.lt_irrefl _)
      have hk2 : ∀ b o, s.heap.get? b = some o → ((s.heap.push (setO w)).push { cls := .type "list_iterator", data := .fields #[.ref l, .int 0 0] }).get? b = some o := fun b o e => Heap.get?_push_of_some _ (Heap.get?_push_of_some _ e)
      have hnI : l ≠ (s.heap.push (setO w)).objs.size := by rw [hz1]; exact Nat.ne_of_lt (Nat.lt_succ_of_lt hlt)
      refine set_loop ((Walks.list (by simp [hh]) _ l hnI items).toS) s.heap.objs.size ?nf (fun i h => J i h ∧ ∀ b o, s.heap.get? b = some o → h.get? b = some o) ?kp ?ad items.size 0 _ (by omega) ⟨⟨_, Heap.get?_push_size _ rfl, rfl, rfl⟩, hl1.push _⟩ ⟨j0 _ hk2 (Heap.get?_push_of_some _ hS), hk2⟩ ?fi
      case nf =>
        rw [hz1]
        simp only [List.mem_cons, List.not_mem_nil, or_false, not_or]
        exact ⟨Nat.ne_of_lt (Nat.lt_succ_self _), Nat.ne_of_gt hlt⟩
      case kp =>
        rintro i h h' ⟨a, b⟩ k
        rw [hz1] at k
        refine ⟨jk i h h' a fun c o hc => k c o (by simpa using hc), fun c o e => k c o ?_ (b c o e)⟩
        rintro z
        rw [List.mem_singleton.mp z, gone _ (Nat.le_succ _)] at e
        cases e
      case ad =>
        rintro i v _ hv s' Q' E' ⟨a, b⟩ k
        exact ja i v hv s' Q' E' a fun b' h' tk ht sb j' => k b' h' tk ht sb ⟨j', fun c o e => (sb.2 c fun z => by rw [z, gone _ (Nat.le_refl _)] at e; cases e).trans (b c o e)⟩
      case fi =>
        rintro ⟨h', g2, d', tk', os'⟩ m ⟨a, b⟩
        obtain rfl : g2 = s.gens := m.gens
        obtain rfl : d' = s.drawn := m.drawn
        obtain rfl : os' = s.os := m.os
        exact wpAny_pure (wpAny_pure ⟨rfl, h', tk', rfl, a, b⟩)
    · match r2, hr2 with
      | .ok (.ret r), hr2 =>
        obtain ⟨rfl, h', tk, rfl, a, b⟩ := hr2
        repeat (any_goals (first | assumption | wp_step))
        exact q h' tk a b
      | .error e, hr2 => exact hr2
      | .ok .next, hr2 => exact hr2.elim
      | .ok .brk, hr2 => exact hr2.elim
      | .ok .cont, hr2 => exact hr2.elim
  | .error e, hr => exact hr
  | .ok .next, hr => exact hr.elim
  | .ok .brk, hr => exact hr.elim
  | .ok .cont, hr => exact hr.elim
end
end DL
namespace DL
open PySem PySem.Spec PyProof.Rows L2
/-! ### sets of tuples of ints, sorted -/
theorem perm_lift {α β : Type} {f : α → β} {vs ws : List β} (p : ws.Perm vs) : ∀ {L : List α}, ws = L.map f → ∃ L1 : List α, L1.Perm L ∧ vs = L1.map f := by
  induction p with
  | nil => intro L e; exact ⟨L, .refl _, e⟩
  | cons x _ ih =>
    intro L e
    cases L with
    | nil => cases e
    | cons a L =>
      cases e
      obtain ⟨L1, p, e⟩ := ih (L := L) rfl
      exact ⟨a :: L1, p.cons a, by rw [List.map_cons, e]⟩
  | swap x y l =>
    intro L e
    match L, e with
    | a :: b :: L, e => cases e; exact ⟨b :: a :: L, .swap a b L, rfl⟩
    | [_], e => cases e
    | [], e => cases e
  | trans _ _ h1 h2 =>
    intro L e
    obtain ⟨L1, p1, e1⟩ := h1 e
    obtain ⟨L2, p2, e2⟩ := h2 e1
    exact ⟨L2, p2.trans p1, e2⟩
abbrev tiD (r : List Int) : PyData := .tuple (r.map .int)
/-- few different keys -/
def FewK (ks : List (List Int)) : Prop := ∀ L : List (List Int), L.Nodup → (∀ x ∈ L, x ∈ ks) → L.length < 63
section
variable {P : Program} {w : World} {A : Around} {E : Value → Shared → Prop} {s : Shared}
theorem call_set_rows {l : Addr} {items : Array Value} (ks : List (Addr × List Int)) {Q : Value → Shared → Prop} (hh : A.handled = none) (hl : s.heap.IsList l items) (hit : items.toList = ks.map fun p => Value.ref p.1)
    (hk : ∀ p ∈ ks, IsT P w s.heap p.2 p.1) (hf : FewK (ks.map (·.2))) (hu : A.units + 3 < cLine)
    (q : ∀ (h' : Heap) (tk : Nat) L es ep t, SetTR P w h' s.heap.objs.size L es ep t → Got ks ks.length L → (∀ b o, s.heap.get? b = some o → h'.get? b = some o) → Q (.ref s.heap.objs.size) { s with heap := h', toks := tk }) :
    wpAny (model P w) A (call (.type "set") [.ref l]) Q E s := by
  have hsz : items.size = ks.length := by rw [← Array.length_toList, hit, List.length_map]
  have gone : ∀ b, s.heap.objs.size ≤ b → s.heap.get? b = none := fun b hb => by
    cases e : s.heap.get? b with
    | none => rfl
    | some o => exact absurd (Nat.lt_of_lt_of_le (Heap.lt_size e) hb) (Nat.lt_irrefl _)
  have old : ∀ {i : Nat} {L : List (Addr × List Int)}, Got ks i L → ∀ p ∈ L, p ∈ ks := fun g p hp => List.mem_of_mem_take (g.sub p hp)
  refine call_set_by (J := fun i h => (∀ b o, s.heap.get? b = some o → h.get? b = some o) ∧ ∃ L es ep t, SetTR P w h s.heap.objs.size L es ep t ∧ Got ks i L) hh hl (fun h' k e => ⟨k, [], #[], 0, _, setTR_fresh e, .zero ks⟩) ?_ ?_ ?_
  · rintro i h h' ⟨k, L, es, ep, t, R, g⟩ kk
    have k' : ∀ b o, s.heap.get? b = some o → h'.get? b = some o := fun b o e => kk b o (fun z => by rw [z, gone _ (Nat.le_succ _)] at e; cases e) (k b o e)
    exact ⟨k', L, es, ep, t, R.keep (fun o e => kk _ o (Nat.ne_of_lt (Nat.lt_succ_self _)) e) fun p hp => isT_keep (hk p (old g p hp)) k', g⟩
  · rintro i v hv s' Q' E' ⟨k, L, es, ep, t, R, g⟩ k2
    obtain ⟨p, hp, rfl⟩ : ∃ p, ks[i]? = some p ∧ v = Value.ref p.1 := by
      rw [← Array.getElem?_toList, hit, List.getElem?_map] at hv
      cases e : ks[i]? with
      | none => rw [e] at hv; cases hv
      | some p => rw [e] at hv; exact ⟨p, rfl, (Option.some.inj hv).symm⟩
    have hx : IsT P w s'.heap p.2 p.1 := isT_keep (hk p (List.mem_of_getElem? hp)) k
    have hu1 : A.in1.in1.in1.units < cLine := by show A.units + 1 + 1 + 1 < cLine; omega
    have few : L.length < 63 := by
      have := hf (L.map (·.2)) R.nd fun x hx => by
        obtain ⟨p, hp, rfl⟩ := List.mem_map.mp hx
        exact List.mem_map.mpr ⟨p, old g p hp, rfl⟩
      rwa [List.length_map] at this
    refine wpAny_holding ?_
    unfold setAdd
    refine wpAny_holding (wpAny_bind (wpAny_pyHash_tuple hu1 hx ?_))
    refine add_at (s := { s' with toks := s'.toks + (p.2.length + 1) }) R hx hu1 (by omega) fun b h' L' es' ep' t' sb R' c1 c2 => ?_
    refine k2 b h' _ (Nat.le_add_right _ _) sb ⟨fun c o e => (sb.2 c fun z => by rw [z, gone _ (Nat.le_refl _)] at e; cases e).trans (k c o e), L', es', ep', t', R', ?_⟩
    by_cases c : p.2 ∈ L.map (·.2)
    · rw [c1 c]; exact g.same hp c
    · exact g.more hp (c2 c)
  · rintro h' tk ⟨k, L, es, ep, t, R, g⟩ _
    rw [hsz] at g
    exact q h' tk L es ep t R g k
theorem sorted_set_rows {a : Addr} {L : List (Addr × List Int)} {es : Array (Int × Value)} {ep : Nat} {t : SetTable} {Q : Value → Shared → Prop} (R : SetTR P w s.heap a L es ep t) (hh : A.handled = none) (hu : A.units + 4 < cLine)
    (hal : W.AllAlike (L.map fun p => tiD p.2)) (hso : W.Sortable (L.map fun p => tiD p.2)) (hr : ∀ p ∈ L, ∃ as, Reads s.heap (.ref p.1) (tiD p.2) as)
    (q : ∀ s' p (out : Array Value) (c : Nat) (L' : List (Addr × List Int)), (∀ b o, s.heap.get? b = some o → s'.heap.get? b = some o) → s'.gens = s.gens → s'.os = s.os → s.heap.objs.size ≤ p →
      s'.heap.get? p = some (seqObj "list" out c) → out.toList = L'.map (fun q => Value.ref q.1) → L'.Perm L → Q (.ref p) s') :
    wpAny (model P w) A (call (.builtin "sorted") [.ref a]) Q E s := by
  obtain ⟨o, ho, hex, hd⟩ := R.ob
  have hsz := R.size
  have hfew := R.few
  refine PyProof.Rows.call_function_entry_kw kind_sorted plain_sorted entry_sorted (args_sorted1 _) ?_
  unfold Builtin.«sorted»
  refine wpAny_bind (m := checkCount "sorted" 1 1 _) (wpAny_pure ?_)
  refine wpAny_bind (collect_set (A := A.in1) hh ⟨o, ho, hex.1, hd⟩ R.fits (by unfold scanBound; omega) R.tab.ris R.led fun s1 vs k1 hz g1 o1 pm => ?_)
  have hes : es.toList.map (·.2) = L.map fun q => Value.ref q.1 := by
    rw [R.rows]; unfold rowsOf; rw [List.map_map]; rfl
  rw [hes] at pm
  obtain ⟨L1, pL, rfl⟩ := perm_lift pm.symm rfl
  have hvl : (L1.map fun q => Value.ref q.1).length ≤ sizeLine := by rw [List.length_map, pL.length_eq, sizeLine_eq]; omega
  refine wpAny_bind (wpAny_newList ?_ hvl)
  have hoL : (s1.heap.push (seqObj "list" (L1.map fun q => Value.ref q.1).toArray 0)).get? s1.heap.objs.size = some (seqObj "list" (L1.map fun q => Value.ref q.1).toArray 0) := Heap.get?_push_size _ rfl
  have k2 : ∀ b o, s.heap.get? b = some o → (W.sortingHeap (s1.heap.push (seqObj "list" (L1.map fun q => Value.ref q.1).toArray 0)) s1.heap.objs.size (L1.map fun q => Value.ref q.1)).get? b = some o := fun b o e => by
    have e1 := k1 b o e
    exact W.sortingHeap_old (Nat.ne_of_lt (Heap.lt_size e1)) (Heap.get?_push_of_some _ e1)
  generalize hhS : W.sortingHeap (s1.heap.push (seqObj "list" (L1.map fun q => Value.ref q.1).toArray 0)) s1.heap.objs.size (L1.map fun q => Value.ref q.1) = hS at k2
  have rd : ∀ p ∈ L, ∃ as, Reads hS (.ref p.1) (tiD p.2) as := fun p hp => by
    obtain ⟨as, r⟩ := hr p hp
    exact ⟨as, PyProof.Rows.Reads.keeps k2 r⟩
  have er : ∀ M : List (Addr × List Int), (∀ q ∈ M, q ∈ L) → W.EachIs (fun v (p : Addr × List Int) => ∃ as, Reads hS v (tiD p.2) as) (M.map fun q => Value.ref q.1) M := by
    intro M
    induction M with
    | nil => intro _; exact .nil
    | cons p M ih => intro h; exact .cons (rd p (h p List.mem_cons_self)) (ih fun q hq => h q (List.mem_cons_of_mem _ hq))
  have ei : ∀ M : List (Addr × List Int), W.EachIs (fun v (p : Addr × List Int) => v = Value.ref p.1) (M.map fun q => Value.ref q.1) M := by
    intro M
    induction M with
    | nil => exact .nil
    | cons p M ih => exact .cons rfl ih
  have of_ei : ∀ (M : List (Addr × List Int)) (us : List Value), W.EachIs (fun v (p : Addr × List Int) => v = Value.ref p.1) us M → us = M.map fun q => Value.ref q.1 := by
    intro M us h
    induction h with
    | nil => rfl
    | cons h1 _ ih => rw [h1, ih]; rfl
  have pm1 : ∀ d, d ∈ L1.map (fun p => tiD p.2) ↔ d ∈ L.map (fun p => tiD p.2) := fun d => (pL.map _).mem_iff
  have hal1 : W.AllAlike (L1.map fun p => tiD p.2) := fun d hd d' hd' => hal d ((pm1 d).mp hd) d' ((pm1 d').mp hd')
  have hso1 : W.Sortable (L1.map fun p => tiD p.2) := hso.elim (fun h => .inl fun d hd => h d ((pm1 d).mp hd)) fun h => .inr fun d hd => h d ((pm1 d).mp hd)
  have S := W.SortsAt.data (prog := P) (w := w) (A := A.in1.in1) (s := { s1 with heap := hS }) (W.each_map (R := fun v d => ∃ as, Reads hS v d as) (fun p : Addr × List Int => tiD p.2) (er L1 fun q hq => pL.mem_iff.mp hq)) hal1 hso1 (fun d hd => by
    obtain ⟨z, _, rfl⟩ := List.mem_map.mp hd
    have : (tiD z.2).depth = 1 := by
      have h0 : ∀ ns : List Int, PyData.depthAll (ns.map .int) = 0 := fun ns => by
        induction ns with
        | nil => rfl
        | cons n ns ih => simp [PyData.depthAll, PyData.depth, ih]
      unfold tiD; rw [PyData.depth, h0]
    rw [this]
    show A.units + 1 + 1 + 1 < cLine
    omega)
  refine wpAny_bind (wpAny_holding (wpAny_call_entry_kw slot_list_sort ⟨_, hoL, rfl⟩ entry_list_sort ?_ (args_list_sort _)))
  rw [W.plain_is_rev]
  subst hhS
  refine W.list_sort_rev_vals (s := { s1 with heap := s1.heap.push (seqObj "list" (L1.map fun q => Value.ref q.1).toArray 0) }) hoL S hvl ?_
  have out := of_ei _ _ (W.sortVals_data false (ei L1) (er L1 fun q hq => pL.mem_iff.mp hq) hal1)
  rw [out]
  obtain ⟨c, hc⟩ := sortedHeap_at (out := (List.map (fun q : Addr × List Int => Value.ref q.1) (L1.mergeSort (W.dataLe false fun p => tiD p.2))).toArray) hoL
  refine ⟨_, rfl, wpAny_pure ⟨_, rfl, q _ s1.heap.objs.size _ c (L1.mergeSort (W.dataLe false fun p => tiD p.2)) (fun b u e => ?_) g1 o1 hz hc rfl ((List.mergeSort_perm _ _).trans pL)⟩⟩
  have e1 := k1 b u e
  have hlt := Heap.lt_size e1
  show (sortedHeap _ s1.heap.objs.size _ _).get? b = some u
  rw [sortedHeap_old (Nat.ne_of_lt hlt) (by rw [size_push']; exact Nat.lt_succ_of_lt hlt)]
  exact Heap.get?_push_of_some _ e1
end
end DL
namespace DL
open PySem PySem.Spec PyProof.Rows L2
/-! ### a list whose items are known -/
abbrev rLq (K : PySem.W.Frag) (ds : List PyData) : RR := fun _ _ v G2 H2 => ∃ a xs, v = .ref a ∧ H2 a = some (.lst xs) ∧ Ats K G2 xs ds
theorem back_lq {K : PySem.W.Frag} {ds : List PyData} : Back (rLq K ds) := fun _ _ _ _ _ _ _ _ h => h
/-- a new set of tuples of ints -/
def rSetR (K : PySem.W.Frag) (P : Program) (w : World) (rows : List (List Int)) : RR := fun _ H v G2 H2 => ∃ p L, v = .ref p ∧ H p = none ∧ H2 p = some (SetTO P w p L) ∧ (∀ q ∈ L, G2 q.1 = some (.tup (q.2.map V.int))) ∧ (L.map (·.2)).Nodup ∧ ∀ r, r ∈ L.map (·.2) ↔ r ∈ rows
theorem back_set {K : PySem.W.Frag} {P : Program} {w : World} {rows : List (List Int)} : Back (rSetR K P w rows) := fun _ _ _ _ _ _ _ r ⟨p, L, e, h, k⟩ => ⟨p, L, e, none_back r h, k⟩
theorem ats_rows {K : PySem.W.Frag} {G : Hp} : ∀ {xs : List V} {rows : List (List Int)}, Ats K G xs (rows.map tiD) → ∃ ks : List (Addr × List Int), xs = ks.map (fun p => V.ref p.1) ∧ ks.map (·.2) = rows ∧ ∀ p ∈ ks, G p.1 = some (.tup (p.2.map V.int))
  | _, [], h => by cases h; exact ⟨[], rfl, rfl, fun p hp => by cases hp⟩
  | _, r :: rows, h => by
    cases h with
    | cons h1 h2 =>
      obtain ⟨ks, rfl, e, hk⟩ := ats_rows h2
      cases h1 with
      | @tup a xs _ hs ha =>
        have := Ats.of_ints ha
        subst this
        exact ⟨(a, r) :: ks, rfl, by rw [List.map_cons, e], fun p hp => (List.mem_cons.mp hp).elim (fun z => by rw [z]; exact hs) (hk p)⟩
theorem rows_ats {K : PySem.W.Frag} {G : Hp} : ∀ {L : List (Addr × List Int)}, (∀ p ∈ L, G p.1 = some (.tup (p.2.map V.int))) → Ats K G (L.map fun p => V.ref p.1) ((L.map (·.2)).map tiD)
  | [], _ => .nil
  | p :: L, h => .cons (.tup (h p List.mem_cons_self) (Ats.ints p.2)) (rows_ats fun q hq => h q (List.mem_cons_of_mem _ hq))
section
variable {X : Cx} {e a b c : Expr} {es : List Expr} {Δ : De} {S T : As} {R : RR} {d d1 d2 d3 : PyData} {ds : List PyData} {pos p : Pos} {rows : List (List Int)} {q : Addr} {D : EndsG} {rest : List Stmt} {P : PyData → Prop}
theorem EvR.lq (h : Ev X e Δ S (.list ds)) : EvR X e Δ S (rLq X.K ds) := h.imp fun G H v G2 H2 g p r => by
  cases r with
  | lst hs ha => exact ⟨_, _, rfl, g.sub _ _ hs, ha⟩
theorem EvR.lqA (h : Ev X e Δ S (DL.ob q)) (hS : S.le (.acc X.K q ds)) : EvR X e Δ S (rLq X.K ds) := h.imp fun G H v G2 H2 g p r => by
  obtain ⟨_, xs, h1, h2⟩ := hS _ _ p
  exact ⟨q, xs, At.obj_eq r, h1, h2⟩
theorem EvR.lqN (h : EvL X e Δ S ds) : EvR X e Δ S (rLq X.K ds) := h.imp fun G H v G2 H2 g p ⟨a, xs, e1, _, _, e4, e5⟩ => ⟨a, xs, e1, e4, e5⟩
theorem evr_set {x : Str} (hx : x = "set") (hc : X.calm = true) (hu : X.A.units + 64 < cLine) (hg : Gl X x) (hm : X.mg x = none) (he : EvR X e Δ S (rLq X.K (rows.map tiD))) (hf : FewK rows) (hs : starEach [e] X.env = (false, eval e X.env) :: starEach [] X.env := by rfl) (hpl : (backTo pos (starEach [] X.env)).any (·.1) = false := by rfl) :
    EvR X (.Call (.Name x p) [e] [] pos) Δ S (rSetR X.K X.prog X.w rows) := by
  subst hx
  have cr : CallR X (.type "set") (fun vs H Q => ∃ (G : Hp) (l : Addr) (ks : List (Addr × List Int)), vs = [.ref l] ∧ H l = some (.lst (ks.map fun p => V.ref p.1)) ∧ Same G H ∧ (∀ p ∈ ks, G p.1 = some (.tup (p.2.map V.int))) ∧ FewK (ks.map (·.2)) ∧
      ∀ (a : Addr) (L : List (Addr × List Int)), H a = none → (L.map (·.2)).Nodup → (∀ p ∈ L, p ∈ ks) → (∀ p ∈ ks, p.2 ∈ L.map (·.2)) → Q (.ref a) (upd H a (SetTO X.prog X.w a L))) := by
    intro pins s σ H vs us Q I r h
    obtain ⟨G, l, ks, rfl, hl, hG, hk, hf, q⟩ := h
    rw [vals_ref1 r]
    obtain ⟨its, rv, pl, hz⟩ := I.list (SqL.of hl)
    refine call_set_rows ks (I.ok.hd hc) pl.isList (by simpa using refs_of_vals rv) (fun p hp => I.isT (SqT.of (hG _ _ (hk p hp)))) hf (by omega) fun h' tk L es ep t R g k => ?_
    exact ⟨.ref s.heap.objs.size, _, I.laid (t' := tk) k (Nat.le_refl _) (setTO_new R.t0), rfl, q _ L (I.hok.fresh (Nat.le_refl _)) R.nd (fun p hp => List.mem_of_mem_take (g.sub p hp)) fun p hp => g.all p (by rw [List.take_length]; exact hp)⟩
  refine ev_pe (pe_callTy cr hg hm (by decide +kernel) (pa_cons (pe_ev X e) pa_nil hs) (by decide) (by decide) hs hpl) fun σ G H Q a b c q => ⟨Δ, S, _, G, he, a, b, c, fun v G1 H1 g p1 ⟨l, xs, e1, e2, e3⟩ => ?_⟩
  subst e1
  obtain ⟨ks, rfl, ek, hk⟩ := ats_rows e3
  refine ⟨G1, l, ks, rfl, e2, g.sub, hk, by rw [ek]; exact hf, fun a L ha nd sub all => ?_⟩
  obtain ⟨g2, p2⟩ := layH (o := SetTO X.prog X.w a L) g p1 ha
  refine q _ _ _ g2 p2 ⟨a, L, rfl, none_back g ha, upd_same, fun z hz => hk z (sub z hz), nd, fun r => ⟨fun hr => ?_, fun hr => ?_⟩⟩
  · obtain ⟨z, hz, rfl⟩ := List.mem_map.mp hr
    rw [← ek]
    exact List.mem_map.mpr ⟨z, sub z hz, rfl⟩
  · rw [← ek] at hr
    obtain ⟨z, hz, rfl⟩ := List.mem_map.mp hr
    exact all z hz
theorem alike_ints : ∀ xs ys : List Int, W.alikeAll (xs.map .int) (ys.map .int) = true
  | [], _ => by simp [W.alikeAll]
  | x :: xs, [] => by simp [W.alikeAll]
  | x :: xs, y :: ys => by simp [W.alikeAll, W.alike, alike_ints xs ys]
theorem alike_rows (L : List (List Int)) : W.AllAlike (L.map tiD) := fun d hd d' hd' => by
  obtain ⟨x, _, rfl⟩ := List.mem_map.mp hd
  obtain ⟨y, _, rfl⟩ := List.mem_map.mp hd'
  exact alike_ints x y
theorem sortable_rows {L : List (List Int)} (h : ∀ r ∈ L, r ≠ []) : W.Sortable (L.map tiD) := .inl fun d hd => by
  obtain ⟨x, hx, rfl⟩ := List.mem_map.mp hd
  cases x with
  | nil => exact absurd rfl (h [] hx)
  | cons i x => exact ⟨_, _, rfl⟩
theorem evx_sortset {x : Str} (hx : x = "sorted") (hc : X.calm = true) (hu : X.A.units + 64 < cLine) (hg : Gl X x) (hm : X.mg x = none) (he : EvR X e Δ S (rSetR X.K X.prog X.w rows)) (hne : ∀ r ∈ rows, r ≠ []) (hs : starEach [e] X.env = (false, eval e X.env) :: starEach [] X.env := by rfl) (hpl : (backTo pos (starEach [] X.env)).any (·.1) = false := by rfl) :
    EvXl X (.Call (.Name x p) [e] [] pos) Δ S fun ds => ∃ rows' : List (List Int), ds = rows'.map tiD ∧ rows'.Nodup ∧ ∀ r, r ∈ rows' ↔ r ∈ rows := by
  subst hx
  have cr : CallR X (.builtin "sorted") (fun vs H Q => ∃ (G : Hp) (a : Addr) (L : List (Addr × List Int)), vs = [.ref a] ∧ H a = some (SetTO X.prog X.w a L) ∧ Same G H ∧ (∀ p ∈ L, G p.1 = some (.tup (p.2.map V.int))) ∧ (∀ p ∈ L, p.2 ≠ []) ∧
      ∀ (L' : List (Addr × List Int)) l, L'.Perm L → L'.length < 64 → H l = none → Q (.ref l) (upd H l (.lst (L'.map fun p => V.ref p.1)))) := by
    intro pins s σ H vs us Q I r h
    obtain ⟨G, a, L, rfl, ha, hG, hk, hn, q⟩ := h
    have R0 : SetT0 X.prog X.w s.heap a L := (I.hok a _ ha).1
    obtain ⟨es, ep, t, R⟩ := R0.full fun p hp => I.isT (SqT.of (hG _ _ (hk p hp)))
    rw [vals_ref1 r]
    have e1 : (L.map fun p => tiD p.2) = (L.map (·.2)).map tiD := by rw [List.map_map]; rfl
    refine sorted_set_rows R (I.ok.hd hc) (by omega) (by rw [e1]; exact alike_rows _) (by rw [e1]; exact sortable_rows fun r hr => by obtain ⟨z, hz, rfl⟩ := List.mem_map.mp hr; exact hn z hz) (fun p hp => ?_) fun s' p out c L' k g o hp hg hout pm => ?_
    · exact Dp.reads I (tiD p.2) (.ref p.1) (.ref p.1) (At.dpA _ _ (alike_ints p.2 p.2) (At.tup (G := H) (hG _ _ (hk p hp)) (Ats.ints p.2))) rfl
    · have hfew : L'.length < 64 := by rw [pm.length_eq]; exact R.few
      have hlen : (L'.map fun q => V.ref q.1).length ≤ sizeLine := by rw [List.length_map, sizeLine_eq]; omega
      have hv : Vals (L'.map fun q => V.ref q.1) out.toList := by rw [hout]; exact vals_of_refs L'
      have J : Inv X pins σ (upd H p (.lst (L'.map fun q => V.ref q.1))) { s with heap := s'.heap, gens := s'.gens, drawn := s'.drawn, toks := s'.toks } :=
        I.call (ch := []) (Un.laid k hp (I.hok.fresh hp)) (I.hok.laid k hp ⟨hlen, out.toList, c, hv, hg⟩) (by rw [g]; exact I.bare) (fun _ z => nomatch z)
      have e : s' = { s with heap := s'.heap, gens := s'.gens, drawn := s'.drawn, toks := s'.toks } := by
        cases s'; cases s; cases o; rfl
      rw [e]
      exact ⟨.ref p, _, J, rfl, q L' p pm hfew (I.hok.fresh hp)⟩
  refine ev_pe (pe_callB cr hg hm (by decide +kernel) (pa_cons (pe_ev X e) pa_nil hs) (by decide) (by decide) hs hpl) fun σ G H Q a b c q => ⟨Δ, S, _, G, he, a, b, c, fun v G1 H1 g p1 ⟨l, L, e1, e2, e3, e4, e5, e6⟩ => ?_⟩
  subst e1
  refine ⟨G1, l, L, rfl, e3, g.sub, e4, fun z hz => hne z.2 ((e6 _).mp (List.mem_map.mpr ⟨z, hz, rfl⟩)), fun L' l' pm _ hl => ?_⟩
  obtain ⟨g2, p2⟩ := layH (o := .lst (L'.map fun p => V.ref p.1)) g p1 hl
  refine q _ _ _ g2 p2 ⟨_, ⟨L'.map (·.2), rfl, ((pm.map _).nodup_iff).mpr e5, fun r => ?_⟩, l', _, rfl, none_back g hl, g.sub.free hl, upd_same, rows_ats fun z hz => e4 z (pm.mem_iff.mp hz)⟩
  rw [(pm.map _).mem_iff]
  exact e6 r

/-! ### a, b, c = .. -/
theorem go_par3 {x y z : Str} {px py pz pt pt2 : Pos} {kt k2} (i j l : Nat) (ha : EvA X [a, b, c] Δ S [d1, d2, d3]) (hc : X.calm = true) (hN : X.N.Nodup) (k : Go X rest D (((Δ.set i (some d1)).set j (some d2)).set l (some d3)) S) (hij : i ≠ j := by decide) (hil : i ≠ l := by decide) (hjl : j ≠ l := by decide) (hi : X.N[i]? = some x := by rfl) (hj : X.N[j]? = some y := by rfl) (hl : X.N[l]? = some z := by rfl)
    (hx : X.env.scope.names.lookup x = some .local := by rfl) (hy : X.env.scope.names.lookup y = some .local := by rfl) (hz : X.env.scope.names.lookup z = some .local := by rfl)
    (hw : swappedStores [.Tuple [.Name x px, .Name y py, .Name z pz] kt pt] (.Tuple [a, b, c] k2 pt2) X.env = pure (some [x, y, z]) := by rfl)
    (hs : swapsWithSole [.Tuple [.Name x px, .Name y py, .Name z pz] kt pt] (.Tuple [a, b, c] k2 pt2) pos.line X.env = pure false := by rfl) :
    Go X (.Assign [.Tuple [.Name x px, .Name y py, .Name z pz] kt pt] (.Tuple [a, b, c] k2 pt2) pos :: rest) D Δ S :=
  go_cons (ps_par3 hc hN hi hj hl hij hil hjl hx hy hz (pa_ev X _) hw hs) fun σ G H D' le a' b' c' => ⟨Δ, S, _, G, ha, a', b', c', fun vs G1 H1 g p1 r => by
    cases r with
    | cons r1 r => cases r with
      | cons r2 r => cases r with
        | cons r3 r =>
          cases r
          exact ⟨_, _, _, rfl, le.nx _ _ ⟨G1, g.gx, g.sub, _, S, k, (((a'.up g.gx).set r1).set r2).set r3, p1⟩⟩⟩
/-- .. told by properties -/
theorem go_par3X {x y z : Str} {px py pz pt pt2 : Pos} {kt k2} {PL : List PyData → Prop} (i j l : Nat) (ha : EvAX X [a, b, c] Δ S PL) (hc : X.calm = true) (hN : X.N.Nodup) (hP : ∀ ds, PL ds → ds.length = 3) (k : ∀ d1 d2 d3, PL [d1, d2, d3] → Go X rest D (((Δ.set i (some d1)).set j (some d2)).set l (some d3)) S) (hij : i ≠ j := by decide) (hil : i ≠ l := by decide) (hjl : j ≠ l := by decide) (hi : X.N[i]? = some x := by rfl) (hj : X.N[j]? = some y := by rfl) (hl : X.N[l]? = some z := by rfl)
    (hx : X.env.scope.names.lookup x = some .local := by rfl) (hy : X.env.scope.names.lookup y = some .local := by rfl) (hz : X.env.scope.names.lookup z = some .local := by rfl)
    (hw : swappedStores [.Tuple [.Name x px, .Name y py, .Name z pz] kt pt] (.Tuple [a, b, c] k2 pt2) X.env = pure (some [x, y, z]) := by rfl)
    (hs : swapsWithSole [.Tuple [.Name x px, .Name y py, .Name z pz] kt pt] (.Tuple [a, b, c] k2 pt2) pos.line X.env = pure false := by rfl) :
    Go X (.Assign [.Tuple [.Name x px, .Name y py, .Name z pz] kt pt] (.Tuple [a, b, c] k2 pt2) pos :: rest) D Δ S :=
  go_cons (ps_par3 hc hN hi hj hl hij hil hjl hx hy hz (pa_evx X _) hw hs) fun σ G H D' le a' b' c' => ⟨Δ, S, _, G, ha, a', b', c', fun vs ds G1 H1 hp g p1 r => by
    have hl3 := hP ds hp
    match ds, hl3 with
    | [d1, d2, d3], _ =>
      cases r with
      | cons r1 r => cases r with
        | cons r2 r => cases r with
          | cons r3 r =>
            cases r
            exact ⟨_, _, _, rfl, le.nx _ _ ⟨G1, g.gx, g.sub, _, S, k _ _ _ hp, (((a'.up g.gx).set r1).set r2).set r3, p1⟩⟩⟩

/-! ### lists of the same objects compared -/
def RefD (d : PyData) : Prop := ∀ (K : PySem.W.Frag) (G : Hp) (u v : V), At K G u d → At K G v d → ∃ a, u = .ref a ∧ v = .ref a
theorem refD_ins {a C : Addr} {ns : List Str} {ds : List PyData} : RefD (insD a C ns ds) := fun K G u v h1 h2 => by
  obtain ⟨e1, _⟩ := h1.ins_inv
  obtain ⟨e2, _⟩ := h2.ins_inv
  exact ⟨a, e1, e2⟩
theorem ats_same {K : PySem.W.Frag} {G : Hp} : ∀ {xs ys : List V} {ds : List PyData}, (∀ d ∈ ds, RefD d) → Ats K G xs ds → Ats K G ys ds → ∃ as : List Addr, xs = as.map V.ref ∧ ys = as.map V.ref
  | _, _, [], _, h1, h2 => by cases h1; cases h2; exact ⟨[], rfl, rfl⟩
  | _, _, d :: ds, hd, h1, h2 => by
    cases h1 with
    | cons a1 b1 => cases h2 with
      | cons a2 b2 =>
        obtain ⟨as, rfl, rfl⟩ := ats_same (fun d h => hd d (List.mem_cons_of_mem _ h)) b1 b2
        obtain ⟨a, rfl, rfl⟩ := hd d List.mem_cons_self K G _ _ a1 a2
        exact ⟨a :: as, rfl, rfl⟩
theorem refs_vals : ∀ {as : List Addr} {us : List Value}, Vals (as.map V.ref) us → us = as.map Value.ref
  | [], _, h => by cases h; rfl
  | a :: as, _, h => by
    cases h with
    | cons r t => cases r; rw [refs_vals t]; rfl
theorem od_neRefs (hu : X.A.units + 64 < cLine) (hd : ∀ d ∈ ds, RefD d) : OpD X (compareOp .NotEq) S (.list ds) (.list ds) (rAt X.K (.bool false)) :=
  ⟨fun x y H Q => ∃ (a b : Addr) (as : List Addr), x = .ref a ∧ y = .ref b ∧ SqL X.K H a (as.map V.ref) ∧ SqL X.K H b (as.map V.ref) ∧ Q (.bl false) H, by
    intro pins s σ H x y v u Q I rx ry h
    obtain ⟨a, b, as, rfl, rfl, ha, hb, q⟩ := h
    cases (show v = Value.ref a from rx)
    cases (show u = Value.ref b from ry)
    obtain ⟨us, r1, p1, _⟩ := I.list ha
    obtain ⟨ws, r2, p2, _⟩ := I.list hb
    rw [refs_vals r1] at p1
    rw [refs_vals r2] at p2
    have := SeqAt.RcNeAt.lists (A := X.A) (e := fun _ => true) p1.isList p2.isList rfl (by omega) (fun j h1 h2 => SeqAt.EqAt.same _)
    rw [show ((List.range (List.toArray (as.map Value.ref)).size).all fun _ => true) = true from List.all_eq_true.mpr fun _ _ => rfl] at this
    exact this X.prog X.w X.xe _ ⟨.bl false, H, I, rfl, q⟩,
  fun G H x y Q b c h1 h2 q => by
    cases h1 with
    | lst hs ha => cases h2 with
      | lst hs' ha' =>
        obtain ⟨as, rfl, rfl⟩ := ats_same hd ha ha'
        exact ⟨_, _, as, rfl, rfl, Same_l b (SqL.of hs), Same_l b (SqL.of hs'), q _ G H (.refl b) c (.bl _)⟩⟩

/-! ### repr of what may still change -/
theorem ev_reprA {x : Str} (hx : x = "repr") (hgd : X.A.guards = some []) (hu : X.A.units + 64 < cLine) (h : Shw (.list ds)) (hS : S.le (.acc X.K q ds)) (hg : Gl X x) (hm : X.mg x = none) (he : Ev X e Δ S (ob q)) (hs : starEach [e] X.env = (false, eval e X.env) :: starEach [] X.env := by rfl) (hpl : (backTo pos (starEach [] X.env)).any (·.1) = false := by rfl) :
    Ev X (.Call (.Name x p) [e] [] pos) Δ S (.str (PyData.list ds).shown) := by
  subst hx
  have cr : CallR X (.builtin "repr") (fun vs H Q => ∃ a, vs = [.ref a] ∧ Dp X.K H (.ref a) (.list ds) ∧ Q (.str (PyData.list ds).shown) H) := by
    intro pins s σ H vs us Q I r ⟨a, e, hp, q⟩
    subst e
    rw [vals_ref1 r]
    obtain ⟨as, rd⟩ := Dp.reads I _ (.ref a) (.ref a) hp rfl
    refine repr_of_reads' rd h.ok (fun z => ?_) hgd (by have := h.de; omega) (fun _ _ z => z) (fun h' u tk hk => ?_) h.ln
    · rw [PyData.hasDict_of_canLay _ (SeqAt.canLay_of_shaped h.sh)] at z; cases z
    · exact ⟨.str (PyData.list ds).shown, H, I.kept (t' := tk) hk, ⟨u, rfl⟩, q⟩
  refine ev_pe (pe_callB cr hg hm (by decide +kernel) (pa_cons (pe_ev X e) pa_nil hs) (by decide) (by decide) hs hpl) fun σ G H Q a b c q' => ⟨Δ, S, _, G, he, a, b, c, fun v G1 H1 g p1 r => ?_⟩
  obtain ⟨_, xs, h1, h2⟩ := hS _ _ p1
  rw [At.obj_eq r]
  exact ⟨q, rfl, At.dps (At.lst h1 (h2.up g.sub) : At X.K H1 (.ref q) (.list ds)) (Same.refl _) h.sh, q' _ G1 H1 g p1 (.str _)⟩

/-! ### new dicts as values, as fields -/
theorem evr_dictT : EvR X (.Dict [] [] pos) Δ S (rNT X.K []) :=
  ev_pe pe_dnewT fun σ G H Q a b c q => fun r hr => by
    have n2 := Gr.h (H2 := upd H r (.dT [])) b (same_upd hr)
    exact q _ G _ n2 (S.cl n2 (same_upd hr) c) ⟨r, rfl, hr, b.free hr, _, upd_same, [], rfl, .nil⟩
theorem evr_dictK : EvR X (.Dict [] [] pos) Δ S (rNK X.K []) :=
  ev_pe pe_dnewK fun σ G H Q a b c q => fun r hr => by
    have n2 := Gr.h (H2 := upd H r (.dK [])) b (same_upd hr)
    exact q _ G _ n2 (S.cl n2 (same_upd hr) c) ⟨r, rfl, hr, b.free hr, _, upd_same, [], rfl, .nil⟩
/-- x.f = something new of one's own, told by T -/
theorem go_fldW {nm f : Str} {np : Pos} {x C : Addr} {ns : List Str} {es' : List PyData} {T : Addr → As} (i0 : Nat) (hd0 : Δ[i0]? = some (some (DL.ob x))) (he : EvR X e Δ (S.and (.inst X.K x C ns es')) (fun _ H v G2 H2 => ∃ q, v = .ref q ∧ H q = none ∧ (T q).p G2 H2)) (hT : ∀ q a, (T q).own a → a = q) (cl : Cls X.K C) (na : NoAttr X.K C f) (hS : ¬ S.fo x)
    (k : ∀ q, ¬ S.own q → q ≠ x → Go X rest D Δ ((S.and (T q)).and (.inst X.K x C (ns ++ [f]) (es' ++ [ob q])))) (hn : fIx f ns = none := by decide +kernel) (hl : ns.length < 1000 := by decide)
    (hN0 : X.N[i0]? = some nm := by rfl) (hv0 : Vis X.env.scope nm := by first | exact Or.inl rfl | exact Or.inr (Or.inl rfl) | exact Or.inr (Or.inr rfl)) (hx1 : (nm == ("__debug__" : Str)) = false := by decide) (hx2 : (nm == ("__classdict__" : Str)) = false := by decide)
    (hs : swapsWith e (some (.Attribute (.Name nm np) f p)) pos.line X.env = pure false := by rfl) : Go X (.Assign [.Attribute (.Name nm np) f p] e pos :: rest) D Δ (S.and (.inst X.K x C ns es')) :=
  go_cons (ps_fld (ta := fun σ H Q => ∃ G, EnvOk X.K G σ Δ ∧ Same G H ∧ ∀ v, At X.K G v (ob x) → Q v H) ⟨fun pins s σ H Q I ⟨G, a, b, q⟩ => by
    obtain ⟨v, z1, z2⟩ := a.2 i0 _ hd0
    exact (pe_var hN0 hv0 hx1 hx2).run pins s σ H Q I ⟨v, z1, q v z2⟩⟩ (pe_ev X e) hs) fun σ G H D' l a b c' => ⟨Δ, _, _, G, he, a, b, c', fun v G1 H1 g1 p1 ⟨q, e1, e2, t1⟩ => ⟨G1, a.up g1.gx, g1.sub, fun w r2 => by
    subst e1
    obtain ⟨pS, hG, o1, h1, dx, fs, rfl, h2, h3⟩ := p1
    obtain ⟨pS0, hG0, o0, h0, _⟩ := c'
    have hq : q ≠ x := by rintro rfl; rw [e2] at h0; cases h0
    have nq : ¬ S.own q := not_own pS0 e2
    have nT : ¬ (T q).fo x := fun z => hq (hT q x ((T q).fo_own z)).symm
    rw [At.obj_eq r2]
    have hz : fs.length < 1000 := by have := congrArg List.length h2; rw [List.length_map] at this; omega
    have hxn : H1 x ≠ none := by rw [h1]; exact fun z => by cases z
    refine ⟨x, C, dx, fs, rfl, h1, cl, na, hz, l.nx _ _ ⟨G1, g1.gx, fun b' u z => ?_, Δ, _, k q nq hq, a.up g1.gx, ⟨S.stb hS (fun ⟨_, z⟩ => by cases z) pS hG hxn, (T q).stb nT (fun ⟨_, z⟩ => by cases z) t1 hG hxn⟩, hG, _, upd_same, dx, _, rfl, ?_, ?_⟩⟩
    · rw [upd_ne (ne_of_none z hG)]; exact g1.sub _ _ z
    · rw [putF_new (by rw [h2]; exact hn), List.map_append, h2]; rfl
    · rw [putF_new (by rw [h2]; exact hn), List.map_append]
      exact h3.app (.one (.obj q))⟩⟩
end
end DL
namespace DL
open PySem PySem.Spec PyProof.Rows L2
/-! ### values that bring something of their own -/
def rXT (K : PySem.W.Frag) (P : PyData → As → Prop) : RR := fun _ H v G2 H2 => ∃ d T, P d T ∧ At K G2 v d ∧ T.p G2 H2 ∧ ∀ a, T.own a → H a = none
theorem back_xt {K : PySem.W.Frag} {P : PyData → As → Prop} : Back (rXT K P) := fun _ _ _ _ _ _ _ r ⟨d, T, h1, h2, h3, h4⟩ => ⟨d, T, h1, h2, h3, fun a z => none_back r (h4 a z)⟩
/-- S, and what the items brought -/
inductive Chain {α : Type} (P : α → PyData → As → Prop) (S : As) : List α → List PyData → As → Prop
  | nil : Chain P S [] [] S
  | snoc {xs : List α} {ds : List PyData} {U T : As} {x : α} {d : PyData} (h : Chain P S xs ds U) (hp : P x d T) (ha : ∀ a, T.own a → ¬ U.own a) : Chain P S (xs ++ [x]) (ds ++ [d]) (U.and T)
section
variable {α : Type} {P : α → PyData → As → Prop} {S : As}
theorem Chain.le {xs ds U} (h : Chain P S xs ds U) : U.le S := by
  induction h with
  | nil => exact fun _ _ h => h
  | snoc _ _ _ ih => exact fun G H h => ih G H h.1
theorem Chain.len {xs ds U} (h : Chain P S xs ds U) : ds.length = xs.length := by
  induction h with
  | nil => rfl
  | snoc _ _ _ ih => simp [ih]
theorem Chain.each {xs ds U} (h : Chain P S xs ds U) : ∀ (i : Nat) x, xs[i]? = some x → ∃ d T, ds[i]? = some d ∧ P x d T ∧ Has U T ∧ ∀ a, T.own a → U.own a := by
  induction h with
  | nil => intro i x e; simp at e
  | @snoc xs ds U T x d h hp ha ih =>
    intro i y e
    have hl := h.len
    by_cases hi : i < xs.length
    · rw [List.getElem?_append_left hi] at e
      obtain ⟨d', T', e1, e2, e3, e4⟩ := ih i y e
      exact ⟨d', T', by rw [List.getElem?_append_left (by omega)]; exact e1, e2, e3.and fun a f z => ha a (T.fo_own f) (e4 a (T'.fo_own z)), fun a z => .inl (e4 a z)⟩
    · rw [List.getElem?_append_right (by omega)] at e
      have hi2 : i - xs.length = 0 := by
        cases q : i - xs.length with
        | zero => rfl
        | succ k => rw [q] at e; simp at e
      rw [hi2] at e
      cases e
      have : i = ds.length := by omega
      subst this
      exact ⟨d, T, by rw [List.getElem?_append_right (Nat.le_refl _), Nat.sub_self]; rfl, hp, has_here fun a f z => ha a (T.fo_own z) (U.fo_own f), fun a z => .inr z⟩
theorem Chain.own {xs ds U} (h : Chain P S xs ds U) : ∀ a, S.own a → U.own a := by
  induction h with
  | nil => exact fun _ h => h
  | snoc _ _ _ ih => exact fun a h => .inl (ih a h)
theorem Chain.all {xs ds U} (h : Chain P S xs ds U) : ∀ d ∈ ds, ∃ x ∈ xs, ∃ T, P x d T := by
  induction h with
  | nil => intro d hd; cases hd
  | @snoc xs ds U T x d h hp ha ih =>
    intro y hy
    rcases List.mem_append.mp hy with hy | hy
    · obtain ⟨x', h1, T', h2⟩ := ih y hy
      exact ⟨x', List.mem_append_left _ h1, T', h2⟩
    · rw [List.mem_singleton.mp hy]
      exact ⟨x, by simp, T, hp⟩
end
/-- a list of such -/
def rChain {α : Type} (K : PySem.W.Frag) (P : α → PyData → As → Prop) (S : As) (xs : List α) : RR := fun _ H v G2 H2 => ∃ ds U, Chain P S xs ds U ∧ U.p G2 H2 ∧ ∃ p vs, v = .ref p ∧ H p = none ∧ ¬ U.own p ∧ G2 p = none ∧ H2 p = some (.lst vs) ∧ Ats K G2 vs ds
section
variable {X : Cx} {scope : Scope} {e elt tg iter : Expr} {es : List Expr} {ifs : List Expr} {Δ : De} {S : As} {R : RR} {d : PyData} {ds : List PyData} {pos p : Pos} {D : EndsG} {rest : List Stmt}
/-- [elt for tg in iter], where each item brings something -/
theorem lclT {α : Type} {xs : List α} {enc : α → PyData} {own : List (Str × Nat)} {is : List Nat} (P : α → PyData → As → Prop) (F : α → De → De) (hi : ItD X tg iter Δ S (xs.map enc)) (ok : BlkOk X.N X.env.scope scope own)
    (hz : xs.length ≤ 1000000) (his : ∀ i ∈ is, i ∈ own.map (·.2))
    (htg : ∀ x ∈ xs, AllB X scope fun Y => TgS Y tg is (enc x) (F x))
    (he : ∀ (U : As), U.le S → ∀ D es, ¬ U.own D → ∀ x ∈ xs, AllB X scope fun Y => EvR Y elt (F x (wipeD Δ (own.map (·.2)))) (U.and (.acc X.K D es)) (rXT X.K (P x))) :
    LcR X elt tg iter [] own scope Δ S (rChain X.K P S xs) := by
  obtain ⟨wi, w1, w2⟩ := hi
  refine ⟨wi, w1, ok, fun σ G H Q ha hb hcS q => ?_⟩
  refine w2 σ G H _ ha hb hcS fun J G1 H1 g1 p1 W D hD => ?_
  have hG1 : G1 D = none := g1.sub.free hD
  have hO : ¬ S.own D := not_own p1 hD
  refine ⟨fun i m H' => m = xs.length - i ∧ i ≤ xs.length ∧ ∃ G' ds U, Gr G H G' H' ∧ Same G1 G' ∧ Chain P S (xs.take i) ds U ∧ ¬ U.own D ∧ (U.and (.acc X.K D ds)).p G' H', ⟨xs.length, by simp, Nat.zero_le _, G1, [], S, ?_⟩, ?_⟩
  · obtain ⟨g2, p2⟩ := layH (S := S) (o := .lst []) g1 p1 hD
    exact ⟨g2, Same.refl _, .nil, hO, p2, hG1, [], upd_same, .nil⟩
  rintro i m H' ⟨rfl, hle, G', ds, U, g2, s1, ch, hUD, p2⟩
  by_cases hlt : i < xs.length
  · obtain ⟨x, hx⟩ : ∃ x, xs[i]? = some x := ⟨xs[i], List.getElem?_eq_getElem hlt⟩
    have hmem : x ∈ xs := List.mem_of_getElem? hx
    have hxd : (xs.map enc)[i]? = some (enc x) := by rw [List.getElem?_map, hx]; rfl
    obtain ⟨j1, j2⟩ := W.go i (enc x) G' H' s1 g2.sub hxd
    refine .inr ⟨j1, fun H'' => i + 1 ≤ xs.length ∧ ∃ G' ds U, Gr G H G' H'' ∧ Same G1 G' ∧ Chain P S (xs.take (i + 1)) ds U ∧ ¬ U.own D ∧ (U.and (.acc X.K D ds)).p G' H'', fun H'' ⟨h1, h2⟩ => ⟨xs.length - (i + 1), by omega, rfl, h1, h2⟩, fun v H'' y => ?_⟩
    obtain ⟨G3, g3, s3, a3⟩ := j2 v H'' y
    have p3 : (U.and (.acc X.K D ds)).p G3 H'' := As.cl _ g3 s3 p2
    refine ⟨wipeD Δ (own.map (·.2)), is, enc x, F x, G3, htg x hmem, (ha.up (g2.gx.trans g3.gx)).wipe _, g3.sub, a3, fun σ' e' w' => ⟨?_, ?_⟩⟩
    · rw [w' _ his, wipe_wipe]
    refine ⟨F x (wipeD Δ (own.map (·.2))), U.and (.acc X.K D ds), true, G3, (fun s H C cl fp => evts_nil), e', g3.sub, p3, fun G4 H4 g4 p4 => ?_⟩
    refine iteT ⟨_, _, rXT X.K (P x), G4, (fun s H C cl fp => he U (ch.le) D ds hUD x hmem s H C cl fp), e'.up g4.gx, g4.sub, p4, fun u G5 H5 g5 p5 ⟨d, T, r1, r2, r3, r4⟩ => ?_⟩
    obtain ⟨pU5, hG5, acc, hacc, hats⟩ := p5
    have hlen : acc.length ≤ i := by
      rw [hats.len, ch.len, List.length_take]; omega
    obtain ⟨pU4, hG4, acc4, hacc4, _⟩ := p4
    have nT : ¬ T.own D := fun z => by rw [r4 D z] at hacc4; cases hacc4
    refine ⟨acc, hacc, Nat.lt_of_le_of_lt hlen (Nat.lt_of_lt_of_le hlt (Nat.le_trans hz (by decide))), hlt, G5, ds ++ [d], U.and T, ?_, ((s1.trans g3.gx).trans g4.gx).trans g5.gx, ?_, fun z => z.elim hUD nT, ⟨?_, ?_⟩, hG5, _, upd_same, hats.app (.one r2)⟩
    · exact (((g2.trans g3).trans g4).trans g5).trans (.mut g5.sub hG5 hacc)
    · rw [take_some hx]
      exact .snoc ch r1 fun a z w => U.dom pU4 w (r4 a z)
    · exact U.stb (As.nf hUD) (fun ⟨_, z⟩ => by cases z) pU5 hG5 (by rw [hacc]; exact fun z => by cases z)
    · exact T.stb (As.nf nT) (fun ⟨_, z⟩ => by cases z) r3 hG5 (by rw [hacc]; exact fun z => by cases z)
  · have e : i = xs.length := by omega
    subst e
    have h2 := W.stop G' H' s1 g2.sub
    rw [List.length_map] at h2
    refine .inl ⟨h2, ?_⟩
    rw [List.take_length] at ch
    obtain ⟨pU, hG2, acc, hacc, hats⟩ := p2
    exact q _ G' H' g2 (ch.le _ _ pU) ⟨ds, U, ch, pU, D, acc, rfl, none_back g1 hD, hUD, hG2, hacc, hats⟩
/-- name = such a list, which is known then -/
theorem go_setLcT {α : Type} {xs : List α} {P : α → PyData → As → Prop} {y : Str} {py : Pos} {own : List (Str × Nat)} {spos : Pos} (i : Nat) (h : LcR X elt tg iter ifs own scope Δ S (rChain X.K P S xs)) (hc : X.calm = true) (hN : X.N.Nodup)
    (k : ∀ ds U, Chain P S xs ds U → Go X rest D (Δ.set i (some (.list ds))) U) (hy : X.N[i]? = some y := by rfl) (hyl : X.env.scope.names.lookup y = some .local := by rfl)
    (hsw : swapsWith (.ListComp elt [⟨tg, iter, ifs, 0⟩] scope pos) (some (.Name y py)) spos.line X.env = pure true := by rfl) (hs : ∀ x, foldedSetIterable iter X.env x = pure x := by intro _; rfl) :
    Go X (.Assign [.Name y py] (.ListComp elt [⟨tg, iter, ifs, 0⟩] scope pos) spos :: rest) D Δ S :=
  go_setLc i h hc hN (fun G H v G2 H2 c g p ⟨ds, U, ch, pU, q, xs, e1, e2, e3, e4, e5, e6⟩ => by
    subst e1
    refine ⟨.list ds, U, upd G2 q (.lst xs), .lst upd_same (e6.up (same_upd e4)), same_upd e4, fun b u z => ?_, U.frz e3 pU e4 e5, k ds U ch⟩
    by_cases hb : b = q
    · subst hb; rw [upd_same] at z; cases z; exact e5
    · rw [upd_ne hb] at z; exact g.sub _ _ z) hy hyl hsw hs
/-- C(e, ..): an instance, with what it brings -/
theorem evr_mkT {n : Str} {C : Addr} {k j : Nat} {Pr : Hp → List PyData → As → RR → Prop} {P : PyData → As → Prop} {Rm : Addr → RR} (c : C8.Mak X.prog X.w X.K X.mg X.base k n C (spM X.K Pr) []) (hr : Room j X.A) (hg : Gl X n) (ha : EvA X (e :: es) Δ S ds) (hP : ∀ G H, S.p G H → ∀ a, Pr G (ob a :: ds) (.inst X.K a C [] []) (Rm a))
    (kk : ∀ a G H v G2 H2, G a = none → H a ≠ none → Rm a G H v G2 H2 → v = .non ∧ ∃ ns ds' T, P (insD a C ns ds') T ∧ (∀ b, T.own b → H b = none) ∧ T.p G2 H2 ∧ (As.inst X.K a C ns ds').p G2 H2) (hk : k + 1 ≤ j := by decide)
    (hdb : (n == ("__debug__" : Str)) = false := by decide) (he : starEach (e :: es) X.env = (false, eval e X.env) :: starEach es X.env := by rfl) (hpl : (backTo pos (starEach es X.env)).any (·.1) = false := by rfl) :
    EvR X (.Call (.Name n p) (e :: es) [] pos) Δ S (rXT X.K P) :=
  ev_pe (C8.pe_mk c hr hk hg (pa_ev X _) hdb he hpl) fun σ G H Q a b c' q => ⟨Δ, S, ds, G, ha, a, b, c', fun vs G1 H1 g p1 r1 z dx hy hdx hne => by
    show spM X.K Pr (V.ref z :: (vs ++ [])) _ _ _
    rw [List.append_nil]
    have s1 : Same H1 (upd H1 dx (.own z)) := same_upd hdx
    have hy2 : upd H1 dx (.own z) z = none := by rw [upd_ne (Ne.symm hne)]; exact hy
    have s2 : Same H1 (upd (upd H1 dx (.own z)) z (.ins C dx [])) := s1.trans (same_upd hy2)
    have gr : Gr G1 H1 G1 (upd (upd H1 dx (.own z)) z (.ins C dx [])) := Gr.h g.sub s2
    have hGy : G1 z = none := g.sub.free hy
    refine ⟨G1, ob z :: ds, As.inst X.K z C [] [], Rm z, g.sub.trans s2, .cons (.obj z) r1, ⟨hGy, _, upd_same, dx, [], rfl, rfl, .nil⟩, hP _ _ p1 z, fun v G2 H2 g2 fr r2 => ?_⟩
    have pS2 : S.p G2 H2 := S.fr g2 (fun b o n k => fr b o (fun hb => by
      have hb : b = z := hb
      subst hb
      exact not_own p1 hy (S.fo_own n)) k) (S.cl gr s2 p1)
    obtain ⟨hv, ns, ds', T, n1, n2, n3, hG2, o2, e1, dx2, fs, e2, e3, e4⟩ := kk z _ _ v G2 H2 hGy (by rw [upd_same]; exact fun z => by cases z) r2
    subst e2 e3
    have nz : ¬ T.own z := fun w => by have := n2 z w; rw [upd_same] at this; cases this
    refine ⟨hv, q _ (upd G2 z (.ins C dx2 fs)) H2 ?_ (S.frz (not_own p1 hy) pS2 hG2 e1) ⟨_, T, n1, .ins upd_same (e4.up (same_upd hG2)), T.frz nz n3 hG2 e1, fun w hw => none_back (g.trans gr) (n2 w hw)⟩⟩
    exact ((g.trans gr).trans g2).frz (none_back g hy) hG2 e1⟩
/-- o.m(e, ..), o an instance that is told by a property -/
theorem evx_mt {m : Str} {k j : Nat} {pl : Sem Bool} {o : Expr} {apos : Pos} {C : Addr} {es' : List PyData} {PO : PyData → Prop} {Pr : Hp → List PyData → RR → Prop} (c : C8.Met X.prog X.w X.K X.mg X.base k C m (spP X.K Pr) []) (hr : Room j X.A) (ho : EvX X o Δ S PO) (hO : ∀ d, PO d → ∃ a ns ds, d = insD a C ns ds ∧ fIx m ns = none) (ha : EvA X (e :: es) Δ S es') (hP : ∀ G H d, PO d → S.p G H → Pr G (d :: es') R)
    (hR : Back R := by first | exact back_x | exact back_at | exact back_nl) (hk : k ≤ j := by decide)
    (hst : starEach (e :: es) X.env = (false, eval e X.env) :: starEach es X.env := by rfl) (hpl : (backTo pos (starEach es X.env)).any (·.1) = false := by rfl)
    (ht : eval (.Call (.Attribute o m apos) (e :: es) [] pos) X.env = (do
      let ov ← eval o X.env
      standAt apos.atName
      let (f, first) ← holding [ov] (getMethod ov m pl)
      callWith pos f first (backTo pos (starEach (e :: es) X.env)) (backToKw pos (keywordEach [] X.env))) := by rfl) :
    EvR X (.Call (.Attribute o m apos) (e :: es) [] pos) Δ S R :=
  ev_pe (C8.pe_mt (pl := pl) c hr hk (pe_ev X o) (pa_ev X _) hst hpl ht) fun σ G H Q a' b c' q => ⟨Δ, S, _, G, ho, a', b, c', fun v G1 H1 g p1 ⟨d, hd, r⟩ => by
    obtain ⟨a, ns, ds, rfl, hm⟩ := hO d hd
    obtain ⟨rfl, dx, fs, h1, h2, h3⟩ := r.ins_inv
    refine ⟨a, dx, fs, rfl, g.sub _ _ h1, fIx_none (by rw [h2]; exact hm), Δ, S, es', G1, ha, a'.up g.gx, g.sub, p1, fun vs G2 H2 g2 p2 r2 => ?_⟩
    show spP X.K Pr (V.ref a :: (vs ++ [])) H2 Q _
    rw [List.append_nil]
    exact ⟨G2, _ :: es', R, g2.sub, .cons (r.up g2.gx) r2, hP _ _ _ hd p2, fun v G3 H3 g3 s3 r3 => q v G3 H3 ((g.trans g2).trans g3) (S.cl g3 s3 p2) (hR _ _ _ _ _ _ _ (g.trans g2) r3)⟩⟩
/-! ### two fors -/
def tItB (X : Cx) (scope : Scope) (tg iter : Expr) : TI := fun σ H R => ∃ Δ S ds G, AllB X scope (fun Y => ItD Y tg iter Δ S ds) ∧ EnvOk X.K G σ Δ ∧ Same G H ∧ S.p G H ∧ ∀ J G1 H1, Gr G H G1 H1 → S.p G1 H1 → Walk X.K J G1 ds → R J H1
theorem pi_itB (X : Cx) (scope : Scope) (tg iter : Expr) (s : Shared) (H : Hp) (C : Addr) (cl : List (Str × Addr)) (fp : List Addr) : PI (X.blk s H scope (compEnvC scope cl C X.env) fp) tg iter (tItB X scope tg iter) :=
  ⟨fun pins s' σ H' R I ⟨_, _, _, G, h, a, b, c, q⟩ => by
    obtain ⟨wi, w1, w2⟩ := h s H C cl fp
    exact w1.run pins s' σ H' R I (w2 σ G H' R a b c q)⟩
theorem evl_lc2 {α β : Type} {tg1 iter1 : Expr} {xs : List α} {enc : α → PyData} {ys : α → List β} {encB : α → β → PyData} {own : List (Str × Nat)} {is is1 : List Nat} (g : α → β → PyData) (F : α → De → De) (F1 : α → β → De → De) (hi : ItD X tg iter Δ S (xs.map enc)) (hc : X.calm = true) (hN : X.N.Nodup) (ok : BlkOk X.N X.env.scope scope own)
    (hz : (xs.flatMap fun x => ys x).length ≤ 1000000) (his : ∀ i ∈ is, i ∈ own.map (·.2)) (his1 : ∀ i ∈ is1, i ∈ own.map (·.2))
    (htg : ∀ x ∈ xs, AllB X scope fun Y => TgS Y tg is (enc x) (F x))
    (hi1 : ∀ D es, ¬ S.own D → ∀ x ∈ xs, AllB X scope fun Y => ItD Y tg1 iter1 (F x (wipeD Δ (own.map (·.2)))) (S.and (.acc X.K D es)) ((ys x).map (encB x)))
    (htg1 : ∀ x ∈ xs, ∀ y ∈ ys x, AllB X scope fun Y => TgS Y tg1 is1 (encB x y) (F1 x y))
    (he : ∀ D es, ¬ S.own D → ∀ x ∈ xs, ∀ y ∈ ys x, AllB X scope fun Y => Ev Y elt (F1 x y (wipeD (F x (wipeD Δ (own.map (·.2)))) is1)) (S.and (.acc X.K D es)) (g x y))
    (hs : ∀ x, foldedSetIterable iter X.env x = pure x := by intro _; rfl) (hs1 : ∀ env x, foldedSetIterable iter1 env x = pure x := by intro _ _; rfl) :
    EvL X (.ListComp elt [⟨tg, iter, [], 0⟩, ⟨tg1, iter1, [], 0⟩] scope pos) Δ S (xs.flatMap fun x => (ys x).map (g x)) := by
  obtain ⟨wi, w1, w2⟩ := hi
  refine ev_pe (pe_lc2 hc hN w1 ok his1 (pg_tgB X scope tg) (pts_tsB X scope []) (pi_itB X scope tg1 iter1) (pg_tgB X scope tg1) (pts_tsB X scope []) (pe_evB X scope elt) hs hs1) fun σ G H Q ha hb hcS q => ?_
  refine w2 σ G H _ ha hb hcS fun J G1 H1 g1 p1 W D hD => ?_
  have hO : ¬ S.own D := not_own p1 hD
  have hG1 : G1 D = none := g1.sub.free hD
  refine ⟨fun i m H' => m = xs.length - i ∧ i ≤ xs.length ∧ ∃ G', Gr G H G' H' ∧ Same G1 G' ∧ (S.and (.acc X.K D ((xs.take i).flatMap fun x => (ys x).map (g x)))).p G' H', ⟨xs.length, by simp, Nat.zero_le _, G1, ?_⟩, ?_⟩
  · obtain ⟨g2, p2⟩ := layH (S := S) (o := .lst []) g1 p1 hD
    exact ⟨g2, Same.refl _, p2, hG1, [], upd_same, .nil⟩
  rintro i m H' ⟨rfl, hle, G', g2, s1, p2⟩
  by_cases hlt : i < xs.length
  · obtain ⟨x, hx⟩ : ∃ x, xs[i]? = some x := ⟨xs[i], List.getElem?_eq_getElem hlt⟩
    have hmem : x ∈ xs := List.mem_of_getElem? hx
    have tk : xs.take (i + 1) = xs.take i ++ [x] := take_some hx
    have hxd : (xs.map enc)[i]? = some (enc x) := by rw [List.getElem?_map, hx]; rfl
    obtain ⟨j1, j2⟩ := W.go i (enc x) G' H' s1 g2.sub hxd
    refine .inr ⟨j1, fun H'' => i + 1 ≤ xs.length ∧ ∃ G', Gr G H G' H'' ∧ Same G1 G' ∧ (S.and (.acc X.K D ((xs.take (i + 1)).flatMap fun x => (ys x).map (g x)))).p G' H'', fun H'' ⟨h1, h2⟩ => ⟨xs.length - (i + 1), by omega, rfl, h1, h2⟩, fun v H'' y => ?_⟩
    obtain ⟨G3, g3, s3, a3⟩ := j2 v H'' y
    have p3 : (S.and (.acc X.K D ((xs.take i).flatMap fun x => (ys x).map (g x)))).p G3 H'' := As.cl _ g3 s3 p2
    refine ⟨wipeD Δ (own.map (·.2)), is, enc x, F x, G3, htg x hmem, (ha.up (g2.gx.trans g3.gx)).wipe _, g3.sub, a3, fun σ2 e2 w' => ⟨by rw [w' _ his, wipe_wipe], ?_⟩⟩
    refine ⟨F x (wipeD Δ (own.map (·.2))), _, true, G3, (fun s H C cl fp => evts_nil), e2, g3.sub, p3, fun G4 H4 g4 p4 => iteT ?_⟩
    refine ⟨F x (wipeD Δ (own.map (·.2))), _, _, G4, (fun s H C cl fp => hi1 D _ hO x hmem s H C cl fp), e2.up g4.gx, g4.sub, p4, fun J1 G5 H5 g5 p5 W1 => ?_⟩
    refine ⟨fun j k H' => k = (ys x).length - j ∧ j ≤ (ys x).length ∧ ∃ G', Gr G H G' H' ∧ Same G5 G' ∧ (S.and (.acc X.K D (((xs.take i).flatMap fun x => (ys x).map (g x)) ++ ((ys x).take j).map (g x)))).p G' H', ⟨(ys x).length, by simp, Nat.zero_le _, G5, ((g2.trans g3).trans g4).trans g5, Same.refl _, by simpa using p5⟩, ?_⟩
    rintro j k H6 ⟨rfl, hje, G6, g6, s6, p6⟩
    by_cases hjl : j < (ys x).length
    · obtain ⟨y, hy⟩ : ∃ y, (ys x)[j]? = some y := ⟨(ys x)[j], List.getElem?_eq_getElem hjl⟩
      have hmy : y ∈ ys x := List.mem_of_getElem? hy
      have tj : (ys x).take (j + 1) = (ys x).take j ++ [y] := take_some hy
      have hyd : ((ys x).map (encB x))[j]? = some (encB x y) := by rw [List.getElem?_map, hy]; rfl
      obtain ⟨k1, k2⟩ := W1.go j (encB x y) G6 H6 s6 g6.sub hyd
      refine .inr ⟨k1, fun H'' => j + 1 ≤ (ys x).length ∧ ∃ G', Gr G H G' H'' ∧ Same G5 G' ∧ (S.and (.acc X.K D (((xs.take i).flatMap fun x => (ys x).map (g x)) ++ ((ys x).take (j + 1)).map (g x)))).p G' H'', fun H'' ⟨h1, h2⟩ => ⟨(ys x).length - (j + 1), by omega, rfl, h1, h2⟩, fun v H'' z => ?_⟩
      obtain ⟨G7, g7, s7, a7⟩ := k2 v H'' z
      have p7 := As.cl _ g7 s7 p6
      have e7 : EnvOk X.K G7 σ2 (F x (wipeD Δ (own.map (·.2)))) := e2.up (((g4.gx.trans g5.gx).trans s6).trans g7.gx)
      refine ⟨wipeD (F x (wipeD Δ (own.map (·.2)))) is1, is1, encB x y, F1 x y, G7, htg1 x hmem y hmy, e7.wipe _, g7.sub, a7, fun σ3 e3 w3 => ⟨by rw [w3 _ fun _ h => h, wipe_wipe], ?_⟩⟩
      refine ⟨F1 x y (wipeD (F x (wipeD Δ (own.map (·.2)))) is1), _, true, G7, (fun s H C cl fp => evts_nil), e3, g7.sub, p7, fun G8 H8 g8 p8 => iteT ?_⟩
      refine ⟨_, _, rAt X.K (g x y), G8, (fun s H C cl fp => he D _ hO x hmem y hmy s H C cl fp), e3.up g8.gx, g8.sub, p8, fun u G9 H9 g9 p9 r9 => ?_⟩
      obtain ⟨pS9, hG9, acc, hacc, hats⟩ := p9
      have hlen : acc.length < 1000000 := by
        have h1 : (((xs.take i).flatMap fun x => ys x) ++ (ys x).take j).length + 1 ≤ (xs.flatMap fun x => ys x).length := by
          have e : xs.flatMap (fun x => ys x) = ((xs.take i).flatMap fun x => ys x) ++ ((ys x) ++ ((xs.drop (i + 1)).flatMap fun x => ys x)) := by
            conv => lhs; rw [← List.take_append_drop (i + 1) xs]
            rw [List.flatMap_append, tk, List.flatMap_append, List.append_assoc]
            simp
          rw [e]
          simp only [List.length_append, List.length_take]
          omega
        rw [hats.len]
        have e2 : (((xs.take i).flatMap fun x => (ys x).map (g x)) ++ ((ys x).take j).map (g x)).length = (((xs.take i).flatMap fun x => ys x) ++ (ys x).take j).length := by
          simp [List.length_flatMap]
        rw [e2]
        omega
      refine ⟨acc, hacc, Nat.lt_trans hlen (by decide), hjl, G9, ((((g6.trans g7).trans g8).trans g9).trans (.mut g9.sub hG9 hacc)), ((s6.trans g7.gx).trans g8.gx).trans g9.gx, S.stb (As.nf hO) (fun ⟨_, z⟩ => by cases z) pS9 hG9 (by rw [hacc]; exact fun z => by cases z), hG9, _, upd_same, ?_⟩
      rw [tj, List.map_append, ← List.append_assoc]
      exact hats.app (.one r9)
    · have e : j = (ys x).length := by omega
      subst e
      have h2 := W1.stop G6 H6 s6 g6.sub
      rw [List.length_map] at h2
      refine .inl ⟨h2, hlt, G6, g6, ((s1.trans g3.gx).trans g4.gx).trans (g5.gx.trans s6), ?_⟩
      rw [tk, List.flatMap_append]
      rw [List.take_length] at p6
      simpa using p6
  · have e : i = xs.length := by omega
    subst e
    have h2 := W.stop G' H' s1 g2.sub
    rw [List.length_map] at h2
    refine .inl ⟨h2, ?_⟩
    rw [List.take_length] at p2
    obtain ⟨pS2, hG2, acc, hacc, hats⟩ := p2
    exact q _ G' H' g2 pS2 ⟨D, acc, rfl, none_back g1 hD, hG2, hacc, hats⟩
end
end DL
namespace DL
open PySem PySem.Spec PyProof.Rows L2
/-! ### walks over what S says, as long as S stands -/
structure WalkS (K : PySem.W.Frag) (S : As) (J : It) (G1 : Hp) (ds : List PyData) : Prop where
  stop : ∀ (G H : Hp), Same G1 G → Same G H → S.p G H → J.stop ds.length H
  go : ∀ (i : Nat) (d : PyData) (G H : Hp), Same G1 G → Same G H → S.p G H → ds[i]? = some d → J.go i H ∧ ∀ x H', J.yld i H x H' → ∃ G', Gr G H G' H' ∧ Same H H' ∧ At K G' x d
def ItDS (X : Cx) (tg iter : Expr) (Δ : De) (S : As) (ds : List PyData) : Prop :=
  ∃ wi, PI X tg iter wi ∧ ∀ (σ : L2.St) (G H : Hp) (R : It → Hp → Prop), EnvOk X.K G σ Δ → Same G H → S.p G H → (∀ J G1 H1, Gr G H G1 H1 → S.p G1 H1 → WalkS X.K S J G1 ds → R J H1) → wi σ H R
section
variable {X : Cx} {scope : Scope} {e elt tg iter : Expr} {ifs : List Expr} {Δ : De} {S : As} {R : RR} {d : PyData} {ds : List PyData} {pos p tpos : Pos} {q : Addr}
theorem it_listA (hS : S.le (.acc X.K q ds)) (h : Ev X e Δ S (ob q)) : ItDS X tg e Δ S ds :=
  ⟨_, pi_list (pe_ev X e), fun σ G H R a b c k => ⟨Δ, S, _, G, h, a, b, c, fun v G1 H1 g p r => by
    have at1 : ∀ {G H : Hp}, S.p G H → ∃ xs, H q = some (.lst xs) ∧ Ats X.K G xs ds := fun z => let ⟨_, xs, h1, h2⟩ := hS _ _ z; ⟨xs, h1, h2⟩
    obtain ⟨xs, h1, h2⟩ := at1 p
    rw [At.obj_eq r]
    refine ⟨q, rfl, ⟨xs, SqL.of h1⟩, k _ G1 H1 g p ⟨fun G2 H2 s1 s2 p2 => ?_, fun i d G2 H2 s1 s2 p2 e1 => ?_⟩⟩
    · obtain ⟨ys, h3, h4⟩ := at1 p2
      exact ⟨ys, SqL.of h3, by rw [h4.len]; exact Nat.le_refl _⟩
    · obtain ⟨ys, h3, h4⟩ := at1 p2
      obtain ⟨v, f1, f2⟩ := h4.get e1
      refine ⟨⟨ys, v, SqL.of h3, f1⟩, fun x H' y => ?_⟩
      obtain ⟨rfl, y⟩ := y
      have := y _ (SqL.of h3)
      rw [f1] at this; cases this
      exact ⟨G2, .refl s2, Same.refl _, f2⟩⟩⟩
theorem it_enumA {elts : List Expr} {kk : Nat} (hg : Gl X "enumerate") (hm : X.mg "enumerate" = none) (hS : S.le (.acc X.K q ds)) (h : Ev X e Δ S (ob q)) (hs' : starEach [e] X.env = (false, eval e X.env) :: starEach [] X.env := by rfl) (hs : starEach [e] X.env = [(false, eval e X.env)] := by rfl) :
    ItDS X (.Tuple elts kk tpos) (.Call (.Name "enumerate" p) [e] [] pos) Δ S (ds.zipIdx.map fun z => .tuple [.int (z.2 : Nat), z.1]) :=
  ⟨_, pi_enum hg hm (pa_cons (pe_ev X e) pa_nil hs') hs, fun σ G H R a b c k => ⟨Δ, S, _, G, h, a, b, c, fun v G1 H1 g p r => by
    have at1 : ∀ {G H : Hp}, S.p G H → ∃ xs, H q = some (.lst xs) ∧ Ats X.K G xs ds := fun z => let ⟨_, xs, h1, h2⟩ := hS _ _ z; ⟨xs, h1, h2⟩
    obtain ⟨xs, h1, h2⟩ := at1 p
    rw [At.obj_eq r]
    refine ⟨q, xs, rfl, SqL.of h1, k _ G1 H1 g p ⟨fun G2 H2 s1 s2 p2 => ?_, fun i d G2 H2 s1 s2 p2 e1 => ?_⟩⟩
    · obtain ⟨ys, h3, h4⟩ := at1 p2
      exact ⟨ys, SqL.of h3, by simp [h4.len]⟩
    · obtain ⟨ys, h3, h4⟩ := at1 p2
      rw [List.getElem?_map, List.getElem?_zipIdx] at e1
      cases q : ds[i]? with
      | none => rw [q] at e1; cases e1
      | some d0 =>
        rw [q] at e1
        cases e1
        obtain ⟨v, f1, f2⟩ := h4.get q
        refine ⟨⟨_, v, SqL.of h3, f1⟩, fun x H' y => ?_⟩
        obtain ⟨T, x', rfl, hT, rfl, y⟩ := y
        have := y _ (SqL.of h3)
        rw [f1] at this; cases this
        refine ⟨upd G2 T (.tup [.int (i : Nat), v]), .new s2 hT, same_upd hT, .tup upd_same (.cons ?_ (.one (f2.up (same_upd (s2.free hT)))))⟩
        rw [Nat.zero_add]
        exact .int _⟩⟩
/-- [elt for tg in iter if ..], over what S says -/
theorem lclS {α : Type} {xs : List α} {enc : α → PyData} {own : List (Str × Nat)} {is : List Nat} (b : α → Bool) (g : α → PyData) (F : α → De → De) (hi : ItDS X tg iter Δ S (xs.map enc)) (ok : BlkOk X.N X.env.scope scope own)
    (hz : xs.length ≤ 1000000) (his : ∀ i ∈ is, i ∈ own.map (·.2))
    (htg : ∀ x ∈ xs, AllB X scope fun Y => TgS Y tg is (enc x) (F x))
    (ht : ∀ D es, ¬ S.own D → ∀ x ∈ xs, AllB X scope fun Y => EvTs Y ifs (F x (wipeD Δ (own.map (·.2)))) (S.and (.acc X.K D es)) (b x))
    (he : ∀ D es, ¬ S.own D → ∀ x ∈ xs, b x = true → AllB X scope fun Y => Ev Y elt (F x (wipeD Δ (own.map (·.2)))) (S.and (.acc X.K D es)) (g x)) :
    LcR X elt tg iter ifs own scope Δ S (rNl X.K ((xs.filter b).map g)) := by
  obtain ⟨wi, w1, w2⟩ := hi
  refine ⟨wi, w1, ok, fun σ G H Q ha hb hcS q => ?_⟩
  refine w2 σ G H _ ha hb hcS fun J G1 H1 g1 p1 W D hD => ?_
  have hO : ¬ S.own D := not_own p1 hD
  have hG1 : G1 D = none := g1.sub.free hD
  refine ⟨fun i m H' => m = xs.length - i ∧ i ≤ xs.length ∧ ∃ G', Gr G H G' H' ∧ Same G1 G' ∧ (S.and (.acc X.K D (((xs.take i).filter b).map g))).p G' H', ⟨xs.length, by simp, Nat.zero_le _, G1, ?_⟩, ?_⟩
  · obtain ⟨g2, p2⟩ := layH (S := S) (o := .lst []) g1 p1 hD
    exact ⟨g2, Same.refl _, p2, hG1, [], upd_same, .nil⟩
  rintro i m H' ⟨rfl, hle, G', g2, s1, p2⟩
  by_cases hlt : i < xs.length
  · obtain ⟨x, hx⟩ : ∃ x, xs[i]? = some x := ⟨xs[i], List.getElem?_eq_getElem hlt⟩
    have hmem : x ∈ xs := List.mem_of_getElem? hx
    have hxd : (xs.map enc)[i]? = some (enc x) := by rw [List.getElem?_map, hx]; rfl
    obtain ⟨j1, j2⟩ := W.go i (enc x) G' H' s1 g2.sub p2.1 hxd
    refine .inr ⟨j1, fun H'' => i + 1 ≤ xs.length ∧ ∃ G', Gr G H G' H'' ∧ Same G1 G' ∧ (S.and (.acc X.K D (((xs.take (i + 1)).filter b).map g))).p G' H'', fun H'' ⟨h1, h2⟩ => ⟨xs.length - (i + 1), by omega, rfl, h1, h2⟩, fun v H'' y => ?_⟩
    obtain ⟨G3, g3, s3, a3⟩ := j2 v H'' y
    have p3 : (S.and (.acc X.K D (((xs.take i).filter b).map g))).p G3 H'' := As.cl _ g3 s3 p2
    refine ⟨wipeD Δ (own.map (·.2)), is, enc x, F x, G3, htg x hmem, (ha.up (g2.gx.trans g3.gx)).wipe _, g3.sub, a3, fun σ' e' w' => ⟨?_, ?_⟩⟩
    · rw [w' _ his, wipe_wipe]
    refine ⟨_, _, b x, G3, ht D _ hO x hmem, e', g3.sub, p3, fun G4 H4 g4 p4 => ?_⟩
    cases hbx : b x with
    | false =>
      refine iteF ⟨hlt, G4, (g2.trans g3).trans g4, (s1.trans g3.gx).trans g4.gx, ?_⟩
      rw [take_some hx, List.filter_append, List.filter_cons_of_neg (by simp [hbx]), List.filter_nil, List.append_nil]
      exact p4
    | true =>
      refine iteT ⟨_, _, rAt X.K (g x), G4, (fun s H C cl fp => he D _ hO x hmem hbx s H C cl fp), e'.up g4.gx, g4.sub, p4, fun u G5 H5 g5 p5 r5 => ?_⟩
      obtain ⟨pS5, hG5, acc, hacc, hats⟩ := p5
      have hlen : acc.length ≤ i := by
        rw [hats.len, List.length_map]
        exact Nat.le_trans (List.length_filter_le _ _) (by rw [List.length_take]; omega)
      refine ⟨acc, hacc, Nat.lt_of_le_of_lt hlen (Nat.lt_of_lt_of_le hlt (Nat.le_trans hz (by decide))), hlt, G5, ?_, ((s1.trans g3.gx).trans g4.gx).trans g5.gx, S.stb (As.nf hO) (fun ⟨_, z⟩ => by cases z) pS5 hG5 (by rw [hacc]; exact fun z => by cases z), hG5, _, upd_same, ?_⟩
      · exact (((g2.trans g3).trans g4).trans g5).trans (.mut g5.sub hG5 hacc)
      · rw [take_some hx, List.filter_append, List.filter_cons_of_pos (by simp [hbx]), List.filter_nil, List.map_append]
        exact hats.app (.one r5)
  · have e : i = xs.length := by omega
    subst e
    have h2 := W.stop G' H' s1 g2.sub p2.1
    rw [List.length_map] at h2
    refine .inl ⟨h2, ?_⟩
    rw [List.take_length] at p2
    obtain ⟨pS2, hG2, acc, hacc, hats⟩ := p2
    exact q _ G' H' g2 pS2 ⟨D, acc, rfl, none_back g1 hD, hG2, hacc, hats⟩
end
end DL
namespace DL
open PySem PySem.Spec PyProof.Rows L2
section
variable {X : Cx} {a b c e : Expr} {Δ : De} {S : As} {d1 d2 : PyData} {ds : List PyData} {pos : Pos} {D : EndsG} {rest : List Stmt}
/-- a, b, c = .., the third a new list that may change yet -/
theorem go_par3L {x y z : Str} {px py pz pt pt2 : Pos} {kt k2} (i j l : Nat) (ha : Ev X a Δ S d1) (hb : Ev X b Δ S d2) (hcl : EvL X c Δ S ds) (hc : X.calm = true) (hN : X.N.Nodup) (k : ∀ q, ¬ S.own q → Go X rest D (((Δ.set i (some d1)).set j (some d2)).set l (some (ob q))) (S.and (.acc X.K q ds))) (hij : i ≠ j := by decide) (hil : i ≠ l := by decide) (hjl : j ≠ l := by decide) (hi : X.N[i]? = some x := by rfl) (hj : X.N[j]? = some y := by rfl) (hl : X.N[l]? = some z := by rfl)
    (hx : X.env.scope.names.lookup x = some .local := by rfl) (hy : X.env.scope.names.lookup y = some .local := by rfl) (hz : X.env.scope.names.lookup z = some .local := by rfl)
    (hw : swappedStores [.Tuple [.Name x px, .Name y py, .Name z pz] kt pt] (.Tuple [a, b, c] k2 pt2) X.env = pure (some [x, y, z]) := by rfl)
    (hs : swapsWithSole [.Tuple [.Name x px, .Name y py, .Name z pz] kt pt] (.Tuple [a, b, c] k2 pt2) pos.line X.env = pure false := by rfl)
    (hs1 : starEach [a, b, c] X.env = (false, eval a X.env) :: starEach [b, c] X.env := by rfl) (hs2 : starEach [b, c] X.env = (false, eval b X.env) :: starEach [c] X.env := by rfl) (hs3 : starEach [c] X.env = (false, eval c X.env) :: starEach [] X.env := by rfl) :
    Go X (.Assign [.Tuple [.Name x px, .Name y py, .Name z pz] kt pt] (.Tuple [a, b, c] k2 pt2) pos :: rest) D Δ S :=
  go_cons (ps_par3 hc hN hi hj hl hij hil hjl hx hy hz (pa_cons (pe_ev X a) (pa_cons (pe_ev X b) (pa_cons (pe_ev X c) pa_nil hs3) hs2) hs1) hw hs) fun σ G H D' le a' b' c' => ⟨Δ, S, _, G, ha, a', b', c', fun v1 G1 H1 g1 p1 r1 => ⟨Δ, S, _, G1, hb, a'.up g1.gx, g1.sub, p1, fun v2 G2 H2 g2 p2 r2 => ⟨Δ, S, _, G2, hcl, a'.up (g1.gx.trans g2.gx), g2.sub, p2, fun v3 G3 H3 g3 p3 ⟨q, xs, e1, e2, e3, e4, e5⟩ => by
    subst e1
    exact ⟨_, _, _, rfl, le.nx _ _ ⟨G3, (g1.gx.trans g2.gx).trans g3.gx, g3.sub, _, _, k q (not_own p2 e2), (((a'.up ((g1.gx.trans g2.gx).trans g3.gx)).set (r1.up (g2.gx.trans g3.gx))).set (r2.up g3.gx)).set (.obj q), p3, e3, xs, e4, e5⟩⟩⟩⟩⟩
/-- (a, b) and (a, b, c), the last a new list that may change yet, stored from the tuple -/
theorem go_asg2L {tg : Expr} {is : List Nat} {k2} {pt2 : Pos} {f : Addr → De → De} (ha : Ev X a Δ S d1) (hb : EvL X b Δ S ds) (ht : ∀ q, TgS X tg is (.tuple [d1, ob q]) (f q)) (k : ∀ q, ¬ S.own q → Go X rest D (f q Δ) (S.and (.acc X.K q ds))) (hs : swapsWithSole [tg] (.Tuple [a, b] k2 pt2) pos.line X.env = pure false := by rfl) (hw : swappedStores [tg] (.Tuple [a, b] k2 pt2) X.env = pure none := by rfl)
    (h1 : (assignEach [tg] X.env).map (·.2) = [assign tg X.env] := by rfl) (hs1 : starEach [a, b] X.env = (false, eval a X.env) :: starEach [b] X.env := by rfl) (hs2 : starEach [b] X.env = (false, eval b X.env) :: starEach [] X.env := by rfl) : Go X (.Assign [tg] (.Tuple [a, b] k2 pt2) pos :: rest) D Δ S :=
  go_cons (ps_asg (g := fun v σ H Q => ∃ Δ is d f G, TgS X tg is d f ∧ EnvOk X.K G σ Δ ∧ Same G H ∧ At X.K G v d ∧ ∀ σ', EnvOk X.K G σ' (f Δ) → Q σ' H) (pe_tup (pa_cons (pe_ev X a) (pa_cons (pe_ev X b) pa_nil hs2) hs1)) ⟨fun pins s σ H v u Q I r ⟨_, _, _, _, G, h, a, b, c, q⟩ => h pins s σ _ G H v u Q I r a b c fun σ' e' _ => q σ' e'⟩ hs hw h1)
    fun σ G H D' l a' b' c' => ⟨Δ, S, _, G, ha, a', b', c', fun v1 G1 H1 g1 p1 r1 => ⟨Δ, S, _, G1, hb, a'.up g1.gx, g1.sub, p1, fun v2 G2 H2 g2 p2 ⟨q, xs, e1, e2, e3, e4, e5⟩ => by
      subst e1
      refine ⟨by show 2 ≤ sizeLine; decide, fun t ht' => ?_⟩
      have p : (S.and (.acc X.K q ds)).p G2 H2 := ⟨p2, e3, xs, e4, e5⟩
      obtain ⟨g3, p3⟩ := lay (o := .tup [v1, .ref q]) (.refl g2.sub) p ht'
      have gx := (g1.gx.trans g2.gx).trans g3.gx
      exact ⟨Δ, is, _, f q, _, ht q, a'.up gx, g3.sub, .tup upd_same (.cons (r1.up (g2.gx.trans g3.gx)) (.one (.obj q))), fun σ' e' => l.nx _ _ ⟨_, gx, g3.sub, _, _, k q (not_own p1 e2), e', p3⟩⟩⟩⟩
theorem go_asg3L {tg : Expr} {is : List Nat} {k2} {pt2 : Pos} {f : Addr → De → De} (ha : Ev X a Δ S d1) (hb : Ev X b Δ S d2) (hc : EvL X c Δ S ds) (ht : ∀ q, TgS X tg is (.tuple [d1, d2, ob q]) (f q)) (k : ∀ q, ¬ S.own q → Go X rest D (f q Δ) (S.and (.acc X.K q ds))) (hs : swapsWithSole [tg] (.Tuple [a, b, c] k2 pt2) pos.line X.env = pure false := by rfl) (hw : swappedStores [tg] (.Tuple [a, b, c] k2 pt2) X.env = pure none := by rfl)
    (h1 : (assignEach [tg] X.env).map (·.2) = [assign tg X.env] := by rfl) (hs1 : starEach [a, b, c] X.env = (false, eval a X.env) :: starEach [b, c] X.env := by rfl) (hs2 : starEach [b, c] X.env = (false, eval b X.env) :: starEach [c] X.env := by rfl) (hs3 : starEach [c] X.env = (false, eval c X.env) :: starEach [] X.env := by rfl) : Go X (.Assign [tg] (.Tuple [a, b, c] k2 pt2) pos :: rest) D Δ S :=
  go_cons (ps_asg (g := fun v σ H Q => ∃ Δ is d f G, TgS X tg is d f ∧ EnvOk X.K G σ Δ ∧ Same G H ∧ At X.K G v d ∧ ∀ σ', EnvOk X.K G σ' (f Δ) → Q σ' H) (pe_tup (pa_cons (pe_ev X a) (pa_cons (pe_ev X b) (pa_cons (pe_ev X c) pa_nil hs3) hs2) hs1)) ⟨fun pins s σ H v u Q I r ⟨_, _, _, _, G, h, a, b, c, q⟩ => h pins s σ _ G H v u Q I r a b c fun σ' e' _ => q σ' e'⟩ hs hw h1)
    fun σ G H D' l a' b' c' => ⟨Δ, S, _, G, ha, a', b', c', fun v1 G1 H1 g1 p1 r1 => ⟨Δ, S, _, G1, hb, a'.up g1.gx, g1.sub, p1, fun v2 G2 H2 g2 p2 r2 => ⟨Δ, S, _, G2, hc, a'.up (g1.gx.trans g2.gx), g2.sub, p2, fun v3 G3 H3 g3 p3 ⟨q, xs, e1, e2, e3, e4, e5⟩ => by
      subst e1
      refine ⟨by show 3 ≤ sizeLine; decide, fun t ht' => ?_⟩
      have p : (S.and (.acc X.K q ds)).p G3 H3 := ⟨p3, e3, xs, e4, e5⟩
      obtain ⟨g4, p4⟩ := lay (o := .tup [v1, v2, .ref q]) (.refl g3.sub) p ht'
      have gx := ((g1.gx.trans g2.gx).trans g3.gx).trans g4.gx
      exact ⟨Δ, is, _, f q, _, ht q, a'.up gx, g4.sub, .tup upd_same (.cons (r1.up ((g2.gx.trans g3.gx).trans g4.gx)) (.cons (r2.up (g3.gx.trans g4.gx)) (.one (.obj q)))), fun σ' e' => l.nx _ _ ⟨_, gx, g4.sub, _, _, k q (not_own p2 e2), e', p4⟩⟩⟩⟩⟩
end
end DL
namespace DL
open PySem PySem.Spec PyProof.Rows L2
section
variable {X : Cx} {scope : Scope} {a b c e elt tg iter : Expr} {ifs : List Expr} {Δ : De} {S : As} {d1 d2 : PyData} {ds : List PyData} {pos : Pos} {D : EndsG} {rest : List Stmt} {P1 : PyData → Prop}
/-- name = [elt for ..] on one line, a list that may change yet -/
theorem go_setLcN {y : Str} {py : Pos} {own : List (Str × Nat)} {spos : Pos} (i : Nat) (h : LcR X elt tg iter ifs own scope Δ S (rNl X.K ds)) (hc : X.calm = true) (hN : X.N.Nodup) (k : ∀ q : Addr, ¬ S.own q → Go X rest D (Δ.set i (some (ob q))) (S.and (.acc X.K q ds))) (hy : X.N[i]? = some y := by rfl) (hyl : X.env.scope.names.lookup y = some .local := by rfl)
    (hsw : swapsWith (.ListComp elt [⟨tg, iter, ifs, 0⟩] scope pos) (some (.Name y py)) spos.line X.env = pure true := by rfl) (hs : ∀ x, foldedSetIterable iter X.env x = pure x := by intro _; rfl) :
    Go X (.Assign [.Name y py] (.ListComp elt [⟨tg, iter, ifs, 0⟩] scope pos) spos :: rest) D Δ S :=
  go_setLc i h hc hN (fun G H v G2 H2 c g p ⟨q, xs, e1, e2, e3, e4, e5⟩ => by
    subst e1
    exact ⟨ob q, S.and (.acc X.K q ds), G2, .obj q, Same.refl _, g.sub, ⟨p, e3, xs, e4, e5⟩, k q (not_own c e2)⟩) hy hyl hsw hs
/-- a, b = e1, e2: the first told by a property, the second a new list that may change yet -/
theorem go_parXL {x y : Str} {px py pt pt2 : Pos} {kt k2} (i j : Nat) (ha : EvX X a Δ S P1) (hb : EvL X b Δ S ds) (hc : X.calm = true) (hN : X.N.Nodup) (k : ∀ d (q : Addr), P1 d → ¬ S.own q → Go X rest D ((Δ.set i (some d)).set j (some (ob q))) (S.and (.acc X.K q ds))) (hij : i ≠ j := by decide) (hi : X.N[i]? = some x := by rfl) (hj : X.N[j]? = some y := by rfl)
    (hx : X.env.scope.names.lookup x = some .local := by rfl) (hy : X.env.scope.names.lookup y = some .local := by rfl) (hw : swappedStores [.Tuple [.Name x px, .Name y py] kt pt] (.Tuple [a, b] k2 pt2) X.env = pure (some [x, y]) := by rfl)
    (hs : swapsWithSole [.Tuple [.Name x px, .Name y py] kt pt] (.Tuple [a, b] k2 pt2) pos.line X.env = pure false := by rfl) (hs1 : starEach [a, b] X.env = (false, eval a X.env) :: starEach [b] X.env := by rfl) (hs2 : starEach [b] X.env = (false, eval b X.env) :: starEach [] X.env := by rfl) :
    Go X (.Assign [.Tuple [.Name x px, .Name y py] kt pt] (.Tuple [a, b] k2 pt2) pos :: rest) D Δ S :=
  go_cons (ps_par hc hN hi hj hij hx hy (pa_cons (pe_ev X a) (pa_cons (pe_ev X b) pa_nil hs2) hs1) hw hs) fun σ G H D' l a' b' c' => ⟨Δ, S, _, G, ha, a', b', c', fun v G1 H1 g1 p1 ⟨d, z1, r1⟩ => ⟨Δ, S, _, G1, hb, a'.up g1.gx, g1.sub, p1, fun w G2 H2 g2 p2 ⟨q, xs, e1, e2, e3, e4, e5⟩ => by
    subst e1
    exact ⟨v, _, rfl, l.nx _ _ ⟨G2, g1.gx.trans g2.gx, g2.sub, _, _, k d q z1 (not_own p1 e2), ((a'.up (g1.gx.trans g2.gx)).set (r1.up g2.gx)).set (.obj q), p2, e3, xs, e4, e5⟩⟩⟩⟩
end
end DL
namespace DL
open PySem PySem.Spec PyProof.Rows L2
section
variable {X : Cx} {e tg : Expr} {Δ : De} {S : As} {pos p : Pos} {f : Value → Value → Sem Value} {d1 d2 : PyData} {ds : List PyData}
theorem itx_rngP {PN : Nat → Prop} (hg : Gl X "range") (hm : X.mg "range" = none) (h : EvX X e Δ S fun d => ∃ n : Nat, d = .int (n : Int) ∧ PN n ∧ n ≤ 1000000) (hs' : starEach [e] X.env = (false, eval e X.env) :: starEach [] X.env := by rfl) (hs : starEach [e] X.env = [(false, eval e X.env)] := by rfl) :
    ItDX X tg (.Call (.Name "range" p) [e] [] pos) Δ S fun ds => ∃ xs : List Nat, (∃ n : Nat, xs = List.range n ∧ PN n) ∧ ds = xs.map fun k : Nat => .int (k : Int) :=
  itx_xx (itx_range1 (PN := PN) hg hm (EvR.xx h fun d ⟨n, hd, h0, h1⟩ => ⟨n, hd, by omega, h0⟩) hs' hs) fun ds ⟨n, hn, hd⟩ => ⟨List.range n, ⟨n, rfl, hn⟩, hd⟩
theorem OpD.xl {PL : List PyData → Prop} (h : OpD X f S d1 d2 (rNl X.K ds)) (k : PL ds) : OpD X f S d1 d2 (rXl X.K PL) := by
  obtain ⟨r, h1, h2⟩ := h
  exact ⟨r, h1, fun G H x y Q b c e1 e2 q => h2 G H x y Q b c e1 e2 fun v G2 H2 g p z => q v G2 H2 g p ⟨ds, k, z⟩⟩
end
end DL
namespace HT
open PySem PySem.Calls PyProof.Rows
section
variable {prog : Program} {w : World} {A : Around} {E : Value → Shared → Prop} {s : Shared}
theorem adjust_rev (n : Nat) : Builtin.Slice.sliceAdjust none none (-1) (n : Int) = ((n : Int) - 1, -1) := by
  unfold Builtin.Slice.sliceAdjust
  simp
theorem places_rev (n : Nat) : Builtin.Slice.slicePlaces ((n : Int) - 1) (-1) (-1) = n := by
  unfold Builtin.Slice.slicePlaces
  have h1 : ¬ ((-1 : Int) > 0) := by omega
  simp only [h1, if_false]
  split <;> simp <;> omega
theorem sliceApplied_rev {sl : Addr} {vs : Value} {n : Nat} {Q : Int × Int × Nat → Shared → Prop} (hs : s.heap.IsSliceOf sl .none .none vs) (ps : IsPart vs (some (-1)))
    (h : Q ((n : Int) - 1, -1, n) s) : wpAny (model prog w) A (Builtin.Slice.sliceApplied (.ref sl) (pure (n : Int))) Q E s := by
  obtain ⟨os, hos, hcs, hds⟩ := id hs
  unfold Builtin.Slice.sliceApplied Builtin.Slice.sliceFields
  refine wpAny_bind (wpAny_bind (wpAny_field hos hds (x := .none) rfl (wpAny_bind (wpAny_field hos hds (x := .none) rfl (wpAny_bind (wpAny_field hos hds (x := vs) rfl (wpAny_pure ?_)))))))
  refine wpAny_bind (slicePart_ ps ?_)
  show wpAny _ _ (if ((-1 : Int) == 0) = true then _ else _) _ _ s
  rw [if_neg (by decide)]
  refine wpAny_bind (slicePart_none (wpAny_bind (slicePart_none (wpAny_bind (wpAny_pure ?_)))))
  show wpAny _ _ (match Builtin.Slice.sliceAdjust none none (-1) (n : Int) with | (lo, hi) => pure (lo, (-1 : Int), Builtin.Slice.slicePlaces lo hi (-1))) _ _ s
  rw [adjust_rev n]
  show wpAny _ _ (pure ((n : Int) - 1, (-1 : Int), Builtin.Slice.slicePlaces ((n : Int) - 1) (-1) (-1))) _ _ s
  rw [places_rev]
  exact wpAny_pure h
theorem fm_congr {α β : Type} {f g : α → Option β} : ∀ {l : List α}, (∀ x ∈ l, f x = g x) → l.filterMap f = l.filterMap g
  | [], _ => rfl
  | x :: l, h => by
    rw [List.filterMap_cons, List.filterMap_cons, h x List.mem_cons_self, fm_congr fun y hy => h y (List.mem_cons_of_mem _ hy)]
theorem pick_rev (xs : Array Value) : ((List.range xs.size).filterMap fun (m : Nat) => xs[(((xs.size : Int) - 1) + (m : Int) * (-1)).toNat]?).toArray = xs.toList.reverse.toArray := by
  have e : ((List.range xs.size).filterMap fun (m : Nat) => xs[(((xs.size : Int) - 1) + (m : Int) * (-1)).toNat]?) = ((List.range xs.size).map fun k => xs.size - 1 - k).filterMap (xs[·]?) := by
    rw [List.filterMap_map]
    refine fm_congr fun m hm => ?_
    have := List.mem_range.mp hm
    have e : (((xs.size : Int) - 1) + (m : Int) * (-1)).toNat = xs.size - 1 - m := by omega
    show xs[_]? = xs[_]?
    rw [e]
  rw [e, PySem.W.krv_range, List.filterMap_reverse, PySem.W.krv_all]
theorem getItem_tuple_rev {t sl : Addr} {items : Array Value} {vs : Value} {Q : Value → Shared → Prop} (ht : IsTup s.heap t items) (hs : s.heap.IsSliceOf sl .none .none vs) (ps : IsPart vs (some (-1)))
    (h : Q (.ref s.heap.objs.size) { s with heap := s.heap.push { cls := .type "tuple", data := .seq items.toList.reverse.toArray } })
    (hsz : items.size ≤ sizeLine) : wpAny (model prog w) A (getItem (.ref t) (.ref sl)) Q E s := by
  have htake : sizeOk (.seq items.toList.reverse.toArray) := by
    show items.toList.reverse.toArray.size ≤ sizeLine
    rw [List.size_toArray, List.length_reverse, Array.length_toList]
    exact hsz
  obtain ⟨os, hos, hcs, hds⟩ := id hs
  have hTs : s.TypeIs (.ref sl) "slice" := ⟨os, hos, hcs⟩
  unfold getItem
  try with_reducible refine wpAny_holding ?_
  first | refine wpAny_bind (wpAny_pure ?_) | skip
  refine wpAny_bind (wpAny_sequenceKey ht.typeIs (by decide) ?_)
  refine wpAny_bind (wpAny_callSpecial?_slot (name := Str.ofString "__getitem__") ht.typeIs PyProof.Rows.slot_tuple_getitem
    (wpAny_call_entry PyProof.Rows.slot_tuple_getitem ht.typeIs entry_tuple_getitem ?_ (args_tuple_getitem _ _)))
  show wpAny _ _ (Builtin.Tuple.tupleItemsOf (.ref t) >>= _) _ _ s
  refine wpAny_bind (tupleItemsOf_ ht ?_)
  refine wpAny_bind (wpAny_typeOf hTs ?_)
  rw [if_pos (by decide)]
  refine wpAny_bind (sliceApplied_rev hs ps ?_)
  have hno : ¬ ((((items.size : Int) - 1) == 0 && (-1 : Int) == 1 && items.size == items.size) = true) := by
    intro q
    rw [Bool.and_eq_true, Bool.and_eq_true] at q
    exact absurd q.1.2 (by decide)
  show wpAny _ _ (if (((items.size : Int) - 1) == 0 && (-1 : Int) == 1 && items.size == items.size) = true then _ else _) _ _ s
  rw [if_neg hno, pick_rev]
  first
    | exact wpAny_bind (m := Builtin.Tuple.tupleExact _) (wpAny_newObj_type (wpAny_pure ⟨_, rfl, wpAny_pure h⟩) htake)
    | exact wpAny_bind (m := Builtin.Tuple.tupleExact _) (wpAny_newObj_type (wpAny_bind (wpAny_pure (wpAny_pure ⟨_, rfl, wpAny_pure h⟩))) htake)
    | exact wpAny_bind (wpAny_bind (m := Builtin.Tuple.tupleExact _) (wpAny_newObj_type (wpAny_pure (wpAny_pure ⟨_, rfl, wpAny_pure h⟩)) htake))
    | exact wpAny_bind (wpAny_bind (m := Builtin.Tuple.tupleExact _) (wpAny_newObj_type (wpAny_pure ⟨_, rfl, wpAny_pure h⟩) htake))
end
end HT
namespace L2
open PySem PySem.Spec PyProof.Rows
section
variable {X : Cx}
def tRevT (K : PySem.W.Frag) (te : TE) : TE := fun σ H Q => te σ H fun x H1 => ∃ a xs, x = .ref a ∧ SqT K H1 a xs ∧ ∀ p, H1 p = none → Q (.ref p) (upd H1 p (.tup xs.reverse))
theorem pe_revT {e : Expr} {te : TE} {k : Nat} {p1 p2 p3 pos : Pos} (he : PE X e te) : PE X (.Subscript e (.Slice none none (some (.UnaryOp .USub (.Constant (.int 1) k p1) p2)) p3) pos) (tRevT X.K te) := by
  refine ⟨fun pins s σ H Q I h => ?_⟩
  refine Subscript_ (thn (he.run pins s σ H _ I h) fun v s1 ⟨x, H1, I1, r1, q1⟩ => ?_)
  obtain ⟨a, xs, ex, hx, q⟩ := q1
  subst ex
  cases r1
  have hst : PO X (some (.UnaryOp .USub (.Constant (.int 1) k p1) p2)) (tPart (tUn (rU fun i => .int (-i)) (tC (.int 1)))) := po_some (pe_un un_neg pe_int)
  refine wpAny_Slice (thn (po_none.run pins s1 σ H1 (fun o H2 => o = none ∧ H2 = H1) I1 ⟨rfl, rfl⟩) fun vl s2 ⟨l, H2, I2, pl, el, e2⟩ => ?_)
  subst el e2
  refine thn (po_none.run pins s2 σ H2 (fun o H3 => o = none ∧ H3 = H2) I2 ⟨rfl, rfl⟩) fun vu s3 ⟨u, H3, I3, pu, eu, e3⟩ => ?_
  subst eu e3
  refine thn (hst.run pins s3 σ H3 (fun o H4 => o = some (-1) ∧ H4 = H3) I3 ⟨1, rfl, -1, rfl, rfl, rfl⟩) fun vs s4 ⟨o, H4, I4, ps, eo, e4⟩ => ?_
  subst eo e4
  have el : vl = .none := by cases pl; rfl
  have eu : vu = .none := by cases pu; rfl
  subst el eu
  have I5 : Inv X pins σ H4 { s4 with heap := s4.heap.push { cls := .type "slice", data := .fields #[.none, .none, vs] } } := I4.kept (t' := s4.toks) fun b ob q => Heap.get?_push_of_some _ q
  obtain ⟨its, r, ht, hz⟩ := I5.tuple hx
  have hlen := r.length
  show wpAny (model X.prog X.w) X.A (subscriptTail e (.Slice none none (some (.UnaryOp .USub (.Constant (.int 1) k p1) p2)) p3) (.ref a) (.ref s4.heap.objs.size)) (EP X pins σ Q) X.xe { s4 with heap := s4.heap.push { cls := .type "slice", data := .fields #[.none, .none, vs] } }
  refine tail_any (ops := [.ref a, .ref s4.heap.objs.size]) ht.typeIs (PyProof.Rows.slot_tuple_getitem.lookup) ?_ (by with_unfolding_all rfl)
  refine HT.getItem_tuple_rev ht (Heap.IsSliceOf.new _ .none .none vs) ps ?_ (by rw [List.size_toArray]; omega)
  refine ⟨.ref _, _, I5.laid (t' := s4.toks) (o := .tup xs.reverse) (fun b ob q => Heap.get?_push_of_some _ q) (Nat.le_refl _) ?_, rfl, q _ (I5.hok.fresh (Nat.le_refl _))⟩
  exact ⟨by rw [List.length_reverse]; omega, _, r.reverse, IsTup.new _ _⟩
end
end L2
namespace DL
open PySem PySem.Spec PyProof.Rows L2
section
variable {X : Cx} {e a b : Expr} {Δ : De} {S : As} {R : RR} {d : PyData} {ds : List PyData} {pos p1 p2 p3 : Pos} {k : Nat}
theorem Ats.rev {K : PySem.W.Frag} {G : Hp} : ∀ {vs : List V} {ds : List PyData}, Ats K G vs ds → Ats K G vs.reverse ds.reverse
  | _, _, .nil => .nil
  | _, _, .cons h t => by rw [List.reverse_cons, List.reverse_cons]; exact t.rev.app (.one h)
/-- t[::-1] -/
theorem ev_revT (h : Ev X e Δ S (.tuple ds)) : Ev X (.Subscript e (.Slice none none (some (.UnaryOp .USub (.Constant (.int 1) k p1) p2)) p3) pos) Δ S (.tuple ds.reverse) :=
  ev_pe (pe_revT (pe_ev X e)) fun σ G H Q a b c q => ⟨Δ, S, _, G, h, a, b, c, fun v G1 H1 g p r => by
    cases r with
    | tup hs ha =>
      refine ⟨_, _, rfl, SqT.of (g.sub _ _ hs), fun z hz => ?_⟩
      obtain ⟨g2, p2⟩ := lay (o := .tup _) g p hz
      exact q _ _ _ g2 p2 (.tup upd_same (ha.rev.up (same_upd (g.sub.free hz))))⟩
/-- l[::-1] -/
theorem evl_revL (h : Ev X e Δ S (.list ds)) : EvL X (.Subscript e (.Slice none none (some (.UnaryOp .USub (.Constant (.int 1) k p1) p2)) p3) pos) Δ S ds.reverse :=
  ev_pe (pe_revL (pe_ev X e)) fun σ G H Q a b c q => ⟨Δ, S, _, G, h, a, b, c, fun v G1 H1 g p r => by
    cases r with
    | lst hs ha =>
      refine ⟨_, _, rfl, SqL.of (g.sub _ _ hs), fun z hz => ?_⟩
      obtain ⟨g2, p2⟩ := layH (o := .lst _) g p hz
      exact q _ _ _ g2 p2 ⟨z, _, rfl, none_back g hz, g.sub.free hz, upd_same, ha.rev⟩⟩
end
end DL
namespace DL
open PySem PySem.Spec PyProof.Rows L2
section
variable {X : Cx} {S : As}
theorem call_reprN : CallD X (.builtin "repr") S [.none] (rAt X.K (.str (PyData.shown .none))) := by
  refine ⟨fun vs H Q => vs = [.non] ∧ Q (.str (PyData.shown .none)) H, ?_, ?_⟩
  · intro pins s σ H vs us Q I r ⟨e, q⟩
    subst e
    cases r with
    | cons r1 r2 =>
      cases r2
      cases r1
      exact PySem.P.repr_of_none ⟨.str (PyData.shown .none), H, I.tok _, ⟨_, rfl⟩, q⟩
  · intro G H vs Q b c ha q
    cases ha with
    | cons h1 h2 =>
      cases h2
      cases h1
      exact ⟨rfl, q _ G H (.refl b) c (.str _)⟩
end
end DL
namespace DL
open PySem PySem.Spec PyProof.Rows L2
section
variable {X : Cx} {e a b : Expr} {Δ : De} {S : As} {R : RR} {d : PyData} {ds : List PyData} {pos p2 : Pos} {P P1 : PyData → Prop} {lo hi : Option Expr} {PL PH : Option Int → Prop}
def EvOX (X : Cx) (e : Option Expr) (Δ : De) (S : As) (P : Option Int → Prop) : Prop :=
  ∃ t : TO, PO X e t ∧ ∀ (σ : L2.St) (G H : Hp) (Q : Option Int → Hp → Prop), EnvOk X.K G σ Δ → Same G H → S.p G H → (∀ o G2 H2, P o → Gr G H G2 H2 → S.p G2 H2 → Q o H2) → t σ H Q
theorem eox_none : EvOX X none Δ S (· = none) := ⟨_, po_none, fun σ G H Q a b c q => q none G H rfl (.refl b) c⟩
theorem eox_some {P : Int → Prop} (h : EvX X e Δ S fun d => ∃ i, d = .int i ∧ P i) : EvOX X (some e) Δ S (fun o => ∃ i, o = some i ∧ P i) := ⟨_, po_some (pe_ev X e), fun σ G H Q a b c q => ⟨Δ, S, _, G, h, a, b, c, fun v G2 H2 g p ⟨d, ⟨i, hd, hi⟩, r⟩ => by subst hd; cases r; exact ⟨i, rfl, q _ G2 H2 ⟨i, rfl, hi⟩ g p⟩⟩⟩
/-- a[lo:hi], a a list, all told by properties -/
theorem evx_sl (ha : EvX X a Δ S P1) (h1 : ∀ d, P1 d → ∃ ds, d = .list ds) (hl : EvOX X lo Δ S PL) (hu : EvOX X hi Δ S PH) : EvXl X (.Subscript a (.Slice lo hi none p2) pos) Δ S fun es => ∃ ds l u, P1 (.list ds) ∧ PL l ∧ PH u ∧ es = cutD ds l u := by
  obtain ⟨tl, l1, l2⟩ := hl
  obtain ⟨tu, u1, u2⟩ := hu
  exact ev_pe (pe_slice sl_list (pe_ev X a) l1 u1) fun σ G H Q a' b' c' q => ⟨Δ, S, _, G, ha, a', b', c', fun x G1 H1 g p ⟨d, hd, r1⟩ =>
    l2 σ G1 H1 _ (a'.up g.gx) g.sub p fun l G2 H2 hl g2 p2 => u2 σ G2 H2 _ (a'.up (g.gx.trans g2.gx)) g2.sub p2 fun u G3 H3 hu g3 p3 => by
      obtain ⟨ds, rfl⟩ := h1 d hd
      cases r1.up (g2.gx.trans g3.gx) with
      | lst hs ha =>
        refine ⟨_, _, rfl, Same_l g3.sub (SqL.of hs), fun z hz => ?_⟩
        obtain ⟨g4, p4⟩ := layH (o := .lst (cutV _ l u)) g3 p3 hz
        exact q _ _ _ ((g.trans g2).trans g4) p4 ⟨cutD ds l u, ⟨ds, l, u, hd, hl, hu, rfl⟩, z, _, rfl, none_back ((g.trans g2).trans g3) hz, g3.sub.free hz, upd_same, ha.cut⟩⟩
theorem cut_map {α β : Type} (f : α → β) (xs : List α) (l u : Option Int) : cutD (xs.map f) l u = (cutD xs l u).map f := by
  unfold cutD
  rw [List.length_map, List.map_take, List.map_drop]
theorem cut_sub {α : Type} (xs : List α) (l u : Option Int) : (cutD xs l u).Sublist xs := (List.take_sublist _ _).trans (List.drop_sublist _ _)
end
end DL
namespace Pk
/-! ### packings, in plain Lean -/
/-- pointwise -/
inductive A2 {α β : Type} (R : α → β → Prop) : List α → List β → Prop
  | nil : A2 R [] []
  | cons {a : α} {b : β} {as : List α} {bs : List β} (h : R a b) (t : A2 R as bs) : A2 R (a :: as) (b :: bs)
section
variable {α β : Type} {R : α → β → Prop}
theorem A2.len {as : List α} {bs : List β} (h : A2 R as bs) : as.length = bs.length := by induction h with | nil => rfl | cons _ _ ih => simp [ih]
theorem A2.perm {bs bs' : List β} (p : bs.Perm bs') : ∀ {as : List α}, A2 R as bs → ∃ as' : List α, as.Perm as' ∧ A2 R as' bs' := by
  induction p with
  | nil => intro as h; cases h; exact ⟨[], .nil, .nil⟩
  | cons x _ ih =>
    intro as h
    cases h with
    | @cons a _ as _ h t =>
      obtain ⟨as', p', h'⟩ := ih t
      exact ⟨a :: as', p'.cons a, .cons h h'⟩
  | swap x y l =>
    intro as h
    cases h with
    | @cons a _ as _ h t =>
      cases t with
      | @cons b _ as _ h2 t => exact ⟨b :: a :: as, .swap b a as, .cons h2 (.cons h t)⟩
  | trans _ _ ih1 ih2 =>
    intro as h
    obtain ⟨as1, p1, h1⟩ := ih1 h
    obtain ⟨as2, p2, h2⟩ := ih2 h1
    exact ⟨as2, p1.trans p2, h2⟩
theorem A2.set {as : List α} {bs : List β} (h : A2 R as bs) : ∀ {j : Nat} {a : α} {b : β}, R a b → A2 R (as.set j a) (bs.set j b) := by
  induction h with
  | nil => intro j a b _; exact .nil
  | cons h t ih =>
    intro j a b r
    cases j with
    | zero => exact .cons r t
    | succ j => exact .cons h (ih r)
theorem A2.get {as : List α} {bs : List β} (h : A2 R as bs) : ∀ {j : Nat} {a : α}, as[j]? = some a → ∃ b, bs[j]? = some b ∧ R a b := by
  induction h with
  | nil => intro j a e; simp at e
  | cons h t ih =>
    intro j a e
    cases j with
    | zero => simp at e; subst e; exact ⟨_, rfl, h⟩
    | succ j => exact ih (by simpa using e)
theorem A2.of_get : ∀ {as : List α} {bs : List β}, as.length = bs.length → (∀ (j : Nat) a b, as[j]? = some a → bs[j]? = some b → R a b) → A2 R as bs
  | [], [], _, _ => .nil
  | a :: as, b :: bs, hl, h => .cons (h 0 a b rfl rfl) (A2.of_get (by simpa using hl) fun j a b e1 e2 => h (j + 1) a b (by simpa using e1) (by simpa using e2))
  | [], _ :: _, hl, _ => by simp at hl
  | _ :: _, [], hl, _ => by simp at hl
end
/-- how many are at least v -/
def ge (v : Int) (l : List Int) : Nat := l.countP fun x => decide (v ≤ x)
theorem ge_perm {v : Int} {l m : List Int} (h : l.Perm m) : ge v l = ge v m := h.countP_eq _
theorem ge_pt {v : Int} {l m : List Int} (h : A2 (fun a b => a ≤ b) l m) : ge v l ≤ ge v m := by
  unfold ge
  induction h with
  | nil => exact Nat.le_refl _
  | @cons a b _ _ h _ ih =>
    rw [List.countP_cons, List.countP_cons]
    have : (if decide (v ≤ a) = true then 1 else 0) ≤ (if decide (v ≤ b) = true then 1 else 0) := by
      by_cases h1 : v ≤ a
      · have : v ≤ b := by omega
        simp [h1, this]
      · simp [h1]
    omega
theorem ge_len (v : Int) (l : List Int) : ge v l ≤ l.length := List.countP_le_length
/-- descending -/
def Desc (l : List Int) : Prop := l.Pairwise fun a b => b ≤ a
theorem desc_ge {v : Int} : ∀ {l : List Int}, Desc l → ∀ i x, l[i]? = some x → (v ≤ x ↔ i < ge v l)
  | [], _, i, x, e => by simp at e
  | a :: l, h, 0, x, e => by
    simp at e
    subst e
    unfold ge
    rw [List.countP_cons]
    by_cases h1 : v ≤ a
    · simp [h1]
    · have hz : List.countP (fun x => decide (v ≤ x)) l = 0 := by
        rw [List.countP_eq_zero]
        intro y hy
        have := (List.pairwise_cons.mp h).1 y hy
        simp; omega
      simp [h1, hz]
  | a :: l, h, i + 1, x, e => by
    have ih := desc_ge (v := v) (List.pairwise_cons.mp h).2 i x (by simpa using e)
    have hm : x ∈ l := List.mem_of_getElem? (i := i) (by simpa using e)
    have hax := (List.pairwise_cons.mp h).1 x hm
    unfold ge at ih ⊢
    rw [List.countP_cons]
    by_cases h1 : v ≤ a
    · simp only [h1, decide_true, if_true]; omega
    · have h2 : ¬ v ≤ x := by omega
      have hz : List.countP (fun x => decide (v ≤ x)) l = 0 := by
        rw [List.countP_eq_zero]
        intro y hy
        have := (List.pairwise_cons.mp h).1 y hy
        simp; omega
      simp [h1, h2, hz]
/-- one list's items find room in another one -/
def Fit (l tops : List Int) : Prop := ∀ v, ge v l ≤ ge v tops
theorem Fit.perm {l l' t t' : List Int} (h : Fit l t) (p : l.Perm l') (q : t.Perm t') : Fit l' t' := fun v => by rw [← ge_perm p, ← ge_perm q]; exact h v
/-- the program's test, of two descending lists -/
def fitsV (l tops : List Int) : Bool := decide (l.length ≤ tops.length) && (l.zip tops).all fun z => decide (z.1 ≤ z.2)
theorem low (l : List Int) : ∃ v : Int, ∀ x ∈ l, v ≤ x := by
  induction l with
  | nil => exact ⟨0, fun x h => by cases h⟩
  | cons a l ih =>
    obtain ⟨v, hv⟩ := ih
    refine ⟨min a v, fun x hx => ?_⟩
    rcases List.mem_cons.mp hx with rfl | hx
    · omega
    · have := hv x hx; omega
theorem Fit.len {l tops : List Int} (h : Fit l tops) : l.length ≤ tops.length := by
  obtain ⟨v, hv⟩ := low l
  have e : ge v l = l.length := List.countP_eq_length.mpr fun x hx => by simpa using hv x hx
  have := h v
  have := ge_len v tops
  omega
theorem fits_iff {l tops : List Int} (hl : Desc l) (ht : Desc tops) : fitsV l tops = true ↔ Fit l tops := by
  unfold fitsV
  rw [Bool.and_eq_true, decide_eq_true_eq, List.all_eq_true]
  constructor
  · rintro ⟨h1, h2⟩ v
    have p : A2 (fun a b => a ≤ b) l (tops.take l.length) := by
      refine A2.of_get (by rw [List.length_take]; omega) fun j a b e1 e2 => ?_
      have hj : j < l.length := (List.getElem?_eq_some_iff.mp e1).1
      rw [List.getElem?_take_of_lt hj] at e2
      have : (a, b) ∈ l.zip tops := List.mem_of_getElem? (List.getElem?_zip_eq_some.mpr ⟨e1, e2⟩)
      simpa using h2 _ this
    refine Nat.le_trans (ge_pt p) ?_
    exact (List.take_sublist _ _).countP_le
  · intro h
    refine ⟨h.len, ?_⟩
    rintro ⟨a, b⟩ hz
    obtain ⟨i, hi⟩ := List.getElem?_of_mem hz
    obtain ⟨e1, e2⟩ := List.getElem?_zip_eq_some.mp hi
    have h1 := (desc_ge (v := a) hl i a e1).mp (Int.le_refl a)
    have h2 := h a
    have := (desc_ge (v := a) ht i b e2).mpr (by omega)
    simpa using this
theorem fit_take {l tops : List Int} (ht : Desc tops) {n : Nat} (hn : l.length ≤ n) : Fit l (tops.take n) ↔ Fit l tops := by
  constructor
  · intro h v
    exact Nat.le_trans (h v) ((List.take_sublist _ _).countP_le)
  · intro h v
    have h1 := h v
    have h2 := ge_len v l
    by_cases hc : ge v l = 0
    · rw [hc]; exact Nat.zero_le _
    -- the first ge v l tops are at least v
    have hlt : ge v l - 1 < tops.length := by have := ge_len v tops; omega
    obtain ⟨x, hx⟩ : ∃ x, tops[ge v l - 1]? = some x := ⟨_, List.getElem?_eq_getElem hlt⟩
    have h3 := (desc_ge (v := v) ht _ x hx).mpr (by omega)
    have dt : Desc (tops.take n) := List.Pairwise.sublist (List.take_sublist _ _) ht
    have hx' : (tops.take n)[ge v l - 1]? = some x := by rw [List.getElem?_take_of_lt (by omega)]; exact hx
    have := (desc_ge (v := v) dt _ x hx').mp h3
    omega
/-- descending order -/
def srtD (l : List Int) : List Int := l.mergeSort fun a b => decide (b ≤ a)
theorem srtD_perm (l : List Int) : (srtD l).Perm l := List.mergeSort_perm l _
theorem srtD_desc (l : List Int) : Desc (srtD l) := by
  have h := List.pairwise_mergeSort (le := fun a b : Int => decide (b ≤ a)) (fun a b c h1 h2 => by simp at h1 h2 ⊢; omega) (fun a b => by simp; omega) l
  exact h.imp fun h => by simpa using h
theorem desc_eq : ∀ {l m : List Int}, Desc l → Desc m → l.Perm m → l = m
  | [], m, _, _, p => (List.perm_nil.mp p.symm).symm
  | a :: l, [], _, _, p => absurd p.length_eq (by simp)
  | a :: l, b :: m, hl, hm, p => by
    have h1 := List.pairwise_cons.mp hl
    have h2 := List.pairwise_cons.mp hm
    have e : a = b := by
      have ha : a ∈ b :: m := p.mem_iff.mp List.mem_cons_self
      have hb : b ∈ a :: l := p.mem_iff.mpr List.mem_cons_self
      rcases List.mem_cons.mp ha with e | ha
      · exact e
      · rcases List.mem_cons.mp hb with e | hb
        · exact e.symm
        · have := h2.1 a ha; have := h1.1 b hb; omega
    subst e
    rw [desc_eq h1.2 h2.2 ((List.perm_cons a).mp p)]
theorem srtD_congr {l m : List Int} (p : l.Perm m) : srtD l = srtD m := desc_eq (srtD_desc l) (srtD_desc m) ((srtD_perm l).trans (p.trans (srtD_perm m).symm))
theorem srtD_len (l : List Int) : (srtD l).length = l.length := (srtD_perm l).length_eq
end Pk
namespace Pk
/-- what the seats put into the j-th room weigh -/
def put : List Nat → List Int → Nat → Int
  | i :: f, w :: ws, j => (if i = j then w else 0) + put f ws j
  | _, _, _ => 0
/-- the seats can be packed into the rooms -/
def Packs (ws rooms : List Int) : Prop := ∃ f : List Nat, f.length = ws.length ∧ (∀ i ∈ f, i < rooms.length) ∧ ∀ j r, rooms[j]? = some r → put f ws j ≤ r
/-- .. by blocks -/
def PackB (ws rooms : List Int) : Prop := ∃ bs : List (List Int), (∀ b ∈ bs, b ≠ []) ∧ bs.flatten.Perm ws ∧ Fit (bs.map List.sum) rooms
def PackA (ws rooms : List Int) : Prop := ∃ bs : List (List Int), A2 (fun b r => b.sum ≤ r) bs rooms ∧ bs.flatten.Perm ws
theorem PackB.perm {ws ws' r r' : List Int} (h : PackB ws r) (p : ws.Perm ws') (q : r.Perm r') : PackB ws' r' := by
  obtain ⟨bs, h1, h2, h3⟩ := h
  exact ⟨bs, h1, h2.trans p, h3.perm (.refl _) q⟩
theorem a2_sums (bs : List (List Int)) : A2 (fun b x => x = b.sum) bs (bs.map List.sum) := by
  induction bs with
  | nil => exact .nil
  | cons b bs ih => exact .cons rfl ih
theorem A2.app {α β : Type} {R : α → β → Prop} {as cs : List α} {bs ds : List β} (h : A2 R as bs) (k : A2 R cs ds) : A2 R (as ++ cs) (bs ++ ds) := by
  induction h with
  | nil => exact k
  | cons h1 _ ih => exact .cons h1 ih
theorem a2_nils : ∀ {l : List Int}, (∀ x ∈ l, 0 ≤ x) → A2 (fun (b : List Int) r => b.sum ≤ r) (List.replicate l.length []) l
  | [], _ => .nil
  | a :: l, h => by
    rw [List.length_cons, List.replicate_succ]
    exact .cons (by simpa using h a List.mem_cons_self) (a2_nils fun x hx => h x (List.mem_cons_of_mem _ hx))
theorem flatten_nils (n : Nat) : (List.replicate n ([] : List Int)).flatten = [] := by
  induction n with
  | zero => rfl
  | succ n ih => rw [List.replicate_succ, List.flatten_cons, ih]; rfl
theorem PackB.a {ws rooms : List Int} (h : PackB ws rooms) (h0 : ∀ x ∈ rooms, 0 ≤ x) : PackA ws rooms := by
  obtain ⟨bs, _, hp, hf⟩ := h
  have hf' : Fit (srtD (bs.map List.sum)) (srtD rooms) := hf.perm (srtD_perm _).symm (srtD_perm _).symm
  have hv := (fits_iff (srtD_desc _) (srtD_desc _)).mpr hf'
  unfold fitsV at hv
  rw [Bool.and_eq_true, decide_eq_true_eq, List.all_eq_true] at hv
  obtain ⟨bs', p', ha⟩ := (a2_sums bs).perm (srtD_perm _).symm
  have hl : bs'.length = (srtD (bs.map List.sum)).length := ha.len
  have hlen := hv.1
  have h1 : A2 (fun (b : List Int) r => b.sum ≤ r) bs' ((srtD rooms).take bs'.length) := by
    refine A2.of_get (by rw [List.length_take]; omega) fun j b r e1 e2 => ?_
    have hj : j < bs'.length := (List.getElem?_eq_some_iff.mp e1).1
    rw [List.getElem?_take_of_lt hj] at e2
    obtain ⟨x, e3, e4⟩ := ha.get e1
    have : (x, r) ∈ (srtD (bs.map List.sum)).zip (srtD rooms) := List.mem_of_getElem? (List.getElem?_zip_eq_some.mpr ⟨e3, e2⟩)
    have := hv.2 _ this
    simp at this
    omega
  have h2 : A2 (fun (b : List Int) r => b.sum ≤ r) (bs' ++ List.replicate ((srtD rooms).drop bs'.length).length []) (srtD rooms) := by
    have := h1.app (a2_nils (l := (srtD rooms).drop bs'.length) fun x hx => h0 x ((srtD_perm rooms).mem_iff.mp (List.mem_of_mem_drop hx)))
    rwa [List.take_append_drop] at this
  obtain ⟨bs2, p2, h3⟩ := h2.perm (srtD_perm rooms)
  refine ⟨bs2, h3, p2.symm.flatten.trans ?_⟩
  rw [List.flatten_append, flatten_nils, List.append_nil]
  exact p'.symm.flatten.trans hp
theorem put_of (ws : List Int) : ∀ (bs : List (List Int)), bs.flatten.Perm ws → ∃ f : List Nat, f.length = ws.length ∧ (∀ i ∈ f, i < bs.length) ∧ ∀ j, put f ws j = (bs.getD j []).sum := by
  induction ws with
  | nil =>
    intro bs h
    refine ⟨[], rfl, (fun i hi => by simp at hi), fun j => ?_⟩
    have e := List.perm_nil.mp h
    have : bs.getD j [] = [] := by
      rw [List.getD_eq_getElem?_getD]
      cases q : bs[j]? with
      | none => rfl
      | some b => exact List.flatten_eq_nil_iff.mp e b (List.mem_of_getElem? q)
    rw [this]; rfl
  | cons w ws ih =>
    intro bs h
    have hw : w ∈ bs.flatten := h.mem_iff.mpr List.mem_cons_self
    obtain ⟨b, hb, hwb⟩ := List.mem_flatten.mp hw
    obtain ⟨B1, B2, rfl⟩ := List.append_of_mem hb
    obtain ⟨b1, b2, rfl⟩ := List.append_of_mem hwb
    have hp : (B1 ++ (b1 ++ b2) :: B2).flatten.Perm ws := by
      have h1 : (w :: (B1 ++ (b1 ++ b2) :: B2).flatten).Perm (w :: ws) := by
        refine List.Perm.trans ?_ h
        simp only [List.flatten_append, List.flatten_cons, List.append_assoc, List.cons_append]
        refine List.perm_middle.symm.trans ?_
        refine List.Perm.append_left _ ?_
        exact List.perm_middle.symm
      exact (List.perm_cons w).mp h1
    obtain ⟨f, h1, h2, h3⟩ := ih _ hp
    refine ⟨B1.length :: f, by simp [h1], fun i hi => ?_, fun j => ?_⟩
    · rcases List.mem_cons.mp hi with rfl | hi
      · simp
      · have := h2 i hi
        simpa using this
    · show (if B1.length = j then w else 0) + put f ws j = _
      rw [h3 j]
      simp only [List.getD_eq_getElem?_getD]
      by_cases hj : B1.length = j
      · subst hj
        rw [if_pos rfl, List.getElem?_append_right (Nat.le_refl _), List.getElem?_append_right (Nat.le_refl _)]
        simp only [Nat.sub_self, List.getElem?_cons_zero, Option.getD_some, List.sum_append, List.sum_cons]
        omega
      · rw [if_neg hj]
        by_cases hl : j < B1.length
        · rw [List.getElem?_append_left hl, List.getElem?_append_left hl]; omega
        · rw [List.getElem?_append_right (by omega), List.getElem?_append_right (by omega)]
          obtain ⟨k, hk⟩ : ∃ k, j - B1.length = k + 1 := ⟨j - B1.length - 1, by omega⟩
          rw [hk, List.getElem?_cons_succ, List.getElem?_cons_succ]; omega
theorem PackA.f {ws rooms : List Int} (h : PackA ws rooms) : Packs ws rooms := by
  obtain ⟨bs, ha, hp⟩ := h
  obtain ⟨f, h1, h2, h3⟩ := put_of ws bs hp
  refine ⟨f, h1, fun i hi => by rw [← ha.len]; exact h2 i hi, fun j r e => ?_⟩
  rw [h3 j]
  have hj : j < bs.length := by rw [ha.len]; exact (List.getElem?_eq_some_iff.mp e).1
  obtain ⟨r', e1, e2⟩ := ha.get (List.getElem?_eq_getElem hj)
  rw [e] at e1
  cases e1
  rw [List.getD_eq_getElem?_getD, List.getElem?_eq_getElem hj]
  exact e2
/-! ### loads -/
def nextV (load : List Int) (w : Int) : List (List Int) := ((load ++ [w]) :: (List.range load.length).map fun i => load.take i ++ [load.getD i 0 + w] ++ load.drop (i + 1)).map srtD
def addF (tops : List Int) (acc : List (List Int)) (one : List Int) : List (List Int) := if (!decide (one ∈ acc) && fitsV one tops) = true then acc ++ [one] else acc
def levelV (tops : List Int) (level : List (List Int)) (w : Int) : List (List Int) := level.foldl (fun acc load => (nextV load w).foldl (addF tops) acc) []
theorem mem_addF (tops : List Int) (x : List Int) : ∀ (l acc : List (List Int)), x ∈ l.foldl (addF tops) acc ↔ x ∈ acc ∨ (x ∈ l ∧ fitsV x tops = true)
  | [], acc => by simp
  | a :: l, acc => by
    rw [List.foldl_cons, mem_addF tops x l]
    unfold addF
    by_cases h : (!decide (a ∈ acc) && fitsV a tops) = true
    · rw [if_pos h]
      simp only [Bool.and_eq_true, Bool.not_eq_true', decide_eq_false_iff_not] at h
      simp only [List.mem_append, List.mem_cons, List.not_mem_nil, or_false]
      constructor
      · rintro ((h1 | rfl) | h1)
        · exact .inl h1
        · exact .inr ⟨.inl rfl, h.2⟩
        · exact .inr ⟨.inr h1.1, h1.2⟩
      · rintro (h1 | ⟨rfl | h1, h2⟩)
        · exact .inl (.inl h1)
        · exact .inl (.inr rfl)
        · exact .inr ⟨h1, h2⟩
    · rw [if_neg h]
      simp only [List.mem_cons]
      constructor
      · rintro (h1 | h1)
        · exact .inl h1
        · exact .inr ⟨.inr h1.1, h1.2⟩
      · rintro (h1 | ⟨rfl | h1, h2⟩)
        · exact .inl h1
        · left
          simp only [Bool.and_eq_true, Bool.not_eq_true', decide_eq_false_iff_not, h2, and_true, Classical.not_not] at h
          exact h
        · exact .inr ⟨h1, h2⟩
theorem mem_levelF (tops : List Int) (w : Int) (x : List Int) : ∀ (level acc : List (List Int)), x ∈ level.foldl (fun acc load => (nextV load w).foldl (addF tops) acc) acc ↔ x ∈ acc ∨ ∃ load ∈ level, x ∈ nextV load w ∧ fitsV x tops = true
  | [], acc => by simp
  | a :: l, acc => by
    rw [List.foldl_cons, mem_levelF tops w x l, mem_addF]
    constructor
    · rintro ((h | h) | ⟨load, h1, h2⟩)
      · exact .inl h
      · exact .inr ⟨a, List.mem_cons_self, h⟩
      · exact .inr ⟨load, List.mem_cons_of_mem _ h1, h2⟩
    · rintro (h | ⟨load, h1, h2⟩)
      · exact .inl (.inl h)
      · rcases List.mem_cons.mp h1 with rfl | h1
        · exact .inl (.inr h2)
        · exact .inr ⟨load, h1, h2⟩
theorem mem_level (tops : List Int) (w : Int) (x : List Int) (level : List (List Int)) : x ∈ levelV tops level w ↔ ∃ load ∈ level, x ∈ nextV load w ∧ fitsV x tops = true := by
  unfold levelV
  rw [mem_levelF]; simp
/-- levels one after another, each one's order being whatever it is -/
inductive Lvs (tops : List Int) : List (List Int) → List Int → List (List Int) → Prop
  | nil (level : List (List Int)) : Lvs tops level [] level
  | cons {level next out : List (List Int)} {w : Int} {ws : List Int} (h : ∀ x, x ∈ next ↔ x ∈ levelV tops level w) (t : Lvs tops next ws out) : Lvs tops level (w :: ws) out
structure LInv (tops : List Int) (done : List Int) (l : List Int) : Prop where
  d : Desc l
  f : Fit l tops
  b : ∃ bs : List (List Int), (∀ b ∈ bs, b ≠ []) ∧ bs.flatten.Perm done ∧ l.Perm (bs.map List.sum)
theorem linv_step {tops done l x : List Int} {w : Int} (ht : Desc tops) (h : LInv tops done l) (hx : x ∈ nextV l w) (hf : fitsV x tops = true) : LInv tops (done ++ [w]) x := by
  obtain ⟨bs, h1, h2, h3⟩ := h.b
  unfold nextV at hx
  obtain ⟨y, hy, rfl⟩ := List.mem_map.mp hx
  refine ⟨srtD_desc _, (fits_iff (srtD_desc _) ht).mp hf, ?_⟩
  rcases List.mem_cons.mp hy with rfl | hy
  · refine ⟨bs ++ [[w]], fun b hb => ?_, ?_, ?_⟩
    · rcases List.mem_append.mp hb with hb | hb
      · exact h1 b hb
      · rw [List.mem_singleton.mp hb]; simp
    · rw [List.flatten_append]
      simpa using h2.append_right [w]
    · refine (srtD_perm _).trans ?_
      rw [List.map_append]
      simpa using h3.append_right [w]
  · obtain ⟨i, hi, rfl⟩ := List.mem_map.mp hy
    have hi : i < l.length := by simpa using hi
    obtain ⟨bs', p', ha⟩ := (a2_sums bs).perm h3.symm
    have hl := ha.len
    obtain ⟨b, hb⟩ : ∃ b, bs'[i]? = some b := ⟨_, List.getElem?_eq_getElem (by omega)⟩
    obtain ⟨s, e1, e2⟩ := ha.get hb
    have hib : i < bs'.length := by omega
    have eb : bs'[i] = b := (List.getElem?_eq_some_iff.mp hb).2
    have hsp : bs' = bs'.take i ++ b :: bs'.drop (i + 1) := by rw [← eb, List.getElem_cons_drop, List.take_append_drop]
    have hmap : bs'.map List.sum = l := by
      have : ∀ {as : List (List Int)} {l : List Int}, A2 (fun b x => x = b.sum) as l → as.map List.sum = l := by
        intro as l h
        induction h with
        | nil => rfl
        | cons h1 _ ih => rw [List.map_cons, ih, h1]
      exact this ha
    refine ⟨bs'.take i ++ (b ++ [w]) :: bs'.drop (i + 1), fun c hc => ?_, ?_, ?_⟩
    · rcases List.mem_append.mp hc with hc | hc
      · exact h1 c (p'.mem_iff.mpr (List.mem_of_mem_take hc))
      · rcases List.mem_cons.mp hc with rfl | hc
        · simp
        · exact h1 c (p'.mem_iff.mpr (List.mem_of_mem_drop hc))
    · have q : (bs'.take i ++ (b ++ [w]) :: bs'.drop (i + 1)).flatten.Perm (bs'.flatten ++ [w]) := by
        conv => rhs; rw [hsp]
        simp only [List.flatten_append, List.flatten_cons, List.append_assoc]
        refine List.Perm.append_left _ (List.Perm.append_left _ ?_)
        exact List.perm_append_comm
      exact q.trans ((p'.symm.flatten.trans h2).append_right [w])
    · refine (srtD_perm _).trans ?_
      rw [List.map_append, List.map_cons, List.map_take, List.map_drop, hmap]
      have : l.getD i 0 = s := by rw [List.getD_eq_getElem?_getD, e1]; rfl
      rw [this, e2, List.sum_append]
      simp
theorem lvs_inv {tops : List Int} (ht : Desc tops) {level ws out} (h : Lvs tops level ws out) : ∀ done : List Int, (∀ l ∈ level, LInv tops done l) → ∀ l ∈ out, LInv tops (done ++ ws) l := by
  induction h with
  | nil level => intro done h; simpa using h
  | @cons level next out w ws h t ih =>
    intro done hl
    have := ih (done ++ [w]) fun l hl' => by
      obtain ⟨load, h1, h2, h3⟩ := (mem_level tops w l level).mp ((h l).mp hl')
      exact linv_step ht (hl load h1) h2 h3
    simpa using this
/-! from a packing to loads -/
def loadOf (s : List Int) : List Int := srtD (s.filter fun x => decide (0 < x))
theorem put_nn {ws : List Int} (h : ∀ w ∈ ws, 0 < w) : ∀ (f : List Nat) (j : Nat), 0 ≤ put f ws j := by
  induction ws with
  | nil => intro f j; cases f <;> exact Int.le_refl _
  | cons w ws ih =>
    intro f j
    cases f with
    | nil => exact Int.le_refl _
    | cons i f =>
      have h1 := ih (fun x hx => h x (List.mem_cons_of_mem _ hx)) f j
      have h2 := h w List.mem_cons_self
      show 0 ≤ (if i = j then w else 0) + put f ws j
      split <;> omega
theorem load_step {s : List Int} {j : Nat} {x w : Int} (hx : s[j]? = some x) (h0 : 0 ≤ x) (hw : 0 < w) : loadOf (s.set j (x + w)) ∈ nextV (loadOf s) w := by
  have hj : j < s.length := (List.getElem?_eq_some_iff.mp hx).1
  have ex : s[j] = x := (List.getElem?_eq_some_iff.mp hx).2
  have hs : s = s.take j ++ x :: s.drop (j + 1) := by rw [← ex, List.getElem_cons_drop, List.take_append_drop]
  have hs' : s.set j (x + w) = s.take j ++ (x + w) :: s.drop (j + 1) := by rw [List.set_eq_take_append_cons_drop, if_pos hj]
  generalize s.take j = A at hs hs'
  generalize s.drop (j + 1) = B at hs hs'
  rw [hs', hs]
  clear hs hs' ex hj hx
  unfold loadOf nextV
  have hxw : decide (0 < x + w) = true := by simp; omega
  by_cases h : 0 < x
  · have hxd : decide (0 < x) = true := by simpa using h
    have fs : (A ++ x :: B).filter (fun x => decide (0 < x)) = A.filter (fun x => decide (0 < x)) ++ x :: B.filter (fun x => decide (0 < x)) := by
      rw [List.filter_append, List.filter_cons, if_pos hxd]
    have fs' : (A ++ (x + w) :: B).filter (fun x => decide (0 < x)) = A.filter (fun x => decide (0 < x)) ++ (x + w) :: B.filter (fun x => decide (0 < x)) := by
      rw [List.filter_append, List.filter_cons, if_pos hxw]
    rw [fs, fs']
    generalize A.filter (fun x => decide (0 < x)) = C
    generalize B.filter (fun x => decide (0 < x)) = D
    have hm : x ∈ srtD (C ++ x :: D) := (srtD_perm _).mem_iff.mpr (by simp)
    obtain ⟨L1, L2, hL⟩ := List.append_of_mem hm
    have hp : (L1 ++ L2).Perm (C ++ D) := by
      have : (x :: (L1 ++ L2)).Perm (x :: (C ++ D)) := List.perm_middle.symm.trans ((by rw [← hL]; exact srtD_perm _ : (L1 ++ x :: L2).Perm (C ++ x :: D)).trans List.perm_middle)
      exact (List.perm_cons x).mp this
    rw [hL]
    refine List.mem_map.mpr ⟨L1 ++ [x + w] ++ L2, List.mem_cons_of_mem _ (List.mem_map.mpr ⟨L1.length, by simp, ?_⟩), ?_⟩
    · have e1 : (L1 ++ x :: L2).take L1.length = L1 := by simp
      have e2 : (L1 ++ x :: L2).drop (L1.length + 1) = L2 := by simp
      have e3 : (L1 ++ x :: L2).getD L1.length 0 = x := by simp [List.getD_eq_getElem?_getD]
      rw [e1, e2, e3]
    · refine srtD_congr ?_
      rw [List.append_assoc]
      exact (List.perm_middle.trans ((List.perm_cons _).mpr hp)).trans List.perm_middle.symm
  · have hx0 : x = 0 := by omega
    subst hx0
    have fs : (A ++ 0 :: B).filter (fun x => decide (0 < x)) = A.filter (fun x => decide (0 < x)) ++ B.filter (fun x => decide (0 < x)) := by
      rw [List.filter_append, List.filter_cons_of_neg (by simp)]
    have fs' : (A ++ (0 + w) :: B).filter (fun x => decide (0 < x)) = A.filter (fun x => decide (0 < x)) ++ w :: B.filter (fun x => decide (0 < x)) := by
      rw [Int.zero_add, List.filter_append, List.filter_cons_of_pos (by simpa using hw)]
    rw [fs, fs']
    generalize A.filter (fun x => decide (0 < x)) = C
    generalize B.filter (fun x => decide (0 < x)) = D
    refine List.mem_map.mpr ⟨srtD (C ++ D) ++ [w], List.mem_cons_self, srtD_congr ?_⟩
    have q1 : (C ++ D ++ [w]).Perm (w :: (C ++ D)) := List.perm_append_comm
    exact ((srtD_perm (C ++ D)).append_right [w]).trans (q1.trans List.perm_middle.symm)
theorem lvs_some {tops : List Int} (ht : Desc tops) {level ws out} (h : Lvs tops level ws out) : ∀ (s : List Int) (f : List Nat), loadOf s ∈ level → f.length = ws.length → (∀ i ∈ f, i < s.length) → s.length = tops.length → (∀ x ∈ s, 0 ≤ x) →
    (∀ (j : Nat) x t, s[j]? = some x → tops[j]? = some t → x + put f ws j ≤ t) → (∀ w ∈ ws, 0 < w) → out ≠ [] := by
  induction h with
  | nil level => intro s f hs _ _ _ _ _ _ e; rw [e] at hs; cases hs
  | @cons level next out w ws h t ih =>
    intro s f hs hf hfi hst h0 hput hw
    cases f with
    | nil => simp at hf
    | cons i f =>
      have hi := hfi i List.mem_cons_self
      obtain ⟨x, hx⟩ : ∃ x, s[i]? = some x := ⟨_, List.getElem?_eq_getElem hi⟩
      have hx0 := h0 x (List.mem_of_getElem? hx)
      have hw0 := hw w List.mem_cons_self
      have hget : ∀ (j : Nat) y, (s.set i (x + w))[j]? = some y → ∃ z, s[j]? = some z ∧ y = z + (if i = j then w else 0) := by
        intro j y e
        by_cases hij : i = j
        · subst hij
          rw [List.getElem?_set_self hi] at e
          cases e
          exact ⟨x, hx, by simp⟩
        · rw [List.getElem?_set_ne hij] at e
          exact ⟨y, e, by simp [hij]⟩
      have hput' : ∀ (j : Nat) y t, (s.set i (x + w))[j]? = some y → tops[j]? = some t → y + put f ws j ≤ t := by
        intro j y t e1 e2
        obtain ⟨z, e3, rfl⟩ := hget j y e1
        have := hput j z t e3 e2
        have e : put (i :: f) (w :: ws) j = (if i = j then w else 0) + put f ws j := rfl
        rw [e] at this
        omega
      have hw' : ∀ w ∈ ws, 0 < w := fun y hy => hw y (List.mem_cons_of_mem _ hy)
      refine ih (s.set i (x + w)) f ?_ (by simpa using hf) (fun k hk => by rw [List.length_set]; exact hfi k (List.mem_cons_of_mem _ hk)) (by rw [List.length_set]; exact hst) ?_ hput' hw'
      · refine (h _).mpr ((mem_level tops w _ level).mpr ⟨_, hs, load_step hx hx0 hw0, ?_⟩)
        refine (fits_iff (srtD_desc _) ht).mpr fun v => ?_
        rw [ge_perm (srtD_perm _)]
        refine Nat.le_trans (List.filter_sublist.countP_le) ?_
        refine ge_pt (v := v) (A2.of_get (by rw [List.length_set]; exact hst) fun j a b e1 e2 => ?_)
        have := hput' j a b e1 e2
        have := put_nn hw' f j
        omega
      · intro y hy
        obtain ⟨j, hj⟩ := List.getElem?_of_mem hy
        obtain ⟨z, e1, rfl⟩ := hget j y hj
        have := h0 z (List.mem_of_getElem? e1)
        split <;> omega
/-- the last level is not empty exactly if there is a packing -/
theorem lvs_b {tops ws out : List _} (ht : Desc tops) (h : Lvs tops [[]] ws out) (hne : out ≠ []) : PackB ws tops := by
  obtain ⟨l, hl⟩ := List.exists_mem_of_ne_nil out hne
  have hi := lvs_inv ht h [] (fun l hl => by
    rw [List.mem_singleton.mp hl]
    exact ⟨List.Pairwise.nil, fun v => Nat.zero_le _, [], (fun b hb => by simp at hb), List.Perm.refl _, List.Perm.refl _⟩) l hl
  obtain ⟨bs, h1, h2, h3⟩ := hi.b
  exact ⟨bs, h1, h2, hi.f.perm h3 (.refl _)⟩
theorem lvs_f {tops ws : List Int} {out : List (List Int)} (ht : Desc tops) (h0 : ∀ x ∈ tops, 0 ≤ x) (hw : ∀ w ∈ ws, 0 < w) (h : Lvs tops [[]] ws out) (hp : Packs ws tops) : out ≠ [] := by
  obtain ⟨f, h1, h2, h3⟩ := hp
  refine lvs_some ht h (List.replicate tops.length 0) f ?_ h1 (by simpa using h2) (by simp) (fun x hx => by rw [(List.mem_replicate.mp hx).2]; exact Int.le_refl _) (fun j x t e1 e2 => ?_) hw
  · have : loadOf (List.replicate tops.length 0) = [] := by
      unfold loadOf
      rw [List.filter_eq_nil_iff.mpr (fun x hx => by rw [(List.mem_replicate.mp hx).2]; simp)]
      exact List.perm_nil.mp (srtD_perm [])
    rw [this]; simp
  · have hx : x = 0 := (List.mem_replicate.mp (List.mem_of_getElem? e1)).2
    have := h3 j t e2
    omega
/-- the levels as they are computed, in any order -/
theorem lvs_exists (tops : List Int) : ∀ (ws : List Int) (level : List (List Int)), ∃ out, Lvs tops level ws out
  | [], level => ⟨level, .nil level⟩
  | w :: ws, level => by
    obtain ⟨out, h⟩ := lvs_exists tops ws (levelV tops level w)
    exact ⟨out, .cons (fun _ => .rfl) h⟩
section
variable {ws rooms : List Int} (hw : ∀ w ∈ ws, 0 < w) (h0 : ∀ x ∈ rooms, 0 ≤ x)
include hw h0
theorem pack_desc (hd : Desc rooms) : Packs ws rooms ↔ PackB ws rooms := by
  constructor
  · intro h
    obtain ⟨out, ho⟩ := lvs_exists rooms ws [[]]
    exact lvs_b hd ho (lvs_f hd h0 hw ho h)
  · exact fun h => (h.a h0).f
end
/-- the places of the seats, into rooms in another order -/
theorem put_out : ∀ {f : List Nat} {ws : List Int} {j : Nat}, (∀ i ∈ f, i ≠ j) → put f ws j = 0
  | [], _, _, _ => rfl
  | i :: f, [], _, _ => rfl
  | i :: f, w :: ws, j, h => by
    have e : put (i :: f) (w :: ws) j = (if i = j then w else 0) + put f ws j := rfl
    rw [e, if_neg (h i List.mem_cons_self), put_out fun k hk => h k (List.mem_cons_of_mem _ hk)]; rfl
/-- blocks of a packing -/
theorem blocks_of : ∀ (ws : List Int) (f : List Nat) (m : Nat), f.length = ws.length → (∀ i ∈ f, i < m) → ∃ bs : List (List Int), bs.length = m ∧ bs.flatten.Perm ws ∧ ∀ (j : Nat) b, bs[j]? = some b → b.sum = put f ws j
  | [], f, m, hf, _ => by
    refine ⟨List.replicate m [], by simp, by rw [flatten_nils], fun j b e => ?_⟩
    rw [(List.mem_replicate.mp (List.mem_of_getElem? e)).2]
    cases f <;> rfl
  | w :: ws, [], m, hf, _ => by simp at hf
  | w :: ws, i :: f, m, hf, hi => by
    obtain ⟨bs, h1, h2, h3⟩ := blocks_of ws f m (by simpa using hf) fun k hk => hi k (List.mem_cons_of_mem _ hk)
    have him : i < bs.length := by rw [h1]; exact hi i List.mem_cons_self
    have hsp : bs = bs.take i ++ bs[i] :: bs.drop (i + 1) := by rw [List.getElem_cons_drop, List.take_append_drop]
    refine ⟨bs.set i (w :: bs[i]), by simp [h1], ?_, fun j b e => ?_⟩
    · rw [List.set_eq_take_append_cons_drop, if_pos him]
      have : (bs.take i ++ (w :: bs[i]) :: bs.drop (i + 1)).flatten.Perm (w :: (bs.take i ++ bs[i] :: bs.drop (i + 1)).flatten) := by
        simp only [List.flatten_append, List.flatten_cons, List.cons_append]
        exact List.perm_middle
      rw [← hsp] at this
      exact this.trans ((List.perm_cons w).mpr h2)
    · have ep : put (i :: f) (w :: ws) j = (if i = j then w else 0) + put f ws j := rfl
      rw [ep]
      by_cases hij : i = j
      · subst hij
        rw [List.getElem?_set_self him] at e
        cases e
        rw [List.sum_cons, if_pos rfl, h3 i _ (List.getElem?_eq_getElem him)]
      · rw [List.getElem?_set_ne hij] at e
        rw [if_neg hij, h3 j b e]; omega
theorem Packs.a {ws rooms : List Int} (h : Packs ws rooms) : PackA ws rooms := by
  obtain ⟨f, h1, h2, h3⟩ := h
  obtain ⟨bs, b1, b2, b3⟩ := blocks_of ws f rooms.length h1 h2
  exact ⟨bs, A2.of_get b1 fun j b r e1 e2 => by rw [b3 j b e1]; exact h3 j r e2, b2⟩
theorem PackA.perm {ws ws' r r' : List Int} (h : PackA ws r) (p : ws.Perm ws') (q : r.Perm r') : PackA ws' r' := by
  obtain ⟨bs, h1, h2⟩ := h
  obtain ⟨bs', p', h'⟩ := h1.perm q
  exact ⟨bs', h', p'.symm.flatten.trans (h2.trans p)⟩
theorem Packs.perm {ws ws' r r' : List Int} (h : Packs ws r) (p : ws.Perm ws') (q : r.Perm r') : Packs ws' r' := (h.a.perm p q).f
theorem pack_b {ws rooms : List Int} (hw : ∀ w ∈ ws, 0 < w) (h0 : ∀ x ∈ rooms, 0 ≤ x) : Packs ws rooms ↔ PackB ws rooms := by
  have hd := pack_desc (rooms := srtD rooms) hw (fun x hx => h0 x ((srtD_perm rooms).mem_iff.mp hx)) (srtD_desc rooms)
  constructor
  · exact fun h => (hd.mp (h.perm (.refl _) (srtD_perm _).symm)).perm (.refl _) (srtD_perm _)
  · exact fun h => (hd.mpr (h.perm (.refl _) (srtD_perm _).symm)).perm (.refl _) (srtD_perm _)
theorem blocks_le : ∀ {bs : List (List Int)}, (∀ b ∈ bs, b ≠ []) → bs.length ≤ bs.flatten.length
  | [], _ => Nat.le_refl _
  | b :: bs, h => by
    have ih := blocks_le (bs := bs) fun c hc => h c (List.mem_cons_of_mem _ hc)
    have : b ≠ [] := h b List.mem_cons_self
    have : 0 < b.length := List.length_pos_iff.mpr this
    rw [List.flatten_cons, List.length_append, List.length_cons]; omega
/-- only the largest rooms count, as many as there are seats -/
theorem packs_take {ws rooms : List Int} (hw : ∀ w ∈ ws, 0 < w) (h0 : ∀ x ∈ rooms, 0 ≤ x) : Packs ws ((srtD rooms).take ws.length) ↔ Packs ws rooms := by
  have h0' : ∀ x ∈ srtD rooms, 0 ≤ x := fun x hx => h0 x ((srtD_perm rooms).mem_iff.mp hx)
  rw [pack_b hw fun x hx => h0' x (List.mem_of_mem_take hx), pack_b hw h0]
  constructor
  · rintro ⟨bs, h1, h2, h3⟩
    have hl := blocks_le h1
    rw [h2.length_eq] at hl
    exact ⟨bs, h1, h2, ((fit_take (srtD_desc rooms) (by simpa using hl)).mp h3).perm (.refl _) (srtD_perm _)⟩
  · rintro ⟨bs, h1, h2, h3⟩
    have hl := blocks_le h1
    rw [h2.length_eq] at hl
    exact ⟨bs, h1, h2, (fit_take (srtD_desc rooms) (by simpa using hl)).mpr (h3.perm (.refl _) (srtD_perm _).symm)⟩
end Pk
namespace Pk
/-! ### can_pack -/
def placesV (left : List Int) (w : Int) : List Nat := (List.range left.length).filter fun i => decide (w ≤ left.getD i 0)
def ffV : List Int → List Int → Bool
  | [], _ => true
  | w :: ws, left => match placesV left w with
    | [] => false
    | j :: _ => ffV ws (left.set j (left.getD j 0 - w))
theorem ff_packs : ∀ (ws left : List Int), (∀ w ∈ ws, 0 < w) → (∀ x ∈ left, 0 ≤ x) → ffV ws left = true → Packs ws left
  | [], left, _, h0, _ => ⟨[], rfl, (fun i hi => by simp at hi), fun j r e => h0 r (List.mem_of_getElem? e)⟩
  | w :: ws, left, hw, h0, h => by
    unfold ffV at h
    cases hp : placesV left w with
    | nil => rw [hp] at h; cases h
    | cons j js =>
      rw [hp] at h
      have hj : j ∈ placesV left w := by rw [hp]; exact List.mem_cons_self
      unfold placesV at hj
      rw [List.mem_filter] at hj
      have hjl : j < left.length := by simpa using hj.1
      have hjw : w ≤ left.getD j 0 := by simpa using hj.2
      have ej : left.getD j 0 = left[j] := by rw [List.getD_eq_getElem?_getD, List.getElem?_eq_getElem hjl]; rfl
      have hge : ∀ (k : Nat) y, (left.set j (left.getD j 0 - w))[k]? = some y → ∃ z, left[k]? = some z ∧ z = y + (if j = k then w else 0) := by
        intro k y e
        by_cases hk : j = k
        · subst hk
          rw [List.getElem?_set_self hjl] at e
          cases e
          exact ⟨left[j], List.getElem?_eq_getElem hjl, by rw [ej, if_pos rfl]; omega⟩
        · rw [List.getElem?_set_ne hk] at e
          exact ⟨y, e, by rw [if_neg hk]; omega⟩
      obtain ⟨f, f1, f2, f3⟩ := ff_packs ws _ (fun x hx => hw x (List.mem_cons_of_mem _ hx)) (fun x hx => by
        obtain ⟨k, hk⟩ := List.getElem?_of_mem hx
        by_cases e : j = k
        · subst e
          rw [List.getElem?_set_self hjl] at hk
          cases hk; omega
        · rw [List.getElem?_set_ne e] at hk
          exact h0 x (List.mem_of_getElem? hk)) h
      refine ⟨j :: f, by simp [f1], fun i hi => ?_, fun k r e => ?_⟩
      · rcases List.mem_cons.mp hi with rfl | hi
        · exact hjl
        · have := f2 i hi
          simpa using this
      · have ep : put (j :: f) (w :: ws) k = (if j = k then w else 0) + put f ws k := rfl
        rw [ep]
        have hk : k < (left.set j (left.getD j 0 - w)).length := by rw [List.length_set]; exact (List.getElem?_eq_some_iff.mp e).1
        obtain ⟨z, e1, e2⟩ := hge k _ (List.getElem?_eq_getElem hk)
        have := f3 k _ (List.getElem?_eq_getElem hk)
        rw [e] at e1
        cases e1
        omega
theorem a2_sum {bs : List (List Int)} {rs : List Int} (h : A2 (fun b r => b.sum ≤ r) bs rs) : bs.flatten.sum ≤ rs.sum := by
  induction h with
  | nil => exact Int.le_refl _
  | cons h1 _ ih => rw [List.flatten_cons, List.sum_append, List.sum_cons]; omega
theorem sum_perm {l m : List Int} (h : l.Perm m) : l.sum = m.sum := by
  induction h with
  | nil => rfl
  | cons x _ ih => rw [List.sum_cons, List.sum_cons, ih]
  | swap x y l => simp only [List.sum_cons]; omega
  | trans _ _ h1 h2 => exact h1.trans h2
theorem sum_nn {l : List Int} (h : ∀ x ∈ l, 0 ≤ x) : 0 ≤ l.sum := by
  induction l with
  | nil => exact Int.le_refl _
  | cons a l ih =>
    have := ih fun x hx => h x (List.mem_cons_of_mem _ hx)
    have := h a List.mem_cons_self
    rw [List.sum_cons]; omega
theorem mem_le_sum {l : List Int} (h : ∀ x ∈ l, 0 ≤ x) {x : Int} (hx : x ∈ l) : x ≤ l.sum := by
  obtain ⟨a, b, rfl⟩ := List.append_of_mem hx
  have h1 := sum_nn (l := a) fun y hy => h y (by simp [hy])
  have h2 := sum_nn (l := b) fun y hy => h y (by simp [hy])
  rw [List.sum_append, List.sum_cons]; omega
theorem desc_head {l : List Int} (h : Desc l) {x : Int} (hx : x ∈ l) : x ≤ l.getD 0 0 := by
  cases l with
  | nil => cases hx
  | cons a l =>
    rcases List.mem_cons.mp hx with rfl | hx
    · exact Int.le_refl _
    · exact (List.pairwise_cons.mp h).1 x hx
/-- what can_pack answers, out being the last level of loads -/
def canV (some tops : List Int) (out : List (List Int)) : Bool := if (decide (tops = []) || (decide (tops.getD 0 0 < some.getD 0 0) || decide (tops.sum < some.sum))) = true then false else ffV some tops || !decide (out = [])
theorem can_iff {ws rooms : List Int} {out : List (List Int)} (hne : ws ≠ []) (hw : ∀ w ∈ ws, 0 < w) (h0 : ∀ x ∈ rooms, 0 ≤ x) (h : Lvs (srtD rooms) [[]] (srtD ws) out) : canV (srtD ws) (srtD rooms) out = true ↔ Packs ws rooms := by
  have hw' : ∀ w ∈ srtD ws, 0 < w := fun w hw1 => hw w ((srtD_perm ws).mem_iff.mp hw1)
  have h0' : ∀ x ∈ srtD rooms, 0 ≤ x := fun x hx => h0 x ((srtD_perm rooms).mem_iff.mp hx)
  have hP : Packs ws rooms ↔ Packs (srtD ws) (srtD rooms) := ⟨fun z => z.perm (srtD_perm _).symm (srtD_perm _).symm, fun z => z.perm (srtD_perm _) (srtD_perm _)⟩
  rw [hP]
  unfold canV
  constructor
  · intro hc
    split at hc
    · cases hc
    · rw [Bool.or_eq_true] at hc
      rcases hc with hc | hc
      · exact ff_packs _ _ hw' h0' hc
      · exact ((lvs_b (srtD_desc _) h (by simpa using hc)).a h0').f
  · intro hp
    have ha := hp.a
    obtain ⟨bs, a1, a2⟩ := ha
    have hne' : srtD ws ≠ [] := fun e => hne (List.perm_nil.mp (by rw [← e]; exact (srtD_perm ws).symm))
    obtain ⟨w, hwm⟩ := List.exists_mem_of_ne_nil _ hne'
    rw [if_neg]
    · rw [Bool.or_eq_true]
      right
      have := lvs_f (srtD_desc _) h0' hw' h hp
      simpa using this
    · have big : ∀ w ∈ srtD ws, ∃ r ∈ srtD rooms, w ≤ r := by
        intro w hwm
        obtain ⟨b, hb, hwb⟩ := List.mem_flatten.mp (a2.mem_iff.mpr hwm)
        obtain ⟨j, hj⟩ := List.getElem?_of_mem hb
        obtain ⟨r, e1, e2⟩ := a1.get hj
        have hb0 : ∀ x ∈ b, 0 ≤ x := fun x hx => Int.le_of_lt (hw' x (a2.mem_iff.mp (List.mem_flatten.mpr ⟨b, hb, hx⟩)))
        have := mem_le_sum hb0 hwb
        exact ⟨r, List.mem_of_getElem? e1, by omega⟩
      intro hc
      rw [Bool.or_eq_true, Bool.or_eq_true, decide_eq_true_eq, decide_eq_true_eq, decide_eq_true_eq] at hc
      rcases hc with hc | hc | hc
      · obtain ⟨r, hr, _⟩ := big w hwm
        rw [hc] at hr; cases hr
      · have hh : (srtD ws).getD 0 0 ∈ srtD ws := by
          cases q : srtD ws with
          | nil => exact absurd q hne'
          | cons a l => simp
        obtain ⟨r, hr, hle⟩ := big _ hh
        have := desc_head (srtD_desc rooms) hr
        omega
      · have h1 := a2_sum a1
        rw [sum_perm a2] at h1
        omega
/-- more rooms -/
theorem Packs.more {ws rooms rooms' : List Int} (h : Packs ws rooms) (s : rooms.Sublist rooms') (h0 : ∀ x ∈ rooms', 0 ≤ x) : Packs ws rooms' := by
  obtain ⟨bs, h1, h2⟩ := h.a
  have : ∀ {rooms rooms' : List Int}, rooms.Sublist rooms' → ∀ bs : List (List Int), A2 (fun b r => b.sum ≤ r) bs rooms → (∀ x ∈ rooms', 0 ≤ x) → ∃ bs', A2 (fun b r => b.sum ≤ r) bs' rooms' ∧ bs'.flatten = bs.flatten := by
    intro rooms rooms' s
    induction s with
    | slnil => intro bs h _; exact ⟨bs, h, rfl⟩
    | cons a _ ih =>
      intro bs h h0
      obtain ⟨bs', h1, h2⟩ := ih bs h fun x hx => h0 x (List.mem_cons_of_mem _ hx)
      exact ⟨[] :: bs', .cons (h0 a List.mem_cons_self) h1, by rw [List.flatten_cons, h2]; rfl⟩
    | cons_cons a _ ih =>
      intro bs h h0
      cases h with
      | @cons b _ bs _ h t =>
        obtain ⟨bs', h1, h2⟩ := ih bs t fun x hx => h0 x (List.mem_cons_of_mem _ hx)
        exact ⟨b :: bs', .cons h h1, by rw [List.flatten_cons, List.flatten_cons, h2]⟩
  obtain ⟨bs', h3, h4⟩ := this s bs h1 h0
  exact PackA.f ⟨bs', h3, by rw [h4]; exact h2⟩
theorem packs_nil {ws : List Int} (hne : ws ≠ []) : ¬ Packs ws [] := by
  rintro ⟨f, h1, h2, _⟩
  cases f with
  | nil => exact hne (List.eq_nil_of_length_eq_zero h1.symm)
  | cons i f => have := h2 i List.mem_cons_self; simp at this
end Pk
namespace Pk
/-! ### masks -/
/-- the items whose bit is in the mask -/
def pick {α : Type} : Nat → List α → List α
  | _, [] => []
  | m, x :: xs => if m % 2 = 1 then x :: pick (m / 2) xs else pick (m / 2) xs
def bitAt (m k : Nat) : Bool := decide (m / 2 ^ k % 2 = 1)
theorem bitAt_zero (m : Nat) : bitAt m 0 = decide (m % 2 = 1) := by unfold bitAt; simp
theorem bitAt_succ (m k : Nat) : bitAt m (k + 1) = bitAt (m / 2) k := by
  unfold bitAt
  rw [Nat.pow_succ, Nat.mul_comm, ← Nat.div_div_eq_div_mul]
theorem pick_sub {α : Type} : ∀ (xs : List α) (m : Nat), (pick m xs).Sublist xs
  | [], m => by unfold pick; exact .slnil
  | x :: xs, m => by
    unfold pick
    split
    · exact (pick_sub xs _).cons_cons x
    · exact (pick_sub xs _).cons x
theorem pick_zero {α : Type} : ∀ xs : List α, pick 0 xs = []
  | [] => rfl
  | x :: xs => by unfold pick; simpa using pick_zero xs
theorem pick_all {α : Type} {xs U : List α} (h : U.Sublist xs) : ∃ m, m < 2 ^ xs.length ∧ pick m xs = U := by
  induction h with
  | slnil => exact ⟨0, by simp, rfl⟩
  | @cons U xs x _ ih =>
    obtain ⟨m, h1, h2⟩ := ih
    refine ⟨2 * m, by rw [List.length_cons, Nat.pow_succ]; omega, ?_⟩
    unfold pick
    rw [if_neg (by omega), Nat.mul_div_cancel_left _ (by decide)]
    exact h2
  | @cons_cons U xs x _ ih =>
    obtain ⟨m, h1, h2⟩ := ih
    refine ⟨2 * m + 1, by rw [List.length_cons, Nat.pow_succ]; omega, ?_⟩
    unfold pick
    rw [if_pos (by omega), show (2 * m + 1) / 2 = m by omega, h2]
theorem bit_le {m : Nat} : ∀ {k : Nat}, bitAt m k = true → 2 ^ k ≤ m := by
  intro k h
  unfold bitAt at h
  have h : m / 2 ^ k % 2 = 1 := by simpa using h
  apply Classical.byContradiction
  intro hc
  rw [Nat.div_eq_of_lt (by omega)] at h
  cases h
theorem pick_less {α : Type} : ∀ (xs : List α) (m k : Nat), bitAt m k = true → (pick (m - 2 ^ k) xs).Sublist (pick m xs)
  | [], m, k, _ => by unfold pick; exact .slnil
  | x :: xs, m, 0, h => by
    rw [bitAt_zero] at h
    have h : m % 2 = 1 := by simpa using h
    unfold pick
    rw [if_pos h, if_neg (by simp; omega), show (m - 2 ^ 0) / 2 = m / 2 by simp; omega]
    exact .cons x (.refl _)
  | x :: xs, m, k + 1, h => by
    have hl := bit_le h
    rw [bitAt_succ] at h
    have ih := pick_less xs (m / 2) k h
    rw [Nat.pow_succ] at hl
    have e1 : (m - 2 ^ (k + 1)) % 2 = m % 2 := by rw [Nat.pow_succ]; omega
    have e2 : (m - 2 ^ (k + 1)) / 2 = m / 2 - 2 ^ k := by rw [Nat.pow_succ]; omega
    unfold pick
    rw [e1, e2]
    split
    · exact ih.cons_cons x
    · exact ih
theorem pick_more {α : Type} : ∀ (xs : List α) (m k : Nat), bitAt m k = false → (pick m xs).Sublist (pick (m + 2 ^ k) xs)
  | [], m, k, _ => by unfold pick; exact .slnil
  | x :: xs, m, 0, h => by
    rw [bitAt_zero] at h
    have h : ¬ m % 2 = 1 := by simpa using h
    unfold pick
    rw [if_neg h, if_pos (by simp; omega), show (m + 2 ^ 0) / 2 = m / 2 by simp; omega]
    exact .cons x (.refl _)
  | x :: xs, m, k + 1, h => by
    rw [bitAt_succ] at h
    have ih := pick_more xs (m / 2) k h
    have e1 : (m + 2 ^ (k + 1)) % 2 = m % 2 := by rw [Nat.pow_succ]; omega
    have e2 : (m + 2 ^ (k + 1)) / 2 = m / 2 + 2 ^ k := by rw [Nat.pow_succ]; omega
    unfold pick
    rw [e1, e2]
    split
    · exact ih.cons_cons x
    · exact ih
theorem more_lt : ∀ (n m k : Nat), k < n → m < 2 ^ n → bitAt m k = false → m + 2 ^ k < 2 ^ n
  | 0, m, k, h, _, _ => by omega
  | n + 1, m, 0, _, hm, h => by
    rw [bitAt_zero] at h
    have h : ¬ m % 2 = 1 := by simpa using h
    rw [Nat.pow_succ] at hm ⊢
    simp; omega
  | n + 1, m, k + 1, hk, hm, h => by
    rw [bitAt_succ] at h
    rw [Nat.pow_succ] at hm
    have ih := more_lt n (m / 2) k (by omega) (by omega) h
    rw [Nat.pow_succ, Nat.pow_succ]
    omega
/-- the greatest masks without a property that grows -/
theorem greatest {α : Type} {xs : List α} (Hv : Nat → Prop) (m : Nat) (hm : m < 2 ^ xs.length) (h : ¬ Hv m) : ∃ M, M < 2 ^ xs.length ∧ ¬ Hv M ∧ (∀ k, k < xs.length → bitAt M k = false → Hv (M + 2 ^ k)) ∧ (pick m xs).Sublist (pick M xs) := by
  by_cases hx : ∀ k, k < xs.length → bitAt m k = false → Hv (m + 2 ^ k)
  · exact ⟨m, hm, h, hx, .refl _⟩
  · have : ∃ k, k < xs.length ∧ bitAt m k = false ∧ ¬ Hv (m + 2 ^ k) := by
      apply Classical.byContradiction
      intro hc
      exact hx fun k h1 h2 => Classical.byContradiction fun h3 => hc ⟨k, h1, h2, h3⟩
    obtain ⟨k, h1, h2, h3⟩ := this
    have h4 := more_lt _ _ _ h1 hm h2
    obtain ⟨M, a, b, c, d⟩ := greatest (xs := xs) Hv (m + 2 ^ k) h4 h3
    exact ⟨M, a, b, c, (pick_more xs m k h2).trans d⟩
termination_by 2 ^ xs.length - m
decreasing_by
  have : 0 < 2 ^ k := Nat.pow_pos (by decide)
  omega
/-- how a table of heavy masks comes: each mask is heavy if one with a bit less is, or by itself -/
theorem heavy_step {Hv own : Nat → Prop} (hown : ∀ m, own m ↔ Hv m) (mono : ∀ m k, bitAt m k = true → Hv (m - 2 ^ k) → Hv m) {n m : Nat} : ((∃ k, k < n ∧ bitAt m k = true ∧ Hv (m - 2 ^ k)) ∨ own m) ↔ Hv m := by
  constructor
  · rintro (⟨k, _, h1, h2⟩ | h)
    · exact mono m k h1 h2
    · exact (hown m).mp h
  · exact fun h => .inr ((hown m).mpr h)
end Pk
namespace Pk
def seatsV {α : Type} (xs : List α) : Nat → List (List α)
  | 0 => [[]]
  | n + 1 => (seatsV xs n).flatMap fun one => xs.map fun x => one ++ [x]
theorem seatsV_map {α β : Type} (f : α → β) (xs : List α) : ∀ n, seatsV (xs.map f) n = (seatsV xs n).map (List.map f)
  | 0 => rfl
  | n + 1 => by
    unfold seatsV
    rw [seatsV_map f xs n, List.flatMap_map, List.map_flatMap]
    congr 1
    funext one
    rw [List.map_map, List.map_map]
    congr 1
    funext x
    simp
theorem seatsV_len {α : Type} (xs : List α) : ∀ n, (seatsV xs n).length = xs.length ^ n
  | 0 => rfl
  | n + 1 => by
    unfold seatsV
    rw [List.length_flatMap]
    have : ((seatsV xs n).map fun one => (xs.map fun x => one ++ [x]).length) = (seatsV xs n).map fun _ => xs.length := by simp
    rw [this, List.map_const', List.sum_replicate_nat, seatsV_len xs n, Nat.pow_succ]
theorem seatsV_each {α : Type} (xs : List α) : ∀ n, ∀ s ∈ seatsV xs n, s.length = n ∧ ∀ x ∈ s, x ∈ xs
  | 0, s, h => by
    rw [List.mem_singleton.mp h]; simp
  | n + 1, s, h => by
    unfold seatsV at h
    obtain ⟨one, h1, h2⟩ := List.mem_flatMap.mp h
    obtain ⟨x, hx, rfl⟩ := List.mem_map.mp h2
    obtain ⟨h3, h4⟩ := seatsV_each xs n one h1
    refine ⟨by simp [h3], fun y hy => ?_⟩
    rcases List.mem_append.mp hy with z | z
    · exact h4 y z
    · rw [List.mem_singleton.mp z]; exact hx
theorem seats_mem {α : Type} (xs : List α) : ∀ (n : Nat) (s : List α), s ∈ seatsV xs n ↔ s.length = n ∧ ∀ x ∈ s, x ∈ xs := by
  intro n
  induction n with
  | zero =>
    intro s
    simp only [seatsV, List.mem_singleton, List.length_eq_zero_iff]
    exact ⟨fun h => ⟨h, by rw [h]; simp⟩, fun h => h.1⟩
  | succ n ih =>
    intro s
    constructor
    · exact seatsV_each xs (n + 1) s
    · rintro ⟨hl, hm⟩
      have hne : s ≠ [] := by intro e; rw [e] at hl; simp at hl
      have e := List.dropLast_concat_getLast hne
      unfold seatsV
      refine List.mem_flatMap.mpr ⟨s.dropLast, (ih _).mpr ⟨by rw [List.length_dropLast, hl]; rfl, fun x hx => hm x ((List.dropLast_sublist s).subset hx)⟩, ?_⟩
      exact List.mem_map.mpr ⟨s.getLast hne, hm _ (List.getLast_mem hne), e⟩
end Pk
namespace Pk
open PySem L2 DL
def top (i : Nat) : Stmt := PySem.Challenge.pw_packedseats_k84_shelves_parted.main.body.getD i (.Pass ⟨0, 0, 0, 0⟩)
def clsB : Stmt → List Stmt
  | .ClassDef (body := b) .. => b
  | _ => []
def inTop (i j : Nat) : Stmt := (clsB (top i)).getD j (.Pass ⟨0, 0, 0, 0⟩)
abbrev s_wall : Stmt := top 0
abbrev s_meets_bound : Stmt := top 2
abbrev s_meets : Stmt := top 3
abbrev s_exactly : Stmt := top 4
abbrev s_is_integer : Stmt := top 6
abbrev s_is_between : Stmt := top 7
abbrev s_rooms_of : Stmt := top 9
abbrev s_fits : Stmt := top 10
abbrev s_next_loads : Stmt := top 11
abbrev s_load_levels : Stmt := top 12
abbrev s_first_fit : Stmt := top 13
abbrev s_can_pack : Stmt := top 14
abbrev s_bits_of : Stmt := top 16
abbrev s_members : Stmt := top 17
abbrev s_Packer_init : Stmt := inTop 18 0
abbrev s_Packer_is_heavy : Stmt := inTop 18 1
abbrev s_heavy_masks : Stmt := top 19
abbrev s_heavy_table : Stmt := top 20
abbrev s_light_sets : Stmt := top 21
abbrev s_all_sides : Stmt := top 23
abbrev s_Shelf_init : Stmt := inTop 25 0
abbrev s_Shelf_makes : Stmt := inTop 25 1
abbrev s_parts_for : Stmt := top 26
abbrev s_parted : Stmt := top 27
abbrev s_Wrong_init : Stmt := inTop 30 0
abbrev s_are_weights : Stmt := top 36
abbrev s_are_quotas : Stmt := top 37
abbrev s_Council_init : Stmt := inTop 38 0
abbrev s_Council_weights : Stmt := inTop 38 1
abbrev s_Council_quotas : Stmt := inTop 38 2
abbrev s_Council_total : Stmt := inTop 38 3
abbrev s_Council_width : Stmt := inTop 38 4
abbrev s_Council_allowance : Stmt := inTop 38 5
abbrev s_Council_mirrored : Stmt := inTop 38 6
abbrev s_Council_part : Stmt := inTop 38 7
abbrev s_Council_eq : Stmt := inTop 38 8
abbrev s_Council_len : Stmt := inTop 38 9
abbrev s_Council_repr : Stmt := inTop 38 10
abbrev s_law_bag : Stmt := top 40
abbrev s_law_take : Stmt := top 41
abbrev s_law_alike : Stmt := top 42
abbrev s_law_council : Stmt := top 43
abbrev s_law_made : Stmt := top 44
abbrev s_law_settle : Stmt := top 45
abbrev s_law_row : Stmt := top 46
abbrev s_law_every : Stmt := top 47
abbrev s_law_due : Stmt := top 48
abbrev s_law_other : Stmt := top 49
abbrev s_law : Stmt := top 50
end Pk
namespace Pk
open PySem L2 DL
/-! ### data -/
structure Bd where
  col : Nat
  least : Bool
  val : Int
  deriving DecidableEq
abbrev Sd := Nat × Bool
def wayS (b : Bool) : Str := if b then "least" else "most"
theorem wayS_eq (b : Bool) : decide (wayS b = ("least" : Str)) = b := by cases b <;> decide +kernel
def bdD (b : Bd) : PyData := .tuple [.int b.col, .str (wayS b.least), .int b.val]
def sdD (s : Sd) : PyData := .tuple [.int s.1, .str (wayS s.2)]
def rowD (r : List Int) : PyData := .tuple (r.map .int)
def intsD (r : List Int) : PyData := .list (r.map .int)
def bdsD (bs : List Bd) : PyData := .list (bs.map bdD)
def sdsD (bs : List Sd) : PyData := .list (bs.map sdD)
def meetsB (r : List Int) (b : Bd) : Bool := if b.least then decide (b.val ≤ r.getD b.col 0) else decide (r.getD b.col 0 ≤ b.val)
def meetsV (r : List Int) (bs : List Bd) : Bool := bs.all (meetsB r)
/-- the names of the built-ins that the text uses -/
def bnames : List Str := ["all", "any", "range", "len", "zip", "sum", "list", "tuple", "sorted", "int", "isinstance", "bool", "abs", "max", "min", "repr", "enumerate", "set"]
abbrev BN (mg : Str → Option Value) : Prop := ∀ x ∈ bnames, mg x = none
abbrev CalP (P : Program) (w : World) (K : PySem.W.Frag) (mg : Str → Option Value) (base : Heap) (k : Nat) (x : Str) (pr : Hp → List PyData → RR → Prop) : Prop := C8.Cal P w K mg base k x (spP K pr) []
section
variable {P : Program} {w : World} {K : PySem.W.Frag} {mg : Str → Option Value} {base : Heap}
theorem sc_meets_bound : FnScope ["row", "bound", "column", "way", "value"] ["row", "bound"] (defScope s_meets_bound) := ⟨rfl, rfl, rfl, by decide +kernel, rfl, by decide +kernel, by decide +kernel⟩
def pr_meets_bound (K : PySem.W.Frag) : Hp → List PyData → RR → Prop := fun _ ds R => ∃ (r : List Int) (b : Bd), ds = [rowD r, bdD b] ∧ b.col < r.length ∧ R = rAt K (.bool (meetsB r b))
theorem ix_row {r : List Int} {c : Nat} (h : c < r.length) : atI (r.map PyData.int) (c : Int) = some (.int (r.getD c 0)) := by
  refine atI_nat' ?_
  rw [List.getElem?_map, List.getElem?_eq_getElem h]
  simp [List.getD, h]
theorem ok_meets_bound {f : Addr} {fd : FuncData} (F : Fun K "meets_bound" "meets_bound" s_meets_bound f fd) : FnOk P w K mg base CX0 1 f fd ["row", "bound"] (spP K (pr_meets_bound K)) := by
  refine fun_go F sc_meets_bound (by rintro G ds R ⟨r, b, rfl, _⟩; rfl) ?_
  rintro cdv A outer s H0 E G H ds R hr ⟨r, b, rfl, hc, rfl⟩
  refine go_asg (ev_v 1 rfl) (tg_tup sc_meets_bound.nd rfl (nm_cons 2 (nm_cons 3 (nm_cons 4 .nil)))) ?_
  refine go_if ((evt_cmp od_eqS (ev_v 3 rfl) ev_str).is (wayS_eq _)) (fun h => ?_) (fun h => ?_)
  · refine go_retP (EvR.is (ev_cmp od_ge (ev_ix (ixd_tup (ix_row hc)) (ev_v 0 rfl) (ev_v 2 rfl)) (ev_v 4 rfl)) ?_) as_l
    unfold meetsB
    rw [if_pos h]
  · refine go_nil' ?_
    refine go_retP (EvR.is (ev_cmp od_le (ev_ix (ixd_tup (ix_row hc)) (ev_v 0 rfl) (ev_v 2 rfl)) (ev_v 4 rfl)) ?_) as_l
    unfold meetsB
    rw [if_neg (by rw [h]; decide)]
theorem sc_meets : FnScope ["row", "wish", "bound"] ["row", "wish"] (defScope s_meets) := ⟨rfl, rfl, rfl, by decide +kernel, rfl, by decide +kernel, by decide +kernel⟩
def pr_meets (K : PySem.W.Frag) : Hp → List PyData → RR → Prop := fun _ ds R => ∃ (r : List Int) (bs : List Bd), ds = [rowD r, bdsD bs] ∧ bs.length ≤ 1000 ∧ (∀ b ∈ bs, b.col < r.length) ∧ R = rAt K (.bool (meetsV r bs))
theorem ok_meets {f : Addr} {fd : FuncData} (F : Fun K "meets" "meets" s_meets f fd) (B : BN mg) (c1 : CalP P w K mg base 1 "meets_bound" (pr_meets_bound K)) : FnOk P w K mg base CX0 2 f fd ["row", "wish"] (spP K (pr_meets K)) := by
  refine fun_go F sc_meets (by rintro G ds R ⟨r, b, rfl, _⟩; rfl) ?_
  rintro cdv A outer s H0 E G H ds R hr ⟨r, bs, rfl, hl, hc, rfl⟩
  refine go_rt rfl as_l (ev_all rfl rfl rfl (B "all" (by decide +kernel)) (EvR.frz ?_))
  exact evl_map [("bound", 2)] _ (fun b Δ => Δ.set 2 (some (bdD b))) (it_list (ev_v 1 rfl)) rfl sc_meets.nd (blkOk_by (N := ["row", "wish", "bound"]) (sc := defScope s_meets) (by decide +kernel)) (by omega) (is := [2]) (by decide) (fun b hb => fun _ _ _ _ _ => tg_name 2 sc_meets.nd)
      (fun D es hD b hb => fun _ _ _ _ _ => ev_c c1 hr rfl (ea_cons (ev_v 0 rfl) (ea_cons (ev_v 2 rfl) ea_nil)) (fun _ _ _ => ⟨r, b, rfl, hc b hb, rfl⟩))
end
end Pk
namespace Pk
open PySem L2 DL
abbrev CalM (P : Program) (w : World) (K : PySem.W.Frag) (mg : Str → Option Value) (base : Heap) (k : Nat) (x : Str) (pr : Hp → List PyData → As → RR → Prop) : Prop := C8.Cal P w K mg base k x (spM K pr) []
abbrev CalB (P : Program) (w : World) (K : PySem.W.Frag) (mg : Str → Option Value) (base : Heap) (k : Nat) (x : Str) (pr : Hp → List PyData → RR → Prop) : Prop := C8.Cal P w K mg base k x (spB K pr) []
abbrev MetP (P : Program) (w : World) (K : PySem.W.Frag) (mg : Str → Option Value) (base : Heap) (k : Nat) (C : Addr) (x : Str) (pr : Hp → List PyData → RR → Prop) : Prop := C8.Met P w K mg base k C x (spP K pr) []
section
variable {P : Program} {w : World} {K : PySem.W.Frag} {mg : Str → Option Value} {base : Heap}
/-! ### whole numbers -/
theorem sc_is_integer : FnScope ["thing"] ["thing"] (defScope s_is_integer) := ⟨rfl, rfl, rfl, by decide +kernel, rfl, by decide +kernel, by decide +kernel⟩
def pr_is_integer (K : PySem.W.Frag) : Hp → List PyData → RR → Prop := fun _ ds R => ∃ i : Int, ds = [.int i] ∧ R = rAt K (.bool true)
theorem ok_is_integer {f : Addr} {fd : FuncData} (F : Fun K "is_integer" "is_integer" s_is_integer f fd) (B : BN mg) : FnOk P w K mg base CX0 1 f fd ["thing"] (spP K (pr_is_integer K)) := by
  refine fun_go F sc_is_integer (by rintro G ds R ⟨i, rfl, _⟩; rfl) ?_
  rintro cdv A outer s H0 E G H ds R hr ⟨i, rfl, rfl⟩
  refine go_rt rfl as_l (ev_and (k := true) (k' := true) (ev_isi (t := "int") (tn := "int") rfl rfl (B _ (by decide +kernel)) rfl (B _ (by decide +kernel)) (by decide +kernel) (ev_v 0 rfl) rfl (by decide +kernel)) fun _ => ev_one ?_)
  exact ev_not (k := false) (ev_isi (t := "int") (tn := "bool") rfl rfl (B _ (by decide +kernel)) rfl (B _ (by decide +kernel)) (by decide +kernel) (ev_v 0 rfl) rfl (by decide +kernel))
theorem sc_is_between : FnScope ["thing", "least", "greatest"] ["thing", "least", "greatest"] (defScope s_is_between) := ⟨rfl, rfl, rfl, by decide +kernel, rfl, by decide +kernel, by decide +kernel⟩
def pr_is_between (K : PySem.W.Frag) : Hp → List PyData → RR → Prop := fun _ ds R => ∃ i l g : Int, ds = [.int i, .int l, .int g] ∧ R = rAt K (.bool (decide (l ≤ i) && decide (i ≤ g)))
theorem ok_is_between {f : Addr} {fd : FuncData} (F : Fun K "is_between" "is_between" s_is_between f fd) (c1 : CalP P w K mg base 1 "is_integer" (pr_is_integer K)) : FnOk P w K mg base CX0 2 f fd ["thing", "least", "greatest"] (spP K (pr_is_between K)) := by
  refine fun_go F sc_is_between (by rintro G ds R ⟨i, l, g, rfl, _⟩; rfl) ?_
  rintro cdv A outer s H0 E G H ds R hr ⟨i, l, g, rfl, rfl⟩
  refine go_rt rfl as_l (ev_and (k := true) (ev_c c1 hr rfl (ea_cons (ev_v 0 rfl) ea_nil) fun _ _ _ => ⟨i, rfl, rfl⟩) fun _ => ev_one ?_)
  exact ev_chain od_le (fun _ => od_le) ⟨_, op_le⟩ (ev_v 1 rfl) (ev_v 0 rfl) (ev_v 2 rfl)
/-! ### bits -/
def bitsV (n : Nat) : List Int := (List.range n).map fun k => (2 : Int) ^ k
theorem bitsV_len (n : Nat) : (bitsV n).length = n := by simp [bitsV]
theorem sc_bits_of : FnScope ["many", "found", "index"] ["many"] (defScope s_bits_of) := ⟨rfl, rfl, rfl, by decide +kernel, rfl, by decide +kernel, by decide +kernel⟩
def pr_bits_of (K : PySem.W.Frag) : Hp → List PyData → RR → Prop := fun _ ds R => ∃ n : Nat, ds = [.int n] ∧ n ≤ 10000 ∧ R = rNl K ((bitsV n).map .int)
theorem ok_bits_of {f : Addr} {fd : FuncData} (F : Fun K "bits_of" "bits_of" s_bits_of f fd) (B : BN mg) : FnOk P w K mg base CX0 1 f fd ["many"] (spP K (pr_bits_of K)) := by
  refine fun_go F sc_bits_of (by rintro G ds R ⟨n, rfl, _⟩; rfl) ?_
  rintro cdv A outer s H0 E G H ds R hr ⟨n, rfl, hn, rfl⟩
  have hu := hr.units
  refine go_setL 1 (evl_lst ea_nil) sc_bits_of.nd fun q hq => ?_
  have hqH : H q = none := fresh_ext fun z => hq (.inl z)
  refine go_for (α := Nat) (xs := List.range n) (enc := fun k => .int (k : Int)) (is := [2]) (fun k Δ => Δ.set 2 (some (.int (k : Int)))) (it_rng rfl (B _ (by decide +kernel)) (ev_v 0 rfl) (by omega)) (fun k hk => tg_name 2 sc_bits_of.nd) rfl PassesOwn.never
    (fun i Δ' S' => ∃ o, Δ' = [some (.int n), some (ob q), o] ∧ S' = (((As.ext G H).and (.fact (Same G) fun _ _ e h => h.trans e)).and (.acc K q ((bitsV i).map .int)))) ⟨none, rfl, rfl⟩ ?_ ?_
  · rintro i k _ _ hk ⟨o, rfl, rfl⟩
    have hi : i < n := by have := (List.getElem?_eq_some_iff.mp hk).1; simpa using this
    have hke : k = i := by
      rw [List.getElem?_range hi] at hk; cases hk; rfl
    subst hke
    refine go_app (d := .int (2 ^ k)) (ev_v 1 rfl) ?_ (As.nf hq) (by simp [bitsV]; omega) ?_
    · refine ev_if (k := decide (k = 0)) (EvT.is (evt_cmpF (of_eqD hu (shaped_ints _) shaped_nil) (EvR.mu (ev_v 1 rfl) as_r) (EvR.m (EvR.frz (evl_lst ea_nil)))) ?_) (fun h => ?_) (fun h => ?_)
      · rw [eqv_nil]
        cases k with
        | zero => rfl
        | succ k => simp [bitsV, List.range_succ]
      · have : k = 0 := by simpa using h
        subst this
        exact ev_int
      · have hk0 : k ≠ 0 := by simpa using h
        refine EvR.is (ev_op (od_mul (.inl ⟨by decide, by decide⟩)) ev_int (ev_ixM (d := .int (2 ^ (k - 1))) (i := -1) as_r ?_ (ev_v 1 rfl) (ev_un ud_neg ev_int))) ?_
        · refine atI_last ?_
          rw [List.length_map, bitsV_len, List.getElem?_map]
          unfold bitsV
          rw [List.getElem?_map, List.getElem?_range (by omega)]
          rfl
        · obtain ⟨m, rfl⟩ : ∃ m, k = m + 1 := ⟨k - 1, by omega⟩
          show PyData.int (2 * 2 ^ m) = .int (2 ^ (m + 1))
          rw [Int.pow_succ, Int.mul_comm]
    · refine go_turn ⟨some (.int (k : Int)), rfl, ?_⟩
      congr 1
      unfold bitsV
      rw [List.range_succ, List.map_append, List.map_append]
      rfl
  · rintro _ _ ⟨o, rfl, rfl⟩
    rw [List.length_range]
    exact go_retA (ev_v 1 rfl) (as_and (as_l.trans as_l) as_r) hqH
/-- the items whose bit the mask has -/
def membersV {α : Type} (xs : List α) (m : Int) : List α := ((xs.zip (bitsV xs.length)).filter fun z => !decide (Builtin.bitAnd m z.2 = 0)).map (·.1)
theorem membersV_map {α β : Type} (f : α → β) (xs : List α) (m : Int) : membersV (xs.map f) m = (membersV xs m).map f := by
  unfold membersV
  rw [List.length_map, List.zip_map_left, List.filter_map, List.map_map, List.map_map]
  rfl
theorem sc_members : FnScope ["items", "mask", "item", "bit"] ["items", "mask"] (defScope s_members) := ⟨rfl, rfl, rfl, by decide +kernel, rfl, by decide +kernel, by decide +kernel⟩
def pr_members (K : PySem.W.Frag) : Hp → List PyData → RR → Prop := fun _ ds R => ∃ (xs : List PyData) (m : Int), ds = [.list xs, .int m] ∧ xs.length ≤ 10000 ∧ R = rNl K (membersV xs m)
theorem zip_enc {β : Type} (f : β → PyData) (xs : List PyData) (ys : List β) : ((xs.zip (ys.map f)).map fun z => PyData.tuple [z.1, z.2]) = (xs.zip ys).map fun z => .tuple [z.1, f z.2] := by
  rw [List.zip_map_right, List.map_map]
  rfl
theorem ok_members {f : Addr} {fd : FuncData} (F : Fun K "members" "members" s_members f fd) (B : BN mg) (c1 : CalP P w K mg base 1 "bits_of" (pr_bits_of K)) : FnOk P w K mg base CX0 2 f fd ["items", "mask"] (spP K (pr_members K)) := by
  refine fun_go F sc_members (by rintro G ds R ⟨i, m, rfl, _⟩; rfl) ?_
  rintro cdv A outer s H0 E G H ds R hr ⟨xs, m, rfl, hl, rfl⟩
  refine go_rt rfl as_l ?_
  refine evl_fil (α := PyData × Int) [("item", 2), ("bit", 3)] (fun z => !decide (Builtin.bitAnd m z.2 = 0)) (·.1) (enc := fun z => .tuple [z.1, .int z.2]) (is := [2, 3]) (fun z Δ => sets Δ [2, 3] [z.1, .int z.2]) ?_ rfl sc_members.nd (blkOk_by (N := ["items", "mask", "item", "bit"]) (sc := defScope s_members) (by decide +kernel)) ?_ (by decide) ?_ ?_ ?_
  · refine ItD.is (it_zip false false rfl (B _ (by decide +kernel)) (ev_v 0 rfl) (EvR.frz (ev_c c1 hr rfl (ea_cons (ev_len rfl rfl (B _ (by decide +kernel)) (EvR.m (ev_v 0 rfl))) ea_nil) fun _ _ _ => ⟨xs.length, rfl, hl, rfl⟩))) (zip_enc _ _ _)
  · rw [List.length_zip]; omega
  · exact fun z hz => fun _ _ _ _ _ => tg_tup sc_members.nd rfl (nm_cons 2 (nm_cons 3 .nil))
  · exact fun D es hD z hz => fun _ _ _ _ _ => evt_cmp od_neI (ev_op od_and (ev_v 1 rfl) (ev_v 3 rfl)) ev_int
  · exact fun D es hD z hz _ => fun _ _ _ _ _ => ev_v 2 rfl
end
end Pk
namespace Pk
open PySem L2 DL
/-! ### councils -/
structure Cn where
  ws : List Int
  qs : List Int
  deriving DecidableEq
structure CnOk (c : Cn) : Prop where
  w2 : 2 ≤ c.ws.length
  w7 : c.ws.length ≤ 7
  w : ∀ x ∈ c.ws, 1 ≤ x ∧ x ≤ 1000000
  q1 : 1 ≤ c.qs.length
  q6 : c.qs.length ≤ 6
  q : ∀ x ∈ c.qs, 1 ≤ x ∧ x ≤ c.ws.sum
def cnNs : List Str := ["seat_weights", "column_quotas"]
def cnD (Cc a : Addr) (c : Cn) : PyData := insD a Cc cnNs [intsD c.ws, intsD c.qs]
/-- what the walk asks of the class Council -/
structure CF (K : PySem.W.Frag) (Cc : Addr) : Prop where
  cl : Cls K Cc
  n1 : NoAttr K Cc "seat_weights"
  n2 : NoAttr K Cc "column_quotas"
def roomV (c : Cn) (s : Sd) : Int := if s.2 then c.qs.getD s.1 0 - 1 else c.ws.sum - c.qs.getD s.1 0
abbrev GI (mg : Str → Option Value) (x : Str) (i : Int) : Prop := ∃ u, mg x = some u ∧ RelV (.int i) u
section
variable {P : Program} {w : World} {K : PySem.W.Frag} {mg : Str → Option Value} {base : Heap} {Cc : Addr}
theorem ev_gi {X : Cx} {x : Str} {i : Int} {Δ : De} {S : As} {pos : Pos} (hg : Gl X x) (h : GI X.mg x i) (hd : (x == ("__debug__" : Str)) = false := by decide) : Ev X (.Name x pos) Δ S (.int i) := by
  obtain ⟨u, hm, r⟩ := h
  exact ev_gl hg hm r (fun _ _ _ => .int i) hd
theorem sc_are_weights : FnScope ["thing", "weight"] ["thing"] (defScope s_are_weights) := ⟨rfl, rfl, rfl, by decide +kernel, rfl, by decide +kernel, by decide +kernel⟩
def pr_are_weights (K : PySem.W.Frag) : Hp → List PyData → RR → Prop := fun _ ds R => ∃ ws : List Int, ds = [intsD ws] ∧ 2 ≤ ws.length ∧ ws.length ≤ 7 ∧ (∀ x ∈ ws, 1 ≤ x ∧ x ≤ 1000000) ∧ R = rAt K (.bool true)
theorem ok_are_weights {f : Addr} {fd : FuncData} (F : Fun K "are_weights" "are_weights" s_are_weights f fd) (B : BN mg) (g1 : GI mg "LEAST_SEATS" 2) (g2 : GI mg "MOST_SEATS" 7) (g3 : GI mg "MOST_WEIGHT" 1000000) (c1 : CalP P w K mg base 2 "is_between" (pr_is_between K)) : FnOk P w K mg base CX0 3 f fd ["thing"] (spP K (pr_are_weights K)) := by
  refine fun_go F sc_are_weights (by rintro G ds R ⟨i, rfl, _⟩; rfl) ?_
  rintro cdv A outer s H0 E G H ds R hr ⟨ws, rfl, h2, h7, hw, rfl⟩
  have l1 : decide ((2 : Int) ≤ ((ws.map PyData.int).length : Nat)) = true := by rw [List.length_map]; exact decide_eq_true (by omega)
  have l2 : decide (((ws.map PyData.int).length : Nat) ≤ (7 : Int)) = true := by rw [List.length_map]; exact decide_eq_true (by omega)
  refine go_if (k := false) (EvT.is (evt_w (evw_or (k := false) (k' := false) (EvT.is (evt_not (k := true) (evt_val (ev_isi (t := "list") (tn := "list") rfl rfl (B _ (by decide +kernel)) rfl (B _ (by decide +kernel)) (by decide +kernel) (ev_v 0 rfl) rfl (by decide +kernel)))) rfl) fun _ => evw_or1 (EvT.is (evt_not (evt_chain od_le (fun _ => od_le) ⟨_, op_le⟩ (ev_gi rfl g1) (ev_len rfl rfl (B _ (by decide +kernel)) (EvR.m (ev_v 0 rfl))) (ev_gi rfl g2))) (by rw [l1, l2]; rfl)))) rfl) (fun h => by cases h) (fun _ => go_nil' ?_)
  refine go_rt rfl as_l (EvR.is (ev_all (b := fun x => decide (1 ≤ x) && decide (x ≤ 1000000)) (xs := ws) rfl rfl rfl (B _ (by decide +kernel)) (EvR.frz ?_)) ?_)
  · exact evl_map [("weight", 1)] _ (fun x Δ => Δ.set 1 (some (.int x))) (it_list (ev_v 0 rfl)) rfl sc_are_weights.nd (blkOk_by (N := ["thing", "weight"]) (sc := defScope s_are_weights) (by decide +kernel)) (by omega) (is := [1]) (by decide) (fun b hb => fun _ _ _ _ _ => tg_name 1 sc_are_weights.nd)
      (fun D es hD b hb => fun _ _ _ _ _ => ev_c c1 hr rfl (ea_cons (ev_v 1 rfl) (ea_cons ev_int (ea_cons (ev_gi rfl g3) ea_nil))) (fun _ _ _ => ⟨b, 1, 1000000, rfl, rfl⟩))
  · rw [List.all_eq_true.mpr fun x hx => by simp [hw x hx]]
theorem sc_are_quotas : FnScope ["thing", "total", "quota"] ["thing", "total"] (defScope s_are_quotas) := ⟨rfl, rfl, rfl, by decide +kernel, rfl, by decide +kernel, by decide +kernel⟩
def pr_are_quotas (K : PySem.W.Frag) : Hp → List PyData → RR → Prop := fun _ ds R => ∃ (qs : List Int) (t : Int), ds = [intsD qs, .int t] ∧ 1 ≤ qs.length ∧ qs.length ≤ 6 ∧ (∀ x ∈ qs, 1 ≤ x ∧ x ≤ t) ∧ R = rAt K (.bool true)
theorem ok_are_quotas {f : Addr} {fd : FuncData} (F : Fun K "are_quotas" "are_quotas" s_are_quotas f fd) (B : BN mg) (g2 : GI mg "MOST_COLUMNS" 6) (c1 : CalP P w K mg base 2 "is_between" (pr_is_between K)) : FnOk P w K mg base CX0 3 f fd ["thing", "total"] (spP K (pr_are_quotas K)) := by
  refine fun_go F sc_are_quotas (by rintro G ds R ⟨i, t, rfl, _⟩; rfl) ?_
  rintro cdv A outer s H0 E G H ds R hr ⟨ws, t, rfl, h2, h7, hw, rfl⟩
  have l1 : decide ((1 : Int) ≤ ((ws.map PyData.int).length : Nat)) = true := by rw [List.length_map]; exact decide_eq_true (by omega)
  have l2 : decide (((ws.map PyData.int).length : Nat) ≤ (6 : Int)) = true := by rw [List.length_map]; exact decide_eq_true (by omega)
  refine go_if (k := false) (EvT.is (evt_w (evw_or (k := false) (k' := false) (EvT.is (evt_not (k := true) (evt_val (ev_isi (t := "list") (tn := "list") rfl rfl (B _ (by decide +kernel)) rfl (B _ (by decide +kernel)) (by decide +kernel) (ev_v 0 rfl) rfl (by decide +kernel)))) rfl) fun _ => evw_or1 (EvT.is (evt_not (evt_chain od_le (fun _ => od_le) ⟨_, op_le⟩ ev_int (ev_len rfl rfl (B _ (by decide +kernel)) (EvR.m (ev_v 0 rfl))) (ev_gi rfl g2))) (by rw [l1, l2]; rfl)))) rfl) (fun h => by cases h) (fun _ => go_nil' ?_)
  refine go_rt rfl as_l (EvR.is (ev_all (b := fun x => decide (1 ≤ x) && decide (x ≤ t)) (xs := ws) rfl rfl rfl (B _ (by decide +kernel)) (EvR.frz ?_)) ?_)
  · exact evl_map [("quota", 2)] _ (fun x Δ => Δ.set 2 (some (.int x))) (it_list (ev_v 0 rfl)) rfl sc_are_quotas.nd (blkOk_by (N := ["thing", "total", "quota"]) (sc := defScope s_are_quotas) (by decide +kernel)) (by omega) (is := [2]) (by decide) (fun b hb => fun _ _ _ _ _ => tg_name 2 sc_are_quotas.nd)
      (fun D es hD b hb => fun _ _ _ _ _ => ev_c c1 hr rfl (ea_cons (ev_v 2 rfl) (ea_cons ev_int (ea_cons (ev_v 1 rfl) ea_nil))) (fun _ _ _ => ⟨b, 1, t, rfl, rfl⟩))
  · rw [List.all_eq_true.mpr fun x hx => by simp [hw x hx]]
theorem sc_cinit : FnScope ["self", "weights", "quotas"] ["self", "weights", "quotas"] (defScope s_Council_init) := ⟨rfl, rfl, rfl, by decide +kernel, rfl, by decide +kernel, by decide +kernel⟩
def pr_cinit (K : PySem.W.Frag) (Cc : Addr) : Hp → List PyData → As → RR → Prop := fun _ ds T R => ∃ (a : Addr) (c : Cn), ds = [ob a, intsD c.ws, intsD c.qs] ∧ CnOk c ∧ T = As.inst K a Cc [] [] ∧ R = fun _ _ v G2 H2 => v = .non ∧ (As.inst K a Cc cnNs [intsD c.ws, intsD c.qs]).p G2 H2
theorem ok_cinit {f : Addr} {fd : FuncData} (F : Fun K "__init__" "Council.__init__" s_Council_init f fd) (B : BN mg) (C : CF K Cc) (c1 : CalP P w K mg base 3 "are_weights" (pr_are_weights K)) (c2 : CalP P w K mg base 3 "are_quotas" (pr_are_quotas K)) : FnOk P w K mg base CX0 4 f fd ["self", "weights", "quotas"] (spM K (pr_cinit K Cc)) := by
  refine fun_goM F sc_cinit (by rintro G ds T R ⟨a, c, rfl, _⟩; rfl) ?_
  rintro cdv A outer s H0 E G H ds T R hr ⟨a, c, rfl, hc, rfl, rfl⟩
  refine go_if (k := false) (evt_not (k := true) (evt_val (ev_c c1 hr rfl (ea_cons (ev_v 1 rfl) ea_nil) fun _ _ _ => ⟨c.ws, rfl, hc.w2, hc.w7, hc.w, rfl⟩))) (fun h => by cases h) (fun _ => go_nil' ?_)
  refine go_if (k := false) (evt_not (k := true) (evt_val (ev_c c2 hr rfl (ea_cons (ev_v 2 rfl) (ea_cons (ev_sum (xs := c.ws) (f := id) rfl rfl rfl (B _ (by decide +kernel)) (ev_v 1 rfl)) ea_nil)) fun _ _ _ => ⟨c.qs, c.ws.sum, by rw [List.map_id], hc.q1, hc.q6, hc.q, rfl⟩))) (fun h => by cases h) (fun _ => go_nil' ?_)
  have hfo : ¬ ((As.extx G H (As.inst K a Cc [] []).fo).and (.fact (Same G) fun _ _ e h => h.trans e)).fo a := fun z => z.elim (fun z => z.2 rfl) fun z => z
  refine go_fld (P := (· = intsD c.ws)) (ev_v 0 rfl) (EvR.x (EvR.frz (evl_list rfl rfl (B _ (by decide +kernel)) (.inl rfl) (ev_v 1 rfl))) rfl) C.cl C.n1 hfo (fun d hd => ?_)
  subst hd
  refine go_fld (P := (· = intsD c.qs)) (ev_v 0 rfl) (EvR.x (EvR.frz (evl_list rfl rfl (B _ (by decide +kernel)) (.inl rfl) (ev_v 2 rfl))) rfl) C.cl C.n2 hfo (fun d hd => ?_)
  subst hd
  exact go_nil fun σ G2 H2 _ _ p => ⟨G2, p.1.1, rfl, p.2⟩
theorem sc_cweights : FnScope ["self"] ["self"] (defScope s_Council_weights) := ⟨rfl, rfl, rfl, by decide +kernel, rfl, by decide +kernel, by decide +kernel⟩
def pr_cweights (K : PySem.W.Frag) (Cc : Addr) : Hp → List PyData → RR → Prop := fun _ ds R => ∃ (a : Addr) (c : Cn), ds = [cnD Cc a c] ∧ R = rNl K (c.ws.map .int)
theorem ok_cweights {f : Addr} {fd : FuncData} (F : Fun K "weights" "Council.weights" s_Council_weights f fd) (B : BN mg) (C : CF K Cc) : FnOk P w K mg base CX0 1 f fd ["self"] (spP K (pr_cweights K Cc)) := by
  refine fun_go F sc_cweights (by rintro G ds R ⟨a, c, rfl, _⟩; rfl) ?_
  rintro cdv A outer s H0 E G H ds R hr ⟨a, c, rfl, rfl⟩
  exact go_rt rfl as_l (evl_list rfl rfl (B _ (by decide +kernel)) (.inl rfl) (ev_fld 0 (ev_v 0 rfl) C.cl C.n1 rfl))
theorem sc_ctotal : FnScope ["self"] ["self"] (defScope s_Council_total) := ⟨rfl, rfl, rfl, by decide +kernel, rfl, by decide +kernel, by decide +kernel⟩
def pr_ctotal (K : PySem.W.Frag) (Cc : Addr) : Hp → List PyData → RR → Prop := fun _ ds R => ∃ (a : Addr) (c : Cn), ds = [cnD Cc a c] ∧ R = rAt K (.int c.ws.sum)
theorem ok_ctotal {f : Addr} {fd : FuncData} (F : Fun K "total" "Council.total" s_Council_total f fd) (B : BN mg) (C : CF K Cc) : FnOk P w K mg base CX0 1 f fd ["self"] (spP K (pr_ctotal K Cc)) := by
  refine fun_go F sc_ctotal (by rintro G ds R ⟨a, c, rfl, _⟩; rfl) ?_
  rintro cdv A outer s H0 E G H ds R hr ⟨a, c, rfl, rfl⟩
  exact go_rt rfl as_l (EvR.is (ev_sum (xs := c.ws) (f := id) rfl rfl rfl (B _ (by decide +kernel)) (ev_fld 0 (ev_v 0 rfl) C.cl C.n1 rfl)) (by rw [List.map_id]))
theorem sc_callow : FnScope ["self", "side", "column", "way"] ["self", "side"] (defScope s_Council_allowance) := ⟨rfl, rfl, rfl, by decide +kernel, rfl, by decide +kernel, by decide +kernel⟩
def pr_callow (K : PySem.W.Frag) (Cc : Addr) : Hp → List PyData → RR → Prop := fun _ ds R => ∃ (a : Addr) (c : Cn) (sd : Sd), ds = [cnD Cc a c, sdD sd] ∧ sd.1 < c.qs.length ∧ R = rAt K (.int (roomV c sd))
theorem ok_callow {f : Addr} {fd : FuncData} (F : Fun K "allowance" "Council.allowance" s_Council_allowance f fd) (C : CF K Cc) (c1 : MetP P w K mg base 1 Cc "total" (pr_ctotal K Cc)) : FnOk P w K mg base CX0 2 f fd ["self", "side"] (spP K (pr_callow K Cc)) := by
  refine fun_go F sc_callow (by rintro G ds R ⟨a, c, sd, rfl, _⟩; rfl) ?_
  rintro cdv A outer s H0 E G H ds R hr ⟨a, c, sd, rfl, hs, rfl⟩
  refine go_asg (ev_v 1 rfl) (tg_tup sc_callow.nd rfl (nm_cons 2 (nm_cons 3 .nil))) ?_
  refine go_if (EvT.is (evt_cmp od_eqS (ev_v 3 rfl) ev_str) (wayS_eq _)) (fun h => ?_) (fun h => go_nil' ?_)
  · refine go_rt rfl as_l (EvR.is (ev_op od_sub (ev_ix (ixd_list (ix_row hs)) (ev_fld 1 (ev_v 0 rfl) C.cl C.n2 rfl) (ev_v 2 rfl)) ev_int) ?_)
    unfold roomV
    rw [if_pos h]
  · refine go_rt rfl as_l (EvR.is (ev_op od_sub (ev_mt0 c1 hr (ev_v 0 rfl) fun _ _ _ => ⟨a, c, rfl, rfl⟩) (ev_ix (ixd_list (ix_row hs)) (ev_fld 1 (ev_v 0 rfl) C.cl C.n2 rfl) (ev_v 2 rfl))) ?_)
    unfold roomV
    rw [if_neg (by rw [h]; decide)]
theorem sc_rooms_of : FnScope ["council", "sides", "side"] ["council", "sides"] (defScope s_rooms_of) := ⟨rfl, rfl, rfl, by decide +kernel, rfl, by decide +kernel, by decide +kernel⟩
def pr_rooms_of (K : PySem.W.Frag) (Cc : Addr) : Hp → List PyData → RR → Prop := fun _ ds R => ∃ (a : Addr) (c : Cn) (sds : List Sd), ds = [cnD Cc a c, sdsD sds] ∧ sds.length ≤ 10000 ∧ (∀ sd ∈ sds, sd.1 < c.qs.length) ∧ R = rNl K ((sds.map (roomV c)).map .int)
theorem ok_rooms_of {f : Addr} {fd : FuncData} (F : Fun K "rooms_of" "rooms_of" s_rooms_of f fd) (C : CF K Cc) (c1 : MetP P w K mg base 2 Cc "allowance" (pr_callow K Cc)) : FnOk P w K mg base CX0 3 f fd ["council", "sides"] (spP K (pr_rooms_of K Cc)) := by
  refine fun_go F sc_rooms_of (by rintro G ds R ⟨a, c, sd, rfl, _⟩; rfl) ?_
  rintro cdv A outer s H0 E G H ds R hr ⟨a, c, sds, rfl, hl, hs, rfl⟩
  refine go_rt rfl as_l (EvR.isL (evl_map [("side", 2)] (fun sd => .int (roomV c sd)) (fun x Δ => Δ.set 2 (some (sdD x))) (it_list (ev_v 1 rfl)) rfl sc_rooms_of.nd (blkOk_by (N := ["council", "sides", "side"]) (sc := defScope s_rooms_of) (by decide +kernel)) (by omega) (is := [2]) (by decide) (fun b hb => fun _ _ _ _ _ => tg_name 2 sc_rooms_of.nd) ?_) (by rw [List.map_map]; rfl))
  exact fun D es hD b hb => fun _ _ _ _ _ => ev_mt c1 hr (ev_v 0 rfl) (ea_cons (ev_v 2 rfl) ea_nil) fun _ _ _ => ⟨a, c, b, rfl, hs b hb, rfl⟩
end
end Pk
namespace Pk
open PySem L2 DL
section
variable {P : Program} {w : World} {K : PySem.W.Frag} {mg : Str → Option Value} {base : Heap} {Cc : Addr}
/-! ### the bag -/
theorem sc_bag : FnScope ["script", "cell"] ["script"] (defScope s_law_bag) := ⟨rfl, rfl, rfl, by decide +kernel, rfl, by decide +kernel, by decide +kernel⟩
def pr_bag (K : PySem.W.Frag) : Hp → List PyData → RR → Prop := fun _ ds R => ∃ ns : List Int, ds = [scrD (ns.map .int)] ∧ R = rBag K
theorem ok_bag {f : Addr} {fd : FuncData} (F : Fun K "_law_bag" "_law_bag" s_law_bag f fd) (B : BN mg) : FnOk P w K mg base CX0 1 f fd ["script"] (spP K (pr_bag K)) := by
  refine fun_go F sc_bag (by rintro G ds R ⟨i, rfl, _⟩; rfl) ?_
  rintro cdv A outer s H0 E G H ds R hr ⟨ns, rfl, rfl⟩
  have hcut : (cutD (ns.map PyData.int) none (some 63)).length ≤ 63 := by
    unfold cutD
    rw [List.length_take]
    have : HT.sIx (ns.map PyData.int).length (ns.map PyData.int).length (some 63) ≤ 63 := by
      unfold HT.sIx
      simp
      omega
    omega
  have hcutE : cutD (ns.map PyData.int) none (some 63) = (cutD ns none (some 63)).map PyData.int := by
    unfold cutD
    rw [List.length_map, List.map_take, List.map_drop]
  refine go_retP (R := rBag K) (EvR.imp (evl_lst (ea_cons ev_int (ea_cons ev_int (ea_cons ev_int (ea_cons (EvR.frz (evl_map (xs := cutD ns none (some 63)) [("cell", 1)] (fun x => .int ((x.natAbs : Nat) : Int)) (fun x Δ => Δ.set 1 (some (.int x))) (it_list (EvR.frz (EvR.isL (ev_sl sld_scr (ev_v 0 rfl) eo_none (eo_some ev_int)) hcutE))) rfl sc_bag.nd (blkOk_by (N := ["script", "cell"]) (sc := defScope s_law_bag) (by decide +kernel)) (by rw [hcutE, List.length_map] at hcut; omega) (is := [1]) (by decide) (fun b hb => fun _ _ _ _ _ => tg_name 1 sc_bag.nd)
      (fun D es hD b hb => fun _ _ _ _ _ => ev_callB cd_abs rfl (B _ (by decide +kernel)) (by decide +kernel) (ea_cons (ev_v 1 rfl) ea_nil)))) ea_nil))))) ?_) as_l rfl back_bag
  rintro G1 H1 v G2 H2 g p ⟨q, xs, rfl, h1, h2, h3, h4⟩
  refine ⟨q, rfl, h1, ⟨0, 1234567891, 0, (cutD ns none (some 63)).map fun x => ((x.natAbs : Nat) : Int), by decide, by decide, by decide, ?_⟩, h2, xs, h3, ?_⟩
  · intro z hz
    obtain ⟨y, _, rfl⟩ := List.mem_map.mp hz
    omega
  · unfold bagDs
    rw [List.map_map]
    exact h4
def intIn (m : Int) (d : PyData) : Prop := ∃ i : Int, d = .int i ∧ 0 ≤ i ∧ i < m
theorem sc_take : FnScope ["bag", "many", "cell", "value", "first", "second"] ["bag", "many"] (defScope s_law_take) := ⟨rfl, rfl, rfl, by decide +kernel, rfl, by decide +kernel, by decide +kernel⟩
def pr_take (K : PySem.W.Frag) : Hp → List PyData → RR → Prop := fun _ ds R => ∃ m : Int, ds = [.int m] ∧ 0 < m ∧ m.natAbs.log2 < 9000 ∧ R = rX K (intIn m)
theorem ok_take {f : Addr} {fd : FuncData} (F : Fun K "_law_take" "_law_take" s_law_take f fd) (B : BN mg) : FnOk P w K mg base CX0 1 f fd ["bag", "many"] (spB K (pr_take K)) := by
  refine fun_goM F sc_take (by rintro G ds T R ⟨p, ds', R', rfl, _, ⟨m, rfl, _⟩, _⟩; rfl) ?_
  rintro cdv A outer s H0 E G H ds T R hr ⟨p, ds', R', rfl, rfl, ⟨m, rfl, hm, hm2, rfl⟩, rfl⟩
  have hfo : ¬ ((As.extx G H (As.bag K p).fo).and (.fact (Same G) fun _ _ e h => h.trans e)).fo p := fun z => z.elim (fun z => z.2 rfl) fun z => z
  refine go_ex (T := fun x : BagS => As.acc K p (bagDs x)) fun x => ?_
  -- what comes behind the drawing of a cell
  have rest : ∀ (o : Option PyData) (x : BagS), Go (cxOf CX0 P w K mg base ["bag", "many", "cell", "value", "first", "second"] "_law_take" (defScope s_law_take) f cdv A outer s H0 E).nox ((defBody s_law_take).drop 1) (retM G H (As.bag K p).fo (rAnd (As.bag K p) (rX K (intIn m)))) [some (ob p), some (.int m), o, none, none, none] (((As.extx G H (As.bag K p).fo).and (.fact (Same G) fun _ _ e h => h.trans e)).and (.acc K p (bagDs x))) := by
    intro o x
    refine go_if (EvT.is (evt_cmp od_gt (ev_ixM as_r (by rfl) (ev_v 0 rfl) ev_int) ev_int) rfl) (fun h => ?_) (fun h => go_nil' ?_)
    · refine go_set 3 (ev_op (od_mod hm) (ev_ixM as_r (by rfl) (ev_v 0 rfl) ev_int) (ev_v 1 rfl)) sc_take.nd ?_
      refine go_setIx (n := 0) (ev_v 0 rfl) ev_int (EvR.x (P := (· = .int (x.c / m))) (ev_op (od_fdivW ⟨hm, hm2⟩) (ev_ixM as_r (by rfl) (ev_v 0 rfl) ev_int) (ev_v 1 rfl)) rfl) hfo rfl fun d hd => ?_
      subst hd
      refine go_rtM rfl (as_l.trans as_l) (ev_v 3 rfl) fun v G1 H1 G2 H2 g p r => ⟨⟨⟨x.c / m, x.b, x.n, x.ns, Int.ediv_nonneg x.hc (by omega), x.hb, x.hn, x.hns⟩, p.2⟩, _, ⟨x.c % m, rfl, Int.emod_nonneg _ (by omega), Int.emod_lt_of_pos _ hm⟩, r⟩
    · have hb1 : 0 ≤ x.b := x.hb.1
      have hb2 : x.b < 2147483647 := x.hb.2
      refine go_set 4 (ev_op (od_mod (by decide)) (ev_op (od_mul (.inr ⟨by decide, by decide⟩)) (ev_op od_add (ev_ixM as_r (by rfl) (ev_v 0 rfl) ev_int) ev_int) ev_int) ev_int) sc_take.nd ?_
      have f1 : 0 ≤ (x.b + 1) * 39373 % 1000000007 := Int.emod_nonneg _ (by decide)
      have f2 : (x.b + 1) * 39373 % 1000000007 < 1000000007 := Int.emod_lt_of_pos _ (by decide)
      refine go_set 5 (ev_op (od_mod (by decide)) (ev_op (od_mul (.inr ⟨by decide, by decide⟩)) (ev_op (od_mod (by decide)) (ev_op (od_mul (.inl ⟨by omega, by omega⟩)) (ev_v 4 rfl) (ev_v 4 rfl)) ev_int) ev_int) ev_int) sc_take.nd ?_
      generalize (x.b + 1) * 39373 % 1000000007 * ((x.b + 1) * 39373 % 1000000007) % 998244353 * 30011 % 998244353 = second
      refine go_if (EvT.is (evt_cmp od_gt (ev_v 1 rfl) ev_int) rfl) (fun h => ?_) (fun h => go_nil' ?_)
      · refine go_rtM rfl (as_l.trans as_l) (ev_op (od_mod hm) (ev_op od_add (ev_op (od_mul (.inr ⟨by decide, by decide⟩)) (ev_v 5 rfl) ev_int) (ev_v 4 rfl)) (ev_v 1 rfl)) fun v G1 H1 G2 H2 g p r => ⟨⟨x, p.2⟩, _, ⟨_, rfl, Int.emod_nonneg _ (by omega), Int.emod_lt_of_pos _ hm⟩, r⟩
      · refine go_rtM rfl (as_l.trans as_l) (ev_op (od_mod hm) (ev_op (od_fdivW ⟨by decide, by decide +kernel⟩) (ev_v 5 rfl) ev_int) (ev_v 1 rfl)) fun v G1 H1 G2 H2 g p r => ⟨⟨x, p.2⟩, _, ⟨_, rfl, Int.emod_nonneg _ (by omega), Int.emod_lt_of_pos _ hm⟩, r⟩
  refine go_if (EvT.is (evt_cmp od_eqI (ev_ixM as_r (by rfl) (ev_v 0 rfl) ev_int) ev_int) rfl) (fun h => ?_) (fun h => go_nil' (rest none x))
  have hc0 : x.c = 0 := by simpa using h
  refine go_set 2 ev_int sc_take.nd ?_
  -- with the cell that was drawn
  have mid : ∀ cell : Int, 0 ≤ cell → Go (cxOf CX0 P w K mg base ["bag", "many", "cell", "value", "first", "second"] "_law_take" (defScope s_law_take) f cdv A outer s H0 E).nox ((match defBody s_law_take with | (.If _ b _ _) :: _ => b | _ => []).drop 2) ((retM G H (As.bag K p).fo (rAnd (As.bag K p) (rX K (intIn m)))).th (cxOf CX0 P w K mg base ["bag", "many", "cell", "value", "first", "second"] "_law_take" (defScope s_law_take) f cdv A outer s H0 E).nox ((defBody s_law_take).drop 1)) [some (ob p), some (.int m), some (.int cell), none, none, none] (((As.extx G H (As.bag K p).fo).and (.fact (Same G) fun _ _ e h => h.trans e)).and (.acc K p (bagDs x))) := by
    intro cell hcell
    refine go_augIx (n := 2) (m := x.n) ip_add (ev_v 0 rfl) ev_int ev_int hfo rfl rfl ?_
    have last : ∀ c : Int, 0 ≤ c → Go (cxOf CX0 P w K mg base ["bag", "many", "cell", "value", "first", "second"] "_law_take" (defScope s_law_take) f cdv A outer s H0 E).nox ((match defBody s_law_take with | (.If _ b _ _) :: _ => b | _ => []).drop 4) ((retM G H (As.bag K p).fo (rAnd (As.bag K p) (rX K (intIn m)))).th (cxOf CX0 P w K mg base ["bag", "many", "cell", "value", "first", "second"] "_law_take" (defScope s_law_take) f cdv A outer s H0 E).nox ((defBody s_law_take).drop 1)) [some (ob p), some (.int m), some (.int cell), none, none, none] (((As.extx G H (As.bag K p).fo).and (.fact (Same G) fun _ _ e h => h.trans e)).and (.acc K p [.int c, .int x.b, .int (x.n + 1), .list (x.ns.map .int)])) := by
      intro c hc
      refine go_setIx (n := 1) (ev_v 0 rfl) ev_int (EvR.x (P := fun d => ∃ b, d = .int b ∧ 0 ≤ b ∧ b < 2147483647) (ev_op (od_mod (by decide)) (ev_op od_add (ev_op od_add (ev_op (od_mul (.inr ⟨by decide, by decide⟩)) (ev_ixM as_r (by rfl) (ev_v 0 rfl) ev_int) ev_int) (ev_op (od_mod (by decide)) (ev_v 2 rfl) ev_int)) (ev_op (od_mul (.inl ⟨by decide, by decide⟩)) ev_int (ev_ixM as_r (by rfl) (ev_v 0 rfl) ev_int))) ev_int) ⟨_, rfl, Int.emod_nonneg _ (by decide), Int.emod_lt_of_pos _ (by decide)⟩) hfo rfl fun d hd => ?_
      obtain ⟨b, rfl, hb⟩ := hd
      exact go_nil' (rest (some (.int cell)) ⟨c, b, x.n + 1, x.ns, hc, hb, by have := x.hn; omega, x.hns⟩)
    refine go_if (EvT.is (evt_cmp od_ge (ev_v 2 rfl) ev_int) rfl) (fun h => ?_) (fun h => go_nil' (last x.c x.hc))
    refine go_setIx (n := 0) (ev_v 0 rfl) ev_int (EvR.x (P := (· = .int cell)) (ev_v 2 rfl) rfl) hfo rfl fun d hd => ?_
    subst hd
    exact go_nil' (last cell hcell)
  refine go_if (EvT.is (evt_cmp od_lt (ev_ixM as_r (by rfl) (ev_v 0 rfl) ev_int) (ev_len rfl rfl (B _ (by decide +kernel)) (EvR.m (ev_ixM (d := .list (x.ns.map .int)) as_r (by rfl) (ev_v 0 rfl) ev_int)))) rfl) (fun h => ?_) (fun h => go_nil' (mid 0 (by decide)))
  have hlt : x.n < (x.ns.length : Int) := by
    have := of_decide_eq_true h
    rwa [List.length_map] at this
  have hn := x.hn
  obtain ⟨z, hz⟩ : ∃ z, x.ns[x.n.toNat]? = some z := ⟨_, List.getElem?_eq_getElem (by omega)⟩
  refine go_set 2 (ev_ix (ixd_list (d := .int z) ?_) (ev_ixM (d := .list (x.ns.map .int)) as_r (by rfl) (ev_v 0 rfl) ev_int) (ev_ixM as_r (by rfl) (ev_v 0 rfl) ev_int)) sc_take.nd ?_
  · have e : x.n = ((x.n.toNat : Nat) : Int) := by omega
    rw [e]
    refine atI_nat' ?_
    rw [List.getElem?_map, hz]
    rfl
  · exact go_nil' (mid z (x.hns z (List.mem_of_getElem? hz)))
end
end Pk
namespace Pk
open PySem L2 DL
section
variable {P : Program} {w : World} {K : PySem.W.Frag} {mg : Str → Option Value} {base : Heap} {Cc : Addr}
theorem all2_ints {α : Type} {m : Int} {xs : List α} {ds : List PyData} (h : All2 (fun _ => intIn m) xs ds) : ∃ r : List Int, ds = r.map .int ∧ r.length = xs.length ∧ ∀ x ∈ r, 0 ≤ x ∧ x < m := by
  obtain ⟨r, e, hr⟩ := coded (enc := PyData.int) (P := fun x => 0 ≤ x ∧ x < m) (h.right (P := intIn m) fun _ _ z => z)
  exact ⟨r, e, by rw [h.len, e, List.length_map], hr⟩
theorem bag_fo {G H : Hp} {p : Addr} : ¬ ((As.extx G H (As.bag K p).fo).and (.fact (Same G) fun _ _ e h => h.trans e)).fo p := fun z => z.elim (fun z => z.2 rfl) fun z => z
/-- small enough to be drawn -/
theorem log_ok {m : Int} (h0 : 0 < m) (h : m ≤ 2000000000000000000) : m.natAbs.log2 < 9000 := by
  refine Nat.lt_of_le_of_lt (m := 63) ?_ (by decide)
  have hm : m.natAbs ≠ 0 := by omega
  exact Nat.le_of_lt_succ ((Nat.log2_lt hm).mpr (by omega))
theorem sc_row : FnScope ["bag", "width", "top", "column"] ["bag", "width", "top"] (defScope s_law_row) := ⟨rfl, rfl, rfl, by decide +kernel, rfl, by decide +kernel, by decide +kernel⟩
def RowIn (w : Nat) (t : Int) (d : PyData) : Prop := ∃ r : List Int, d = rowD r ∧ r.length = w ∧ ∀ x ∈ r, 0 ≤ x ∧ x ≤ t
def pr_row (K : PySem.W.Frag) : Hp → List PyData → RR → Prop := fun _ ds R => ∃ (w : Nat) (t : Int), ds = [.int w, .int t] ∧ w ≤ 1000 ∧ 0 ≤ t ∧ t ≤ 1000000000000000000 ∧ R = rX K (RowIn w t)
theorem ok_row {f : Addr} {fd : FuncData} (F : Fun K "_law_row" "_law_row" s_law_row f fd) (B : BN mg) (c1 : CalB P w K mg base 1 "_law_take" (pr_take K)) : FnOk P w K mg base CX0 2 f fd ["bag", "width", "top"] (spB K (pr_row K)) := by
  refine fun_goM F sc_row (by rintro G ds T R ⟨p, ds', R', rfl, _, ⟨m, t, rfl, _⟩, _⟩; rfl) ?_
  rintro cdv A outer s H0 E G H ds T R hr ⟨p, ds', R', rfl, rfl, ⟨wd, t, rfl, hw, ht, ht2, rfl⟩, rfl⟩
  refine go_rtM (R' := rX K (RowIn wd t)) rfl (as_l.trans as_l) (EvR.xx (evx_tupleC (PL := fun ds => ∃ xs : List Nat, xs = List.range wd ∧ All2 (fun _ => intIn (t + 1)) xs ds) rfl rfl (B _ (by decide +kernel)) (EvR.xfrz ?_ fun ds h => ⟨ds, rfl, h⟩)) ?_) fun v G1 H1 G2 H2 g p r => ⟨p.2, r⟩
  · refine evl_lcX (own := [("column", 3)]) (is := [3]) (enc := fun k : Nat => .int (k : Int)) (PX := fun xs => xs = List.range wd) (fun _ => intIn (t + 1)) (fun k Δ => Δ.set 3 (some (.int (k : Int)))) (ItD.x (it_rng rfl (B _ (by decide +kernel)) (ev_v 1 rfl) (by omega)) ⟨_, rfl, rfl⟩) rfl sc_row.nd (blkOk_by (N := ["bag", "width", "top", "column"]) (sc := defScope s_law_row) (by decide +kernel)) ?_ (by decide) ?_ ?_
    · rintro _ rfl; rw [List.length_range]; omega
    · exact fun xs _ k hk => fun _ _ _ _ _ => tg_name 3 sc_row.nd
    · rintro _ rfl D es hD k hk
      exact fun _ _ _ _ _ => evx_cB c1 hr rfl (Has.acc (bag_has bag_fo) fun e => hD (.inr e)) (eax_bag (ev_v 0 rfl) (EvA.x (PL := (· = [.int (t + 1)])) (ea_cons (ev_op od_add (ev_v 2 rfl) ev_int) ea_nil) rfl)) fun _ _ ds hds _ => ⟨t + 1, hds, by omega, log_ok (by omega) (by omega), rfl⟩
  · rintro d ⟨ds, rfl, xs, rfl, h⟩
    obtain ⟨r, rfl, hl, hr⟩ := all2_ints h
    exact ⟨r, rfl, by rw [hl, List.length_range], fun x hx => ⟨(hr x hx).1, by have := (hr x hx).2; omega⟩⟩
theorem sc_alike : FnScope ["found", "due"] ["found", "due"] (defScope s_law_alike) := ⟨rfl, rfl, rfl, by decide +kernel, rfl, by decide +kernel, by decide +kernel⟩
def pr_alike (K : PySem.W.Frag) : Hp → List PyData → As → RR → Prop := fun _ ds T R => ∃ d, ds = [.list d, .list d] ∧ Shw (.list d) ∧ T = .tt ∧ R = rAnd .tt (rAt K (.bool true))
theorem ok_alike {f : Addr} {fd : FuncData} (F : Fun K "_law_alike" "_law_alike" s_law_alike f fd) (B : BN mg) : FnG P w K mg base 1 f fd ["found", "due"] (spM K (pr_alike K)) := by
  refine fn_goG F sc_alike (by rintro G ds T R ⟨d, rfl, _⟩; rfl) ?_
  rintro cdv A outer s H0 E G H ds T R hr hgd ⟨d, rfl, hd, rfl, rfl⟩
  have hu := hr.units
  refine go_rtM (R' := rAt K (.bool true)) rfl (as_l.trans as_l) (EvR.is (ev_and (k := true) (k' := true) (ev_cmpF (u := .bl (PyData.eqv (.list d) (.list d))) (of_eqD hu hd.sh hd.sh) (EvR.m (ev_v 0 rfl)) (EvR.m (ev_v 1 rfl)) ?_) fun _ => ev_one (EvR.is (ev_cmp od_eqS (ev_callB (call_repr hgd hu hd (.inl ⟨_, rfl⟩)) rfl (B _ (by decide +kernel)) (by decide +kernel) (ea_cons (ev_v 0 rfl) ea_nil)) (ev_callB (call_repr hgd hu hd (.inl ⟨_, rfl⟩)) rfl (B _ (by decide +kernel)) (by decide +kernel) (ea_cons (ev_v 1 rfl) ea_nil))) ?_)) rfl) fun v G1 H1 G2 H2 g p r => ⟨p.2, r⟩
  · intro G; rw [SeqAt.eqv_refl _ (SeqAt.canLay_of_shaped hd.sh)]; exact .bl true
  · rw [decide_eq_true rfl]
theorem sc_made : FnScope ["parts"] ["parts"] (defScope s_law_made) := ⟨rfl, rfl, rfl, by decide +kernel, rfl, by decide +kernel, by decide +kernel⟩
def cpD (c : Cn) : PyData := .tuple [intsD c.ws, intsD c.qs]
def IsCn (Cc : Addr) (c : Cn) (d : PyData) : Prop := ∃ a, d = cnD Cc a c
def pr_made (K : PySem.W.Frag) (Cc : Addr) : Hp → List PyData → RR → Prop := fun _ ds R => ∃ c : Cn, ds = [cpD c] ∧ CnOk c ∧ R = rX K (IsCn Cc c)
theorem ok_made {f : Addr} {fd : FuncData} (F : Fun K "_law_made" "_law_made" s_law_made f fd) (B : BN mg) (c1 : C8.Mak P w K mg base 4 "Council" Cc (spM K (pr_cinit K Cc)) []) : FnOk P w K mg base CX0 6 f fd ["parts"] (spP K (pr_made K Cc)) := by
  refine fun_go F sc_made (by rintro G ds R ⟨c, rfl, _⟩; rfl) ?_
  rintro cdv A outer s H0 E G H ds R hr ⟨c, rfl, hc, rfl⟩
  refine go_rt rfl as_l (evx_mk c1 hr rfl (PL := (· = [intsD c.ws, intsD c.qs])) (EvA.x (ea_cons (EvR.frz (evl_list rfl rfl (B _ (by decide +kernel)) (.inl rfl) (ev_ix (ixd_tup (d := intsD c.ws) (i := 0) rfl) (ev_v 0 rfl) ev_int))) (ea_cons (EvR.frz (evl_list rfl rfl (B _ (by decide +kernel)) (.inl rfl) (ev_ix (ixd_tup (d := intsD c.qs) (i := 1) rfl) (ev_v 0 rfl) ev_int))) ea_nil)) rfl) ?_)
  rintro G1 H1 ds rfl _ a
  exact ⟨cnNs, [intsD c.ws, intsD c.qs], ⟨a, c, rfl, hc, rfl, rfl⟩, a, rfl⟩
theorem sc_council : FnScope ["bag", "width", "most", "seats", "way", "weights", "total", "quotas", "column", "some", "k"] ["bag", "width", "most"] (defScope s_law_council) := ⟨rfl, rfl, rfl, by decide +kernel, rfl, by decide +kernel, by decide +kernel⟩
def CnIn (wd most : Nat) (d : PyData) : Prop := ∃ c : Cn, d = cpD c ∧ CnOk c ∧ c.ws.length ≤ most ∧ c.qs.length = wd
def pr_council (K : PySem.W.Frag) : Hp → List PyData → RR → Prop := fun _ ds R => ∃ wd most : Nat, ds = [.int wd, .int most] ∧ 1 ≤ wd ∧ wd ≤ 6 ∧ 2 ≤ most ∧ most ≤ 7 ∧ R = rX K (CnIn wd most)
end
end Pk
namespace Pk
open PySem L2 DL
section
variable {P : Program} {w : World} {K : PySem.W.Frag} {mg : Str → Option Value} {base : Heap} {Cc : Addr}
theorem sum_ge : ∀ {ws : List Int}, (∀ x ∈ ws, 1 ≤ x) → (ws.length : Int) ≤ ws.sum
  | [], _ => by simp
  | w :: ws, h => by
    have := sum_ge (ws := ws) fun x hx => h x (List.mem_cons_of_mem _ hx)
    have := h w List.mem_cons_self
    simp only [List.sum_cons, List.length_cons]
    omega
theorem sum_le {m : Int} : ∀ {ws : List Int}, (∀ x ∈ ws, x ≤ m) → ws.sum ≤ ws.length * m
  | [], _ => by simp
  | w :: ws, h => by
    have := sum_le (ws := ws) fun x hx => h x (List.mem_cons_of_mem _ hx)
    have := h w List.mem_cons_self
    simp only [List.sum_cons, List.length_cons]
    have e : ((ws.length + 1 : Nat) : Int) * m = ws.length * m + m := by rw [Int.natCast_add, Int.add_mul]; simp
    omega
theorem way_ok {w : Int} (h : 0 ≤ w ∧ w < 5) : ∃ m : Int, atI [PyData.int 1, .int 1, .int 2, .int 5, .int 1000000] w = some (.int m) ∧ 1 ≤ m ∧ m ≤ 1000000 := by
  obtain ⟨n, rfl⟩ : ∃ n : Nat, w = n := ⟨w.toNat, by omega⟩
  have hn : n < 5 := by omega
  match n, hn with
  | 0, _ => exact ⟨1, rfl, by decide, by decide⟩
  | 1, _ => exact ⟨1, rfl, by decide, by decide⟩
  | 2, _ => exact ⟨2, rfl, by decide, by decide⟩
  | 3, _ => exact ⟨5, rfl, by decide, by decide⟩
  | 4, _ => exact ⟨1000000, rfl, by decide, by decide⟩
theorem some_ok {i a b t : Int} (h : 0 ≤ i ∧ i < 4) {P : Int → Prop} (h0 : P a) (h1 : P b) (h2 : P 1) (h3 : P t) : ∃ m : Int, atI [PyData.int a, .int b, .int 1, .int t] i = some (.int m) ∧ P m := by
  obtain ⟨n, rfl⟩ : ∃ n : Nat, i = n := ⟨i.toNat, by omega⟩
  have hn : n < 4 := by omega
  match n, hn with
  | 0, _ => exact ⟨a, rfl, h0⟩
  | 1, _ => exact ⟨b, rfl, h1⟩
  | 2, _ => exact ⟨1, rfl, h2⟩
  | 3, _ => exact ⟨t, rfl, h3⟩
def n_council : List Str := ["bag", "width", "most", "seats", "way", "weights", "total", "quotas", "column", "some", "k"]
theorem ok_council {f : Addr} {fd : FuncData} (F : Fun K "_law_council" "_law_council" s_law_council f fd) (B : BN mg) (c1 : CalB P w K mg base 1 "_law_take" (pr_take K)) : FnOk P w K mg base CX0 2 f fd ["bag", "width", "most"] (spB K (pr_council K)) := by
  refine fun_goM F sc_council (by rintro G ds T R ⟨p, ds', R', rfl, _, ⟨m, t, rfl, _⟩, _⟩; rfl) ?_
  rintro cdv A outer s H0 E G H ds T R hr ⟨p, ds', R', rfl, rfl, ⟨wd, most, rfl, hw, hw6, hm2, hm7, rfl⟩, rfl⟩
  -- seats, way
  refine go_asgX (P := fun d => ∃ (n : Nat) (y : Int), d = .tuple [.int n, .int y] ∧ (2 ≤ n ∧ n ≤ most) ∧ 0 ≤ y ∧ y < 5) (is := [3, 4]) (f := fun d Δ => sets Δ [3, 4] (unT d)) (evx_tup (PL := fun ds => ∃ (n : Nat) (y : Int), ds = [.int n, .int y] ∧ (2 ≤ n ∧ n ≤ most) ∧ 0 ≤ y ∧ y < 5) ?_ ?_) ?_ fun d hd => ?_
  · refine EvAX.xx (eax_cons (P := fun d => ∃ n : Nat, d = .int n ∧ 2 ≤ n ∧ n ≤ most) (evx_op (P1 := (· = .int 2)) (P2 := intIn ((most : Int) - 1)) (EvR.x ev_int rfl) (evx_cB c1 hr rfl (bag_has bag_fo) (eax_bag (ev_v 0 rfl) (EvA.x (PL := (· = [.int ((most : Int) - 1)])) (ea_cons (ev_op od_sub (ev_v 2 rfl) ev_int) ea_nil) rfl)) fun _ _ ds hds _ => ⟨_, hds, by omega, log_ok (by omega) (by omega), rfl⟩) ?_) (eax_one (P := intIn 5) (evx_cB c1 hr rfl (bag_has bag_fo) (eax_bag (ev_v 0 rfl) (EvA.x (PL := (· = [.int 5])) (ea_cons ev_int ea_nil) rfl)) fun _ _ ds hds _ => ⟨_, hds, by decide, by decide +kernel, rfl⟩))) ?_
    · rintro _ _ rfl ⟨i, rfl, h0, h1⟩
      exact od_add.x ⟨(2 + i).toNat, by rw [Int.toNat_of_nonneg (by omega)], by omega, by omega⟩
    · rintro ds ⟨d, ds', rfl, ⟨n, rfl, hn⟩, _, rfl, y, rfl, hy⟩
      exact ⟨n, y, rfl, hn, hy⟩
  · rintro ds ⟨n, y, rfl, h⟩
    exact ⟨by simp, n, y, rfl, h⟩
  · rintro d ⟨n, y, rfl, h⟩
    exact tg_tup sc_council.nd rfl (nm_cons 3 (nm_cons 4 .nil))
  obtain ⟨n, y, rfl, hn, hy⟩ := hd
  -- weights
  refine go_setLcX 5 (lclX (own := [("k", 10)]) (is := [10]) (enc := fun k : Nat => .int (k : Int)) (PX := fun xs => xs = List.range n) (fun _ d => ∃ x : Int, d = .int x ∧ 1 ≤ x ∧ x ≤ 1000000) (fun k Δ => Δ.set 10 (some (.int (k : Int)))) (ItD.x (it_rng rfl (B _ (by decide +kernel)) (ev_v 3 rfl) (by omega)) ⟨_, rfl, rfl⟩) (blkOk_by (N := n_council) (sc := defScope s_law_council) (by decide +kernel)) ?_ (by decide) ?_ ?_) rfl sc_council.nd fun ds hds => ?_
  · rintro _ rfl; rw [List.length_range]; omega
  · exact fun xs _ k hk => fun _ _ _ _ _ => tg_name 10 sc_council.nd
  · rintro _ rfl D es hD k hk
    obtain ⟨m, e, hm1, hm2⟩ := way_ok hy
    refine fun _ _ _ _ _ => evx_op (P1 := (· = .int 1)) (P2 := intIn m) (EvR.x ev_int rfl) (evx_cB c1 hr rfl (Has.acc (bag_has bag_fo) fun e => hD (.inr e)) (eax_bag (ev_v 0 rfl) (EvA.x (PL := (· = [.int m])) (ea_cons (ev_ix (ixd_list e) (EvR.frz (evl_lst (ea_cons ev_int (ea_cons ev_int (ea_cons ev_int (ea_cons ev_int (ea_cons ev_int ea_nil))))))) (ev_v 4 rfl)) ea_nil) rfl)) fun _ _ ds hds _ => ⟨m, hds, by omega, log_ok (by omega) (by omega), rfl⟩) ?_
    rintro _ _ rfl ⟨i, rfl, h0, h1⟩
    exact od_add.x ⟨_, rfl, by omega, by omega⟩
  obtain ⟨ws, rfl, hl, hws⟩ : ∃ ws : List Int, ds = ws.map .int ∧ ws.length = n ∧ ∀ x ∈ ws, 1 ≤ x ∧ x ≤ 1000000 := by
    obtain ⟨xs, rfl, h⟩ := hds
    obtain ⟨r, e, hr⟩ := coded (enc := PyData.int) (P := fun x => 1 ≤ x ∧ x ≤ 1000000) (h.right fun _ _ z => z)
    refine ⟨r, e, ?_, hr⟩
    have := h.len
    rw [e, List.length_map, List.length_range] at this
    exact this.symm
  have ht1 : (2 : Int) ≤ ws.sum := by have := sum_ge (ws := ws) fun x hx => (hws x hx).1; omega
  have ht2 : ws.sum ≤ 7000000 := by
    have := sum_le (m := 1000000) (ws := ws) fun x hx => (hws x hx).2
    rw [hl] at this
    have : (n : Int) ≤ 7 := by omega
    omega
  refine go_set 6 (ev_sum (xs := ws) (f := id) rfl rfl rfl (B _ (by decide +kernel)) (ev_v 5 rfl)) sc_council.nd ?_
  rw [List.map_id]
  refine go_setL 7 (evl_lst ea_nil) sc_council.nd fun q hq => ?_
  have hqp : q ≠ p := fun e => hq (.inr e)
  refine go_for (α := Nat) (xs := List.range wd) (enc := fun k => .int (k : Int)) (is := [8]) (fun k Δ => Δ.set 8 (some (.int (k : Int)))) (it_rng rfl (B _ (by decide +kernel)) (ev_v 1 rfl) (by omega)) (fun k hk => tg_name 8 sc_council.nd) rfl PassesOwn.never
    (fun i Δ' S' => ∃ (o1 o2 : Option PyData) (qs : List Int), qs.length = i ∧ (∀ x ∈ qs, 1 ≤ x ∧ x ≤ ws.sum) ∧ Δ' = [some (ob p), some (.int wd), some (.int most), some (.int n), some (.int y), some (intsD ws), some (.int ws.sum), some (ob q), o1, o2, none] ∧ S' = ((((As.extx G H (As.bag K p).fo).and (.fact (Same G) fun _ _ e h => h.trans e)).and (.bag K p)).and (.acc K q (qs.map .int)))) ⟨none, none, [], rfl, by simp, rfl, rfl⟩ ?_ ?_
  · rintro i k _ _ hk ⟨o1, o2, qs, hqs, hqr, rfl, rfl⟩
    refine go_setX 9 (P := fun d => ∃ x : Int, d = .list [.int (ws.sum / 2 + 1), .int x, .int 1, .int ws.sum] ∧ 1 ≤ x ∧ x ≤ ws.sum) (EvR.xfrz (evx_lst (PL := fun ds => ∃ x : Int, ds = [.int (ws.sum / 2 + 1), .int x, .int 1, .int ws.sum] ∧ 1 ≤ x ∧ x ≤ ws.sum) (EvAX.xx (eax_cons (P := (· = .int (ws.sum / 2 + 1))) (EvR.x (ev_op od_add (ev_op (od_fdiv ⟨by decide, by decide⟩) (ev_v 6 rfl) ev_int) ev_int) rfl) (eax_cons (P := fun d => ∃ x : Int, d = .int x ∧ 1 ≤ x ∧ x ≤ ws.sum) (evx_op (P1 := (· = .int 1)) (P2 := intIn ws.sum) (EvR.x ev_int rfl) (evx_cB c1 hr rfl (Has.acc (bag_has bag_fo) hqp) (eax_bag (ev_v 0 rfl) (EvA.x (PL := (· = [.int ws.sum])) (ea_cons (ev_v 6 rfl) ea_nil) rfl)) fun _ _ ds hds _ => ⟨_, hds, by omega, log_ok (by omega) (by omega), rfl⟩) ?_) (EvA.x (PL := (· = [.int 1, .int ws.sum])) (ea_cons ev_int (ea_cons (ev_v 6 rfl) ea_nil)) rfl))) ?_) ?_) ?_) sc_council.nd fun d hd => ?_
    · rintro _ _ rfl ⟨i, rfl, h0, h1⟩
      exact od_add.x ⟨_, rfl, by omega, by omega⟩
    · rintro ds ⟨d, ds', rfl, rfl, d2, ds2, rfl, ⟨x, rfl, hx⟩, rfl⟩
      exact ⟨x, rfl, hx⟩
    · rintro ds ⟨x, rfl, _⟩; simp
    · rintro ds ⟨x, rfl, hx⟩; exact ⟨x, rfl, hx⟩
    obtain ⟨x, rfl, hx1, hx2⟩ := hd
    refine go_appX (P := fun d => ∃ x : Int, d = .int x ∧ 1 ≤ x ∧ x ≤ ws.sum) (ev_v 7 rfl) (evx_ix (P1 := (· = .list [.int (ws.sum / 2 + 1), .int x, .int 1, .int ws.sum])) (P2 := intIn 4) (EvR.x (ev_v 9 rfl) rfl) (evx_op (P1 := intIn 4) (P2 := fun d => d = .int 0 ∨ d = .int 1) (evx_callB (id := "max") (PL := fun ds => ∃ i : Int, ds = [.int 0, .int i] ∧ i < 4) ?_ rfl (B _ (by decide +kernel)) (by decide +kernel) (EvAX.xx (eax_cons (P := (· = .int 0)) (EvR.x ev_int rfl) (eax_one (P := fun d => ∃ i : Int, d = .int i ∧ i < 4) (evx_op (P1 := intIn 6) (P2 := (· = .int 2)) (evx_cB c1 hr rfl (Has.acc (bag_has bag_fo) hqp) (eax_bag (ev_v 0 rfl) (EvA.x (PL := (· = [.int 6])) (ea_cons ev_int ea_nil) rfl)) fun _ _ ds hds _ => ⟨_, hds, by decide, by decide +kernel, rfl⟩) (EvR.x ev_int rfl) ?_))) ?_)) (EvR.x (P := fun d => d = .int 0 ∨ d = .int 1) (ev_callTy (T := "int") (cd_intB (k := decide (0 < y))) rfl (B _ (by decide +kernel)) (by decide +kernel) (ea_cons (ev_cmp od_gt (ev_v 4 rfl) ev_int) ea_nil)) ?_) ?_) ?_) (As.nf hq) (by rw [List.length_map, hqs]; have := (List.getElem?_eq_some_iff.mp hk).1; rw [List.length_range] at this; omega) fun d hd => ?_
    · rintro ds ⟨i, rfl, hi⟩
      exact (cd_max2 rfl).x ⟨_, rfl, by omega, by omega⟩
    · rintro _ _ ⟨i, rfl, h0, h1⟩ rfl
      exact od_sub.x ⟨_, rfl, by omega⟩
    · rintro ds ⟨d, ds', rfl, rfl, d2, rfl, i, rfl, hi⟩
      exact ⟨i, rfl, hi⟩
    · split
      · exact .inr rfl
      · exact .inl rfl
    · rintro _ _ ⟨i, rfl, h0, h1⟩ (rfl | rfl)
      · exact (od_mul (.inr ⟨by decide, by decide⟩)).x ⟨_, rfl, by omega, by omega⟩
      · exact (od_mul (.inr ⟨by decide, by decide⟩)).x ⟨_, rfl, by omega, by omega⟩
    · rintro _ _ rfl ⟨i, rfl, h0, h1⟩
      obtain ⟨m, e, hm⟩ := some_ok (P := fun m => 1 ≤ m ∧ m ≤ ws.sum) (a := ws.sum / 2 + 1) (b := x) (t := ws.sum) ⟨h0, h1⟩ ⟨by omega, by omega⟩ ⟨hx1, hx2⟩ ⟨by omega, by omega⟩ ⟨by omega, by omega⟩
      exact (ixd_list e).x ⟨m, rfl, hm⟩
    obtain ⟨z, rfl, hz⟩ := hd
    refine go_turn ⟨_, _, qs ++ [z], by simp [hqs], ?_, rfl, by rw [List.map_append]; rfl⟩
    intro v hv
    rcases List.mem_append.mp hv with h | h
    · exact hqr v h
    · rw [List.mem_singleton.mp h]; exact hz
  · rintro _ _ ⟨o1, o2, qs, hqs, hqr, rfl, rfl⟩
    rw [List.length_range] at hqs
    refine go_frz 7 hq rfl ?_
    refine go_rtM rfl (as_l.trans as_l) (ev_tup (ea_cons (ev_v 5 rfl) (ea_cons (ev_v 7 rfl) ea_nil))) fun v G1 H1 G2 H2 g p r => ⟨p.2, _, ⟨⟨ws, qs⟩, rfl, ⟨by show 2 ≤ ws.length; omega, by show ws.length ≤ 7; omega, hws, by show 1 ≤ qs.length; omega, by show qs.length ≤ 6; omega, hqr⟩, by show ws.length ≤ most; omega, hqs⟩, r⟩
end
end Pk
namespace Pk
open PySem L2 DL
/-! ### sessions -/
/-- what the values up to v weigh -/
def wle : List (Int × Int) → Int → Int
  | [], _ => 0
  | (x, w) :: ps, v => (if x ≤ v then w else 0) + wle ps v
theorem wle_perm {ps qs : List (Int × Int)} (h : ps.Perm qs) (v : Int) : wle ps v = wle qs v := by
  induction h with
  | nil => rfl
  | cons x _ ih => obtain ⟨x, w⟩ := x; simp only [wle, ih]
  | swap x y l => obtain ⟨x, w⟩ := x; obtain ⟨y, u⟩ := y; simp only [wle]; omega
  | trans _ _ h1 h2 => exact h1.trans h2
theorem wle_nn {ps : List (Int × Int)} (h : ∀ p ∈ ps, 0 ≤ p.2) (v : Int) : 0 ≤ wle ps v := by
  induction ps with
  | nil => exact Int.le_refl _
  | cons p ps ih =>
    obtain ⟨x, w⟩ := p
    have h1 := ih fun p hp => h p (List.mem_cons_of_mem _ hp)
    have h2 : 0 ≤ w := h (x, w) List.mem_cons_self
    simp only [wle]
    split <;> omega
theorem wle_mono {ps : List (Int × Int)} (h : ∀ p ∈ ps, 0 ≤ p.2) {u v : Int} (huv : u ≤ v) : wle ps u ≤ wle ps v := by
  induction ps with
  | nil => exact Int.le_refl _
  | cons p ps ih =>
    obtain ⟨x, w⟩ := p
    have h1 := ih fun p hp => h p (List.mem_cons_of_mem _ hp)
    have h2 : 0 ≤ w := h (x, w) List.mem_cons_self
    simp only [wle]
    split <;> split <;> omega
/-- the least value with which the quota is reached -/
def IsSet (ps : List (Int × Int)) (q e : Int) : Prop := (∃ p ∈ ps, p.1 = e) ∧ q ≤ wle ps e ∧ ∀ v, v < e → wle ps v < q
/-- the law's way over the sorted pairs -/
def stepS (q : Int) (a : Int × Option Int) (p : Int × Int) : Int × Option Int := (a.1 + p.2, if a.1 < q then some p.1 else a.2)
theorem step_keep {q : Int} : ∀ (ps : List (Int × Int)) (r : Int) (o : Option Int), (∀ p ∈ ps, 0 ≤ p.2) → q ≤ r → (ps.foldl (stepS q) (r, o)).2 = o
  | [], _, _, _, _ => rfl
  | p :: ps, r, o, h, hr => by
    have h2 := h p List.mem_cons_self
    rw [List.foldl_cons]
    unfold stepS
    rw [if_neg (by omega)]
    exact step_keep ps _ _ (fun p hp => h p (List.mem_cons_of_mem _ hp)) (by show q ≤ r + p.2; omega)
def wall : List (Int × Int) → Int
  | [] => 0
  | (_, w) :: ps => w + wall ps
theorem wle_none {ps : List (Int × Int)} {v : Int} (h : ∀ p ∈ ps, v < p.1) : wle ps v = 0 := by
  induction ps with
  | nil => rfl
  | cons p ps ih =>
    obtain ⟨x, w⟩ := p
    have : v < x := h (x, w) List.mem_cons_self
    simp only [wle]
    rw [if_neg (by omega), ih fun p hp => h p (List.mem_cons_of_mem _ hp)]; rfl
theorem step_set {q : Int} : ∀ (ps : List (Int × Int)) (r : Int) (o : Option Int), ps.Pairwise (fun a b => a.1 ≤ b.1) → (∀ p ∈ ps, 0 ≤ p.2) → r < q → q ≤ r + wall ps → ∃ e, (ps.foldl (stepS q) (r, o)).2 = some e ∧ (∃ p ∈ ps, p.1 = e) ∧ q ≤ r + wle ps e ∧ ∀ v, v < e → r + wle ps v < q
  | [], r, o, _, _, h1, h2 => by unfold wall at h2; omega
  | (x, w) :: ps, r, o, hs, h0, h1, h2 => by
    have hp := List.pairwise_cons.mp hs
    have h0' : ∀ p ∈ ps, 0 ≤ p.2 := fun p hp => h0 p (List.mem_cons_of_mem _ hp)
    have hw : 0 ≤ w := h0 (x, w) List.mem_cons_self
    rw [List.foldl_cons]
    have est : stepS q (r, o) (x, w) = (r + w, some x) := by unfold stepS; rw [if_pos h1]
    rw [est]
    by_cases hq : q ≤ r + w
    · rw [step_keep ps _ _ h0' hq]
      refine ⟨x, rfl, ⟨(x, w), List.mem_cons_self, rfl⟩, ?_, fun v hv => ?_⟩
      · have := wle_nn h0' x
        simp only [wle, Int.le_refl, if_true]; omega
      · have : wle ps v = 0 := wle_none fun p hp1 => by have := hp.1 p hp1; simp at this; omega
        simp only [wle]
        rw [if_neg (by omega), this]; omega
    · have hwall : wall ((x, w) :: ps) = w + wall ps := rfl
      rw [hwall] at h2
      obtain ⟨e, e1, ⟨p, pm, pe⟩, e3, e4⟩ := step_set (q := q) ps (r + w) (some x) hp.2 h0' (by omega) (by omega)
      have hxe : x ≤ e := by have := hp.1 p pm; simp at this; omega
      refine ⟨e, e1, ⟨p, List.mem_cons_of_mem _ pm, pe⟩, ?_, fun v hv => ?_⟩
      · simp only [wle]; rw [if_pos hxe]; omega
      · by_cases hxv : x ≤ v
        · have := e4 v hv
          simp only [wle]; rw [if_pos hxv]; omega
        · have : wle ps v = 0 := wle_none fun p hp1 => by have := hp.1 p hp1; simp at this; omega
          simp only [wle]
          rw [if_neg hxv, this]; omega
/-- the entry that a session makes in a column, by its definition; 0 where there is none -/
noncomputable def entryV (ps : List (Int × Int)) (q : Int) : Int := open Classical in if h : ∃ e, IsSet ps q e then Classical.choose h else 0
theorem set_one {ps : List (Int × Int)} {q e e' : Int} (h : IsSet ps q e) (h' : IsSet ps q e') : e = e' := by
  obtain ⟨_, a, b⟩ := h
  obtain ⟨_, a', b'⟩ := h'
  apply Classical.byContradiction
  intro hne
  rcases Int.lt_or_gt_of_ne hne with h | h
  · have := b' e h; omega
  · have := b e' h; omega
theorem entry_is {ps : List (Int × Int)} {q e : Int} (h : IsSet ps q e) : entryV ps q = e := by
  unfold entryV
  rw [dif_pos ⟨e, h⟩]
  exact set_one (Classical.choose_spec (⟨e, h⟩ : ∃ e, IsSet ps q e)) h
def pairsV (c : Cn) (xs : List (List Int)) (col : Nat) : List (Int × Int) := (xs.map fun r => r.getD col 0).zip c.ws
/-- the row that a session makes -/
noncomputable def settleV (c : Cn) (xs : List (List Int)) : List Int := (List.range c.qs.length).map fun col => entryV (pairsV c xs col) (c.qs.getD col 0)
theorem wall_zip : ∀ (vs ws : List Int), vs.length = ws.length → wall (vs.zip ws) = ws.sum
  | [], [], _ => rfl
  | v :: vs, w :: ws, h => by
    show w + wall (vs.zip ws) = _
    rw [wall_zip vs ws (by simpa using h), List.sum_cons]
  | [], _ :: _, h => by simp at h
  | _ :: _, [], h => by simp at h
theorem wall_perm {ps qs : List (Int × Int)} (h : ps.Perm qs) : wall ps = wall qs := by
  induction h with
  | nil => rfl
  | cons x _ ih => obtain ⟨x, w⟩ := x; simp only [wall, ih]
  | swap x y l => obtain ⟨x, w⟩ := x; obtain ⟨y, u⟩ := y; simp only [wall]; omega
  | trans _ _ h1 h2 => exact h1.trans h2
/-- over pairs in order, from nothing reached -/
theorem fold_set {ps qs : List (Int × Int)} {q : Int} (hp : qs.Perm ps) (hs : qs.Pairwise (fun a b => a.1 ≤ b.1)) (h0 : ∀ p ∈ ps, 0 ≤ p.2) (h1 : 1 ≤ q) (h2 : q ≤ wall ps) : (qs.foldl (stepS q) (0, none)).2 = some (entryV ps q) ∧ IsSet ps q (entryV ps q) := by
  obtain ⟨e, e1, ⟨p, pm, pe⟩, e3, e4⟩ := step_set (q := q) qs 0 none hs (fun p h => h0 p (hp.mem_iff.mp h)) (by omega) (by rw [wall_perm hp]; omega)
  have hI : IsSet ps q e := ⟨⟨p, hp.mem_iff.mp pm, pe⟩, by rw [← wle_perm hp]; omega, fun v hv => by have := e4 v hv; rw [← wle_perm hp]; omega⟩
  rw [entry_is hI]
  exact ⟨e1, hI⟩
section
variable {c : Cn} (hc : CnOk c)
include hc
theorem settle_len (xs : List (List Int)) : (settleV c xs).length = c.qs.length := by simp [settleV]
theorem settle_set {xs : List (List Int)} (hx : xs.length = c.ws.length) {col : Nat} (hcol : col < c.qs.length) : IsSet (pairsV c xs col) (c.qs.getD col 0) ((settleV c xs).getD col 0) := by
  have hq : c.qs.getD col 0 ∈ c.qs := by
    rw [List.getD_eq_getElem?_getD, List.getElem?_eq_getElem hcol]
    exact List.getElem_mem hcol
  have hqr := hc.q _ hq
  have h0 : ∀ p ∈ pairsV c xs col, 0 ≤ p.2 := fun p hp => by
    have := (hc.w p.2 (List.of_mem_zip hp).2).1
    omega
  have hw : wall (pairsV c xs col) = c.ws.sum := wall_zip _ _ (by simpa using hx)
  have hsort : ((pairsV c xs col).mergeSort fun a b => decide (a.1 ≤ b.1)).Pairwise (fun a b => a.1 ≤ b.1) := by
    have h := List.pairwise_mergeSort (le := fun a b : Int × Int => decide (a.1 ≤ b.1)) (fun a b c h1 h2 => by simp at h1 h2 ⊢; omega) (fun a b => by simp; omega) (pairsV c xs col)
    exact h.imp fun h => by simpa using h
  have h := fold_set (List.mergeSort_perm (pairsV c xs col) _) hsort h0 hqr.1 (by rw [hw]; exact hqr.2)
  have e : (settleV c xs).getD col 0 = entryV (pairsV c xs col) (c.qs.getD col 0) := by
    unfold settleV
    rw [List.getD_eq_getElem?_getD, List.getElem?_map, List.getElem?_range hcol]
    rfl
  rw [e]
  exact h.2
end
/-- the weight of the seats whose rows miss a bound -/
def missB : List Int → List (List Int) → Bd → Int
  | w :: ws, x :: xs, b => (if meetsB x b = true then 0 else w) + missB ws xs b
  | _, _, _ => 0
theorem miss_least (col : Nat) (t : Int) : ∀ (ws : List Int) (xs : List (List Int)), missB ws xs ⟨col, true, t⟩ = wle ((xs.map fun r => r.getD col 0).zip ws) (t - 1)
  | [], [] => rfl
  | [], _ :: _ => rfl
  | _ :: _, [] => rfl
  | w :: ws, x :: xs => by
    show (if meetsB x ⟨col, true, t⟩ = true then 0 else w) + missB ws xs _ = (if x.getD col 0 ≤ t - 1 then w else 0) + wle _ _
    rw [miss_least col t ws xs]
    have e : meetsB x ⟨col, true, t⟩ = decide (t ≤ x.getD col 0) := rfl
    rw [e]
    congr 1
    by_cases h : t ≤ x.getD col 0
    · rw [if_pos (by simpa using h), if_neg (by omega)]
    · rw [if_neg (by simpa using h), if_pos (by omega)]
theorem miss_most (col : Nat) (t : Int) : ∀ (ws : List Int) (xs : List (List Int)), xs.length = ws.length → missB ws xs ⟨col, false, t⟩ + wle ((xs.map fun r => r.getD col 0).zip ws) t = ws.sum
  | [], [], _ => rfl
  | [], _ :: _, h => by simp at h
  | _ :: _, [], h => by simp at h
  | w :: ws, x :: xs, h => by
    have ih := miss_most col t ws xs (by simpa using h)
    show (if meetsB x ⟨col, false, t⟩ = true then 0 else w) + missB ws xs ⟨col, false, t⟩ + ((if x.getD col 0 ≤ t then w else 0) + wle ((xs.map fun r => r.getD col 0).zip ws) t) = _
    have e : meetsB x ⟨col, false, t⟩ = decide (x.getD col 0 ≤ t) := rfl
    rw [e, List.sum_cons]
    by_cases h : x.getD col 0 ≤ t
    · rw [if_pos (by simpa using h), if_pos h]; omega
    · rw [if_neg (by simpa using h), if_neg h]; omega
/-- A made row meets a bound exactly if the seats that miss it weigh at most its allowance. -/
theorem made_meets {c : Cn} (hc : CnOk c) {xs : List (List Int)} (hx : xs.length = c.ws.length) {b : Bd} (hb : b.col < c.qs.length) : meetsB (settleV c xs) b = true ↔ missB c.ws xs b ≤ roomV c (b.col, b.least) := by
  obtain ⟨_, h1, h2⟩ := settle_set hc hx hb
  have h0 : ∀ p ∈ pairsV c xs b.col, 0 ≤ p.2 := fun p hp => by
    have := (hc.w p.2 (List.of_mem_zip hp).2).1
    omega
  obtain ⟨col, least, t⟩ := b
  simp only at h1 h2 h0 hb ⊢
  generalize he : (settleV c xs).getD col 0 = e at h1 h2
  cases least with
  | true =>
    rw [miss_least]
    show decide (t ≤ (settleV c xs).getD col 0) = true ↔ wle (pairsV c xs col) (t - 1) ≤ c.qs.getD col 0 - 1
    rw [he, decide_eq_true_eq]
    constructor
    · intro h
      have := h2 (t - 1) (by omega)
      omega
    · intro h
      apply Classical.byContradiction
      intro hlt
      have := wle_mono (u := e) (v := t - 1) h0 (by omega)
      omega
  | false =>
    have hm := miss_most col t c.ws xs hx
    show decide ((settleV c xs).getD col 0 ≤ t) = true ↔ missB c.ws xs ⟨col, false, t⟩ ≤ c.ws.sum - c.qs.getD col 0
    rw [he, decide_eq_true_eq]
    have hm : missB c.ws xs ⟨col, false, t⟩ + wle (pairsV c xs col) t = c.ws.sum := hm
    constructor
    · intro h
      have := wle_mono (u := e) (v := t) h0 h
      omega
    · intro h
      apply Classical.byContradiction
      intro hlt
      have := h2 t (by omega)
      omega
/-- the rows that can be made -/
inductive Made (cs : List Cn) (R : List (List Int)) : List Int → Prop
  | told {r : List Int} (h : r ∈ R) : Made cs R r
  | sess {c : Cn} {xs : List (List Int)} (hc : c ∈ cs) (hl : xs.length = c.ws.length) (hx : ∀ x ∈ xs, Made cs R x) : Made cs R (settleV c xs)
def Light (cs : List Cn) (U : List Sd) : Prop := ∀ c ∈ cs, ¬ Packs c.ws (U.map (roomV c))
def bndV (row : List Int) (s : Sd) : Bd := ⟨s.1, s.2, row.getD s.1 0⟩
def boundOf (W : Sd → Int) (s : Sd) : Bd := ⟨s.1, s.2, W s⟩
theorem room_nn {c : Cn} (hc : CnOk c) {s : Sd} (hs : s.1 < c.qs.length) : 0 ≤ roomV c s := by
  have hq : c.qs.getD s.1 0 ∈ c.qs := by
    rw [List.getD_eq_getElem?_getD, List.getElem?_eq_getElem hs]
    exact List.getElem_mem hs
  have := hc.q _ hq
  unfold roomV
  split <;> omega
theorem put_le {W : Sd → Int} {U : List Sd} : ∀ (ws : List Int) (xs : List (List Int)) (f : List Nat), (∀ w ∈ ws, 0 ≤ w) → f.length = ws.length → xs.length = ws.length → (∀ (i : Nat) k x, f[i]? = some k → xs[i]? = some x → ∃ s, U[k]? = some s ∧ meetsB x (boundOf W s) = false) → ∀ (j : Nat) s, U[j]? = some s → put f ws j ≤ missB ws xs (boundOf W s)
  | [], [], f, _, _, _, _, j, s, _ => by cases f <;> exact Int.le_refl _
  | [], _ :: _, _, _, _, h, _, _, _, _ => by simp at h
  | _ :: _, [], _, _, _, h, _, _, _, _ => by simp at h
  | _ :: _, _ :: _, [], _, h, _, _, _, _, _ => by simp at h
  | w :: ws, x :: xs, k :: f, h0, hf, hx, h, j, s, hj => by
    have ih := put_le (W := W) (U := U) ws xs f (fun w hw => h0 w (List.mem_cons_of_mem _ hw)) (by simpa using hf) (by simpa using hx) (fun i k x e1 e2 => h (i + 1) k x (by simpa using e1) (by simpa using e2)) j s hj
    have hw := h0 w List.mem_cons_self
    show (if k = j then w else 0) + put f ws j ≤ (if meetsB x (boundOf W s) = true then 0 else w) + missB ws xs _
    by_cases hk : k = j
    · subst hk
      obtain ⟨s', e1, e2⟩ := h 0 k x rfl rfl
      rw [hj] at e1
      cases e1
      rw [if_pos rfl, e2, if_neg (by decide)]; omega
    · rw [if_neg hk]
      split <;> omega
/-- a paper holds -/
theorem paper_holds {cs : List Cn} (hcs : ∀ c ∈ cs, CnOk c) {R : List (List Int)} {W : Sd → Int} {U : List Sd} (hU : ∀ c ∈ cs, ∀ s ∈ U, s.1 < c.qs.length) (hl : Light cs U) (hR : ∀ r ∈ R, ∃ s ∈ U, meetsB r (boundOf W s) = false) : ∀ r, Made cs R r → ∃ s ∈ U, meetsB r (boundOf W s) = false := by
  intro r h
  induction h with
  | told h => exact hR _ h
  | @sess c xs hc hlen _ ih =>
    apply Classical.byContradiction
    intro hno
    have hno : ∀ s ∈ U, meetsB (settleV c xs) (boundOf W s) = true := fun s hs => by
      cases q : meetsB (settleV c xs) (boundOf W s) with
      | true => rfl
      | false => exact absurd ⟨s, hs, q⟩ hno
    have hok := hcs c hc
    -- each seat goes into a side that its row misses
    have hf : ∀ (xs : List (List Int)), (∀ x ∈ xs, ∃ s ∈ U, meetsB x (boundOf W s) = false) → ∃ f : List Nat, f.length = xs.length ∧ (∀ i ∈ f, i < U.length) ∧ ∀ (i : Nat) k x, f[i]? = some k → xs[i]? = some x → ∃ s, U[k]? = some s ∧ meetsB x (boundOf W s) = false := by
      intro xs
      induction xs with
      | nil => intro _; exact ⟨[], rfl, (fun i hi => by simp at hi), fun i k x e => by simp at e⟩
      | cons x xs ih =>
        intro h
        obtain ⟨f, f1, f2, f3⟩ := ih fun y hy => h y (List.mem_cons_of_mem _ hy)
        obtain ⟨s, hs, hm⟩ := h x List.mem_cons_self
        obtain ⟨k, hk⟩ := List.getElem?_of_mem hs
        refine ⟨k :: f, by simp [f1], fun i hi => ?_, fun i k' y e1 e2 => ?_⟩
        · rcases List.mem_cons.mp hi with rfl | hi
          · exact (List.getElem?_eq_some_iff.mp hk).1
          · exact f2 i hi
        · cases i with
          | zero => simp at e1 e2; subst e1 e2; exact ⟨s, hk, hm⟩
          | succ i => exact f3 i k' y (by simpa using e1) (by simpa using e2)
    obtain ⟨f, f1, f2, f3⟩ := hf xs ih
    refine hl c hc ⟨f, by rw [f1, hlen], by simpa using f2, fun j r e => ?_⟩
    rw [List.getElem?_map] at e
    cases q : U[j]? with
    | none => rw [q] at e; cases e
    | some s =>
      rw [q] at e
      cases e
      have hs := List.mem_of_getElem? q
      have h1 := put_le c.ws xs f (fun w hw => by have := (hok.w w hw).1; omega) (by rw [f1, hlen]) hlen f3 j s q
      have h2 := (made_meets hok hlen (b := boundOf W s) (hU c hc s hs)).mp (hno s hs)
      exact Int.le_trans h1 h2
theorem miss_put {W : Sd → Int} {U : List Sd} (hnd : U.Nodup) : ∀ (ws : List Int) (xs : List (List Int)) (f : List Nat), (∀ w ∈ ws, 0 ≤ w) → f.length = ws.length → xs.length = ws.length → (∀ (i : Nat) k x, f[i]? = some k → xs[i]? = some x → ∀ (j : Nat) s, U[j]? = some s → j ≠ k → meetsB x (boundOf W s) = true) → ∀ (j : Nat) s, U[j]? = some s → missB ws xs (boundOf W s) ≤ put f ws j
  | [], [], f, _, _, _, _, j, s, _ => by cases f <;> exact Int.le_refl _
  | [], _ :: _, _, _, _, h, _, _, _, _ => by simp at h
  | _ :: _, [], _, _, _, h, _, _, _, _ => by simp at h
  | _ :: _, _ :: _, [], _, h, _, _, _, _, _ => by simp at h
  | w :: ws, x :: xs, k :: f, h0, hf, hx, h, j, s, hj => by
    have ih := miss_put (W := W) hnd ws xs f (fun w hw => h0 w (List.mem_cons_of_mem _ hw)) (by simpa using hf) (by simpa using hx) (fun i k x e1 e2 => h (i + 1) k x (by simpa using e1) (by simpa using e2)) j s hj
    have hw := h0 w List.mem_cons_self
    show (if meetsB x (boundOf W s) = true then 0 else w) + missB ws xs _ ≤ (if k = j then w else 0) + put f ws j
    by_cases hk : k = j
    · rw [if_pos hk]
      split <;> omega
    · rw [if_neg hk, if_pos (h 0 k x rfl rfl j s hj (fun e => hk e.symm))]; omega
/-- what is met by told rows as far as it is light can be made -/
theorem plan_comes {cs : List Cn} (hcs : ∀ c ∈ cs, CnOk c) {R : List (List Int)} {W : Sd → Int} : ∀ (n : Nat) (U : List Sd), U.length = n → U.Nodup → (∀ c ∈ cs, ∀ s ∈ U, s.1 < c.qs.length) → (∀ L : List Sd, L.Sublist U → Light cs L → ∃ r ∈ R, ∀ s ∈ L, meetsB r (boundOf W s) = true) → ∃ r, Made cs R r ∧ ∀ s ∈ U, meetsB r (boundOf W s) = true := by
  intro n
  induction n with
  | zero =>
    intro U hn _ _ h
    have e : U = [] := List.eq_nil_of_length_eq_zero hn
    subst e
    have hl : Light cs [] := fun c hc => packs_nil (fun e => by have := (hcs c hc).w2; rw [e] at this; simp at this)
    obtain ⟨r, hr, hm⟩ := h [] (.refl _) hl
    exact ⟨r, .told hr, hm⟩
  | succ n ih =>
    intro U hn hnd hcol h
    by_cases hl : Light cs U
    · obtain ⟨r, hr, hm⟩ := h U (.refl _) hl
      exact ⟨r, .told hr, hm⟩
    · have : ∃ c ∈ cs, Packs c.ws (U.map (roomV c)) := by
        apply Classical.byContradiction
        intro hc
        exact hl fun c h1 h2 => hc ⟨c, h1, h2⟩
      obtain ⟨c, hc, f, f1, f2, f3⟩ := this
      have hok := hcs c hc
      have hrow : ∀ k, k < U.length → ∃ r, Made cs R r ∧ ∀ (j : Nat) s, U[j]? = some s → j ≠ k → meetsB r (boundOf W s) = true := by
        intro k hk
        obtain ⟨r, h1, h2⟩ := ih (U.eraseIdx k) (by rw [List.length_eraseIdx, if_pos hk]; omega) (hnd.sublist (List.eraseIdx_sublist _ _)) (fun c hc s hs => hcol c hc s ((List.eraseIdx_sublist _ _).subset hs)) fun L hL => h L (hL.trans (List.eraseIdx_sublist _ _))
        refine ⟨r, h1, fun j s hj hjk => h2 s ?_⟩
        rw [List.mem_eraseIdx_iff_getElem?]
        exact ⟨j, hjk, hj⟩
      have hxs : ∀ f : List Nat, (∀ i ∈ f, i < U.length) → ∃ xs : List (List Int), xs.length = f.length ∧ (∀ x ∈ xs, Made cs R x) ∧ ∀ (i : Nat) k x, f[i]? = some k → xs[i]? = some x → ∀ (j : Nat) s, U[j]? = some s → j ≠ k → meetsB x (boundOf W s) = true := by
        intro f
        induction f with
        | nil => intro _; exact ⟨[], rfl, (fun x hx => by simp at hx), fun i k x e => by simp at e⟩
        | cons k f ih =>
          intro hf
          obtain ⟨xs, x1, x2, x3⟩ := ih fun i hi => hf i (List.mem_cons_of_mem _ hi)
          obtain ⟨r, r1, r2⟩ := hrow k (hf k List.mem_cons_self)
          refine ⟨r :: xs, by simp [x1], fun x hx => ?_, fun i k' x e1 e2 => ?_⟩
          · rcases List.mem_cons.mp hx with rfl | hx
            · exact r1
            · exact x2 x hx
          · cases i with
            | zero => simp at e1 e2; subst e1 e2; exact r2
            | succ i => exact x3 i k' x (by simpa using e1) (by simpa using e2)
      obtain ⟨xs, x1, x2, x3⟩ := hxs f (by simpa using f2)
      have hlen : xs.length = c.ws.length := by rw [x1, f1]
      refine ⟨settleV c xs, .sess hc hlen x2, fun s hs => ?_⟩
      obtain ⟨j, hj⟩ := List.getElem?_of_mem hs
      refine (made_meets hok hlen (b := boundOf W s) (hcol c hc s hs)).mpr ?_
      refine Int.le_trans (miss_put hnd c.ws xs f (fun w hw => by have := (hok.w w hw).1; omega) f1 hlen x3 j s hj) ?_
      exact f3 j (roomV c s) (by rw [List.getElem?_map, hj]; rfl)
theorem made_len {cs : List Cn} (hcs : ∀ c ∈ cs, CnOk c) {wd : Nat} (hq : ∀ c ∈ cs, c.qs.length = wd) {R : List (List Int)} (hR : ∀ r ∈ R, r.length = wd) : ∀ r, Made cs R r → r.length = wd := by
  intro r h
  induction h with
  | told h => exact hR _ h
  | @sess c xs hc _ _ _ => rw [settle_len (hcs c hc), hq c hc]
/-- all sides of a width -/
def sidesV (wd : Nat) : List Sd := (List.range wd).flatMap fun k => [(k, true), (k, false)]
theorem sides_mem {wd : Nat} {s : Sd} : s ∈ sidesV wd ↔ s.1 < wd := by
  unfold sidesV
  simp only [List.mem_flatMap, List.mem_range, List.mem_cons, List.not_mem_nil, or_false]
  obtain ⟨k, b⟩ := s
  constructor
  · rintro ⟨a, h, e | e⟩ <;> (cases e; exact h)
  · intro h
    exact ⟨k, h, by cases b <;> simp⟩
theorem sides_nodup (wd : Nat) : (sidesV wd).Nodup := by
  induction wd with
  | zero => exact List.nodup_nil
  | succ n ih =>
    unfold sidesV at ih ⊢
    rw [List.range_succ, List.flatMap_append, List.nodup_append]
    refine ⟨ih, by simp, ?_⟩
    intro a ha b hb e
    subst e
    have h1 : a ∈ sidesV n := ha
    rw [sides_mem] at h1
    simp at hb
    rcases hb with rfl | rfl <;> simp at h1
/-- WHAT CAN BE MADE, by light sets of sides -/
theorem made_iff {cs : List Cn} (hcs : ∀ c ∈ cs, CnOk c) {wd : Nat} (hq : ∀ c ∈ cs, c.qs.length = wd) {R : List (List Int)} (hR : ∀ r ∈ R, r.length = wd) {row : List Int} (hrow : row.length = wd) :
    Made cs R row ↔ ∀ U : List Sd, U.Sublist (sidesV wd) → Light cs U → ∃ r ∈ R, ∀ s ∈ U, meetsB r (bndV row s) = true := by
  have eb : ∀ s, bndV row s = boundOf (fun s => row.getD s.1 0) s := fun s => rfl
  have own : ∀ s : Sd, meetsB row (bndV row s) = true := fun s => by
    obtain ⟨k, b⟩ := s
    unfold meetsB bndV
    cases b <;> simp
  constructor
  · intro hm U hU hl
    apply Classical.byContradiction
    intro hno
    have hR' : ∀ r ∈ R, ∃ s ∈ U, meetsB r (boundOf (fun s => row.getD s.1 0) s) = false := by
      intro r hr
      apply Classical.byContradiction
      intro h2
      refine hno ⟨r, hr, fun s hs => ?_⟩
      cases q : meetsB r (bndV row s) with
      | true => rfl
      | false => exact absurd ⟨s, hs, q⟩ h2
    obtain ⟨s, _, e⟩ := paper_holds hcs (W := fun s => row.getD s.1 0) (fun c hc s hs => by rw [hq c hc]; exact sides_mem.mp (hU.subset hs)) hl hR' row hm
    have := own s
    rw [eb, e] at this
    cases this
  · intro h
    obtain ⟨r, h1, h2⟩ := plan_comes hcs (W := fun s => row.getD s.1 0) (R := R) _ (sidesV wd) rfl (sides_nodup wd) (fun c hc s hs => by rw [hq c hc]; exact sides_mem.mp hs) fun L hL hl => h L hL hl
    have hlr := made_len hcs hq hR r h1
    have e : r = row := by
      refine List.ext_getElem? fun k => ?_
      by_cases hk : k < wd
      · have a := h2 (k, true) (sides_mem.mpr hk)
        have b := h2 (k, false) (sides_mem.mpr hk)
        have a : row.getD k 0 ≤ r.getD k 0 := by simpa [meetsB, boundOf] using a
        have b : r.getD k 0 ≤ row.getD k 0 := by simpa [meetsB, boundOf] using b
        rw [List.getElem?_eq_getElem (by omega), List.getElem?_eq_getElem (by omega)]
        rw [List.getD_eq_getElem?_getD, List.getD_eq_getElem?_getD, List.getElem?_eq_getElem (by omega), List.getElem?_eq_getElem (by omega)] at a b
        simp at a b
        congr 1
        omega
      · rw [List.getElem?_eq_none (by omega), List.getElem?_eq_none (by omega)]
    rw [e] at h1
    exact h1
end Pk
namespace Pk
open PySem L2 DL
/-- the wish that only this row meets -/
def exactlyV (row : List Int) : List Bd := row.zipIdx.flatMap fun z => [⟨z.2, true, z.1⟩, ⟨z.2, false, z.1⟩]
section
variable {P : Program} {w : World} {K : PySem.W.Frag} {mg : Str → Option Value} {base : Heap} {Cc : Addr}
def n_exactly : List Str := ["row", "found", "column", "value"]
theorem sc_exactly : FnScope n_exactly ["row"] (defScope s_exactly) := ⟨rfl, rfl, rfl, by decide +kernel, rfl, by decide +kernel, by decide +kernel⟩
def pr_exactly (K : PySem.W.Frag) : Hp → List PyData → RR → Prop := fun _ ds R => ∃ r : List Int, ds = [rowD r] ∧ r.length ≤ 1000 ∧ R = rNl K ((exactlyV r).map bdD)
theorem ok_exactly {f : Addr} {fd : FuncData} (F : Fun K "exactly" "exactly" s_exactly f fd) (B : BN mg) : FnOk P w K mg base CX0 1 f fd ["row"] (spP K (pr_exactly K)) := by
  refine fun_go F sc_exactly (by rintro G ds R ⟨n, rfl, _⟩; rfl) ?_
  rintro cdv A outer s H0 E G H ds R hr ⟨r, rfl, hl, rfl⟩
  have hu := hr.units
  refine go_setL 1 (evl_lst ea_nil) sc_exactly.nd fun q hq => ?_
  have hqH : H q = none := fresh_ext fun z => hq (.inl z)
  refine go_for (α := Int × Nat) (xs := r.zipIdx) (enc := fun z => .tuple [.int (z.2 : Nat), .int z.1]) (is := [2, 3]) (fun z Δ => sets Δ [2, 3] [.int (z.2 : Nat), .int z.1]) (ItD.is (it_enumT true rfl (B _ (by decide +kernel)) (ev_v 0 rfl)) ?_) (fun z hz => tg_tup sc_exactly.nd rfl (nm_cons 2 (nm_cons 3 .nil))) rfl PassesOwn.never
    (fun i Δ' S' => ∃ o2 o3, Δ' = [some (rowD r), some (ob q), o2, o3] ∧ S' = (((As.ext G H).and (.fact (Same G) fun _ _ e h => h.trans e)).and (.acc K q (((r.zipIdx.take i).flatMap fun z => [(⟨z.2, true, z.1⟩ : Bd), ⟨z.2, false, z.1⟩]).map bdD)))) ⟨none, none, rfl, rfl⟩ ?_ ?_
  · rw [List.zipIdx_map, List.map_map]; rfl
  · rintro i ⟨v, c⟩ _ _ hk ⟨o2, o3, rfl, rfl⟩
    have hi : i < r.length := by have := (List.getElem?_eq_some_iff.mp hk).1; simpa using this
    have tk : r.zipIdx.take (i + 1) = r.zipIdx.take i ++ [(v, c)] := take_some hk
    have hfl : ∀ l : List (Int × Nat), (l.flatMap fun z => [(⟨z.2, true, z.1⟩ : Bd), ⟨z.2, false, z.1⟩]).length = 2 * l.length := fun l => by
      induction l with
      | nil => rfl
      | cons a l ih => rw [List.flatMap_cons, List.length_append, ih, List.length_cons]; simp; omega
    refine go_extend (es := [bdD ⟨c, true, v⟩, bdD ⟨c, false, v⟩]) (ev_v 1 rfl) (evl_lst (ea_cons (ev_tup (ea_cons (ev_v 2 rfl) (ea_cons ev_str (ea_cons (ev_v 3 rfl) ea_nil)))) (ea_cons (ev_tup (ea_cons (ev_v 2 rfl) (ea_cons ev_str (ea_cons (ev_v 3 rfl) ea_nil)))) ea_nil))) (As.nf hq) ?_ (go_turn ⟨_, _, rfl, ?_⟩)
    · rw [List.length_map, hfl, List.length_take]; simp; omega
    · rw [tk, List.flatMap_append, List.map_append]; rfl
  · rintro _ _ ⟨o2, o3, rfl, rfl⟩
    rw [List.take_length]
    exact go_retA (ev_v 1 rfl) (as_and (as_l.trans as_l) as_r) hqH
theorem sc_all_sides : FnScope ["width", "column", "way"] ["width"] (defScope s_all_sides) := ⟨rfl, rfl, rfl, by decide +kernel, rfl, by decide +kernel, by decide +kernel⟩
def pr_all_sides (K : PySem.W.Frag) : Hp → List PyData → RR → Prop := fun _ ds R => ∃ n : Nat, ds = [.int n] ∧ n ≤ 1000 ∧ R = rNl K ((sidesV n).map sdD)
theorem ok_all_sides {f : Addr} {fd : FuncData} (F : Fun K "all_sides" "all_sides" s_all_sides f fd) (B : BN mg) : FnOk P w K mg base CX0 1 f fd ["width"] (spP K (pr_all_sides K)) := by
  refine fun_go F sc_all_sides (by rintro G ds R ⟨n, rfl, _⟩; rfl) ?_
  rintro cdv A outer s H0 E G H ds R hr ⟨n, rfl, hl, rfl⟩
  refine go_rt rfl as_l (EvR.isL (evl_lc2 (α := Nat) (β := Bool) (xs := List.range n) (enc := fun k => .int (k : Int)) (ys := fun _ => [true, false]) (encB := fun _ b => .str (wayS b)) (own := [("column", 1), ("way", 2)]) (is := [1]) (is1 := [2]) (fun k b => sdD (k, b)) (fun k Δ => Δ.set 1 (some (.int (k : Int)))) (fun _ b Δ => Δ.set 2 (some (.str (wayS b)))) (it_rng rfl (B _ (by decide +kernel)) (ev_v 0 rfl) (by omega)) rfl sc_all_sides.nd (blkOk_by (N := ["width", "column", "way"]) (sc := defScope s_all_sides) (by decide +kernel)) ?_ (by decide) (by decide) (fun k hk => fun _ _ _ _ _ => tg_name 1 sc_all_sides.nd) (fun D es hD k hk => fun _ _ _ _ _ => it_tup (ev_tup (ea_cons ev_str (ea_cons ev_str ea_nil)))) (fun k hk b hb => fun _ _ _ _ _ => tg_name 2 sc_all_sides.nd) (fun D es hD k hk b hb => fun _ _ _ _ _ => ev_tup (ea_cons (ev_v 1 rfl) (ea_cons (ev_v 2 rfl) ea_nil)))) ?_)
  · rw [List.length_flatMap]
    have : ((List.range n).map fun _ : Nat => ([true, false] : List Bool).length) = List.replicate n 2 := by simp [List.map_const']
    rw [this, List.sum_replicate_nat]
    omega
  · unfold sidesV
    rw [List.map_flatMap]
    rfl
end
theorem zip_range : ∀ (l : List Int) (k : Nat), ((l.zipIdx k).flatMap fun z => [(⟨z.2, true, z.1⟩ : Bd), ⟨z.2, false, z.1⟩]) = (List.range l.length).flatMap fun i => [⟨k + i, true, l.getD i 0⟩, ⟨k + i, false, l.getD i 0⟩]
  | [], _ => rfl
  | x :: l, k => by
    rw [List.zipIdx_cons, List.flatMap_cons, zip_range l (k + 1), List.length_cons, List.range_succ_eq_map, List.flatMap_cons, List.flatMap_map]
    congr 1
    congr 1
    funext i
    have e : k + 1 + i = k + (i + 1) := by omega
    rw [e]
    rfl
theorem exactly_is (row : List Int) : exactlyV row = (sidesV row.length).map (bndV row) := by
  unfold exactlyV sidesV
  rw [zip_range, List.map_flatMap]
  congr 1
  funext i
  simp [bndV]
end Pk
namespace Pk
open PySem L2 DL
theorem srt_desc (ms : List Int) : srt true (ms.map PyData.int) = (srtD ms).map PyData.int := by
  rw [srt_map]
  unfold srtD
  rw [W.dataGe_int (fun b : Int => b)]
theorem sok_ints {ms : List Int} (h : ms.length ≤ 1000000) : Sok (ms.map PyData.int) :=
  ⟨W.AllAlike.of fun _ _ => rfl, W.Sortable.others fun _ => ⟨(fun z => by cases z), (fun _ z => by cases z)⟩, (fun d hd => by obtain ⟨i, _, rfl⟩ := List.mem_map.mp hd; simp [PyData.depth]), by rw [List.length_map]; exact h⟩
theorem canLay_ints : ∀ ns : List Int, PyData.canLayAll0 (ns.map .int) = true
  | [] => rfl
  | n :: ns => by simpa [PyData.canLayAll0, PyData.canLay0] using canLay_ints ns
theorem depth_ints : ∀ ns : List Int, PyData.depthAll (ns.map .int) = 0
  | [] => rfl
  | n :: ns => by simp [PyData.depthAll, PyData.depth, depth_ints ns]
theorem depth_row (r : List Int) : (rowD r).depth = 1 := by unfold rowD; rw [PyData.depth, depth_ints]
theorem shaped_rows (rows : List (List Int)) : SeqAt.shaped (.list (rows.map rowD)) = true := by
  have h1 : ∀ rows : List (List Int), PyData.canLayAll0 (rows.map rowD) = true := fun rows => by
    induction rows with
    | nil => rfl
    | cons n ns ih => rw [List.map_cons, PyData.canLayAll0, ih]; unfold rowD; rw [PyData.canLay0, canLay_ints]; rfl
  have h2 : ∀ rows : List (List Int), PyData.depthAll (rows.map rowD) ≤ 1 := fun rows => by
    induction rows with
    | nil => simp [PyData.depthAll]
    | cons n ns ih =>
      simp only [List.map_cons, PyData.depthAll, depth_row n]
      omega
  have h4 := h2 rows
  have h3 : (PyData.list (rows.map rowD)).depth = 1 + PyData.depthAll (rows.map rowD) := by rw [PyData.depth] <;> omega
  unfold SeqAt.shaped
  rw [Bool.and_eq_true, decide_eq_true_eq]
  exact ⟨by rw [PyData.canLay0, h1], by omega⟩
theorem sok_rows {rows : List (List Int)} (h : rows.length ≤ 1000000) (hne : ∀ r ∈ rows, r ≠ []) : Sok (rows.map rowD) :=
  ⟨alike_rows rows, sortable_rows hne, (fun d hd => by obtain ⟨r, _, rfl⟩ := List.mem_map.mp hd; rw [depth_row]; omega), by rw [List.length_map]; exact h⟩
/-- the order of lists of tuples -/
def srtL (rows : List (List Int)) : List (List Int) := rows.mergeSort (W.dataLe false rowD)
theorem srtL_mem (rows : List (List Int)) (r : List Int) : r ∈ srtL rows ↔ r ∈ rows := (List.mergeSort_perm rows _).mem_iff
theorem srtL_len (rows : List (List Int)) : (srtL rows).length = rows.length := List.length_mergeSort ..
section
variable {P : Program} {w : World} {K : PySem.W.Frag} {mg : Str → Option Value} {base : Heap} {Cc : Addr}
theorem sc_fits : FnScope ["load", "tops", "one", "top"] ["load", "tops"] (defScope s_fits) := ⟨rfl, rfl, rfl, by decide +kernel, rfl, by decide +kernel, by decide +kernel⟩
def pr_fits (K : PySem.W.Frag) : Hp → List PyData → RR → Prop := fun _ ds R => ∃ l t : List Int, ds = [rowD l, intsD t] ∧ l.length ≤ 1000 ∧ R = rAt K (.bool (fitsV l t))
theorem ok_fits {f : Addr} {fd : FuncData} (F : Fun K "fits" "fits" s_fits f fd) (B : BN mg) : FnOk P w K mg base CX0 1 f fd ["load", "tops"] (spP K (pr_fits K)) := by
  refine fun_go F sc_fits (by rintro G ds R ⟨l, t, rfl, _⟩; rfl) ?_
  rintro cdv A outer s H0 E G H ds R hr ⟨l, t, rfl, hl, rfl⟩
  refine go_rt rfl as_l (EvR.is (ev_and (k := decide (l.length ≤ t.length)) (k' := (l.zip t).all fun z => decide (z.1 ≤ z.2)) (EvR.is (ev_cmp od_le (EvR.is (ev_lenT rfl rfl (B _ (by decide +kernel)) (ev_v 0 rfl)) (by rw [List.length_map])) (EvR.is (ev_len rfl rfl (B _ (by decide +kernel)) (EvR.m (ev_v 1 rfl))) (by rw [List.length_map]))) ?_) fun _ => ev_one (ev_all rfl rfl rfl (B _ (by decide +kernel)) (EvR.frz ?_))) rfl)
  · congr 1; simp
  · exact evl_map (α := Int × Int) (xs := l.zip t) (enc := fun z => .tuple [.int z.1, .int z.2]) [("one", 2), ("top", 3)] (fun z => .bool (decide (z.1 ≤ z.2))) (fun z Δ => sets Δ [2, 3] [.int z.1, .int z.2]) (ItD.is (it_zip true false rfl (B _ (by decide +kernel)) (ev_v 0 rfl) (ev_v 1 rfl)) (by rw [List.zip_map, List.map_map]; rfl)) rfl sc_fits.nd (blkOk_by (N := ["load", "tops", "one", "top"]) (sc := defScope s_fits) (by decide +kernel)) (by rw [List.length_zip]; omega) (is := [2, 3]) (by decide) (fun b hb => fun _ _ _ _ _ => tg_tup sc_fits.nd rfl (nm_cons 2 (nm_cons 3 .nil))) (fun D es hD z hz => fun _ _ _ _ _ => ev_cmp od_le (ev_v 2 rfl) (ev_v 3 rfl))
def n_next : List Str := ["load", "weight", "some", "at", "one"]
theorem sc_next : FnScope n_next ["load", "weight"] (defScope s_next_loads) := ⟨rfl, rfl, rfl, by decide +kernel, rfl, by decide +kernel, by decide +kernel⟩
def pr_next (K : PySem.W.Frag) : Hp → List PyData → RR → Prop := fun _ ds R => ∃ (l : List Int) (w : Int), ds = [rowD l, .int w] ∧ l.length ≤ 100 ∧ R = rNl K ((nextV l w).map rowD)
theorem cut_lo {α : Type} {r : List α} {a : Nat} (h : a ≤ r.length) : cutD r none (some (a : Int)) = r.take a := by
  have e : HT.sIx r.length r.length (some (a : Int)) = a := by rw [HT.sIx_nat]; omega
  have e2 : HT.sIx r.length 0 none = 0 := by unfold HT.sIx; rfl
  unfold cutD
  rw [e, e2]
  simp
theorem cut_hi {α : Type} {r : List α} {a : Nat} (h : a ≤ r.length) : cutD r (some (a : Int)) none = r.drop a := by
  have e : HT.sIx r.length 0 (some (a : Int)) = a := by rw [HT.sIx_nat]; omega
  have e2 : HT.sIx r.length r.length none = r.length := by unfold HT.sIx; rfl
  unfold cutD
  rw [e, e2, List.take_of_length_le (by simp)]
theorem ok_next {f : Addr} {fd : FuncData} (F : Fun K "next_loads" "next_loads" s_next_loads f fd) (B : BN mg) : FnOk P w K mg base CX0 1 f fd ["load", "weight"] (spP K (pr_next K)) := by
  refine fun_go F sc_next (by rintro G ds R ⟨l, t, rfl, _⟩; rfl) ?_
  rintro cdv A outer s H0 E G H ds R hr ⟨l, wt, rfl, hl, rfl⟩
  have hu := hr.units
  refine go_setL 2 (evl_lst (ea_cons (ev_op (od_catT (by simp; omega)) (ev_v 0 rfl) (ev_tup (ea_cons (ev_v 1 rfl) ea_nil))) ea_nil)) sc_next.nd fun q hq => ?_
  have e0 : PyData.tuple (l.map PyData.int ++ [.int wt]) = rowD (l ++ [wt]) := by unfold rowD; rw [List.map_append]; rfl
  rw [e0]
  refine go_for (α := Nat) (xs := List.range l.length) (enc := fun k => .int (k : Int)) (is := [3]) (fun k Δ => Δ.set 3 (some (.int (k : Int)))) (it_rng rfl (B _ (by decide +kernel)) (EvR.is (ev_lenT rfl rfl (B _ (by decide +kernel)) (ev_v 0 rfl)) (by rw [List.length_map])) (by omega)) (fun k hk => tg_name 3 sc_next.nd) rfl PassesOwn.never
    (fun i Δ' S' => ∃ o, Δ' = [some (rowD l), some (.int wt), some (ob q), o, none] ∧ S' = (((As.ext G H).and (.fact (Same G) fun _ _ e h => h.trans e)).and (.acc K q (((l ++ [wt]) :: ((List.range l.length).take i).map fun i => l.take i ++ [l.getD i 0 + wt] ++ l.drop (i + 1)).map rowD)))) ⟨none, rfl, rfl⟩ ?_ ?_
  · rintro i k _ _ hk ⟨o, rfl, rfl⟩
    have hi : i < l.length := by have := (List.getElem?_eq_some_iff.mp hk).1; simpa using this
    have hki : k = i := by rw [List.getElem?_range hi] at hk; cases hk; rfl
    subst hki
    have tk : (List.range l.length).take (k + 1) = (List.range l.length).take k ++ [k] := take_some hk
    have e1 : ((k : Int) + 1) = ((k + 1 : Nat) : Int) := by omega
    refine go_app (d := rowD (l.take k ++ [l.getD k 0 + wt] ++ l.drop (k + 1))) (ev_v 2 rfl) (EvR.is (ev_op (od_catT ?_) (ev_op (od_catT ?_) (ev_sl sld_tup (ev_v 0 rfl) eo_none (eo_some (ev_v 3 rfl))) (ev_tup (ea_cons (ev_op od_add (ev_ix (ixd_tup (ix_row hi)) (ev_v 0 rfl) (ev_v 3 rfl)) (ev_v 1 rfl)) ea_nil))) (ev_sl sld_tup (ev_v 0 rfl) (eo_some (ev_op od_add (ev_v 3 rfl) ev_int)) eo_none)) ?_) (As.nf hq) (by simp; omega) (go_turn ⟨_, rfl, ?_⟩)
    · rw [cut_lo (by rw [List.length_map]; omega), e1, cut_hi (by rw [List.length_map]; omega)]; simp; omega
    · rw [cut_lo (by rw [List.length_map]; omega)]; simp; omega
    · rw [cut_lo (by rw [List.length_map]; omega), e1, cut_hi (by rw [List.length_map]; omega)]
      unfold rowD
      rw [List.map_append, List.map_append, List.map_take, List.map_drop]; rfl
    · rw [tk, List.map_append, List.map_cons, List.map_cons, List.map_append]; rfl
  · rintro _ _ ⟨o, rfl, rfl⟩
    rw [show (List.range l.length).take (List.range l.length).length = List.range l.length from List.take_length]
    refine go_frz 2 hq rfl ?_
    refine go_rt rfl as_l (EvR.isL (evl_map [("one", 4)] (fun r => rowD (srtD r)) (fun x Δ => Δ.set 4 (some (rowD x))) (it_list (ev_v 2 rfl)) rfl sc_next.nd (blkOk_by (N := n_next) (sc := defScope s_next_loads) (by decide +kernel)) (by simp; omega) (is := [4]) (by decide) (fun b hb => fun _ _ _ _ _ => tg_name 4 sc_next.nd) ?_) ?_)
    · intro D es hD r hrm
      have hrl : r.length ≤ 1000 := by
        rcases List.mem_cons.mp hrm with rfl | h
        · simp; omega
        · obtain ⟨i, _, rfl⟩ := List.mem_map.mp h
          simp; omega
      exact fun _ _ _ _ _ => ev_tupleC rfl rfl (B _ (by decide +kernel)) (.inl rfl) (EvR.is (EvR.frz (ev_sortedR rfl hu (sok_ints (by omega)) (.inr rfl) rfl (B _ (by decide +kernel)) (ev_v 4 rfl))) (by rw [srt_desc]))
    · unfold nextV; rw [List.map_map]; rfl
end
end Pk
namespace Pk
open PySem L2 DL
/-! ### loads, level by level -/
def lvD (lv : List (List Int)) : PyData := .list (lv.map rowD)
def lvStep (tops : List Int) (acc : List (List (List Int))) (w : Int) : List (List (List Int)) := acc ++ [srtL (levelV tops (acc.getLastD []) w)]
def lvsV (tops ws : List Int) : List (List (List Int)) := ws.foldl (lvStep tops) [[[]]]
theorem nextV_len (l : List Int) (w : Int) : (nextV l w).length = l.length + 1 := by simp [nextV]
theorem nextV_each {l x : List Int} {w : Int} (h : x ∈ nextV l w) : x ≠ [] ∧ x.length ≤ l.length + 1 := by
  unfold nextV at h
  obtain ⟨y, hy, rfl⟩ := List.mem_map.mp h
  have : y.length ≤ l.length + 1 ∧ 0 < y.length := by
    rcases List.mem_cons.mp hy with rfl | hy
    · simp
    · obtain ⟨i, hi, rfl⟩ := List.mem_map.mp hy
      have : i < l.length := by simpa using hi
      simp; omega
  refine ⟨fun e => ?_, by rw [srtD_len]; exact this.1⟩
  have e2 := srtD_len y
  rw [e] at e2
  simp at e2
  omega
theorem addF_len (tops : List Int) : ∀ (l acc : List (List Int)), (l.foldl (addF tops) acc).length ≤ acc.length + l.length
  | [], acc => Nat.le_refl _
  | a :: l, acc => by
    have h1 := addF_len tops l (addF tops acc a)
    have h2 : (addF tops acc a).length ≤ acc.length + 1 := by unfold addF; split <;> simp
    rw [List.foldl_cons, List.length_cons]; omega
theorem levelF_len (tops : List Int) (w : Int) (k : Nat) : ∀ (level acc : List (List Int)), (∀ l ∈ level, l.length ≤ k) → (level.foldl (fun acc load => (nextV load w).foldl (addF tops) acc) acc).length ≤ acc.length + level.length * (k + 1)
  | [], acc, _ => by simp
  | a :: l, acc, h => by
    have h1 := levelF_len tops w k l ((nextV a w).foldl (addF tops) acc) fun x hx => h x (List.mem_cons_of_mem _ hx)
    have h2 := addF_len tops (nextV a w) acc
    rw [nextV_len] at h2
    have h3 := h a List.mem_cons_self
    rw [List.foldl_cons, List.length_cons, Nat.succ_mul]; omega
theorem addF_mem (tops : List Int) (x : List Int) (l acc : List (List Int)) (h : x ∈ l.foldl (addF tops) acc) : x ∈ acc ∨ x ∈ l := ((mem_addF tops x l acc).mp h).imp id fun h => h.1
/-- what is kept of a level -/
structure LvOk (k : Nat) (lv : List (List Int)) : Prop where
  n : lv.length ≤ 7 ^ k
  e : ∀ l ∈ lv, l.length ≤ k
theorem lvok_next {k : Nat} {lv : List (List Int)} {tops : List Int} {w : Int} (h : LvOk k lv) (hk : k < 7) : LvOk (k + 1) (srtL (levelV tops lv w)) := by
  refine ⟨?_, fun l hl => ?_⟩
  · rw [srtL_len]
    have h1 := levelF_len tops w k lv [] h.e
    have h2 := h.n
    refine Nat.le_trans h1 ?_
    rw [List.length_nil, Nat.zero_add, Nat.pow_succ]
    exact Nat.mul_le_mul h2 (by omega)
  · rw [srtL_mem] at hl
    obtain ⟨load, h1, h2, _⟩ := (mem_level tops w l lv).mp hl
    have := (nextV_each h2).2
    have := h.e load h1
    omega
theorem lvs_last (tops : List Int) (acc : List (List (List Int))) (w : Int) : (lvStep tops acc w).getLastD [] = srtL (levelV tops (acc.getLastD []) w) := by
  unfold lvStep
  rw [List.getLastD_eq_getLast?]
  simp
/-- the levels are chains of loads -/
theorem lvs_chain (tops : List Int) : ∀ (ws : List Int) (acc : List (List (List Int))), Lvs tops (acc.getLastD []) ws ((ws.foldl (lvStep tops) acc).getLastD [])
  | [], acc => .nil _
  | w :: ws, acc => by
    rw [List.foldl_cons]
    refine .cons (next := (lvStep tops acc w).getLastD []) (fun x => ?_) (lvs_chain tops ws _)
    rw [lvs_last, srtL_mem]
theorem lvs_ok (tops : List Int) (ws : List Int) : ∀ i, i ≤ ws.length → i ≤ 7 → LvOk i (((ws.take i).foldl (lvStep tops) [[[]]]).getLastD [])
  | 0, _, _ => ⟨by simp, fun l hl => by simp at hl; rw [hl]; exact Nat.le_refl _⟩
  | i + 1, h, h7 => by
    have ih := lvs_ok tops ws i (by omega) (by omega)
    obtain ⟨w, hw⟩ : ∃ w, ws[i]? = some w := ⟨_, List.getElem?_eq_getElem h⟩
    rw [DL.take_some hw, List.foldl_append, List.foldl_cons, List.foldl_nil, lvs_last]
    exact lvok_next ih (by omega)
theorem lvs_len (tops : List Int) : ∀ (ws : List Int) (acc : List (List (List Int))), (ws.foldl (lvStep tops) acc).length = acc.length + ws.length
  | [], acc => rfl
  | w :: ws, acc => by
    rw [List.foldl_cons, lvs_len tops ws]
    unfold lvStep
    simp; omega
theorem dGet_keys {κ : Type} [DecidableEq κ] (d : PyData) (k : κ) : ∀ ks : List κ, (dGet (ks.map fun x => (x, d)) k).isSome = decide (k ∈ ks)
  | [] => rfl
  | x :: ks => by
    have ih := dGet_keys d k ks
    unfold dGet at ih ⊢
    rw [List.map_cons, List.find?_cons]
    by_cases h : x = k
    · subst h; simp
    · simp only [h, decide_false]
      rw [ih]
      have : ¬ k = x := fun e => h e.symm
      simp [this]
theorem dPut_new {κ : Type} [DecidableEq κ] (d : PyData) (k : κ) (ks : List κ) (h : k ∉ ks) : dPut (ks.map fun x => (x, d)) k d = (ks ++ [k]).map fun x => (x, d) := by
  unfold dPut
  rw [if_neg, List.map_append]
  · rfl
  · rw [dGet_any]
    have := dGet_keys d k ks
    rw [this]; simpa using h
section
variable {P : Program} {w : World} {K : PySem.W.Frag} {mg : Str → Option Value} {base : Heap} {Cc : Addr}
def n_lev : List Str := ["weights", "rooms", "tops", "levels", "weight", "level", "load", "one"]
theorem sc_lev : FnScope n_lev ["weights", "rooms"] (defScope s_load_levels) := ⟨rfl, rfl, rfl, by decide +kernel, rfl, by decide +kernel, by decide +kernel⟩
def pr_lev (K : PySem.W.Frag) : Hp → List PyData → RR → Prop := fun _ ds R => ∃ ws rs : List Int, ds = [intsD ws, intsD rs] ∧ ws.length ≤ 7 ∧ rs.length ≤ 1000 ∧ R = rNl K ((lvsV (srtD rs) ws).map lvD)
theorem ok_lev {f : Addr} {fd : FuncData} (F : Fun K "load_levels" "load_levels" s_load_levels f fd) (B : BN mg) (c1 : CalP P w K mg base 1 "next_loads" (pr_next K)) (c2 : CalP P w K mg base 1 "fits" (pr_fits K)) : FnOk P w K mg base CX0 2 f fd ["weights", "rooms"] (spP K (pr_lev K)) := by
  refine fun_go F sc_lev (by rintro G ds R ⟨l, t, rfl, _⟩; rfl) ?_
  rintro cdv A outer s H0 E G H ds R hr ⟨ws, rs, rfl, hw, hrs, rfl⟩
  have hu := hr.units
  have hu1 : (A.deeper (PyProof.Rows.envOfC (Str.ofString "load_levels") (defScope s_load_levels) s.heap.objs.size f cdv)).units + 1 < cLine := by have := hr.un; omega
  obtain ⟨S0, hS0⟩ : ∃ S0, ((As.ext G H).and (.fact (Same G) fun _ _ e h => h.trans e)) = S0 := ⟨_, rfl⟩
  rw [hS0]
  have hE : S0.le (.ext G H) := by rw [← hS0]; exact as_l
  refine go_set 2 (d := intsD (srtD rs)) (EvR.is (EvR.frz (ev_sortedR rfl hu (sok_ints (by omega)) (.inl rfl) rfl (B _ (by decide +kernel)) (ev_v 1 rfl))) (by rw [srt_desc]; rfl)) sc_lev.nd ?_
  refine go_setL 3 (evl_lst (ea_cons (EvR.frz (evl_lst (ea_cons (ev_tup ea_nil) ea_nil))) ea_nil)) sc_lev.nd fun q hq => ?_
  have hqH : H q = none := fresh_ext fun z => hq (by rw [← hS0]; exact .inl z)
  refine go_for (α := Int) (xs := ws) (enc := .int) (is := [4]) (fun k Δ => Δ.set 4 (some (.int k))) (it_list (ev_v 0 rfl)) (fun k hk => tg_name 4 sc_lev.nd) rfl PassesOwn.never
    (fun i Δ' S' => ∃ o4 o5 o6 o7, Δ' = [some (intsD ws), some (intsD rs), some (intsD (srtD rs)), some (ob q), o4, o5, o6, o7] ∧ S' = S0.and (.acc K q (((ws.take i).foldl (lvStep (srtD rs)) [[[]]]).map lvD))) ⟨none, none, none, none, rfl, rfl⟩ ?_ ?_
  · rintro i wt _ _ hk ⟨o4, o5, o6, o7, rfl, rfl⟩
    have hi : i < ws.length := (List.getElem?_eq_some_iff.mp hk).1
    have tk : ws.take (i + 1) = ws.take i ++ [wt] := DL.take_some hk
    have hok := lvs_ok (srtD rs) ws i (by omega) (by omega)
    have hlen := lvs_len (srtD rs) (ws.take i) [[[]]]
    generalize hacc : (ws.take i).foldl (lvStep (srtD rs)) [[[]]] = acc at hok hlen
    have hne : acc ≠ [] := fun e => by rw [e] at hlen; simp at hlen; omega
    have hlast : atI (acc.map lvD) (-1) = some (lvD (acc.getLastD [])) := by
      refine atI_last ?_
      rw [List.length_map, List.getElem?_map]
      have : acc[acc.length - 1]? = some (acc.getLastD []) := by
        rw [List.getLastD_eq_getLast?, List.getLast?_eq_getElem?]
        have hl : acc.length - 1 < acc.length := by have := List.length_pos_iff.mpr hne; omega
        rw [List.getElem?_eq_getElem hl]; rfl
      rw [this]; rfl
    generalize hlv : acc.getLastD [] = lv at hok hlast
    have hpow : (7 : Nat) ^ i * 7 ≤ 1000000 := by
      have h7 : i < 7 := by omega
      match i, h7 with
      | 0, _ => decide
      | 1, _ => decide
      | 2, _ => decide
      | 3, _ => decide
      | 4, _ => decide
      | 5, _ => decide
      | 6, _ => decide
    have hn := hok.n
    refine go_newT 5 sc_lev.nd fun q2 hq2 => ?_
    have hqq : ¬ (S0.and (.acc K q (acc.map lvD))).fo q2 := As.nf hq2
    refine go_for (α := List Int) (xs := lv) (enc := rowD) (is := [6]) (fun k Δ => Δ.set 6 (some (rowD k))) (it_list (ev_ixM (q := q) (as_l.trans as_r) hlast (ev_v 3 rfl) (ev_un ud_neg ev_int))) (fun k hk => tg_name 6 sc_lev.nd) rfl PassesOwn.never
      (fun j Δ' S' => ∃ o6 o7, Δ' = [some (intsD ws), some (intsD rs), some (intsD (srtD rs)), some (ob q), some (.int wt), some (ob q2), o6, o7] ∧ S' = (S0.and (.acc K q (acc.map lvD))).and (.dT K q2 ((((lv.take j).foldl (fun acc load => (nextV load wt).foldl (addF (srtD rs)) acc) [])).map fun x => (x, .bool true)))) ⟨o6, o7, rfl, rfl⟩ ?_ ?_
    · rintro j load _ _ hj ⟨o6, o7, rfl, rfl⟩
      have tj : lv.take (j + 1) = lv.take j ++ [load] := DL.take_some hj
      have hjl : j < lv.length := (List.getElem?_eq_some_iff.mp hj).1
      have hload := hok.e load (List.mem_of_getElem? hj)
      have hfl := levelF_len (srtD rs) wt i (lv.take j) [] fun l hl => hok.e l (List.mem_of_mem_take hl)
      generalize hF : (lv.take j).foldl (fun acc load => (nextV load wt).foldl (addF (srtD rs)) acc) [] = F0 at hfl
      have hF0 : F0.length + 7 ≤ 1000000 := by
        rw [List.length_nil, Nat.zero_add, List.length_take, Nat.min_eq_left (by omega)] at hfl
        have h1 : (j + 1) * 7 ≤ 7 ^ i * 7 := Nat.mul_le_mul_right _ (by omega)
        have h2 : j * (i + 1) ≤ j * 7 := Nat.mul_le_mul_left _ (by omega)
        omega
      refine go_for (α := List Int) (xs := nextV load wt) (enc := rowD) (is := [7]) (fun k Δ => Δ.set 7 (some (rowD k))) (it_list (EvR.frz (ev_c c1 hr rfl (ea_cons (ev_v 6 rfl) (ea_cons (ev_v 4 rfl) ea_nil)) fun _ _ _ => ⟨load, wt, rfl, by omega, rfl⟩))) (fun k hk => tg_name 7 sc_lev.nd) rfl PassesOwn.never
        (fun t Δ' S' => ∃ o7, Δ' = [some (intsD ws), some (intsD rs), some (intsD (srtD rs)), some (ob q), some (.int wt), some (ob q2), some (rowD load), o7] ∧ S' = (S0.and (.acc K q (acc.map lvD))).and (.dT K q2 ((((nextV load wt).take t).foldl (addF (srtD rs)) F0).map fun x => (x, .bool true)))) ⟨o7, rfl, rfl⟩ ?_ ?_
      · rintro t one _ _ ht ⟨o7, rfl, rfl⟩
        have tt : (nextV load wt).take (t + 1) = (nextV load wt).take t ++ [one] := DL.take_some ht
        have htl : t < (nextV load wt).length := (List.getElem?_eq_some_iff.mp ht).1
        rw [nextV_len] at htl
        have hone := (nextV_each (List.mem_of_getElem? ht)).2
        have hal := addF_len (srtD rs) ((nextV load wt).take t) F0
        rw [List.length_take, nextV_len] at hal
        generalize hF1 : ((nextV load wt).take t).foldl (addF (srtD rs)) F0 = F1 at hal
        refine go_if (k := !decide (one ∈ F1) && fitsV one (srtD rs)) (EvT.is (evt_w (evw_and (k := !decide (one ∈ F1)) (k' := fitsV one (srtD rs)) (EvT.is (evt_dTnotin hu1 as_r (ev_v 7 rfl) (ev_v 5 rfl)) (by rw [dGet_keys]; congr 1; exact decide_eq_decide.mpr Iff.rfl)) fun _ => evw_and1 (evt_val (ev_c c2 hr rfl (ea_cons (ev_v 7 rfl) (ea_cons (ev_v 2 rfl) ea_nil)) fun _ _ _ => ⟨one, srtD rs, rfl, by omega, rfl⟩)))) rfl) (fun h => ?_) (fun h => ?_)
        · refine go_dTput (P := (· = .bool true)) hu1 (EvR.x ev_bl rfl) (ev_v 5 rfl) (ev_v 7 rfl) hqq (by rw [List.length_map]; omega) fun d hd => ?_
          subst hd
          refine go_nil' (go_turn ⟨_, rfl, ?_⟩)
          have h' := h
          rw [Bool.and_eq_true] at h'
          rw [tt, List.foldl_append, hF1, dPut_new _ _ _ (by simpa using h'.1)]
          show _ = (S0.and (.acc K q (acc.map lvD))).and (.dT K q2 ((addF (srtD rs) F1 one).map fun x => (x, .bool true)))
          unfold addF
          rw [if_pos h]
          rfl
        · refine go_nil' (go_turn ⟨_, rfl, ?_⟩)
          rw [tt, List.foldl_append, hF1]
          show _ = (S0.and (.acc K q (acc.map lvD))).and (.dT K q2 ((addF (srtD rs) F1 one).map fun x => (x, .bool true)))
          unfold addF
          rw [if_neg (by rw [h]; decide)]
      · rintro _ _ ⟨o7, rfl, rfl⟩
        refine go_turn ⟨_, _, rfl, ?_⟩
        rw [List.take_length, tj, List.foldl_append, hF]
        rfl
    · rintro _ _ ⟨o6, o7, rfl, rfl⟩
      rw [List.take_length]
      have hfl := levelF_len (srtD rs) wt i lv [] hok.e
      have hll : (levelV (srtD rs) lv wt).length ≤ 1000000 := by
        refine Nat.le_trans hfl ?_
        rw [List.length_nil, Nat.zero_add]
        exact Nat.le_trans (Nat.mul_le_mul hn (by omega : i + 1 ≤ 7)) hpow
      have hml : ∀ r ∈ levelV (srtD rs) lv wt, r ≠ [] := fun r hr => by
        obtain ⟨load, _, h2, _⟩ := (mem_level _ _ _ _).mp hr
        exact (nextV_each h2).1
      have hneq : q2 ≠ q := fun e => hq2 (.inr e)
      refine Go.le (T := (S0.and (.dT K q2 ((levelV (srtD rs) lv wt).map fun x => (x, .bool true)))).and (.acc K q (acc.map lvD))) ?_ fun G H h => ⟨⟨h.1.1, h.2⟩, h.1.2⟩
      have hfo : ¬ (S0.and (.dT K q2 ((levelV (srtD rs) lv wt).map fun x => (x, .bool true)))).fo q := fun z => z.elim (fun z => hq (S0.fo_own z)) fun z => hneq z.symm
      refine go_app (d := lvD (srtL (levelV (srtD rs) lv wt))) (ev_v 3 rfl) (EvR.is (EvR.frz (evl_sorted (ds := (levelV (srtD rs) lv wt).map rowD) rfl hu (sok_rows hll hml) rfl (B _ (by decide +kernel)) (.inl rfl) (EvR.is (EvR.frz (evl_listT (q := q2) rfl rfl (as_l.trans as_r) rfl (B _ (by decide +kernel)) (ev_v 5 rfl))) ?_))) ?_) hfo ?_ ?_
      · rw [List.map_map]; rfl
      · unfold lvD srtL; rw [srt_map]
      · rw [List.length_map]; rw [hlen]; simp; omega
      · refine Go.le (T := S0.and (.acc K q (acc.map lvD ++ [lvD (srtL (levelV (srtD rs) lv wt))]))) ?_ fun G H h => ⟨h.1.1, h.2⟩
        refine go_turn ⟨_, _, _, _, rfl, ?_⟩
        rw [tk, List.foldl_append, hacc]
        show _ = S0.and (.acc K q ((lvStep (srtD rs) acc wt).map lvD))
        unfold lvStep
        rw [hlv, List.map_append]
        rfl
  · rintro _ _ ⟨o4, o5, o6, o7, rfl, rfl⟩
    rw [List.take_length]
    exact go_retA (ev_v 3 rfl) (as_and (as_l.trans hE) as_r) hqH
end
end Pk
namespace Pk
open PySem L2 DL
/-- whether there is a packing -/
noncomputable def packsB (ws rooms : List Int) : Bool := open Classical in decide (Packs ws rooms)
theorem packsB_iff {ws rooms : List Int} : packsB ws rooms = true ↔ Packs ws rooms := by unfold packsB; simp
theorem eqv_intsD (xs ys : List Int) : PyData.eqv (intsD xs) (intsD ys) = decide (xs = ys) := eqv_ints xs ys
theorem shaped_intsD (ns : List Int) : SeqAt.shaped (intsD ns) = true := shaped_ints ns
theorem len_desc (ws : List Int) : (srtD ws).length = ws.length := srtD_len ws
theorem zipIdx_filter (w : Int) : ∀ (l : List Int) (k : Nat), ((l.zipIdx k).filter fun z => decide (w ≤ z.1)).map (·.2) = ((List.range l.length).filter fun i => decide (w ≤ l.getD i 0)).map (k + ·)
  | [], _ => rfl
  | x :: l, k => by
    rw [List.zipIdx_cons, List.length_cons, List.range_succ_eq_map]
    have ih := zipIdx_filter w l (k + 1)
    rw [List.filter_cons, List.filter_cons]
    have e : ((List.range l.length).map Nat.succ).filter (fun i => decide (w ≤ (x :: l).getD i 0)) = ((List.range l.length).filter fun i => decide (w ≤ l.getD i 0)).map Nat.succ := by
      rw [List.filter_map]; rfl
    rw [e]
    have e2 : (((List.range l.length).filter fun i => decide (w ≤ l.getD i 0)).map Nat.succ).map (k + ·) = ((List.range l.length).filter fun i => decide (w ≤ l.getD i 0)).map (k + 1 + ·) := by
      rw [List.map_map]
      congr 1
      funext i
      show k + (i + 1) = k + 1 + i
      omega
    have e3 : (x :: l).getD 0 0 = x := rfl
    rw [e3]
    by_cases h : w ≤ x
    · rw [if_pos (by simpa using h), if_pos (by simpa using h), List.map_cons, List.map_cons, ih, e2]
      rfl
    · rw [if_neg (by simpa using h), if_neg (by simpa using h), ih, e2]
section
variable {P : Program} {w : World} {K : PySem.W.Frag} {mg : Str → Option Value} {base : Heap} {Cc : Addr}
def n_ff : List Str := ["weights", "rooms", "left", "weight", "places", "index", "room"]
theorem sc_ff : FnScope n_ff ["weights", "rooms"] (defScope s_first_fit) := ⟨rfl, rfl, rfl, by decide +kernel, rfl, by decide +kernel, by decide +kernel⟩
def pr_ff (K : PySem.W.Frag) : Hp → List PyData → RR → Prop := fun _ ds R => ∃ ws rs : List Int, ds = [intsD ws, intsD rs] ∧ rs.length ≤ 1000 ∧ R = rAt K (.bool (ffV ws rs))
theorem ok_ff {f : Addr} {fd : FuncData} (F : Fun K "first_fit" "first_fit" s_first_fit f fd) (B : BN mg) : FnOk P w K mg base CX0 1 f fd ["weights", "rooms"] (spP K (pr_ff K)) := by
  refine fun_go F sc_ff (by rintro G ds R ⟨l, t, rfl, _⟩; rfl) ?_
  rintro cdv A outer s H0 E G H ds R hr ⟨ws, rs, rfl, hrs, rfl⟩
  have hu := hr.units
  obtain ⟨S0, hS0⟩ : ∃ S0, ((As.ext G H).and (.fact (Same G) fun _ _ e h => h.trans e)) = S0 := ⟨_, rfl⟩
  rw [hS0]
  have hE : S0.le (.ext G H) := by rw [← hS0]; exact as_l
  refine go_setL 2 (evl_list rfl rfl (B _ (by decide +kernel)) (.inl rfl) (ev_v 1 rfl)) sc_ff.nd fun q hq => ?_
  refine go_for (α := Int) (xs := ws) (enc := .int) (is := [3]) (fun k Δ => Δ.set 3 (some (.int k))) (it_list (ev_v 0 rfl)) (fun k hk => tg_name 3 sc_ff.nd) rfl PassesOwn.never
    (fun i Δ' S' => ∃ o3 o4 o5 o6, ∃ lf : List Int, lf.length = rs.length ∧ ffV ws rs = ffV (ws.drop i) lf ∧ Δ' = [some (intsD ws), some (intsD rs), some (ob q), o3, o4, o5, o6] ∧ S' = S0.and (.acc K q (lf.map .int))) ⟨none, none, none, none, rs, rfl, rfl, rfl, rfl⟩ ?_ ?_
  · rintro i wt _ _ hk ⟨o3, o4, o5, o6, lf, hlf, hff, rfl, rfl⟩
    have hi : i < ws.length := (List.getElem?_eq_some_iff.mp hk).1
    have hdr : ws.drop i = wt :: ws.drop (i + 1) := by
      rw [List.drop_eq_getElem_cons hi, (List.getElem?_eq_some_iff.mp hk).2]
    rw [hdr] at hff
    refine go_setLcF 4 (lclS (α := Int × Nat) (xs := lf.zipIdx) (enc := fun z => .tuple [.int (z.2 : Nat), .int z.1]) (own := [("index", 5), ("room", 6)]) (is := [5, 6]) (fun z => decide (wt ≤ z.1)) (fun z => .int (z.2 : Nat)) (fun z Δ => sets Δ [5, 6] [.int (z.2 : Nat), .int z.1]) ?it (blkOk_by (N := n_ff) (sc := defScope s_first_fit) (by decide +kernel)) (by simp; omega) (by decide) (fun b hb => fun _ _ _ _ _ => tg_tup sc_ff.nd rfl (nm_cons 5 (nm_cons 6 .nil))) (fun D es hD z hz => fun _ _ _ _ _ => evts_one (EvT.is (evt_cmp od_ge (ev_v 6 rfl) (ev_v 3 rfl)) rfl)) (fun D es hD z hz _ => fun _ _ _ _ _ => ev_v 5 rfl)) rfl sc_ff.nd ?_
    case it =>
      have h := it_enumA (X := (cxOf CX0 P w K mg base n_ff "first_fit" (defScope s_first_fit) f cdv A outer s H0 E).nox) (q := q) (ds := lf.map .int) (S := S0.and (.acc K q (lf.map .int))) (Δ := [some (intsD ws), some (intsD rs), some (ob q), some (.int wt), o4, o5, o6]) (tpos := ⟨0, 0, 0, 0⟩) (elts := []) (kk := 0) (e := .Name "left" ⟨0, 0, 0, 0⟩) (pos := ⟨0, 0, 0, 0⟩) (p := ⟨0, 0, 0, 0⟩) rfl (B _ (by decide +kernel)) as_r (ev_v 2 rfl)
      have e : ((lf.map PyData.int).zipIdx.map fun z => PyData.tuple [.int (z.2 : Nat), z.1]) = lf.zipIdx.map fun z => .tuple [.int (z.2 : Nat), .int z.1] := by
        rw [List.zipIdx_map, List.map_map]; rfl
      rw [← e]
      exact it_enumA rfl (B _ (by decide +kernel)) as_r (ev_v 2 rfl)
    have hpl : ((lf.zipIdx.filter fun z => decide (wt ≤ z.1)).map fun z => PyData.int (z.2 : Nat)) = (placesV lf wt).map fun k : Nat => .int (k : Int) := by
      have := zipIdx_filter wt lf 0
      have e : (fun z : Int × Nat => PyData.int (z.2 : Nat)) = (fun k : Nat => PyData.int (k : Int)) ∘ (·.2) := rfl
      rw [e, ← List.map_map, this]
      unfold placesV
      congr 1
      simp
    rw [hpl]
    have hcons : ffV (wt :: ws.drop (i + 1)) lf = (match placesV lf wt with | [] => false | j :: _ => ffV (ws.drop (i + 1)) (lf.set j (lf.getD j 0 - wt))) := rfl
    rw [hcons] at hff
    cases hp : placesV lf wt with
    | nil =>
      rw [hp] at hff
      refine go_if (k := true) (EvT.is (evt_cmpF (of_eqD hu (by rfl) shaped_nil) (EvR.m (ev_v 4 rfl)) (EvR.m (EvR.frz (evl_lst ea_nil)))) (by rfl)) (fun _ => ?_) (fun h => by cases h)
      exact go_rt rfl (as_l.trans hE) (EvR.is ev_bl (by rw [hff]))
    | cons j js =>
      rw [hp] at hff
      have hj : j < lf.length := by
        have : j ∈ placesV lf wt := by rw [hp]; exact List.mem_cons_self
        unfold placesV at this
        rw [List.mem_filter] at this
        simpa using this.1
      have hsh : SeqAt.shaped (.list ((j :: js).map fun k : Nat => PyData.int (k : Int))) = true := by
        have := shaped_ints ((j :: js).map fun k : Nat => (k : Int))
        rwa [List.map_map] at this
      refine go_if (k := false) (EvT.is (evt_cmpF (of_eqD hu hsh shaped_nil) (EvR.m (ev_v 4 rfl)) (EvR.m (EvR.frz (evl_lst ea_nil)))) (by rw [eqv_nil]; rfl)) (fun h => by cases h) (fun _ => go_nil' ?_)
      refine go_augIx (n := j) (m := lf.getD j 0) ip_sub (ev_v 2 rfl) (ev_ix (ixd_list (d := .int (j : Int)) (i := 0) (atI_nat' (j := 0) rfl)) (ev_v 4 rfl) ev_int) (ev_v 3 rfl) (fun z => hq (S0.fo_own z)) (by unfold ixN; rw [if_pos (Int.natCast_nonneg j), if_pos (by simp; omega)]; simp) ?_ ?_
      · rw [List.getElem?_map, List.getElem?_eq_getElem hj, List.getD_eq_getElem?_getD, List.getElem?_eq_getElem hj]; rfl
      · refine go_turn ⟨_, _, _, _, lf.set j (lf.getD j 0 - wt), by rw [List.length_set, hlf], hff, rfl, ?_⟩
        rw [List.map_set]; rfl
  · rintro _ _ ⟨o3, o4, o5, o6, lf, hlf, hff, rfl, rfl⟩
    rw [List.drop_length] at hff
    exact go_rt rfl (as_l.trans hE) (EvR.is ev_bl (by rw [hff]; rfl))
theorem sc_cp : FnScope ["weights", "rooms", "some", "tops"] ["weights", "rooms"] (defScope s_can_pack) := ⟨rfl, rfl, rfl, by decide +kernel, rfl, by decide +kernel, by decide +kernel⟩
/-- weights that can be packed -/
structure WOk (ws : List Int) : Prop where
  ne : ws ≠ []
  n : ws.length ≤ 7
  p : ∀ w ∈ ws, 0 < w
def pr_cp (K : PySem.W.Frag) : Hp → List PyData → RR → Prop := fun _ ds R => ∃ ws rs : List Int, ds = [intsD ws, intsD rs] ∧ WOk ws ∧ rs.length ≤ 1000 ∧ (∀ x ∈ rs, 0 ≤ x) ∧ R = rAt K (.bool (packsB ws rs))
theorem atI_head {l : List Int} (h : l ≠ []) : atI (l.map PyData.int) 0 = some (.int (l.getD 0 0)) := by
  cases l with
  | nil => exact absurd rfl h
  | cons a l => exact atI_nat' (j := 0) rfl
theorem ok_cp {f : Addr} {fd : FuncData} (F : Fun K "can_pack" "can_pack" s_can_pack f fd) (B : BN mg) (c1 : CalP P w K mg base 1 "first_fit" (pr_ff K)) (c2 : CalP P w K mg base 2 "load_levels" (pr_lev K)) : FnOk P w K mg base CX0 3 f fd ["weights", "rooms"] (spP K (pr_cp K)) := by
  refine fun_go F sc_cp (by rintro G ds R ⟨l, t, rfl, _⟩; rfl) ?_
  rintro cdv A outer s H0 E G H ds R hr ⟨ws, rs, rfl, hw, hrs, h0, rfl⟩
  have hu := hr.units
  have hwn := hw.n
  have hne' : srtD ws ≠ [] := fun e => hw.ne (List.perm_nil.mp (by rw [← e]; exact (srtD_perm ws).symm))
  refine go_par 2 3 (d1 := intsD (srtD ws)) (d2 := intsD (srtD rs)) (EvR.is (EvR.frz (ev_sortedR rfl hu (sok_ints (by omega)) (.inl rfl) rfl (B _ (by decide +kernel)) (ev_v 0 rfl))) (by rw [srt_desc]; rfl)) (EvR.is (EvR.frz (ev_sortedR rfl hu (sok_ints (by omega)) (.inl rfl) rfl (B _ (by decide +kernel)) (ev_v 1 rfl))) (by rw [srt_desc]; rfl)) rfl sc_cp.nd ?_
  have hc := lvs_chain (srtD (srtD rs)) (srtD ws) [[[]]]
  have e2 : srtD (srtD rs) = srtD rs := srtD_congr (srtD_perm rs)
  rw [e2] at hc
  have hcan := can_iff hw.ne hw.p h0 hc
  have hb : packsB ws rs = canV (srtD ws) (srtD rs) (((srtD ws).foldl (lvStep (srtD rs)) [[[]]]).getLastD []) := by
    rw [Bool.eq_iff_iff, packsB_iff, hcan]
  rw [hb]
  have hlast : atI ((lvsV (srtD (srtD rs)) (srtD ws)).map lvD) (-1) = some (lvD (((srtD ws).foldl (lvStep (srtD rs)) [[[]]]).getLastD [])) := by
    rw [e2]
    have hlen := lvs_len (srtD rs) (srtD ws) [[[]]]
    unfold lvsV
    generalize (srtD ws).foldl (lvStep (srtD rs)) [[[]]] = acc at hlen
    have hl : acc.length - 1 < acc.length := by rw [hlen]; simp
    refine atI_last ?_
    rw [List.length_map, List.getElem?_map, List.getLastD_eq_getLast?, List.getLast?_eq_getElem?, List.getElem?_eq_getElem hl]
    rfl
  generalize hlv : ((srtD ws).foldl (lvStep (srtD rs)) [[[]]]).getLastD [] = lv at hlast
  refine go_if (k := decide (srtD rs = []) || (decide ((srtD rs).getD 0 0 < (srtD ws).getD 0 0) || decide ((srtD rs).sum < (srtD ws).sum))) (evt_w (evw_or (EvT.is (evt_cmpF (d1 := intsD (srtD rs)) (of_eqD hu (shaped_intsD _) shaped_nil) (EvR.m (ev_v 3 rfl)) (EvR.m (EvR.frz (evl_lst ea_nil)))) ?_) fun hk => evw_or (EvT.is (evt_cmp od_gt (ev_ix (ixd_list (atI_head hne')) (ev_v 2 rfl) ev_int) (ev_ix (ixd_list (atI_head (by simpa using hk))) (ev_v 3 rfl) ev_int)) rfl) fun _ => evw_or1 (EvT.is (evt_cmp od_gt (ev_sum (xs := srtD ws) (f := id) rfl rfl rfl (B _ (by decide +kernel)) (ev_v 2 rfl)) (ev_sum (xs := srtD rs) (f := id) rfl rfl rfl (B _ (by decide +kernel)) (ev_v 3 rfl))) ?_))) (fun h => ?_) (fun h => go_nil' ?_)
  · exact eqv_intsD (srtD rs) []
  · rw [List.map_id, List.map_id]
  · refine go_rt rfl as_l (EvR.is ev_bl ?_)
    unfold canV
    rw [if_pos h]
  · refine go_rt rfl as_l (EvR.is (ev_or (k := ffV (srtD ws) (srtD rs)) (k' := !decide (lv = [])) (ev_c c1 hr rfl (ea_cons (ev_v 2 rfl) (ea_cons (ev_v 3 rfl) ea_nil)) fun _ _ _ => ⟨_, _, rfl, by rw [srtD_len]; exact hrs, rfl⟩) fun _ => ev_one (ev_cmpF (u := .bl (!decide (lv = []))) (d1 := lvD lv) ?_ (EvR.m (ev_ix (ixd_list hlast) (EvR.frz (ev_c c2 hr rfl (ea_cons (ev_v 2 rfl) (ea_cons (ev_v 3 rfl) ea_nil)) fun _ _ _ => ⟨srtD ws, srtD rs, rfl, by rw [srtD_len]; exact hwn, by rw [srtD_len]; exact hrs, rfl⟩)) (ev_un ud_neg ev_int))) (EvR.m (EvR.frz (evl_lst ea_nil))) fun G => .bl _)) ?_)
    · have h := of_neD (X := (cxOf CX0 P w K mg base ["weights", "rooms", "some", "tops"] "can_pack" (defScope s_can_pack) f cdv A outer s H0 E).nox) hu (shaped_rows lv) shaped_nil
      rw [eqv_nil] at h
      have e3 : (lv.map rowD).isEmpty = decide (lv = []) := by cases lv <;> simp
      rw [e3] at h
      exact h
    · unfold canV
      rw [if_neg (by rw [h]; decide)]
end
end Pk
namespace Pk
open PySem L2 DL
theorem bit_zero (m k : Nat) : decide (Builtin.bitAnd (m : Int) ((2 : Int) ^ k) = 0) = !bitAt m k := by
  rw [PySem.W.kbt_bit]
  unfold bitAt
  have e : ((m : Int) / 2 ^ k % 2) = ((m / 2 ^ k % 2 : Nat) : Int) := by
    rw [← PySem.W.kbt_cast, ← Int.natCast_ediv]
    rfl
  rw [e]
  have hp : (0 : Int) < 2 ^ k := PySem.W.kbt_pos k
  have h2 : m / 2 ^ k % 2 = 0 ∨ m / 2 ^ k % 2 = 1 := by omega
  rcases h2 with h | h <;> rw [h]
  · simp
  · have : ¬ ((1 : Nat) : Int) * 2 ^ k = 0 := by rw [Int.natCast_one, Int.one_mul]; omega
    simp only [this, decide_false, decide_true, Bool.not_true]
theorem pick_zip {α : Type} : ∀ (xs : List α) (k0 M : Nat), ((xs.zip ((List.range xs.length).map fun i => (2 : Int) ^ (k0 + i))).filter fun z => !decide (Builtin.bitAnd (M : Int) z.2 = 0)).map (·.1) = pick (M / 2 ^ k0) xs
  | [], _, _ => by unfold pick; rfl
  | x :: xs, k0, M => by
    rw [List.length_cons, List.range_succ_eq_map, List.map_cons, List.map_map, List.zip_cons_cons, List.filter_cons]
    have ih := pick_zip xs (k0 + 1) M
    have e1 : (fun i => (2 : Int) ^ (k0 + i)) ∘ Nat.succ = fun i => (2 : Int) ^ (k0 + 1 + i) := by
      funext i; show (2 : Int) ^ (k0 + (i + 1)) = _; congr 1; omega
    have e2 : M / 2 ^ k0 / 2 = M / 2 ^ (k0 + 1) := by rw [Nat.div_div_eq_div_mul, Nat.pow_succ]
    have e3 : (!decide (Builtin.bitAnd (M : Int) ((2 : Int) ^ (k0 + 0)) = 0)) = decide (M / 2 ^ k0 % 2 = 1) := by
      rw [Nat.add_zero, bit_zero, Bool.not_not]; rfl
    rw [e1]
    unfold pick
    rw [e2]
    simp only [e3]
    by_cases h : M / 2 ^ k0 % 2 = 1
    · rw [if_pos (by simpa using h), if_pos h, List.map_cons, ih]
    · rw [if_neg (by simpa using h), if_neg h, ih]
theorem members_pick {α : Type} (xs : List α) (m : Nat) : membersV xs (m : Int) = pick m xs := by
  have := pick_zip xs 0 m
  unfold membersV bitsV
  simpa using this
theorem pick_map {α β : Type} (f : α → β) : ∀ (xs : List α) (m : Nat), pick m (xs.map f) = (pick m xs).map f
  | [], m => by unfold pick; rfl
  | x :: xs, m => by
    rw [List.map_cons]
    unfold pick
    split
    · rw [pick_map f xs, List.map_cons]
    · exact pick_map f xs _
theorem cut_take {α : Type} {r : List α} {a : Nat} : cutD r none (some (a : Int)) = r.take a := by
  have e : HT.sIx r.length r.length (some (a : Int)) = min a r.length := by rw [HT.sIx_nat]
  have e2 : HT.sIx r.length 0 none = 0 := by unfold HT.sIx; rfl
  unfold cutD
  rw [e, e2, List.drop_zero, Nat.sub_zero, ← List.take_eq_take_min]
theorem nodup_le {α : Type} [DecidableEq α] : ∀ {l m : List α}, l.Nodup → (∀ x ∈ l, x ∈ m) → l.length ≤ m.length
  | [], m, _, _ => Nat.zero_le _
  | a :: l, m, n, h => by
    rw [List.nodup_cons] at n
    have ha := h a List.mem_cons_self
    have t := nodup_le (l := l) (m := m.erase a) n.2 fun x hx => by
      have : x ≠ a := fun e => n.1 (e ▸ hx)
      exact (List.mem_erase_of_ne this).mpr (h x (List.mem_cons_of_mem _ hx))
    rw [List.length_erase_of_mem ha] at t
    have : 0 < m.length := List.length_pos_of_mem ha
    rw [List.length_cons]; omega
/-! ### Packers -/
def pkNs : List Str := ["its_weights", "its_rooms", "its_answers"]
def pkD (Cp a : Addr) (ws rs : List Int) (q : Addr) : PyData := insD a Cp pkNs [intsD ws, intsD rs, ob q]
structure PF (K : PySem.W.Frag) (Cp : Addr) : Prop where
  cl : Cls K Cp
  n1 : NoAttr K Cp "its_weights"
  n2 : NoAttr K Cp "its_rooms"
  n3 : NoAttr K Cp "its_answers"
def topsV (ws rs : List Int) (m : Nat) : List Int := (srtD (pick m rs)).take ws.length
structure MemoI (ws rs : List Int) (kvs : List (List Int × PyData)) : Prop where
  nd : (kvs.map (·.1)).Nodup
  ok : ∀ kv ∈ kvs, ∃ m, m < 2 ^ rs.length ∧ kv.1 = topsV ws rs m ∧ kv.2 = .bool (packsB ws kv.1)
theorem MemoI.len {ws rs : List Int} {kvs : List (List Int × PyData)} (h : MemoI ws rs kvs) : kvs.length ≤ 2 ^ rs.length := by
  have := nodup_le (m := (List.range (2 ^ rs.length)).map (topsV ws rs)) h.nd fun x hx => by
    obtain ⟨kv, h1, rfl⟩ := List.mem_map.mp hx
    obtain ⟨m, h2, h3, _⟩ := h.ok kv h1
    exact List.mem_map.mpr ⟨m, List.mem_range.mpr h2, h3.symm⟩
  simpa using this
def memoA (K : PySem.W.Frag) (q : Addr) (ws rs : List Int) : As := .ex (fun x : { kvs : List (List Int × PyData) // MemoI ws rs kvs } => .dT K q x.1) (fun a => a = q) (fun a => a = q) (fun _ => rfl) (fun _ => rfl) (fun _ h => h)
theorem dGet_find {κ : Type} [DecidableEq κ] {kvs : List (κ × PyData)} {k : κ} {d : PyData} (h : dGet kvs k = some d) : (k, d) ∈ kvs := by
  unfold dGet at h
  cases e : kvs.find? fun kv => decide (kv.1 = k) with
  | none => rw [e] at h; cases h
  | some kv =>
    rw [e] at h
    cases h
    have h1 := List.find?_some e
    have h2 := List.mem_of_find?_eq_some e
    have : kv.1 = k := by simpa using h1
    rw [← this]
    exact h2
theorem dGet_notin {κ : Type} [DecidableEq κ] {kvs : List (κ × PyData)} {k : κ} (h : dGet kvs k = none) : k ∉ kvs.map (·.1) := by
  intro hk
  obtain ⟨kv, h1, rfl⟩ := List.mem_map.mp hk
  unfold dGet at h
  cases e : kvs.find? fun kv' => decide (kv'.1 = kv.1) with
  | none => have := List.find?_eq_none.mp e kv h1; simp at this
  | some kv => rw [e] at h; cases h
theorem dPut_none {κ : Type} [DecidableEq κ] {kvs : List (κ × PyData)} {k : κ} {d : PyData} (h : dGet kvs k = none) : dPut kvs k d = kvs ++ [(k, d)] := by
  unfold dPut
  rw [dGet_any, h]
  rfl
section
variable {P : Program} {w : World} {K : PySem.W.Frag} {mg : Str → Option Value} {base : Heap} {Cc Cp : Addr}
theorem sc_pinit : FnScope ["self", "weights", "rooms"] ["self", "weights", "rooms"] (defScope s_Packer_init) := ⟨rfl, rfl, rfl, by decide +kernel, rfl, by decide +kernel, by decide +kernel⟩
def rPinit (K : PySem.W.Frag) (Cp a : Addr) (ws rs : List Int) : RR := fun _ H v G2 H2 => v = .non ∧ ∃ q, H q = none ∧ (As.dT K q []).p G2 H2 ∧ (As.inst K a Cp pkNs [intsD ws, intsD rs, ob q]).p G2 H2
def pr_pinit (K : PySem.W.Frag) (Cp : Addr) : Hp → List PyData → As → RR → Prop := fun _ ds T R => ∃ (a : Addr) (ws rs : List Int), ds = [ob a, intsD ws, intsD rs] ∧ T = As.inst K a Cp [] [] ∧ R = rPinit K Cp a ws rs
theorem ok_pinit {f : Addr} {fd : FuncData} (F : Fun K "__init__" "Packer.__init__" s_Packer_init f fd) (C : PF K Cp) : FnOk P w K mg base CX0 1 f fd ["self", "weights", "rooms"] (spM K (pr_pinit K Cp)) := by
  refine fun_goM F sc_pinit (by rintro G ds T R ⟨a, c, r, rfl, _⟩; rfl) ?_
  rintro cdv A outer s H0 E G H ds T R hr ⟨a, ws, rs, rfl, rfl, rfl⟩
  have hfo : ¬ ((As.extx G H (As.inst K a Cp [] []).fo).and (.fact (Same G) fun _ _ e h => h.trans e)).fo a := fun z => z.elim (fun z => z.2 rfl) fun z => z
  refine go_fld1 (ev_v 0 rfl) (ev_v 1 rfl) C.cl C.n1 hfo ?_
  refine go_fld1 (ev_v 0 rfl) (ev_v 2 rfl) C.cl C.n2 hfo ?_
  refine go_fldW (T := fun q => As.dT K q []) 0 rfl evr_dictT (fun q a h => h) C.cl C.n3 hfo fun q hq hqa => ?_
  have hqH : H q = none := Classical.byContradiction fun z => hq (.inl z)
  exact go_nil fun σ G2 H2 _ _ p => ⟨G2, p.1.1.1, rfl, q, hqH, p.1.2, p.2⟩
def n_ih : List Str := ["self", "mask", "tops"]
theorem sc_ih : FnScope n_ih ["self", "mask"] (defScope s_Packer_is_heavy) := ⟨rfl, rfl, rfl, by decide +kernel, rfl, by decide +kernel, by decide +kernel⟩
structure CaseOk (n : Nat) (ws rs : List Int) : Prop where
  w : WOk ws
  rl : rs.length = n
  n12 : n ≤ 12
  p : ∀ x ∈ rs, 0 ≤ x
def pr_ih (K : PySem.W.Frag) (Cp : Addr) : Hp → List PyData → As → RR → Prop := fun _ ds T R => ∃ (a q : Addr) (ws rs : List Int) (n m : Nat), ds = [pkD Cp a ws rs q, .int m] ∧ CaseOk n ws rs ∧ m < 2 ^ n ∧ T = memoA K q ws rs ∧ R = rAnd T (rAt K (.bool (packsB ws (pick m rs))))
theorem ok_ih {f : Addr} {fd : FuncData} (F : Fun K "is_heavy" "Packer.is_heavy" s_Packer_is_heavy f fd) (B : BN mg) (C : PF K Cp) (c1 : CalP P w K mg base 2 "members" (pr_members K)) (c2 : CalP P w K mg base 3 "can_pack" (pr_cp K)) : FnOk P w K mg base CX0 4 f fd ["self", "mask"] (spM K (pr_ih K Cp)) := by
  refine fun_goM F sc_ih (by rintro G ds T R ⟨a, q, ws, rs, n, m, rfl, _⟩; rfl) ?_
  rintro cdv A outer s H0 E G H ds T R hr ⟨a, q, ws, rs, n, m, rfl, hok, hm, rfl, rfl⟩
  have hu := hr.units
  have hu1 : (A.deeper (PyProof.Rows.envOfC (Str.ofString "Packer.is_heavy") (defScope s_Packer_is_heavy) s.heap.objs.size f cdv)).units + 1 < cLine := by have := hr.un; omega
  have hn12 := hok.n12
  have hrn := hok.rl
  have hpl : (pick m rs).length ≤ 12 := by have := (pick_sub rs m).length_le; omega
  have hfo : ¬ ((As.extx G H (memoA K q ws rs).fo).and (.fact (Same G) fun _ _ e h => h.trans e)).fo q := fun z => z.elim (fun z => z.2 rfl) fun z => z
  have h0 : ∀ x ∈ topsV ws rs m, 0 ≤ x := fun x hx => hok.p x ((pick_sub rs m).subset ((srtD_perm _).mem_iff.mp (List.mem_of_mem_take hx)))
  have htl : (topsV ws rs m).length ≤ 1000 := by
    have := List.length_take_le ws.length (srtD (pick m rs))
    have h7 := hok.w.n
    unfold topsV
    omega
  have hval : packsB ws (topsV ws rs m) = packsB ws (pick m rs) := by
    rw [Bool.eq_iff_iff, packsB_iff, packsB_iff]
    exact packs_take hok.w.p fun x hx => hok.p x ((pick_sub rs m).subset hx)
  refine go_ex (T := fun x : { kvs : List (List Int × PyData) // MemoI ws rs kvs } => As.dT K q x.1) fun x => ?_
  obtain ⟨kvs, hI⟩ := x
  have hkl := hI.len
  rw [hrn] at hkl
  have hpow : 2 ^ n ≤ 4096 := Nat.pow_le_pow_right (by omega) hn12
  refine go_set 2 (d := rowD (topsV ws rs m)) (EvR.is (ev_tupleC (ds := (topsV ws rs m).map .int) rfl rfl (B _ (by decide +kernel)) (.inl rfl) (EvR.is (EvR.frz (ev_sl sld_list (EvR.frz (ev_sortedR (ds := (pick m rs).map .int) rfl hu (sok_ints (by omega)) (.inl rfl) rfl (B _ (by decide +kernel)) (EvR.is (EvR.frz (ev_c c1 hr rfl (ea_cons (ev_fld 1 (ev_v 0 rfl) C.cl C.n2 rfl) (ea_cons (ev_v 1 rfl) ea_nil)) fun _ _ _ => ⟨rs.map .int, m, rfl, by rw [List.length_map]; omega, rfl⟩)) (by rw [members_pick, pick_map])))) eo_none (eo_some (ev_len rfl rfl (B _ (by decide +kernel)) (EvR.m (ev_fld 0 (ev_v 0 rfl) C.cl C.n1 rfl)))))) ?_)) rfl) sc_ih.nd ?_
  · rw [srt_desc, cut_take, List.length_map, ← List.map_take]; rfl
  have fin : ∀ kvs : List (List Int × PyData), MemoI ws rs kvs → dGet kvs (topsV ws rs m) = some (.bool (packsB ws (topsV ws rs m))) → Go (cxOf CX0 P w K mg base n_ih "Packer.is_heavy" (defScope s_Packer_is_heavy) f cdv A outer s H0 E).nox ((defBody s_Packer_is_heavy).drop 2) (retM G H (memoA K q ws rs).fo (rAnd (memoA K q ws rs) (rAt K (.bool (packsB ws (pick m rs)))))) [some (pkD Cp a ws rs q), some (.int m), some (rowD (topsV ws rs m))] (((As.extx G H (memoA K q ws rs).fo).and (.fact (Same G) fun _ _ e h => h.trans e)).and (.dT K q kvs)) := by
    intro kvs hI hd
    exact go_rtM (R' := rAt K (.bool (packsB ws (pick m rs)))) rfl (as_l.trans as_l) (EvR.is (ev_dTget hu1 as_r (ev_fld 2 (ev_v 0 rfl) C.cl C.n3 rfl) (ev_v 2 rfl) hd) (by rw [hval])) fun v G1 H1 G2 H2 g p r => ⟨⟨⟨kvs, hI⟩, p.2⟩, r⟩
  refine go_if (evt_dTnotin hu1 as_r (ev_v 2 rfl) (ev_fld 2 (ev_v 0 rfl) C.cl C.n3 rfl)) (fun h => ?_) (fun h => go_nil' (fin kvs hI ?_))
  · have hnone : dGet kvs (topsV ws rs m) = none := by
      cases e : dGet kvs (topsV ws rs m) with
      | none => rfl
      | some d => rw [e] at h; cases h
    refine go_dTput (P := (· = .bool (packsB ws (topsV ws rs m)))) hu1 (EvR.x (ev_c c2 hr rfl (ea_cons (ev_fld 0 (ev_v 0 rfl) C.cl C.n1 rfl) (ea_cons (EvR.frz (evl_list rfl rfl (B _ (by decide +kernel)) (.inr rfl) (ev_v 2 rfl))) ea_nil)) fun _ _ _ => ⟨ws, topsV ws rs m, rfl, hok.w, htl, h0, rfl⟩) rfl) (ev_fld 2 (ev_v 0 rfl) C.cl C.n3 rfl) (ev_v 2 rfl) hfo (by show kvs.length < 16000000; omega) fun d hd => ?_
    subst hd
    refine go_nil' (fin _ ?_ (by rw [dGet_put, if_pos rfl]))
    rw [dPut_none hnone]
    refine ⟨?_, fun kv hkv => ?_⟩
    · rw [List.map_append, List.nodup_append]
      refine ⟨hI.nd, by simp, fun a ha b hb e => ?_⟩
      have hb : b = topsV ws rs m := by simpa using hb
      rw [e, hb] at ha
      exact dGet_notin hnone ha
    · rcases List.mem_append.mp hkv with hkv | hkv
      · exact hI.ok kv hkv
      · rw [List.mem_singleton.mp hkv]
        exact ⟨m, by rw [hrn]; exact hm, rfl, rfl⟩
  · cases e : dGet kvs (topsV ws rs m) with
    | none => rw [e] at h; cases h
    | some d =>
      obtain ⟨m', _, _, h3⟩ := hI.ok _ (dGet_find e)
      have h3 : d = .bool (packsB ws (topsV ws rs m)) := h3
      rw [h3]
end
end Pk
namespace Pk
open PySem L2 DL
/-! ### heavy masks -/
abbrev Case := List Int × List Int
def caseD (c : Case) : PyData := .tuple [intsD c.1, intsD c.2]
noncomputable def heavyB (cs : List Case) (m : Nat) : Bool := cs.any fun c => packsB c.1 (pick m c.2)
theorem heavy_zero {cs : List Case} {n : Nat} (h : ∀ c ∈ cs, CaseOk n c.1 c.2) : heavyB cs 0 = false := by
  unfold heavyB
  rw [List.any_eq_false]
  intro c hc hp
  rw [packsB_iff, pick_zero] at hp
  exact packs_nil (h c hc).w.ne hp
theorem heavy_mono {cs : List Case} {n : Nat} (h : ∀ c ∈ cs, CaseOk n c.1 c.2) {m k : Nat} (hb : bitAt m k = true) (hh : heavyB cs (m - 2 ^ k) = true) : heavyB cs m = true := by
  unfold heavyB at hh ⊢
  rw [List.any_eq_true] at hh ⊢
  obtain ⟨c, hc, hp⟩ := hh
  refine ⟨c, hc, ?_⟩
  rw [packsB_iff] at hp ⊢
  exact hp.more (pick_less c.2 m k hb) fun x hx => (h c hc).p x ((pick_sub c.2 m).subset hx)
/-- the packers of some cases -/
def PkT (K : PySem.W.Frag) (Cp : Addr) (c : Case) (d : PyData) (T : As) : Prop := ∃ a q, d = pkD Cp a c.1 c.2 q ∧ T = memoA K q c.1 c.2
theorem case_ats {cs : List Case} : (cs.map caseD) = cs.map fun z => PyData.tuple [intsD z.1, intsD z.2] := rfl
section
variable {P : Program} {w : World} {K : PySem.W.Frag} {mg : Str → Option Value} {base : Heap} {Cc Cp : Addr}
def n_hm : List Str := ["cases", "many", "packers", "bits", "found", "mask", "below", "weights", "rooms", "bit", "packer"]
theorem sc_hm : FnScope n_hm ["cases", "many"] (defScope s_heavy_masks) := ⟨rfl, rfl, rfl, by decide +kernel, rfl, by decide +kernel, by decide +kernel⟩
noncomputable def tableV (cs : List Case) (n : Nat) : List PyData := (List.range (2 ^ n)).map fun m => .bool (heavyB cs m)
def pr_hm (K : PySem.W.Frag) : Hp → List PyData → RR → Prop := fun _ ds R => ∃ (cs : List Case) (n : Nat), ds = [.list (cs.map caseD), .int n] ∧ cs.length ≤ 1000 ∧ n ≤ 12 ∧ (∀ c ∈ cs, CaseOk n c.1 c.2) ∧ R = rNl K (tableV cs n)
theorem bits_last {n : Nat} (h : n ≠ 0) : atI ((bitsV n).map PyData.int) (-1) = some (.int (2 ^ (n - 1))) := by
  refine atI_last ?_
  rw [List.length_map, bitsV_len, List.getElem?_map]
  unfold bitsV
  rw [List.getElem?_map, List.getElem?_range (by omega)]
  rfl
theorem ok_hm {f : Addr} {fd : FuncData} (F : Fun K "heavy_masks" "heavy_masks" s_heavy_masks f fd) (B : BN mg) (C : PF K Cp) (c1 : C8.Mak P w K mg base 1 "Packer" Cp (spM K (pr_pinit K Cp)) []) (c2 : CalP P w K mg base 1 "bits_of" (pr_bits_of K)) (c3 : C8.Met P w K mg base 4 Cp "is_heavy" (spM K (pr_ih K Cp)) []) : FnOk P w K mg base CX0 5 f fd ["cases", "many"] (spP K (pr_hm K)) := by
  refine fun_go F sc_hm (by rintro G ds R ⟨l, t, rfl, _⟩; rfl) ?_
  rintro cdv A outer s H0 E G H ds R hr ⟨cs, n, rfl, hcl, hn, hok, rfl⟩
  have hu := hr.units
  have hpow : 2 ^ n ≤ 4096 := Nat.pow_le_pow_right (by omega) hn
  obtain ⟨S0, hS0⟩ : ∃ S0, ((As.ext G H).and (.fact (Same G) fun _ _ e h => h.trans e)) = S0 := ⟨_, rfl⟩
  rw [hS0]
  have hE : S0.le (.ext G H) := by rw [← hS0]; exact as_l
  refine go_setLcT (P := PkT K Cp) (xs := cs) 2 (lclT (PkT K Cp) (own := [("weights", 7), ("rooms", 8)]) (is := [7, 8]) (enc := caseD) (fun c Δ => sets Δ [7, 8] [intsD c.1, intsD c.2]) (it_list (ev_v 0 rfl)) (blkOk_by (N := n_hm) (sc := defScope s_heavy_masks) (by decide +kernel)) (by omega) (by decide) (fun b hb => fun _ _ _ _ _ => tg_tup sc_hm.nd rfl (nm_cons 7 (nm_cons 8 .nil))) (fun U hU D es hD c hc => fun _ _ _ _ _ => evr_mkT (Rm := fun a => rPinit K Cp a c.1 c.2) c1 hr rfl (ea_cons (ev_v 7 rfl) (ea_cons (ev_v 8 rfl) ea_nil)) (fun _ _ _ a => ⟨a, c.1, c.2, rfl, rfl, rfl⟩) ?mk)) rfl sc_hm.nd fun dks U ch => ?_
  case mk =>
    rintro a G H v G2 H2 h1 h2 ⟨hv, q, hq, t1, t2⟩
    exact ⟨hv, pkNs, _, memoA K q c.1 c.2, ⟨a, q, rfl, rfl⟩, fun b hb => by have hb : b = q := hb; rw [hb]; exact hq, ⟨⟨[], ⟨List.nodup_nil, fun kv h => by cases h⟩⟩, t1⟩, t2⟩
  have hUE : U.le (.ext G H) := ch.le.trans hE
  have hdl := ch.len
  refine go_asg2L (ds := [.bool false]) (is := [3, 4]) (f := fun q Δ => sets Δ [3, 4] [intsD (bitsV n), ob q]) (EvR.frz (ev_c c2 hr rfl (ea_cons (ev_v 1 rfl) ea_nil) fun _ _ _ => ⟨n, rfl, by omega, rfl⟩)) (evl_lst (ea_cons ev_bl ea_nil)) (fun q => tg_tup sc_hm.nd rfl (nm_cons 3 (nm_cons 4 .nil))) fun q hq => ?_
  have hqH : H q = none := fresh_ext fun z => hq (ch.own _ (by rw [← hS0]; exact .inl z))
  -- the end of the range
  have hend : Ev (cxOf CX0 P w K mg base n_hm "heavy_masks" (defScope s_heavy_masks) f cdv A outer s H0 E).nox (match (defBody s_heavy_masks).getD 2 (.Pass ⟨0, 0, 0, 0⟩) with | .For _ (.Call _ [_, b] _ _) _ _ _ => b | _ => .Constant .none 0 ⟨0, 0, 0, 0⟩) [some (.list (cs.map caseD)), some (.int n), some (.list dks), some (intsD (bitsV n)), some (ob q), none, none, none, none, none, none] (U.and (.acc K q [.bool false])) (.int ((2 ^ n : Nat) : Int)) := by
    refine ev_if (k := !decide (n = 0)) (EvT.is (evt_cmpF (d1 := intsD (bitsV n)) (of_neD hu (shaped_intsD _) shaped_nil) (EvR.m (ev_v 3 rfl)) (EvR.m (EvR.frz (evl_lst ea_nil)))) ?_) (fun h => ?_) (fun h => ?_)
    · rw [show PyData.eqv (intsD (bitsV n)) (.list []) = decide (bitsV n = []) from eqv_intsD (bitsV n) []]
      congr 1
      have := bitsV_len n
      by_cases h : n = 0
      · subst h; simp [bitsV]
      · have : bitsV n ≠ [] := fun e => by rw [e] at this; simp at this; omega
        simp [h, this]
    · have hn0 : n ≠ 0 := by simpa using h
      refine EvR.is (ev_op (od_mul (.inl ⟨by decide, by decide⟩)) ev_int (ev_ix (ixd_list (bits_last hn0)) (ev_v 3 rfl) (ev_un ud_neg ev_int))) ?_
      obtain ⟨m, rfl⟩ : ∃ m, n = m + 1 := ⟨n - 1, by omega⟩
      show PyData.int (2 * 2 ^ m) = _
      rw [PySem.W.kbt_cast, Int.pow_succ, Int.mul_comm]
    · have hn0 : n = 0 := by simpa using h
      subst hn0
      exact ev_int
  refine go_for (α := Nat) (xs := List.range (2 ^ n - 1)) (enc := fun k => .int ((1 + k : Nat) : Int)) (is := [5]) (fun k Δ => Δ.set 5 (some (.int ((1 + k : Nat) : Int)))) (ItD.is (it_range2 rfl (B _ (by decide +kernel)) (m := 1) (n := ((2 ^ n : Nat) : Int)) ev_int hend ⟨by decide, by decide, Int.le_trans (by decide) (Int.natCast_nonneg _), Int.lt_of_le_of_lt (Int.ofNat_le.mpr hpow) (by decide)⟩) ?_) (fun k hk => tg_name 5 sc_hm.nd) rfl PassesOwn.never
    (fun i Δ' S' => ∃ o5 o6, Δ' = [some (.list (cs.map caseD)), some (.int n), some (.list dks), some (intsD (bitsV n)), some (ob q), o5, o6, none, none, none, none] ∧ S' = U.and (.acc K q ((List.range (1 + i)).map fun m => .bool (heavyB cs m)))) ⟨none, none, rfl, ?_⟩ ?_ ?_
  · have e : (((2 ^ n : Nat) : Int) - 1).toNat = 2 ^ n - 1 := by omega
    rw [e]
    congr 1
  · show U.and (.acc K q [.bool false]) = U.and (.acc K q [.bool (heavyB cs 0)])
    rw [heavy_zero hok]
  · rintro i k _ _ hk ⟨o5, o6, rfl, rfl⟩
    have hi : i < 2 ^ n - 1 := by have := (List.getElem?_eq_some_iff.mp hk).1; simpa using this
    have hki : k = i := by rw [List.getElem?_range hi] at hk; cases hk; rfl
    subst hki
    -- below
    have hget : ∀ j, j < 1 + k → atI ((List.range (1 + k)).map fun m => PyData.bool (heavyB cs m)) (j : Int) = some (.bool (heavyB cs j)) := fun j hj => by
      refine atI_nat' ?_
      rw [List.getElem?_map, List.getElem?_range hj]; rfl
    refine go_set 6 (d := .bool (((List.range n).filter fun j => bitAt (1 + k) j).any fun j => heavyB cs (1 + k - 2 ^ j))) (ev_any (xs := (List.range n).filter fun j => bitAt (1 + k) j) (b := fun j => heavyB cs (1 + k - 2 ^ j)) rfl rfl rfl (B _ (by decide +kernel)) (EvR.frz (evl_fil (α := Nat) (xs := List.range n) (enc := fun j => .int ((2 : Int) ^ j)) [("bit", 9)] (fun j => bitAt (1 + k) j) (fun j => .bool (heavyB cs (1 + k - 2 ^ j))) (fun j Δ => Δ.set 9 (some (.int ((2 : Int) ^ j)))) (ItD.is (it_list (ev_v 3 rfl)) (by unfold bitsV; rw [List.map_map]; rfl)) rfl sc_hm.nd (blkOk_by (N := n_hm) (sc := defScope s_heavy_masks) (by decide +kernel)) (by simp; omega) (is := [9]) (by decide) (fun b hb => fun _ _ _ _ _ => tg_name 9 sc_hm.nd) (fun D es hD j hj => fun _ _ _ _ _ => EvT.is (evt_cmp od_neI (ev_op od_and (ev_v 5 rfl) (ev_v 9 rfl)) ev_int) (by rw [bit_zero, Bool.not_not])) ?el))) sc_hm.nd ?_
    case el =>
      intro D es hD j hj hb
      have hle := bit_le hb
      have hp : 0 < 2 ^ j := Nat.pow_pos (by decide)
      refine fun _ _ _ _ _ => ev_ixM (q := q) (ds := (List.range (1 + k)).map fun m => PyData.bool (heavyB cs m)) (i := ((1 + k - 2 ^ j : Nat) : Int)) (as_l.trans as_r) (hget _ (by omega)) (ev_v 4 rfl) (EvR.is (ev_op od_sub (ev_v 5 rfl) (ev_v 9 rfl)) ?_)
      rw [← PySem.W.kbt_cast, Int.natCast_sub hle]
    -- by itself
    have hks : 1 + k < 2 ^ n := by omega
    refine go_app (d := .bool (heavyB cs (1 + k))) (ev_v 4 rfl) (EvR.is (ev_or (k := ((List.range n).filter fun j => bitAt (1 + k) j).any fun j => heavyB cs (1 + k - 2 ^ j)) (k' := cs.any fun c => packsB c.1 (pick (1 + k) c.2)) (ev_v 6 rfl) fun _ => ev_one (EvR.is (ev_any (xs := dks.zip cs) (b := fun z => packsB z.2.1 (pick (1 + k) z.2.2)) rfl rfl rfl (B _ (by decide +kernel)) (EvR.frz (evl_map (α := PyData × Case) (xs := dks.zip cs) (enc := (·.1)) [("packer", 10)] (fun z => .bool (packsB z.2.1 (pick (1 + k) z.2.2))) (fun z Δ => Δ.set 10 (some z.1)) (ItD.is (it_list (ev_v 2 rfl)) ?zz) rfl sc_hm.nd (blkOk_by (N := n_hm) (sc := defScope s_heavy_masks) (by decide +kernel)) (by rw [List.length_zip]; omega) (is := [10]) (by decide) (fun b hb => fun _ _ _ _ _ => tg_name 10 sc_hm.nd) ?ih))) ?an)) ?or) (As.nf hq) (by rw [List.length_map, List.length_range]; omega) (go_turn ⟨_, _, rfl, ?_⟩)
    case zz => rw [List.map_fst_zip (by omega)]
    case ih =>
      rintro D es hD ⟨d, c⟩ hz
      obtain ⟨j, hj⟩ := List.getElem?_of_mem hz
      obtain ⟨hj1, hj2⟩ := List.getElem?_zip_eq_some.mp hj
      obtain ⟨d', T, e1, ⟨a, r, e2, e3⟩, hH, hO⟩ := ch.each j c hj2
      rw [hj1] at e1
      cases e1
      subst e2 e3
      have hc := List.mem_of_getElem? hj2
      have hOr : U.own r := hO r rfl
      have hqr : r ≠ q := fun e => hq (e ▸ hOr)
      have hDr : D ≠ r := fun e => hD (.inl (e ▸ hOr))
      have hHas : Has ((U.and (.acc K q ((List.range (1 + k)).map fun m => PyData.bool (heavyB cs m)))).and (.acc K D es)) (memoA K r c.1 c.2) := (hH.and fun a (ha : a = q) (hb : a = r) => hqr (hb.symm.trans ha)).and fun a (ha : a = D) (hb : a = r) => hDr (ha.symm.trans hb)
      exact fun _ _ _ _ _ => evx_mtK c3 hr (ev_v 10 rfl) (EvA.x (PL := (· = [.int ((1 + k : Nat) : Int)])) (ea_cons (ev_v 5 rfl) ea_nil) rfl) hHas fun _ _ ds' hds' _ => ⟨a, r, c.1, c.2, n, 1 + k, by rw [hds']; rfl, hok c hc, hks, rfl, rfl⟩
    case an =>
      congr 1
      rw [Bool.eq_iff_iff, List.any_eq_true, List.any_eq_true]
      constructor
      · rintro ⟨z, hz, h⟩
        exact ⟨z.2, (List.of_mem_zip hz).2, h⟩
      · rintro ⟨c, hc, h⟩
        obtain ⟨j, hj⟩ := List.getElem?_of_mem hc
        have hjl : j < dks.length := by rw [hdl]; exact (List.getElem?_eq_some_iff.mp hj).1
        exact ⟨(dks[j], c), List.mem_of_getElem? (List.getElem?_zip_eq_some.mpr ⟨List.getElem?_eq_getElem hjl, hj⟩), h⟩
    case or =>
      congr 1
      show ((((List.range n).filter fun j => bitAt (1 + k) j).any fun j => heavyB cs (1 + k - 2 ^ j)) || heavyB cs (1 + k)) = heavyB cs (1 + k)
      rw [Bool.eq_iff_iff, Bool.or_eq_true, List.any_eq_true]
      constructor
      · rintro (⟨j, hj, h⟩ | h)
        · rw [List.mem_filter] at hj
          exact heavy_mono hok hj.2 h
        · exact h
      · exact .inr
    · rw [show 1 + (k + 1) = (1 + k) + 1 by omega, List.range_succ, List.map_append]; rfl
  · rintro _ _ ⟨o5, o6, rfl, rfl⟩
    rw [List.length_range]
    have e : 1 + (2 ^ n - 1) = 2 ^ n := by have : 0 < 2 ^ n := Nat.pow_pos (by decide); omega
    rw [e]
    exact go_retA (ev_v 4 rfl) (as_and (as_l.trans hUE) as_r) hqH
end
end Pk
namespace Pk
open PySem L2 DL
abbrev ACn := Addr × Cn
def cnsD (Cc : Addr) (acs : List ACn) : PyData := .list (acs.map fun z => cnD Cc z.1 z.2)
def caseOf (sds : List Sd) (c : Cn) : Case := (c.ws, sds.map (roomV c))
theorem cn_wok {c : Cn} (h : CnOk c) : WOk c.ws := ⟨fun e => by have := h.w2; rw [e] at this; simp at this, h.w7, fun w hw => by have := (h.w w hw).1; omega⟩
theorem case_ok {c : Cn} {sds : List Sd} (h : CnOk c) (hn : sds.length ≤ 12) (hs : ∀ s ∈ sds, s.1 < c.qs.length) : CaseOk sds.length (caseOf sds c).1 (caseOf sds c).2 :=
  ⟨cn_wok h, by simp [caseOf], hn, fun x hx => by obtain ⟨s, h1, rfl⟩ := List.mem_map.mp hx; exact room_nn h (hs s h1)⟩
def srtSd (sds : List Sd) : List Sd := sds.mergeSort (W.dataLe false sdD)
theorem srtSd_perm (sds : List Sd) : (srtSd sds).Perm sds := List.mergeSort_perm _ _
theorem sd_alike (a b : Sd) : W.alike (sdD a) (sdD b) = true := by unfold sdD; simp [W.alike, W.alikeAll]
theorem sds_alike : ∀ xs ys : List Sd, W.alikeAll (xs.map sdD) (ys.map sdD) = true
  | [], _ => by simp [W.alikeAll]
  | x :: xs, [] => by simp [W.alikeAll]
  | x :: xs, y :: ys => by simp [W.alikeAll, sd_alike x y, sds_alike xs ys]
theorem sd_depth (b : Sd) : (sdD b).depth = 1 := by unfold sdD; simp [PyData.depth, PyData.depthAll]
theorem sds_depth : ∀ xs : List Sd, PyData.depthAll (xs.map sdD) ≤ 1
  | [] => by simp [PyData.depthAll]
  | x :: xs => by
    have := sds_depth xs
    have := sd_depth x
    simp only [List.map_cons, PyData.depthAll]
    omega
theorem sok_sds {sds : List Sd} (h : sds.length ≤ 1000000) : Sok (sds.map sdD) :=
  ⟨fun d hd d' hd' => by obtain ⟨x, _, rfl⟩ := List.mem_map.mp hd; obtain ⟨y, _, rfl⟩ := List.mem_map.mp hd'; exact sd_alike x y, .inl fun d hd => by obtain ⟨x, _, rfl⟩ := List.mem_map.mp hd; exact ⟨_, _, rfl⟩,
   fun d hd => by obtain ⟨x, _, rfl⟩ := List.mem_map.mp hd; rw [sd_depth]; omega, by rw [List.length_map]; exact h⟩
theorem sok_sdss {ps : List (List Sd)} (h : ps.length ≤ 1000000) : Sok (ps.map sdsD) :=
  ⟨fun d hd d' hd' => by obtain ⟨x, _, rfl⟩ := List.mem_map.mp hd; obtain ⟨y, _, rfl⟩ := List.mem_map.mp hd'; exact sds_alike x y, .inr fun d hd => by obtain ⟨x, _, rfl⟩ := List.mem_map.mp hd; exact ⟨(fun z => by cases z), fun _ z => by cases z⟩,
   fun d hd => by
    obtain ⟨x, _, rfl⟩ := List.mem_map.mp hd
    have := sds_depth x
    have h2 : (sdsD x).depth = 1 + PyData.depthAll (x.map sdD) := by unfold sdsD; rw [PyData.depth] <;> omega
    omega, by rw [List.length_map]; exact h⟩
/-- the greatest light sets -/
structure PartsOk (cs : List Cn) (sds : List Sd) (parts : List (List Sd)) : Prop where
  light : ∀ U ∈ parts, U.Sublist sds ∧ Light cs U
  all : ∀ U : List Sd, U.Sublist sds → Light cs U → ∃ V ∈ parts, U.Sublist V
def lightM (hv : Nat → Bool) (n m : Nat) : Bool := !hv m && ((List.range n).filter fun k => !bitAt m k).all fun k => hv (m + 2 ^ k)
theorem parts_ok {cs : List Cn} {sds : List Sd} (hv : Nat → Bool) (h : ∀ m, hv m = false ↔ Light cs (pick m sds)) {parts : List (List Sd)} (hp : ∀ U, U ∈ parts ↔ ∃ m, m < 2 ^ sds.length ∧ lightM hv sds.length m = true ∧ U = pick m sds) : PartsOk cs sds parts := by
  refine ⟨fun U hU => ?_, fun U hU hl => ?_⟩
  · obtain ⟨m, hm, hl, rfl⟩ := (hp U).mp hU
    unfold lightM at hl
    rw [Bool.and_eq_true] at hl
    exact ⟨pick_sub sds m, (h m).mp (by simpa using hl.1)⟩
  · obtain ⟨m, hm, rfl⟩ := pick_all hU
    obtain ⟨M, h1, h2, h3, h4⟩ := greatest (xs := sds) (fun m => hv m = true) m hm (by rw [(h m).mpr hl]; decide)
    refine ⟨pick M sds, (hp _).mpr ⟨M, h1, ?_, rfl⟩, h4⟩
    unfold lightM
    rw [Bool.and_eq_true, List.all_eq_true]
    refine ⟨by simpa using h2, fun k hk => ?_⟩
    rw [List.mem_filter] at hk
    exact h3 k (by simpa using hk.1) (by simpa using hk.2)
theorem heavy_light {cs : List Cn} {sds : List Sd} (m : Nat) : heavyB (cs.map (caseOf sds)) m = false ↔ Light cs (pick m sds) := by
  unfold heavyB Light
  rw [List.any_map, List.any_eq_false]
  constructor
  · intro h c hc hp
    refine h c hc ?_
    show packsB c.ws (pick m (sds.map (roomV c))) = true
    rw [packsB_iff, pick_map]
    exact hp
  · intro h c hc hp
    have hp : packsB c.ws (pick m (sds.map (roomV c))) = true := hp
    rw [packsB_iff, pick_map] at hp
    exact h c hc hp
section
variable {P : Program} {w : World} {K : PySem.W.Frag} {mg : Str → Option Value} {base : Heap} {Cc Cp : Addr}
structure SdOk (acs : List ACn) (sds : List Sd) : Prop where
  n : sds.length ≤ 12
  cn : acs.length ≤ 1000
  ok : ∀ z ∈ acs, CnOk z.2
  col : ∀ z ∈ acs, ∀ s ∈ sds, s.1 < z.2.qs.length
theorem sc_ht : FnScope ["councils", "sides", "council"] ["councils", "sides"] (defScope s_heavy_table) := ⟨rfl, rfl, rfl, by decide +kernel, rfl, by decide +kernel, by decide +kernel⟩
def pr_ht (K : PySem.W.Frag) (Cc : Addr) : Hp → List PyData → RR → Prop := fun _ ds R => ∃ (acs : List ACn) (sds : List Sd), ds = [cnsD Cc acs, sdsD sds] ∧ SdOk acs sds ∧ R = rNl K (tableV (acs.map fun z => caseOf sds z.2) sds.length)
theorem ok_ht {f : Addr} {fd : FuncData} (F : Fun K "heavy_table" "heavy_table" s_heavy_table f fd) (B : BN mg) (C : CF K Cc) (c1 : CalP P w K mg base 5 "heavy_masks" (pr_hm K)) (c2 : MetP P w K mg base 1 Cc "weights" (pr_cweights K Cc)) (c3 : CalP P w K mg base 3 "rooms_of" (pr_rooms_of K Cc)) : FnOk P w K mg base CX0 6 f fd ["councils", "sides"] (spP K (pr_ht K Cc)) := by
  refine fun_go F sc_ht (by rintro G ds R ⟨l, t, rfl, _⟩; rfl) ?_
  rintro cdv A outer s H0 E G H ds R hr ⟨acs, sds, rfl, hok, rfl⟩
  have hcn := hok.cn
  have hn := hok.n
  refine go_rt rfl as_l (ev_c c1 hr rfl (ea_cons (EvR.frz (evl_map [("council", 2)] (fun z : ACn => caseD (caseOf sds z.2)) (fun z Δ => Δ.set 2 (some (cnD Cc z.1 z.2))) (it_list (ev_v 0 rfl)) rfl sc_ht.nd (blkOk_by (N := ["councils", "sides", "council"]) (sc := defScope s_heavy_table) (by decide +kernel)) (by omega) (is := [2]) (by decide) (fun b hb => fun _ _ _ _ _ => tg_name 2 sc_ht.nd) (fun D es hD z hz => fun _ _ _ _ _ => ev_tup (ea_cons (EvR.frz (ev_mt0 c2 hr (ev_v 2 rfl) fun _ _ _ => ⟨z.1, z.2, rfl, rfl⟩)) (ea_cons (EvR.frz (ev_c c3 hr rfl (ea_cons (ev_v 2 rfl) (ea_cons (ev_v 1 rfl) ea_nil)) fun _ _ _ => ⟨z.1, z.2, sds, rfl, by omega, hok.col z hz, rfl⟩)) ea_nil))))) (ea_cons (EvR.is (ev_len rfl rfl (B _ (by decide +kernel)) (EvR.m (ev_v 1 rfl))) (by rw [List.length_map])) ea_nil)) fun _ _ _ => ⟨acs.map fun z => caseOf sds z.2, sds.length, by rw [List.map_map]; rfl, by rw [List.length_map]; exact hcn, hn, ?_, rfl⟩)
  intro c hc
  obtain ⟨z, hz, rfl⟩ := List.mem_map.mp hc
  exact case_ok (hok.ok z hz) hn (hok.col z hz)
def n_ls : List Str := ["councils", "sides", "some", "heavy", "bits", "found", "mask", "bit"]
theorem sc_ls : FnScope n_ls ["councils", "sides"] (defScope s_light_sets) := ⟨rfl, rfl, rfl, by decide +kernel, rfl, by decide +kernel, by decide +kernel⟩
def PartsIn (cs : List Cn) (sds : List Sd) (ds : List PyData) : Prop := ∃ parts, ds = parts.map sdsD ∧ PartsOk cs (srtSd sds) parts
def pr_ls (K : PySem.W.Frag) (Cc : Addr) : Hp → List PyData → RR → Prop := fun _ ds R => ∃ (acs : List ACn) (sds : List Sd), ds = [cnsD Cc acs, sdsD sds] ∧ SdOk acs sds ∧ R = rXl K (PartsIn (acs.map (·.2)) sds)
theorem ok_ls {f : Addr} {fd : FuncData} (F : Fun K "light_sets" "light_sets" s_light_sets f fd) (B : BN mg) (c1 : CalP P w K mg base 6 "heavy_table" (pr_ht K Cc)) (c2 : CalP P w K mg base 1 "bits_of" (pr_bits_of K)) (c3 : CalP P w K mg base 2 "members" (pr_members K)) : FnOk P w K mg base CX0 7 f fd ["councils", "sides"] (spP K (pr_ls K Cc)) := by
  refine fun_go F sc_ls (by rintro G ds R ⟨l, t, rfl, _⟩; rfl) ?_
  rintro cdv A outer s H0 E G H ds R hr ⟨acs, sds, rfl, hok, rfl⟩
  have hu := hr.units
  have hcn := hok.cn
  have hn := hok.n
  refine go_set 2 (d := sdsD (srtSd sds)) (EvR.is (EvR.frz (evl_sorted rfl hu (sok_sds (by omega)) rfl (B _ (by decide +kernel)) (.inl rfl) (ev_v 1 rfl))) (by rw [srt_map]; rfl)) sc_ls.nd ?_
  have hsl : (srtSd sds).length = sds.length := (srtSd_perm sds).length_eq
  have hok' : SdOk acs (srtSd sds) := ⟨by omega, hcn, hok.ok, fun z hz s hs => hok.col z hz s ((srtSd_perm sds).mem_iff.mp hs)⟩
  show Go _ _ (retP G H (rXl K (fun ds => ∃ parts, ds = parts.map sdsD ∧ PartsOk (acs.map (·.2)) (srtSd sds) parts))) _ _
  rw [← hsl] at hn
  generalize srtSd sds = sm at hok' hn
  have hpow : 2 ^ sm.length ≤ 4096 := Nat.pow_le_pow_right (by omega) hn
  generalize hcs : (acs.map fun z => caseOf sm z.2) = cases
  have hcs' : cases = (acs.map (·.2)).map (caseOf sm) := by rw [← hcs, List.map_map]; rfl
  refine go_asg3L (ds := []) (is := [3, 4, 5]) (f := fun q Δ => sets Δ [3, 4, 5] [.list (tableV cases sm.length), intsD (bitsV sm.length), ob q]) (EvR.frz (ev_c c1 hr rfl (ea_cons (ev_v 0 rfl) (ea_cons (ev_v 2 rfl) ea_nil)) fun _ _ _ => ⟨acs, sm, rfl, hok', by rw [hcs]; rfl⟩)) (EvR.frz (ev_c c2 hr rfl (ea_cons (EvR.is (ev_len rfl rfl (B _ (by decide +kernel)) (EvR.m (ev_v 2 rfl))) (by rw [List.length_map])) ea_nil) fun _ _ _ => ⟨sm.length, rfl, by omega, rfl⟩)) (evl_lst ea_nil) (fun q => tg_tup sc_ls.nd rfl (nm_cons 3 (nm_cons 4 (nm_cons 5 .nil)))) fun q hq => ?_
  have hqH : H q = none := fresh_ext fun z => hq (.inl z)
  have htl : (tableV cases sm.length).length = 2 ^ sm.length := by unfold tableV; rw [List.length_map, List.length_range]
  have hget : ∀ j : Nat, j < 2 ^ sm.length → atI (tableV cases sm.length) (j : Int) = some (.bool (heavyB cases j)) := fun j hj => by
    refine atI_nat' ?_
    unfold tableV
    rw [List.getElem?_map, List.getElem?_range hj]; rfl
  refine go_for (α := Nat) (xs := List.range (2 ^ sm.length)) (enc := fun k => .int (k : Int)) (is := [6]) (fun k Δ => Δ.set 6 (some (.int (k : Int)))) (it_rng rfl (B _ (by decide +kernel)) (EvR.is (ev_len rfl rfl (B _ (by decide +kernel)) (EvR.m (ev_v 3 rfl))) (by rw [htl])) (by omega)) (fun k hk => tg_name 6 sc_ls.nd) rfl PassesOwn.never
    (fun i Δ' S' => ∃ o6, Δ' = [some (cnsD Cc acs), some (sdsD sds), some (sdsD sm), some (.list (tableV cases sm.length)), some (intsD (bitsV sm.length)), some (ob q), o6, none] ∧ S' = (((As.ext G H).and (.fact (Same G) fun _ _ e h => h.trans e)).and (.acc K q ((((List.range (2 ^ sm.length)).take i).filter fun m => lightM (heavyB cases) sm.length m).map fun m => sdsD (pick m sm))))) ⟨none, rfl, rfl⟩ ?_ ?_
  · rintro i k _ _ hk ⟨o6, rfl, rfl⟩
    have hi : i < 2 ^ sm.length := by have := (List.getElem?_eq_some_iff.mp hk).1; simpa using this
    have hki : k = i := by rw [List.getElem?_range hi] at hk; cases hk; rfl
    subst hki
    have tk : (List.range (2 ^ sm.length)).take (k + 1) = (List.range (2 ^ sm.length)).take k ++ [k] := DL.take_some hk
    refine go_if (k := lightM (heavyB cases) sm.length k) (evt_w (evw_and (k := !heavyB cases k) (k' := ((List.range sm.length).filter fun j => !bitAt k j).all fun j => heavyB cases (k + 2 ^ j)) (evt_not (evt_val (ev_ix (ixd_list (hget k hi)) (ev_v 3 rfl) (ev_v 6 rfl)))) fun _ => evw_and1 (evt_val (ev_all (xs := (List.range sm.length).filter fun j => !bitAt k j) (b := fun j => heavyB cases (k + 2 ^ j)) rfl rfl rfl (B _ (by decide +kernel)) (EvR.frz (evl_fil (α := Nat) (xs := List.range sm.length) (enc := fun j => .int ((2 : Int) ^ j)) [("bit", 7)] (fun j => !bitAt k j) (fun j => .bool (heavyB cases (k + 2 ^ j))) (fun j Δ => Δ.set 7 (some (.int ((2 : Int) ^ j)))) (ItD.is (it_list (ev_v 4 rfl)) (by unfold bitsV; rw [List.map_map]; rfl)) rfl sc_ls.nd (blkOk_by (N := n_ls) (sc := defScope s_light_sets) (by decide +kernel)) (by simp; omega) (is := [7]) (by decide) (fun b hb => fun _ _ _ _ _ => tg_name 7 sc_ls.nd) (fun D es hD j hj => fun _ _ _ _ _ => EvT.is (evt_cmp od_eqI (ev_op od_and (ev_v 6 rfl) (ev_v 7 rfl)) ev_int) (bit_zero k j)) ?el)))))) (fun h => ?_) (fun h => ?_)
    case el =>
      intro D es hD j hj hb
      have hj' : j < sm.length := by simpa using hj
      have hlt := more_lt sm.length k j hj' hi (by simpa using hb)
      refine fun _ _ _ _ _ => ev_ix (d2 := .int ((k + 2 ^ j : Nat) : Int)) (ixd_list (hget _ hlt)) (ev_v 3 rfl) (EvR.is (ev_op od_add (ev_v 6 rfl) (ev_v 7 rfl)) ?_)
      rw [← PySem.W.kbt_cast, Int.natCast_add]
    · refine go_app (d := sdsD (pick k sm)) (ev_v 5 rfl) (EvR.is (EvR.frz (ev_c c3 hr rfl (ea_cons (ev_v 2 rfl) (ea_cons (ev_v 6 rfl) ea_nil)) fun _ _ _ => ⟨sm.map sdD, k, rfl, by rw [List.length_map]; omega, rfl⟩)) (by rw [members_pick, pick_map]; rfl)) (As.nf hq) ?_ (go_nil' (go_turn ⟨_, rfl, ?_⟩))
      · rw [List.length_map]
        exact Nat.lt_of_le_of_lt (List.length_filter_le _ _) (by rw [List.length_take, List.length_range]; omega)
      · rw [tk, List.filter_append, List.filter_cons_of_pos h, List.filter_nil, List.map_append]; rfl
    · refine go_nil' (go_turn ⟨_, rfl, ?_⟩)
      rw [tk, List.filter_append, List.filter_cons_of_neg (by rw [h]; decide), List.filter_nil, List.append_nil]
  · rintro _ _ ⟨o6, rfl, rfl⟩
    rw [show (List.range (2 ^ sm.length)).take (List.range (2 ^ sm.length)).length = List.range (2 ^ sm.length) from List.take_length]
    refine go_frz 5 hq rfl ?_
    have hfl : ((List.range (2 ^ sm.length)).filter fun m => lightM (heavyB cases) sm.length m).length ≤ 4096 := Nat.le_trans (List.length_filter_le _ _) (by rw [List.length_range]; exact hpow)
    refine go_rt rfl as_l (EvR.xl (EvR.isL (ds := srt false ((((List.range (2 ^ sm.length)).filter fun m => lightM (heavyB cases) sm.length m).map fun m => pick m sm).map sdsD)) (evl_sorted rfl hu (sok_sdss (by rw [List.length_map]; omega)) rfl (B _ (by decide +kernel)) (.inl rfl) (EvR.is (ev_v 5 rfl) (by rw [List.map_map]; rfl))) (srt_map false sdsD _)) ⟨_, rfl, ?_⟩)
    refine parts_ok (heavyB cases) (fun m => by rw [hcs']; exact heavy_light m) fun U => ?_
    rw [(List.mergeSort_perm _ _).mem_iff, List.mem_map]
    constructor
    · rintro ⟨m, hm, rfl⟩
      rw [List.mem_filter, List.mem_range] at hm
      exact ⟨m, hm.1, hm.2, rfl⟩
    · rintro ⟨m, h1, h2, rfl⟩
      exact ⟨m, List.mem_filter.mpr ⟨List.mem_range.mpr h1, h2⟩, rfl⟩
end
end Pk
namespace Pk
open PySem L2 DL
/-! ### shelves -/
theorem wayS_inj (a b : Bool) : decide (wayS a = wayS b) = decide (a = b) := by cases a <;> cases b <;> decide +kernel
theorem strOk_way (b : Bool) : PyData.strOk (wayS b) = true := by cases b <;> decide +kernel
theorem sdD_inj {a b : Sd} : PyData.eqv (sdD a) (sdD b) = decide (a = b) := by
  unfold sdD
  simp only [PyData.eqv, PyData.eqvAll, Bool.and_true]
  rw [show ((a.1 : Int) == (b.1 : Int)) = decide (a.1 = b.1) by
    by_cases h : a.1 = b.1
    · simp [h]
    · have : ¬ (a.1 : Int) = (b.1 : Int) := by omega
      simp [h, this]]
  have e2 : (wayS a.2 == wayS b.2) = decide (a.2 = b.2) := by rw [← wayS_inj]; by_cases h : wayS a.2 = wayS b.2 <;> simp [h]
  rw [e2]
  obtain ⟨c1, l1⟩ := a
  obtain ⟨c2, l2⟩ := b
  simp only [Prod.mk.injEq]
  by_cases h1 : c1 = c2 <;> by_cases h2 : l1 = l2 <;> simp [h1, h2]
theorem canLay_sd (b : Sd) : (sdD b).canLay0 = true := by
  unfold sdD
  simp [PyData.canLay0, PyData.canLayAll0, strOk_way]
theorem shaped_sd (b : Sd) : SeqAt.shaped (sdD b) = true := by
  unfold SeqAt.shaped
  rw [canLay_sd, sd_depth]
  rfl
theorem canLay_sds : ∀ xs : List Sd, PyData.canLayAll0 (xs.map sdD) = true
  | [] => rfl
  | x :: xs => by rw [List.map_cons, PyData.canLayAll0, canLay_sds xs, canLay_sd]; rfl
theorem shaped_sds (xs : List Sd) : SeqAt.shaped (.list (xs.map sdD)) = true := by
  have h := sds_depth xs
  have h2 : (PyData.list (xs.map sdD)).depth = 1 + PyData.depthAll (xs.map sdD) := by rw [PyData.depth] <;> omega
  unfold SeqAt.shaped
  rw [Bool.and_eq_true, decide_eq_true_eq]
  exact ⟨by rw [PyData.canLay0, canLay_sds], by omega⟩
theorem any_sd (b : Sd) (xs : List Sd) : ((xs.map sdD).any fun z => PyData.eqv z (sdD b)) = decide (b ∈ xs) := by
  induction xs with
  | nil => rfl
  | cons x xs ih =>
    rw [List.map_cons, List.any_cons, ih, sdD_inj]
    by_cases h : x = b
    · simp [h]
    · have : ¬ b = x := fun e => h e.symm
      simp [h, this]
def rowsD (rows : List (List Int)) : PyData := .list (rows.map rowD)
def sdOf (b : Bd) : Sd := (b.col, b.least)
def pickB (part : List Sd) (bs : List Bd) : List Bd := bs.filter fun b => decide (sdOf b ∈ part)
def makesV (rows : List (List Int)) (parts : List (List Sd)) (row : List Int) : Bool := parts.all fun part => rows.any fun r => meetsV r (pickB part (exactlyV row))
theorem made_any {cs : List Cn} (hcs : ∀ c ∈ cs, CnOk c) {wd : Nat} (hq : ∀ c ∈ cs, c.qs.length = wd) {R : List (List Int)} (hR : ∀ r ∈ R, r.length = wd) {row : List Int} (hrow : row.length = wd) {sds : List Sd} (hp : sds.Perm (sidesV wd)) :
    Made cs R row ↔ ∀ U : List Sd, U.Sublist sds → Light cs U → ∃ r ∈ R, ∀ s ∈ U, meetsB r (bndV row s) = true := by
  have hmem : ∀ s, s ∈ sds ↔ s.1 < wd := fun s => by rw [hp.mem_iff, sides_mem]
  have hnd : sds.Nodup := hp.nodup_iff.mpr (sides_nodup wd)
  constructor
  · intro hm U hU hl
    apply Classical.byContradiction
    intro hno
    have hR' : ∀ r ∈ R, ∃ s ∈ U, meetsB r (boundOf (fun s => row.getD s.1 0) s) = false := by
      intro r hr
      apply Classical.byContradiction
      intro h2
      refine hno ⟨r, hr, fun s hs => ?_⟩
      cases q : meetsB r (bndV row s) with
      | true => rfl
      | false => exact absurd ⟨s, hs, q⟩ h2
    obtain ⟨s, _, e⟩ := paper_holds hcs (W := fun s => row.getD s.1 0) (fun c hc s hs => by rw [hq c hc]; exact (hmem s).mp (hU.subset hs)) hl hR' row hm
    obtain ⟨k, b⟩ := s
    unfold meetsB boundOf at e
    cases b <;> simp at e
  · intro h
    obtain ⟨r, h1, h2⟩ := plan_comes hcs (W := fun s => row.getD s.1 0) (R := R) _ sds rfl hnd (fun c hc s hs => by rw [hq c hc]; exact (hmem s).mp hs) fun L hL hl => h L hL hl
    have hlr := made_len hcs hq hR r h1
    have e : r = row := by
      refine List.ext_getElem? fun k => ?_
      by_cases hk : k < wd
      · have a := h2 (k, true) ((hmem _).mpr hk)
        have b := h2 (k, false) ((hmem _).mpr hk)
        have a : row.getD k 0 ≤ r.getD k 0 := by simpa [meetsB, boundOf] using a
        have b : r.getD k 0 ≤ row.getD k 0 := by simpa [meetsB, boundOf] using b
        rw [List.getElem?_eq_getElem (by omega), List.getElem?_eq_getElem (by omega)]
        rw [List.getD_eq_getElem?_getD, List.getD_eq_getElem?_getD, List.getElem?_eq_getElem (by omega), List.getElem?_eq_getElem (by omega)] at a b
        simp at a b
        congr 1
        omega
      · rw [List.getElem?_eq_none (by omega), List.getElem?_eq_none (by omega)]
    rw [e] at h1
    exact h1
noncomputable def madeB (cs : List Cn) (R : List (List Int)) (row : List Int) : Bool := open Classical in decide (Made cs R row)
theorem madeB_iff {cs : List Cn} {R : List (List Int)} {row : List Int} : madeB cs R row = true ↔ Made cs R row := by unfold madeB; simp
theorem makes_made {cs : List Cn} (hcs : ∀ c ∈ cs, CnOk c) {wd : Nat} (hq : ∀ c ∈ cs, c.qs.length = wd) {R : List (List Int)} (hR : ∀ r ∈ R, r.length = wd) {row : List Int} (hrow : row.length = wd) {sds : List Sd} (hp : sds.Perm (sidesV wd)) {parts : List (List Sd)} (hP : PartsOk cs sds parts) : makesV R parts row = madeB cs R row := by
  rw [Bool.eq_iff_iff, madeB_iff, made_any hcs hq hR hrow hp]
  have one : ∀ (part : List Sd) (r : List Int), (∀ s ∈ part, s.1 < wd) → (meetsV r (pickB part (exactlyV row)) = true ↔ ∀ s ∈ part, meetsB r (bndV row s) = true) := by
    intro part r hpart
    unfold meetsV pickB
    rw [List.all_eq_true, exactly_is, hrow]
    constructor
    · intro h s hs
      exact h (bndV row s) (List.mem_filter.mpr ⟨List.mem_map.mpr ⟨s, sides_mem.mpr (hpart s hs), rfl⟩, by simpa [sdOf, bndV] using hs⟩)
    · intro h b hb
      rw [List.mem_filter] at hb
      obtain ⟨s, _, rfl⟩ := List.mem_map.mp hb.1
      have : s ∈ part := by simpa [sdOf, bndV] using hb.2
      exact h s this
  unfold makesV
  rw [List.all_eq_true]
  constructor
  · intro h U hU hl
    obtain ⟨V, hV, hUV⟩ := hP.all U hU hl
    have := h V hV
    rw [List.any_eq_true] at this
    obtain ⟨r, hr, hm⟩ := this
    rw [one V r fun s hs => sides_mem.mp (hp.mem_iff.mp ((hP.light V hV).1.subset hs))] at hm
    exact ⟨r, hr, fun s hs => hm s (hUV.subset hs)⟩
  · intro h V hV
    obtain ⟨h1, h2⟩ := hP.light V hV
    obtain ⟨r, hr, hm⟩ := h V h1 h2
    rw [List.any_eq_true]
    exact ⟨r, hr, (one V r fun s hs => sides_mem.mp (hp.mem_iff.mp (h1.subset hs))).mpr hm⟩
def shNs : List Str := ["its_rows", "its_parts"]
def partsD (parts : List (List Sd)) : PyData := .list (parts.map sdsD)
def shD (Cs a : Addr) (rows : List (List Int)) (parts : List (List Sd)) : PyData := insD a Cs shNs [rowsD rows, partsD parts]
structure ShF (K : PySem.W.Frag) (Cs : Addr) : Prop where
  cl : Cls K Cs
  n1 : NoAttr K Cs "its_rows"
  n2 : NoAttr K Cs "its_parts"
section
variable {P : Program} {w : World} {K : PySem.W.Frag} {mg : Str → Option Value} {base : Heap} {Cc Cp Cs : Addr}
theorem sc_shi : FnScope ["self", "rows", "parts"] ["self", "rows", "parts"] (defScope s_Shelf_init) := ⟨rfl, rfl, rfl, by decide +kernel, rfl, by decide +kernel, by decide +kernel⟩
def pr_shi (K : PySem.W.Frag) (Cs : Addr) : Hp → List PyData → As → RR → Prop := fun _ ds T R => ∃ (a : Addr) (d1 d2 : PyData), ds = [ob a, d1, d2] ∧ T = As.inst K a Cs [] [] ∧ R = fun _ _ v G2 H2 => v = .non ∧ (As.inst K a Cs shNs [d1, d2]).p G2 H2
theorem ok_shi {f : Addr} {fd : FuncData} (F : Fun K "__init__" "Shelf.__init__" s_Shelf_init f fd) (C : ShF K Cs) : FnOk P w K mg base CX0 1 f fd ["self", "rows", "parts"] (spM K (pr_shi K Cs)) := by
  refine fun_goM F sc_shi (by rintro G ds T R ⟨a, c, r, rfl, _⟩; rfl) ?_
  rintro cdv A outer s H0 E G H ds T R hr ⟨a, d1, d2, rfl, rfl, rfl⟩
  have hfo : ¬ ((As.extx G H (As.inst K a Cs [] []).fo).and (.fact (Same G) fun _ _ e h => h.trans e)).fo a := fun z => z.elim (fun z => z.2 rfl) fun z => z
  refine go_fld1 (ev_v 0 rfl) (ev_v 1 rfl) C.cl C.n1 hfo ?_
  refine go_fld1 (ev_v 0 rfl) (ev_v 2 rfl) C.cl C.n2 hfo ?_
  exact go_nil fun σ G2 H2 _ _ p => ⟨G2, p.1.1, rfl, p.2⟩
def n_mk : List Str := ["self", "row", "bounds", "part", "some", "bound", "other"]
theorem sc_mk : FnScope n_mk ["self", "row"] (defScope s_Shelf_makes) := ⟨rfl, rfl, rfl, by decide +kernel, rfl, by decide +kernel, by decide +kernel⟩
def pr_mk (K : PySem.W.Frag) (Cs : Addr) : Hp → List PyData → RR → Prop := fun _ ds R => ∃ (a : Addr) (rows : List (List Int)) (parts : List (List Sd)) (row : List Int), ds = [shD Cs a rows parts, rowD row] ∧ row.length ≤ 6 ∧ rows.length ≤ 10000 ∧ (∀ r ∈ rows, r.length = row.length) ∧ R = rAt K (.bool (makesV rows parts row))
theorem ok_mk {f : Addr} {fd : FuncData} (F : Fun K "makes" "Shelf.makes" s_Shelf_makes f fd) (B : BN mg) (C : ShF K Cs) (c1 : CalP P w K mg base 1 "exactly" (pr_exactly K)) (c2 : CalP P w K mg base 2 "meets" (pr_meets K)) : FnOk P w K mg base CX0 3 f fd ["self", "row"] (spP K (pr_mk K Cs)) := by
  refine fun_go F sc_mk (by rintro G ds R ⟨a, b, c, d, rfl, _⟩; rfl) ?_
  rintro cdv A outer s H0 E G H ds R hr ⟨a, rows, parts, row, rfl, hl, hrl, hrr, rfl⟩
  have hu := hr.units
  have hu65 : (A.deeper (PyProof.Rows.envOfC (Str.ofString "Shelf.makes") (defScope s_Shelf_makes) s.heap.objs.size f cdv)).units + 65 < cLine := by have := hr.un; omega
  have hel : (exactlyV row).length = 2 * row.length := by
    rw [exactly_is, List.length_map]
    unfold sidesV
    rw [List.length_flatMap]
    have : ((List.range row.length).map fun k : Nat => ([(k, true), (k, false)] : List Sd).length) = List.replicate row.length 2 := by simp [List.map_const']
    rw [this, List.sum_replicate_nat]; omega
  have hcol : ∀ b ∈ exactlyV row, b.col < row.length := fun b hb => by
    rw [exactly_is] at hb
    obtain ⟨s, hs, rfl⟩ := List.mem_map.mp hb
    exact sides_mem.mp hs
  obtain ⟨S0, hS0⟩ : ∃ S0, ((As.ext G H).and (.fact (Same G) fun _ _ e h => h.trans e)) = S0 := ⟨_, rfl⟩
  rw [hS0]
  have hE : S0.le (.ext G H) := by rw [← hS0]; exact as_l
  refine go_set 2 (d := bdsD (exactlyV row)) (EvR.frz (ev_c c1 hr rfl (ea_cons (ev_v 1 rfl) ea_nil) fun _ _ _ => ⟨row, rfl, by omega, rfl⟩)) sc_mk.nd ?_
  refine go_for (α := List Sd) (xs := parts) (enc := sdsD) (is := [3]) (fun p Δ => Δ.set 3 (some (sdsD p))) (it_list (ev_fld 1 (ev_v 0 rfl) C.cl C.n2 rfl)) (fun k hk => tg_name 3 sc_mk.nd) rfl PassesOwn.never
    (fun i Δ' S' => ∃ o3 o4, (∀ p ∈ parts.take i, (rows.any fun r => meetsV r (pickB p (exactlyV row))) = true) ∧ Δ' = [some (shD Cs a rows parts), some (rowD row), some (bdsD (exactlyV row)), o3, o4, none, none] ∧ S0 = S') ⟨none, none, (fun p hp => by simp at hp), rfl, rfl⟩ ?_ ?_
  · rintro i part _ _ hk ⟨o3, o4, hbef, rfl, rfl⟩
    have tk : parts.take (i + 1) = parts.take i ++ [part] := DL.take_some hk
    have hpl : (pickB part (exactlyV row)).length ≤ 12 := Nat.le_trans (List.length_filter_le _ _) (by omega)
    refine go_set 4 (d := bdsD (pickB part (exactlyV row))) (EvR.frz (evl_fil [("bound", 5)] (fun b => decide (sdOf b ∈ part)) bdD (fun b Δ => Δ.set 5 (some (bdD b))) (it_list (ev_v 2 rfl)) rfl sc_mk.nd (blkOk_by (N := n_mk) (sc := defScope s_Shelf_makes) (by decide +kernel)) (by omega) (is := [5]) (by decide) (fun b hb => fun _ _ _ _ _ => tg_name 5 sc_mk.nd) (fun D es hD b hb => fun _ _ _ _ _ => EvT.is (evt_cmpF (d1 := sdD (sdOf b)) (of_in hu65 (shaped_sd _) (shaped_sds part)) (EvR.m (EvR.is (ev_sl sld_tup (ev_v 5 rfl) eo_none (eo_some ev_int)) ?sl)) (EvR.m (ev_v 3 rfl))) (any_sd (sdOf b) part)) (fun D es hD b hb _ => fun _ _ _ _ _ => ev_v 5 rfl))) sc_mk.nd ?_
    case sl =>
      show PyData.tuple (cutD [.int b.col, .str (wayS b.least), .int b.val] none (some ((2 : Nat) : Int))) = _
      rw [cut_take]; rfl
    refine go_if (k := !(rows.any fun r => meetsV r (pickB part (exactlyV row)))) (evt_not (evt_val (ev_any (xs := rows) (b := fun r => meetsV r (pickB part (exactlyV row))) rfl rfl rfl (B _ (by decide +kernel)) (EvR.frz (evl_map [("other", 6)] (fun r => .bool (meetsV r (pickB part (exactlyV row)))) (fun r Δ => Δ.set 6 (some (rowD r))) (it_list (ev_fld 0 (ev_v 0 rfl) C.cl C.n1 rfl)) rfl sc_mk.nd (blkOk_by (N := n_mk) (sc := defScope s_Shelf_makes) (by decide +kernel)) (by omega) (is := [6]) (by decide) (fun b hb => fun _ _ _ _ _ => tg_name 6 sc_mk.nd) (fun D es hD r hrm => fun _ _ _ _ _ => ev_c c2 hr rfl (ea_cons (ev_v 6 rfl) (ea_cons (ev_v 4 rfl) ea_nil)) fun _ _ _ => ⟨r, pickB part (exactlyV row), rfl, by omega, fun b hb => by rw [hrr r hrm]; exact hcol b (List.mem_filter.mp hb).1, rfl⟩)))))) (fun h => ?_) (fun h => go_nil' (go_turn ⟨_, _, ?_, rfl, rfl⟩))
    · refine go_rt rfl hE (EvR.is ev_bl ?_)
      congr 1
      symm
      unfold makesV
      rw [List.all_eq_false]
      exact ⟨part, List.mem_of_getElem? hk, by simpa using h⟩
    · rw [tk]
      intro p hp
      rcases List.mem_append.mp hp with hp | hp
      · exact hbef p hp
      · rw [List.mem_singleton.mp hp]
        simpa using h
  · rintro _ _ ⟨o3, o4, hbef, rfl, rfl⟩
    rw [List.take_length] at hbef
    refine go_rt rfl hE (EvR.is ev_bl ?_)
    congr 1
    symm
    exact List.all_eq_true.mpr hbef
theorem sc_pf : FnScope ["rows", "councils"] ["rows", "councils"] (defScope s_parts_for) := ⟨rfl, rfl, rfl, by decide +kernel, rfl, by decide +kernel, by decide +kernel⟩
/-- what a shelf and its councils are -/
structure BoOk (wd : Nat) (acs : List ACn) (rows : List (List Int)) : Prop where
  w6 : wd ≤ 6
  w1 : 1 ≤ wd
  cn : acs.length ≤ 1000
  ok : ∀ z ∈ acs, CnOk z.2 ∧ z.2.qs.length = wd
  n : rows.length ≤ 1000
  r : ∀ r ∈ rows, r.length = wd
def PartsFor (wd : Nat) (cs : List Cn) (rows : List (List Int)) (ds : List PyData) : Prop := ∃ parts, ds = parts.map sdsD ∧ (rows ≠ [] → PartsOk cs (srtSd (sidesV wd)) parts)
def pr_pf (K : PySem.W.Frag) (Cc : Addr) : Hp → List PyData → RR → Prop := fun _ ds R => ∃ (wd : Nat) (acs : List ACn) (rows : List (List Int)), ds = [rowsD rows, cnsD Cc acs] ∧ BoOk wd acs rows ∧ R = rXl K (PartsFor wd (acs.map (·.2)) rows)
theorem sides_len (wd : Nat) : (sidesV wd).length = 2 * wd := by
  unfold sidesV
  rw [List.length_flatMap]
  have : ((List.range wd).map fun k : Nat => ([(k, true), (k, false)] : List Sd).length) = List.replicate wd 2 := by simp [List.map_const']
  rw [this, List.sum_replicate_nat]; omega
theorem ok_pf {f : Addr} {fd : FuncData} (F : Fun K "parts_for" "parts_for" s_parts_for f fd) (B : BN mg) (c1 : CalP P w K mg base 7 "light_sets" (pr_ls K Cc)) (c2 : CalP P w K mg base 1 "all_sides" (pr_all_sides K)) : FnOk P w K mg base CX0 8 f fd ["rows", "councils"] (spP K (pr_pf K Cc)) := by
  refine fun_go F sc_pf (by rintro G ds R ⟨a, b, c, rfl, _⟩; rfl) ?_
  rintro cdv A outer s H0 E G H ds R hr ⟨wd, acs, rows, rfl, hok, rfl⟩
  have hu := hr.units
  refine go_rt rfl as_l (ev_if (k := !decide (rows = [])) (EvT.is (evt_cmpF (d1 := rowsD rows) (of_neD hu (shaped_rows rows) shaped_nil) (EvR.m (ev_v 0 rfl)) (EvR.m (EvR.frz (evl_lst ea_nil)))) ?_) (fun h => ?_) (fun h => ?_) (hR := back_xl)) (hR := back_xl)
  · rw [show PyData.eqv (rowsD rows) (.list []) = (rows.map rowD).isEmpty from eqv_nil _]
    cases rows <;> simp
  · have hne : rows ≠ [] := by simpa using h
    have h0 : atI (rows.map rowD) 0 = some (rowD (rows.headD [])) := by
      cases rows with
      | nil => exact absurd rfl hne
      | cons a l => exact atI_nat' (j := 0) rfl
    have hwd : (rows.headD []).length = wd := by
      cases rows with
      | nil => exact absurd rfl hne
      | cons a l => exact hok.r a List.mem_cons_self
    have h6 := hok.w6
    refine ev_c c1 hr rfl (ea_cons (ev_v 1 rfl) (ea_cons (EvR.frz (ev_c c2 hr rfl (ea_cons (EvR.is (ev_lenT rfl rfl (B _ (by decide +kernel)) (ev_ix (ixd_list h0) (ev_v 0 rfl) ev_int)) (by rw [List.length_map, hwd])) ea_nil) fun _ _ _ => ⟨wd, rfl, by omega, rfl⟩)) ea_nil)) (fun _ _ _ => ⟨acs, sidesV wd, rfl, ⟨by rw [sides_len]; omega, hok.cn, fun z hz => (hok.ok z hz).1, fun z hz s hs => by rw [(hok.ok z hz).2]; exact sides_mem.mp hs⟩, ?_⟩) (hR := back_xl)
    congr 1
    funext ds
    apply propext
    exact ⟨fun ⟨p, h1, h2⟩ => ⟨p, h1, h2 hne⟩, fun ⟨p, h1, h2⟩ => ⟨p, h1, fun _ => h2⟩⟩
  · have hn : rows = [] := by simpa using h
    exact EvR.xl (evl_lst ea_nil) ⟨[], rfl, fun h => absurd hn h⟩
end
end Pk
namespace Pk
open PySem L2 DL
theorem ix_rows {rows : List (List Int)} {k : Nat} (h : k < rows.length) : atI (rows.map rowD) (k : Int) = some (rowD (rows.getD k [])) := by
  refine atI_nat' ?_
  rw [List.getElem?_map, List.getElem?_eq_getElem h, List.getD_eq_getElem?_getD, List.getElem?_eq_getElem h]
  rfl
theorem getD_mem {rows : List (List Int)} {k : Nat} (h : k < rows.length) : rows.getD k [] ∈ rows := by
  rw [List.getD_eq_getElem?_getD, List.getElem?_eq_getElem h]
  exact List.getElem_mem h
def natD (k : Nat) : PyData := .int (k : Int)
/-- the first row that can't be made from the other shelf -/
noncomputable def firstV (cs : List Cn) (A B : List (List Int)) : Option Nat := A.findIdx? fun r => !madeB cs B r
noncomputable def partV (cs : List Cn) (A B : List (List Int)) : PyData := match firstV cs A B with
  | some i => .tuple [.int 0, natD i]
  | none => match firstV cs B A with
    | some j => .tuple [.int 1, natD j]
    | none => .none
theorem first_some {cs : List Cn} {A B : List (List Int)} {i : Nat} {r : List Int} (h : ∀ x ∈ A.take i, madeB cs B x = true) (hr : A[i]? = some r) (hn : madeB cs B r = false) : firstV cs A B = some i := by
  unfold firstV
  obtain ⟨hi, e⟩ := List.getElem?_eq_some_iff.mp hr
  rw [List.findIdx?_eq_some_iff_getElem]
  refine ⟨hi, by rw [e, hn]; rfl, fun j hj => ?_⟩
  have := h A[j] (by rw [List.mem_take_iff_getElem]; exact ⟨j, by omega, rfl⟩)
  rw [this]; decide
theorem first_none {cs : List Cn} {A B : List (List Int)} (h : ∀ x ∈ A, madeB cs B x = true) : firstV cs A B = none := by
  unfold firstV
  rw [List.findIdx?_eq_none_iff]
  intro x hx
  rw [h x hx]; rfl
theorem enum_map {A : List (List Int)} : ((A.map rowD).zipIdx.map fun z => PyData.tuple [.int (z.2 : Nat), z.1]) = A.zipIdx.map fun z => .tuple [.int (z.2 : Nat), rowD z.1] := by
  rw [List.zipIdx_map, List.map_map]; rfl
theorem enum_get {A : List (List Int)} {j k : Nat} {r : List Int} (h : A.zipIdx[j]? = some (r, k)) : k = j ∧ A[j]? = some r := by
  rw [List.getElem?_zipIdx] at h
  cases q : A[j]? with
  | none => rw [q] at h; cases h
  | some x =>
    rw [q] at h
    have h := Option.some.inj h
    have h1 := congrArg Prod.fst h
    have h2 := congrArg Prod.snd h
    simp at h1 h2
    exact ⟨by omega, by rw [h1]⟩
section
variable {P : Program} {w : World} {K : PySem.W.Frag} {mg : Str → Option Value} {base : Heap} {Cc Cp Cs : Addr}
def n_par : List Str := ["rows", "others", "councils", "parts", "which", "pair", "shelf", "index", "row"]
theorem sc_par : FnScope n_par ["rows", "others", "councils"] (defScope s_parted) := ⟨rfl, rfl, rfl, by decide +kernel, rfl, by decide +kernel, by decide +kernel⟩
def pr_par (K : PySem.W.Frag) (Cc : Addr) : Hp → List PyData → RR → Prop := fun _ ds R => ∃ (wd : Nat) (acs : List ACn) (A B : List (List Int)), ds = [rowsD A, rowsD B, cnsD Cc acs] ∧ BoOk wd acs (A ++ B) ∧ R = rAt K (partV (acs.map (·.2)) A B)
def turnD (z : Nat × List (List Int) × List (List Int)) : PyData := .tuple [.int (z.1 : Nat), .tuple [rowsD z.2.1, rowsD z.2.2]]
theorem ok_par {f : Addr} {fd : FuncData} (F : Fun K "parted" "parted" s_parted f fd) (B : BN mg) (c1 : CalP P w K mg base 8 "parts_for" (pr_pf K Cc)) (c2 : C8.Mak P w K mg base 1 "Shelf" Cs (spM K (pr_shi K Cs)) []) (c3 : MetP P w K mg base 3 Cs "makes" (pr_mk K Cs)) : FnOk P w K mg base CX0 9 f fd ["rows", "others", "councils"] (spP K (pr_par K Cc)) := by
  refine fun_go F sc_par (by rintro G ds R ⟨a, b, c, d, rfl, _⟩; rfl) ?_
  rintro cdv A outer s H0 E G H ds R hr ⟨wd, acs, ra, rb, rfl, hok, rfl⟩
  have hu := hr.units
  have hrn := hok.n
  rw [List.length_append] at hrn
  obtain ⟨S0, hS0⟩ : ∃ S0, ((As.ext G H).and (.fact (Same G) fun _ _ e h => h.trans e)) = S0 := ⟨_, rfl⟩
  rw [hS0]
  have hE : S0.le (.ext G H) := by rw [← hS0]; exact as_l
  refine go_setX 3 (P := fun d => ∃ ds, d = .list ds ∧ PartsFor wd (acs.map (·.2)) (ra ++ rb) ds) (EvR.xfrz (ev_c c1 hr rfl (ea_cons (EvR.is (EvR.frz (ev_op (od_catL (by rw [List.length_map, List.length_map]; omega)) (ev_v 0 rfl) (ev_v 1 rfl))) (by rw [← List.map_append]; rfl)) (ea_cons (ev_v 2 rfl) ea_nil)) (fun _ _ _ => ⟨wd, acs, ra ++ rb, rfl, hok, rfl⟩) (hR := back_xl)) fun ds h => ⟨ds, rfl, h⟩) sc_par.nd fun d hd => ?_
  obtain ⟨_, rfl, parts, rfl, hparts⟩ := hd
  refine go_for (α := Nat × List (List Int) × List (List Int)) (xs := [(0, ra, rb), (1, rb, ra)]) (enc := turnD) (is := [4, 5]) (fun z Δ => sets Δ [4, 5] [.int (z.1 : Nat), .tuple [rowsD z.2.1, rowsD z.2.2]]) (ItD.is (it_enum rfl (B _ (by decide +kernel)) (EvR.frz (evl_lst (ea_cons (ev_tup (ea_cons (ev_v 0 rfl) (ea_cons (ev_v 1 rfl) ea_nil))) (ea_cons (ev_tup (ea_cons (ev_v 1 rfl) (ea_cons (ev_v 0 rfl) ea_nil))) ea_nil))))) rfl) (fun z hz => tg_tup sc_par.nd rfl (nm_cons 4 (nm_cons 5 .nil))) rfl PassesOwn.never
    (fun i Δ' S' => ∃ (o4 o5 o6 o7 o8 : Option PyData), Δ' = [some (rowsD ra), some (rowsD rb), some (cnsD Cc acs), some (partsD parts), o4, o5, o6, o7, o8] ∧ (1 ≤ i → ∀ r ∈ ra, madeB (acs.map (·.2)) rb r = true) ∧ (2 ≤ i → ∀ r ∈ rb, madeB (acs.map (·.2)) ra r = true) ∧ S0 = S') ⟨none, none, none, none, none, rfl, fun h => by omega, fun h => by omega, rfl⟩ ?_ ?_
  · rintro i ⟨wh, xa, xb⟩ _ _ hk ⟨o4, o5, o6, o7, o8, rfl, h1, h2, rfl⟩
    obtain ⟨hxa, hxb, hret, hfin⟩ : (∀ r ∈ xa, r ∈ ra ++ rb) ∧ (∀ r ∈ xb, r ∈ ra ++ rb) ∧ (∀ j, firstV (acs.map (·.2)) xa xb = some j → partV (acs.map (·.2)) ra rb = .tuple [.int (wh : Nat), natD j]) ∧ ((∀ r ∈ xa, madeB (acs.map (·.2)) xb r = true) → (1 ≤ i + 1 → ∀ r ∈ ra, madeB (acs.map (·.2)) rb r = true) ∧ (2 ≤ i + 1 → ∀ r ∈ rb, madeB (acs.map (·.2)) ra r = true)) := by
      match i, hk with
      | 0, hk =>
        cases hk
        exact ⟨fun r h => List.mem_append_left _ h, fun r h => List.mem_append_right _ h, fun j h => by unfold partV; rw [h]; rfl, fun h => ⟨fun _ => h, fun z => by omega⟩⟩
      | 1, hk =>
        cases hk
        exact ⟨fun r h => List.mem_append_right _ h, fun r h => List.mem_append_left _ h, fun j h => by unfold partV; rw [first_none (h1 (Nat.le_refl _)), h]; rfl, fun h => ⟨fun _ => h1 (Nat.le_refl _), fun _ => h⟩⟩
    have hla : xa.length ≤ 2000 ∧ xb.length ≤ 1000 := by
      match i, hk with
      | 0, hk => cases hk; omega
      | 1, hk => cases hk; omega
    refine go_setX 6 (P := fun d => ∃ a, d = shD Cs a xb parts) (evx_mk c2 hr rfl (PL := (· = [rowsD xb, partsD parts])) (EvA.x (ea_cons (ev_ix (ixd_tup (d := rowsD xb) (i := 1) rfl) (ev_v 5 rfl) ev_int) (ea_cons (ev_v 3 rfl) ea_nil)) rfl) ?mk1) sc_par.nd fun d hd => ?_
    case mk1 =>
      rintro G1 H1 ds rfl _ a
      exact ⟨shNs, _, ⟨a, _, _, rfl, rfl, rfl⟩, a, rfl⟩
    obtain ⟨sa, rfl⟩ := hd
    refine go_for (α := List Int × Nat) (xs := xa.zipIdx) (enc := fun z => .tuple [.int (z.2 : Nat), rowD z.1]) (is := [7, 8]) (fun z Δ => sets Δ [7, 8] [.int (z.2 : Nat), rowD z.1]) (ItD.is (it_enum rfl (B _ (by decide +kernel)) (ev_ix (ixd_tup (d := rowsD xa) (i := 0) rfl) (ev_v 5 rfl) ev_int)) enum_map) (fun z hz => tg_tup sc_par.nd rfl (nm_cons 7 (nm_cons 8 .nil))) rfl PassesOwn.never
      (fun j Δ' S' => ∃ (o7 o8 : Option PyData), Δ' = [some (rowsD ra), some (rowsD rb), some (cnsD Cc acs), some (partsD parts), some (.int (wh : Nat)), some (.tuple [rowsD xa, rowsD xb]), some (shD Cs sa xb parts), o7, o8] ∧ (∀ r ∈ xa.take j, madeB (acs.map (·.2)) xb r = true) ∧ S0 = S') ⟨o7, o8, rfl, by simp, rfl⟩ ?_ ?_
    · rintro j ⟨r, jj⟩ _ _ hj ⟨o7, o8, rfl, hm, rfl⟩
      obtain ⟨rfl, hjr⟩ := enum_get hj
      have hrm : r ∈ xa := List.mem_of_getElem? hjr
      have hne : ra ++ rb ≠ [] := List.ne_nil_of_mem (hxa r hrm)
      have hrl := hok.r _ (hxa r hrm)
      have hmk : makesV xb parts r = madeB (acs.map (·.2)) xb r := by
        refine makes_made (wd := wd) (sds := srtSd (sidesV wd)) (fun c hc => ?_) (fun c hc => ?_) (fun r h => hok.r r (hxb r h)) hrl (srtSd_perm _) (hparts hne)
        · obtain ⟨z, hz, rfl⟩ := List.mem_map.mp hc; exact (hok.ok z hz).1
        · obtain ⟨z, hz, rfl⟩ := List.mem_map.mp hc; exact (hok.ok z hz).2
      refine go_if (k := !madeB (acs.map (·.2)) xb r) (evt_not (EvT.is (evt_val (evx_mt c3 hr (PO := (· = shD Cs sa xb parts)) (EvR.x (ev_v 6 rfl) rfl) ?mk2 (ea_cons (ev_v 8 rfl) ea_nil) ?mk3)) hmk)) (fun h => ?_) (fun h => ?_)
      case mk2 =>
        rintro d rfl
        exact ⟨sa, _, _, rfl, by decide +kernel⟩
      case mk3 =>
        rintro G1 H1 d rfl _
        have h6 := hok.w6
        exact ⟨sa, xb, parts, r, rfl, by omega, by omega, fun x hx => by rw [hrl]; exact hok.r x (hxb x hx), rfl⟩
      · have h : madeB (acs.map (·.2)) xb r = false := by simpa using h
        exact go_rt rfl hE (EvR.is (ev_tup (ea_cons (ev_v 4 rfl) (ea_cons (ev_v 7 rfl) ea_nil))) (hret _ (first_some hm hjr h)).symm)
      · have h : madeB (acs.map (·.2)) xb r = true := by simpa using h
        refine go_nil' (go_turn ⟨_, _, rfl, ?_, rfl⟩)
        rw [DL.take_some hjr]
        intro x hx
        rcases List.mem_append.mp hx with hx | hx
        · exact hm x hx
        · rw [List.mem_singleton.mp hx]; exact h
    · rintro _ _ ⟨o7, o8, rfl, hm, rfl⟩
      rw [List.length_zipIdx, List.take_length] at hm
      obtain ⟨f1, f2⟩ := hfin hm
      exact go_turn ⟨_, _, _, _, _, rfl, f1, f2, rfl⟩
  · rintro _ _ ⟨o4, o5, o6, o7, o8, rfl, h1, h2, rfl⟩
    exact go_rt rfl hE (EvR.is ev_non (by unfold partV; rw [first_none (h1 (by simp)), first_none (h2 (by simp))]))
end
end Pk
namespace Pk
open PySem L2 DL
/-! ### the law's own sessions -/
abbrev Pr2 := Int × Int
def prD (p : Pr2) : PyData := .tuple [.int p.1, .int p.2]
def srtP (ps : List Pr2) : List Pr2 := ps.mergeSort (W.dataLe false prD)
theorem srtP_perm (ps : List Pr2) : (srtP ps).Perm ps := List.mergeSort_perm _ _
theorem srtP_sorted (ps : List Pr2) : (srtP ps).Pairwise fun a b => a.1 ≤ b.1 := by
  have h : (srtP ps).Pairwise (fun a b => W.dataLe false prD a b = true) := W.sort_pairwise (W.sortLe_total (PyProof.Rows.listOrd PyProof.Rows.itemOrd) false fun b => W.keyToks (prD b)) ps
  refine h.imp fun {a b} h => ?_
  have h : (!W.dataLt (prD b) (prD a)) = true := h
  unfold prD at h
  rw [W.dataLt_ii] at h
  simp at h
  omega
theorem sok_prs {ps : List Pr2} (h : ps.length ≤ 1000000) : Sok (ps.map prD) :=
  ⟨fun d hd d' hd' => by obtain ⟨x, _, rfl⟩ := List.mem_map.mp hd; obtain ⟨y, _, rfl⟩ := List.mem_map.mp hd'; exact alike_ints [x.1, x.2] [y.1, y.2], .inl fun d hd => by obtain ⟨x, _, rfl⟩ := List.mem_map.mp hd; exact ⟨_, _, rfl⟩,
   fun d hd => by obtain ⟨x, _, rfl⟩ := List.mem_map.mp hd; unfold prD; simp [PyData.depth, PyData.depthAll], by rw [List.length_map]; exact h⟩
def optD : Option Int → PyData
  | none => .none
  | some i => .int i
section
variable {P : Program} {w : World} {K : PySem.W.Frag} {mg : Str → Option Value} {base : Heap} {Cc Cp Cs : Addr}
def n_set : List Str := ["parts", "rows", "weights", "quotas", "found", "column", "reached", "entry", "value", "weight", "k"]
theorem sc_set : FnScope n_set ["parts", "rows"] (defScope s_law_settle) := ⟨rfl, rfl, rfl, by decide +kernel, rfl, by decide +kernel, by decide +kernel⟩
def pr_set (K : PySem.W.Frag) : Hp → List PyData → RR → Prop := fun _ ds R => ∃ (c : Cn) (xs : List (List Int)), ds = [cpD c, .tuple (xs.map rowD)] ∧ CnOk c ∧ xs.length = c.ws.length ∧ (∀ x ∈ xs, x.length = c.qs.length) ∧ R = rAt K (rowD (settleV c xs))
theorem pairs_get {c : Cn} {xs : List (List Int)} (hx : xs.length = c.ws.length) (col : Nat) : (List.range c.ws.length).map (fun k => ((xs.getD k []).getD col 0, c.ws.getD k 0)) = pairsV c xs col := by
  unfold pairsV
  refine List.ext_getElem? fun i => ?_
  rw [List.getElem?_map]
  by_cases hi : i < c.ws.length
  · rw [List.getElem?_range hi]
    have : (((xs.map fun r => r.getD col 0).zip c.ws)[i]?) = some ((xs.getD i []).getD col 0, c.ws.getD i 0) := by
      rw [List.getElem?_zip_eq_some]
      simp only [List.getElem?_map, List.getD_eq_getElem?_getD]
      rw [List.getElem?_eq_getElem (by omega : i < xs.length), List.getElem?_eq_getElem hi]
      exact ⟨rfl, rfl⟩
    rw [this]; rfl
  · rw [List.getElem?_eq_none (by simp; omega), List.getElem?_eq_none (by simp; omega)]; rfl
theorem ok_set {f : Addr} {fd : FuncData} (F : Fun K "_law_settle" "_law_settle" s_law_settle f fd) (B : BN mg) : FnOk P w K mg base CX0 1 f fd ["parts", "rows"] (spP K (pr_set K)) := by
  refine fun_go F sc_set (by rintro G ds R ⟨a, b, rfl, _⟩; rfl) ?_
  rintro cdv A outer s H0 E G H ds R hr ⟨c, xs, rfl, hc, hxl, hxr, rfl⟩
  have hu := hr.units
  have hw7 := hc.w7
  have hq6 := hc.q6
  obtain ⟨S0, hS0⟩ : ∃ S0, ((As.ext G H).and (.fact (Same G) fun _ _ e h => h.trans e)) = S0 := ⟨_, rfl⟩
  rw [hS0]
  have hE : S0.le (.ext G H) := by rw [← hS0]; exact as_l
  refine go_asg (ev_v 0 rfl) (tg_tup sc_set.nd rfl (nm_cons 2 (nm_cons 3 .nil))) ?_
  refine go_setL 4 (evl_lst ea_nil) sc_set.nd fun q hq => ?_
  refine go_for (α := Nat) (xs := List.range c.qs.length) (enc := fun k => .int (k : Int)) (is := [5]) (fun k Δ => Δ.set 5 (some (.int (k : Int)))) (it_rng rfl (B _ (by decide +kernel)) (EvR.is (ev_len rfl rfl (B _ (by decide +kernel)) (EvR.m (ev_v 3 rfl))) (by rw [List.length_map])) (by omega)) (fun k hk => tg_name 5 sc_set.nd) rfl PassesOwn.never
    (fun i Δ' S' => ∃ (o5 o6 o7 o8 o9 : Option PyData), Δ' = [some (cpD c), some (.tuple (xs.map rowD)), some (intsD c.ws), some (intsD c.qs), some (ob q), o5, o6, o7, o8, o9, none] ∧ S' = S0.and (.acc K q ((((List.range c.qs.length).take i).map fun col => entryV (pairsV c xs col) (c.qs.getD col 0)).map .int))) ⟨none, none, none, none, none, rfl, rfl⟩ ?_ ?_
  · rintro i col _ _ hk ⟨o5, o6, o7, o8, o9, rfl, rfl⟩
    have hi : i < c.qs.length := by have := (List.getElem?_eq_some_iff.mp hk).1; simpa using this
    have hki : col = i := by rw [List.getElem?_range hi] at hk; cases hk; rfl
    subst hki
    have tk : (List.range c.qs.length).take (col + 1) = (List.range c.qs.length).take col ++ [col] := DL.take_some hk
    have hpl : (pairsV c xs col).length ≤ 7 := by unfold pairsV; rw [List.length_zip]; omega
    refine go_asg (d := .tuple [.int 0, .none]) (ev_tup (ea_cons ev_int (ea_cons ev_non ea_nil))) (tg_tup sc_set.nd rfl (nm_cons 6 (nm_cons 7 .nil))) ?_
    have hq1 := hc.q _ (show c.qs.getD col 0 ∈ c.qs by rw [List.getD_eq_getElem?_getD, List.getElem?_eq_getElem hi]; exact List.getElem_mem hi)
    have h0 : ∀ p ∈ pairsV c xs col, 0 ≤ p.2 := fun p hp => by
      have := (hc.w p.2 (List.of_mem_zip hp).2).1
      omega
    have hwall : wall (pairsV c xs col) = c.ws.sum := wall_zip _ _ (by simpa using hxl)
    have hfold := fold_set (srtP_perm (pairsV c xs col)) (srtP_sorted _) h0 hq1.1 (by rw [hwall]; exact hq1.2)
    refine go_for (α := Pr2) (xs := srtP (pairsV c xs col)) (enc := prD) (is := [8, 9]) (fun p Δ => sets Δ [8, 9] [.int p.1, .int p.2]) (it_list (EvR.is (EvR.frz (evl_sorted (ds := (pairsV c xs col).map prD) rfl hu (sok_prs (by omega)) rfl (B _ (by decide +kernel)) (.inl rfl) (EvR.is (EvR.frz (evl_map (α := Nat) (xs := List.range c.ws.length) (enc := fun k => .int (k : Int)) [("k", 10)] (fun k => prD ((xs.getD k []).getD col 0, c.ws.getD k 0)) (fun k Δ => Δ.set 10 (some (.int (k : Int)))) (it_rng rfl (B _ (by decide +kernel)) (EvR.is (ev_len rfl rfl (B _ (by decide +kernel)) (EvR.m (ev_v 2 rfl))) (by rw [List.length_map])) (by omega)) rfl sc_set.nd (blkOk_by (N := n_set) (sc := defScope s_law_settle) (by decide +kernel)) (by rw [List.length_range]; omega) (is := [10]) (by decide) (fun b hb => fun _ _ _ _ _ => tg_name 10 sc_set.nd) ?el)) ?pr))) ?so)) (fun p hp => tg_tup sc_set.nd rfl (nm_cons 8 (nm_cons 9 .nil))) rfl PassesOwn.never
      (fun j Δ' S' => ∃ (o8 o9 : Option PyData) (a : Int × Option Int), a = ((srtP (pairsV c xs col)).take j).foldl (stepS (c.qs.getD col 0)) (0, none) ∧ Δ' = [some (cpD c), some (.tuple (xs.map rowD)), some (intsD c.ws), some (intsD c.qs), some (ob q), some (.int (col : Nat)), some (.int a.1), some (optD a.2), o8, o9, none] ∧ S' = S0.and (.acc K q ((((List.range c.qs.length).take col).map fun col => entryV (pairsV c xs col) (c.qs.getD col 0)).map .int))) ⟨o8, o9, (0, none), rfl, rfl, rfl⟩ ?_ ?_
    case el =>
      intro D es hD k hk
      have hk' : k < c.ws.length := by simpa using hk
      have hkx : k < xs.length := by omega
      have hxk : (xs.getD k []).length = c.qs.length := hxr _ (getD_mem hkx)
      exact fun _ _ _ _ _ => ev_tup (ea_cons (ev_ix (ixd_tup (ix_row (by rw [hxk]; exact hi))) (ev_ix (ixd_tup (ix_rows hkx)) (ev_v 1 rfl) (ev_v 10 rfl)) (ev_v 5 rfl)) (ea_cons (ev_ix (ixd_list (ix_row hk')) (ev_v 2 rfl) (ev_v 10 rfl)) ea_nil))
    case pr =>
      rw [← pairs_get hxl col, List.map_map]; rfl
    case so => rw [srt_map]; rfl
    · rintro j ⟨v, wt⟩ _ _ hj ⟨o8, o9, a, ha, rfl, rfl⟩
      have tj : (srtP (pairsV c xs col)).take (j + 1) = (srtP (pairsV c xs col)).take j ++ [(v, wt)] := DL.take_some hj
      refine go_if (k := decide (a.1 < c.qs.getD col 0)) (evt_cmp od_lt (ev_v 6 rfl) (ev_ix (ixd_list (ix_row hi)) (ev_v 3 rfl) (ev_v 5 rfl))) (fun h => ?_) (fun h => ?_)
      · refine go_set 7 (ev_v 8 rfl) sc_set.nd (go_nil' ?_)
        refine go_aug 6 ip_add rfl (ev_v 9 rfl) sc_set.nd (go_turn ⟨_, _, (a.1 + wt, some v), ?_, rfl, rfl⟩)
        rw [tj, List.foldl_append, ← ha, List.foldl_cons, List.foldl_nil]
        unfold stepS
        rw [if_pos (by simpa using h)]
      · refine go_nil' (go_aug 6 ip_add rfl (ev_v 9 rfl) sc_set.nd (go_turn ⟨_, _, (a.1 + wt, a.2), ?_, rfl, rfl⟩))
        rw [tj, List.foldl_append, ← ha, List.foldl_cons, List.foldl_nil]
        unfold stepS
        rw [if_neg (by simpa using h)]
    · rintro _ _ ⟨o8, o9, a, ha, rfl, rfl⟩
      rw [List.take_length] at ha
      have ha2 : a.2 = some (entryV (pairsV c xs col) (c.qs.getD col 0)) := by rw [ha]; exact hfold.1
      refine go_app (d := .int (entryV (pairsV c xs col) (c.qs.getD col 0))) (ev_v 4 rfl) (EvR.is (ev_v 7 rfl) (by rw [ha2]; rfl)) (As.nf hq) (by rw [List.length_map, List.length_map, List.length_take, List.length_range]; omega) (go_turn ⟨_, _, _, _, _, rfl, ?_⟩)
      rw [tk, List.map_append, List.map_append]; rfl
  · rintro _ _ ⟨o5, o6, o7, o8, o9, rfl, rfl⟩
    rw [show (List.range c.qs.length).take (List.range c.qs.length).length = List.range c.qs.length from List.take_length]
    refine go_frz 4 hq rfl ?_
    exact go_rt rfl hE (ev_tupleC rfl rfl (B _ (by decide +kernel)) (.inl rfl) (ev_v 4 rfl))
end
end Pk
namespace DL
open PySem PySem.Spec PyProof.Rows L2
theorem OpF.d {X : Cx} {f : Value → Value → Sem Value} {S : As} {d1 d2 : PyData} {k : Bool} (h : OpF X f d1 d2 (.bl k)) : OpD X f S d1 d2 (rAt X.K (.bool k)) := by
  obtain ⟨r, h1, h2⟩ := h
  exact ⟨r, h1, fun G H x y Q b c e1 e2 q => h2 H x y Q (e1.up b) (e2.up b) (q _ G H (.refl b) c (.bl k))⟩
/-- d is a list of these items, as far as T tells -/
def ViewL (K : PySem.W.Frag) (T : As) (d : PyData) (ds : List PyData) : Prop := ∀ (G H : Hp) (v : V), Same G H → T.p G H → At K G v d → ∃ a xs, v = .ref a ∧ H a = some (.lst xs) ∧ Ats K G xs ds
theorem view_frz {K : PySem.W.Frag} {T : As} {ds : List PyData} : ViewL K T (.list ds) ds := fun G H v e _ h => by
  cases h with
  | lst hs ha => exact ⟨_, _, rfl, e _ _ hs, ha⟩
theorem view_acc {K : PySem.W.Frag} {q : Addr} {ds : List PyData} : ViewL K (.acc K q ds) (ob q) ds := fun G H v e t h => by
  obtain ⟨_, xs, h1, h2⟩ := t
  exact ⟨q, xs, At.obj_eq h, h1, h2⟩
theorem EvR.view {X : Cx} {e : Expr} {Δ : De} {S T : As} {d : PyData} {ds : List PyData} (h : Ev X e Δ S d) (hS : S.le T) (hv : ViewL X.K T d ds) : EvR X e Δ S (rLq X.K ds) := h.imp fun G H v G2 H2 g p r => hv G2 H2 v g.sub (hS _ _ p) r
end DL
namespace Pk
open PySem L2 DL
theorem eqv_row (a b : List Int) : PyData.eqv (rowD a) (rowD b) = decide (a = b) := eqv_ints a b
theorem any_row (r : List Int) (rows : List (List Int)) : ((rows.map rowD).any fun z => PyData.eqv z (rowD r)) = decide (r ∈ rows) := by
  induction rows with
  | nil => rfl
  | cons x xs ih =>
    rw [List.map_cons, List.any_cons, ih, eqv_row]
    by_cases h : x = r
    · simp [h]
    · have : ¬ r = x := fun e => h e.symm
      simp [h, this]
theorem shaped_row (r : List Int) : SeqAt.shaped (rowD r) = true := by
  unfold SeqAt.shaped
  rw [depth_row]
  unfold rowD
  rw [PyData.canLay0, canLay_ints]; rfl
def plansD (cs : List Cn) : PyData := .list (cs.map cpD)
def seatD (s : List (List Int)) : PyData := .tuple (s.map rowD)
def ClosedF (cs : List Cn) (F : List (List Int)) : Prop := ∀ c ∈ cs, ∀ xs : List (List Int), xs.length = c.ws.length → (∀ x ∈ xs, x ∈ F) → settleV c xs ∈ F
theorem closed_all {cs : List Cn} {R F : List (List Int)} (h1 : ∀ r ∈ R, r ∈ F) (h2 : ClosedF cs F) : ∀ r, Made cs R r → r ∈ F := by
  intro r h
  induction h with
  | told h => exact h1 _ h
  | @sess c xs hc hl _ ih => exact h2 c hc xs hl ih
structure EvyOk (wd N : Nat) (cs : List Cn) (rows : List (List Int)) : Prop where
  w1 : 1 ≤ wd
  n : rows.length ≤ 1000
  cn : cs.length ≤ 10
  c : ∀ c ∈ cs, CnOk c ∧ c.qs.length = wd ∧ N ^ c.ws.length ≤ 10000
  n1 : 1 ≤ N
  n60 : N ≤ 60
  r : ∀ r ∈ rows, r.length = wd
  un : ∃ un : List (List Int), un.length ≤ N ∧ ∀ r, Made cs rows r → r ∈ un
theorem EvyOk.few {wd N : Nat} {cs : List Cn} {rows : List (List Int)} (h : EvyOk wd N cs rows) {L : List (List Int)} (hn : L.Nodup) (hL : ∀ r ∈ L, Made cs rows r) : L.length ≤ N := by
  obtain ⟨un, h1, h2⟩ := h.un
  exact Nat.le_trans (nodup_le hn fun x hx => h2 x (hL x hx)) h1
def IsEvery (cs : List Cn) (rows : List (List Int)) (d : PyData) : Prop := ∃ F : List (List Int), d = rowsD F ∧ F.Nodup ∧ ∀ r, r ∈ F ↔ Made cs rows r
/-- what stands ahead of a turn -/
structure EvI (cs : List Cn) (rows F : List (List Int)) (many : Int) : Prop where
  nd : F.Nodup
  rw : ∀ r ∈ rows, r ∈ F
  md : ∀ r ∈ F, Made cs rows r
  cl : many = F.length → ClosedF cs F
noncomputable def newV (cs : List Cn) (F : List (List Int)) : List (List Int) := F ++ cs.flatMap fun c => (seatsV F c.ws.length).map (settleV c)
section
variable {P : Program} {w : World} {K : PySem.W.Frag} {mg : Str → Option Value} {base : Heap} {Cc Cp Cs : Addr}
def n_evy : List Str := ["councils", "rows", "found", "many", "new", "parts", "seatings", "weight", "longer", "one", "row"]
theorem sc_evy : FnScope n_evy ["councils", "rows"] (defScope s_law_every) := ⟨rfl, rfl, rfl, by decide +kernel, rfl, by decide +kernel, by decide +kernel⟩
def pr_evy (K : PySem.W.Frag) : Hp → List PyData → As → RR → Prop := fun _ ds T R => ∃ (wd N : Nat) (cs : List Cn) (rows : List (List Int)) (dr : PyData), ds = [plansD cs, dr] ∧ EvyOk wd N cs rows ∧ ViewL K T dr (rows.map rowD) ∧ R = rAnd T (rX K (IsEvery cs rows))
def tEvy (Δ : De) (_ : As) : Bool := match (Δ[2]? : Option (Option PyData)), (Δ[3]? : Option (Option PyData)) with
  | some (some (PyData.list ds)), some (some (PyData.int m)) => !decide (m = (ds.length : Int))
  | _, _ => false
theorem ok_evy {f : Addr} {fd : FuncData} (F : Fun K "_law_every" "_law_every" s_law_every f fd) (B : BN mg) (c1 : CalP P w K mg base 1 "_law_settle" (pr_set K)) : FnOk P w K mg base CX0 2 f fd ["councils", "rows"] (spM K (pr_evy K)) := by
  refine fun_goM F sc_evy (by rintro G ds T R ⟨a, b, c, d, e, rfl, _⟩; rfl) ?_
  rintro cdv A outer s H0 E G H ds T R hr ⟨wd, N, cs, rows, dr, rfl, hok, hview, rfl⟩
  have hu := hr.units
  have hN60 := hok.n60
  have hcn := hok.cn
  have hcs : ∀ c ∈ cs, CnOk c := fun c hc => (hok.c c hc).1
  have hqs : ∀ c ∈ cs, c.qs.length = wd := fun c hc => (hok.c c hc).2.1
  have hml := made_len hcs hqs hok.r
  have hw1 := hok.w1
  have few : ∀ L : List (List Int), (∀ r ∈ L, Made cs rows r) → FewK L := fun L hL M hn hM => by
    have := hok.few hn fun r hr => hL r (hM r hr)
    omega
  have nee : ∀ L : List (List Int), (∀ r ∈ L, Made cs rows r) → ∀ r ∈ L, r ≠ [] := fun L hL r hr e => by
    have := hml r (hL r hr)
    rw [e] at this; simp at this; omega
  obtain ⟨S0, hS0⟩ : ∃ S0, (((As.extx G H T.fo).and (.fact (Same G) fun _ _ e h => h.trans e)).and T) = S0 := ⟨_, rfl⟩
  rw [hS0]
  have hE : S0.le (.extx G H T.fo) := by rw [← hS0]; exact as_l.trans as_l
  have hT0 : S0.le T := by rw [← hS0]; exact as_r
  refine go_parX 2 3 (P1 := fun d => ∃ F : List (List Int), d = rowsD F ∧ F.Nodup ∧ ∀ r, r ∈ F ↔ r ∈ rows) (P2 := (· = .int (-1))) (EvR.xfrz (evx_sortset rfl rfl hu rfl (B _ (by decide +kernel)) (evr_set (rows := rows) rfl rfl hu rfl (B _ (by decide +kernel)) (EvR.view (ev_v 1 rfl) hT0 hview) (few rows fun r h => .told h)) (nee rows fun r h => .told h)) ?_) (EvR.x (ev_un ud_neg ev_int) rfl) rfl sc_evy.nd fun d1 d2 hd1 hd2 => ?_
  · rintro ds ⟨F, rfl, h⟩; exact ⟨F, rfl, h⟩
  obtain ⟨F, rfl, hFn, hFm⟩ := hd1
  subst hd2
  have hFN : F.length ≤ N := hok.few hFn fun r hr => .told ((hFm r).mp hr)
  refine go_while (T := tEvy) (W := fun m Δ' S' => ∃ (F : List (List Int)) (many : Int) (o4 o5 o6 o7 o8 o9 : Option PyData), EvI cs rows F many ∧ many ≤ (F.length : Int) ∧ m = 2 * (N - F.length) + (if many = (F.length : Int) then 0 else 1) ∧ Δ' = [some (plansD cs), some dr, some (rowsD F), some (.int many), o4, o5, o6, o7, o8, o9, none] ∧ S0 = S') _ ⟨F, -1, none, none, none, none, none, none, ⟨hFn, fun r hr => (hFm r).mpr hr, fun r hr => .told ((hFm r).mp hr), fun e => by omega⟩, by omega, rfl, rfl, rfl⟩ ?_ PassesOwn.never ?_ ?_
  · rintro m Δ' S' ⟨F, many, o4, o5, o6, o7, o8, o9, hI, hle, hm, rfl, rfl⟩
    exact evt_cmp od_neI (ev_v 3 rfl) (ev_len rfl rfl (B _ (by decide +kernel)) (EvR.m (ev_v 2 rfl)))
  · rintro m Δ' S' ⟨F, many, o4, o5, o6, o7, o8, o9, hI, hle, hm, rfl, rfl⟩ hT
    have hT : (!decide (many = ((F.map rowD).length : Int))) = true := hT
    rw [List.length_map] at hT
    have hne : many ≠ (F.length : Int) := by simpa using hT
    rw [if_neg hne] at hm
    have hFN : F.length ≤ N := hok.few hI.nd hI.md
    have hpw : ∀ c ∈ cs, ∀ j, j ≤ c.ws.length → F.length ^ j ≤ 10000 := fun c hc j hj => Nat.le_trans (Nat.pow_le_pow_left hFN j) (Nat.le_trans (Nat.pow_le_pow_right hok.n1 hj) (hok.c c hc).2.2)
    refine go_set 3 (d := .int (F.length : Int)) (EvR.is (ev_len rfl rfl (B _ (by decide +kernel)) (EvR.m (ev_v 2 rfl))) (by rw [List.length_map])) sc_evy.nd ?_
    refine go_setL 4 (evl_list rfl rfl (B _ (by decide +kernel)) (.inl rfl) (ev_v 2 rfl)) sc_evy.nd fun q hq => ?_
    have hflm : ∀ l : List Cn, (∀ c ∈ l, c ∈ cs) → (l.flatMap fun c => (seatsV F c.ws.length).map (settleV c)).length ≤ l.length * 10000 := fun l => by
      induction l with
      | nil => intro _; simp
      | cons c l ih =>
        intro h
        have := ih fun c hc => h c (List.mem_cons_of_mem _ hc)
        have h2 := hpw c (h c List.mem_cons_self) _ (Nat.le_refl _)
        rw [List.flatMap_cons, List.length_append, List.length_map, seatsV_len, List.length_cons, Nat.succ_mul]
        omega
    refine go_for (α := Cn) (xs := cs) (enc := cpD) (is := [5]) (fun c Δ => Δ.set 5 (some (cpD c))) (it_list (ev_v 0 rfl)) (fun k hk => tg_name 5 sc_evy.nd) rfl PassesOwn.never
      (fun i Δ' S' => ∃ (o5 o6 o7 o8 o9 : Option PyData), Δ' = [some (plansD cs), some dr, some (rowsD F), some (.int F.length), some (ob q), o5, o6, o7, o8, o9, none] ∧ S' = S0.and (.acc K q ((F ++ (cs.take i).flatMap fun c => (seatsV F c.ws.length).map (settleV c)).map rowD))) ⟨o5, o6, o7, o8, o9, rfl, by rw [List.take_zero, List.flatMap_nil, List.append_nil]; rfl⟩ ?_ ?_
    · rintro i c _ _ hk ⟨o5, o6, o7, o8, o9, rfl, rfl⟩
      have hc := List.mem_of_getElem? hk
      have hi : i < cs.length := (List.getElem?_eq_some_iff.mp hk).1
      have tk : cs.take (i + 1) = cs.take i ++ [c] := DL.take_some hk
      have hck := hcs c hc
      have hw7 := hck.w7
      have hnl : (F ++ (cs.take i).flatMap fun c => (seatsV F c.ws.length).map (settleV c)).length ≤ 200000 := by
        have := hflm (cs.take i) fun c hc => List.mem_of_mem_take hc
        rw [List.length_append]
        rw [List.length_take] at this
        have : min i cs.length * 10000 ≤ 10 * 10000 := Nat.mul_le_mul_right _ (by omega)
        omega
      generalize hnew : F ++ (cs.take i).flatMap (fun c => (seatsV F c.ws.length).map (settleV c)) = new at hnl
      refine go_set 6 (d := .list ((seatsV F 0).map seatD)) (EvR.frz (evl_lst (ds := [.tuple []]) (ea_cons (ev_tup (ds := []) ea_nil) ea_nil))) sc_evy.nd ?_
      refine go_for (α := Int) (xs := c.ws) (enc := .int) (is := [7]) (fun k Δ => Δ.set 7 (some (.int k))) (it_list (ev_ix (ixd_tup (d := intsD c.ws) (i := 0) rfl) (ev_v 5 rfl) ev_int)) (fun k hk => tg_name 7 sc_evy.nd) rfl PassesOwn.never
        (fun j Δ' S' => ∃ (o7 o8 o9 : Option PyData), Δ' = [some (plansD cs), some dr, some (rowsD F), some (.int F.length), some (ob q), some (cpD c), some (.list ((seatsV F j).map seatD)), o7, o8, o9, none] ∧ S' = S0.and (.acc K q (new.map rowD))) ⟨o7, o8, o9, rfl, rfl⟩ ?_ ?_
      · rintro j wt _ _ hj ⟨o7, o8, o9, rfl, rfl⟩
        have hjw : j < c.ws.length := (List.getElem?_eq_some_iff.mp hj).1
        have hsl : (seatsV F j).length ≤ 10000 := by rw [seatsV_len]; exact hpw c hc j (by omega)
        have hsl2 : (seatsV F j).length * F.length ≤ 10000 := by rw [seatsV_len, ← Nat.pow_succ]; exact hpw c hc (j + 1) hjw
        refine go_setL 8 (evl_lst ea_nil) sc_evy.nd fun q2 hq2 => ?_
        have hq2' : ¬ (S0.and (.acc K q (new.map rowD))).fo q2 := As.nf hq2
        refine go_for (α := List (List Int)) (xs := seatsV F j) (enc := seatD) (is := [9]) (fun s Δ => Δ.set 9 (some (seatD s))) (it_list (ev_v 6 rfl)) (fun k hk => tg_name 9 sc_evy.nd) rfl PassesOwn.never
          (fun t Δ' S' => ∃ (o9 : Option PyData), Δ' = [some (plansD cs), some dr, some (rowsD F), some (.int F.length), some (ob q), some (cpD c), some (.list ((seatsV F j).map seatD)), some (.int wt), some (ob q2), o9, none] ∧ S' = (S0.and (.acc K q (new.map rowD))).and (.acc K q2 ((((seatsV F j).take t).flatMap fun one => F.map fun x => one ++ [x]).map seatD))) ⟨o9, rfl, rfl⟩ ?_ ?_
        · rintro t one _ _ ht ⟨o9, rfl, rfl⟩
          have htl : t < (seatsV F j).length := (List.getElem?_eq_some_iff.mp ht).1
          have tt : (seatsV F j).take (t + 1) = (seatsV F j).take t ++ [one] := DL.take_some ht
          have hone := (seatsV_each F j one (List.mem_of_getElem? ht)).1
          have hfl : ∀ l : List (List (List Int)), (l.flatMap fun one => F.map fun x => one ++ [x]).length = l.length * F.length := fun l => by
            rw [List.length_flatMap]
            have : (l.map fun one => (F.map fun x => one ++ [x]).length) = l.map fun _ => F.length := by simp
            rw [this, List.map_const', List.sum_replicate_nat]
          have hb : (t + 1) * F.length ≤ 10000 := Nat.le_trans (Nat.mul_le_mul_right _ htl) hsl2
          refine go_extend (es := (F.map fun x => one ++ [x]).map seatD) (ev_v 8 rfl) (EvR.isL (evl_map [("row", 10)] (fun x => seatD (one ++ [x])) (fun x Δ => Δ.set 10 (some (rowD x))) (it_list (ev_v 2 rfl)) rfl sc_evy.nd (blkOk_by (N := n_evy) (sc := defScope s_law_every) (by decide +kernel)) (by omega) (is := [10]) (by decide) (fun x hx => fun _ _ _ _ _ => tg_name 10 sc_evy.nd) (fun D es hD x hx => fun _ _ _ _ _ => EvR.is (ev_op (od_catT (by simp; omega)) (ev_v 9 rfl) (ev_tup (ds := [rowD x]) (ea_cons (ev_v 10 rfl) ea_nil))) (by unfold seatD; rw [List.map_append]; rfl))) (by rw [List.map_map]; rfl)) hq2' (by
              rw [List.length_map, List.length_map, List.length_map, hfl, List.length_take, Nat.min_eq_left (by omega)]
              rw [Nat.succ_mul] at hb
              omega) ?_
          refine go_turn ⟨_, rfl, ?_⟩
          rw [tt, List.flatMap_append, List.map_append]
          simp only [List.flatMap_cons, List.flatMap_nil, List.append_nil]
          rfl
        · rintro _ _ ⟨o9, rfl, rfl⟩
          rw [List.take_length]
          refine go_frz 8 hq2 rfl ?_
          refine go_set 6 (ev_v 8 rfl) sc_evy.nd (go_turn ⟨_, _, _, rfl, rfl⟩)
      · rintro _ _ ⟨o7, o8, o9, rfl, rfl⟩
        have hsl : (seatsV F c.ws.length).length ≤ 10000 := by rw [seatsV_len]; exact hpw c hc _ (Nat.le_refl _)
        refine go_extend (es := ((seatsV F c.ws.length).map (settleV c)).map rowD) (ev_v 4 rfl) (EvR.isL (evl_map (α := List (List Int)) (xs := seatsV F c.ws.length) (enc := seatD) [("one", 9)] (fun s => rowD (settleV c s)) (fun s Δ => Δ.set 9 (some (seatD s))) (it_list (ev_v 6 rfl)) rfl sc_evy.nd (blkOk_by (N := n_evy) (sc := defScope s_law_every) (by decide +kernel)) (by omega) (is := [9]) (by decide) (fun x hx => fun _ _ _ _ _ => tg_name 9 sc_evy.nd) (fun D es hD s hs => fun _ _ _ _ _ => ev_c c1 hr rfl (ea_cons (ev_v 5 rfl) (ea_cons (ev_v 9 rfl) ea_nil)) fun _ _ _ => ⟨c, s, rfl, hck, (seatsV_each F _ s hs).1, fun x hx => by rw [hqs c hc]; exact hml x (hI.md x ((seatsV_each F _ s hs).2 x hx)), rfl⟩)) (by rw [List.map_map]; rfl)) (As.nf hq) (by rw [List.length_map, List.length_map, List.length_map]; omega) (go_turn ⟨_, _, _, _, _, rfl, ?_⟩)
        rw [tk, List.flatMap_append, ← List.append_assoc, hnew, List.map_append]
        simp only [List.flatMap_cons, List.flatMap_nil, List.append_nil]
        rfl
    · rintro _ _ ⟨o5, o6, o7, o8, o9, rfl, rfl⟩
      rw [List.take_length]
      have hnm : ∀ r ∈ newV cs F, Made cs rows r := fun r hr => by
        rcases List.mem_append.mp hr with hr | hr
        · exact hI.md r hr
        · obtain ⟨c, hc, hr⟩ := List.mem_flatMap.mp hr
          obtain ⟨s, hs, rfl⟩ := List.mem_map.mp hr
          obtain ⟨h1, h2⟩ := seatsV_each F _ s hs
          exact .sess hc h1 fun x hx => hI.md x (h2 x hx)
      refine go_setX 2 (P := fun d => ∃ F' : List (List Int), d = rowsD F' ∧ F'.Nodup ∧ ∀ r, r ∈ F' ↔ r ∈ newV cs F) (EvR.xfrz (evx_sortset rfl rfl hu rfl (B _ (by decide +kernel)) (evr_set (rows := newV cs F) rfl rfl hu rfl (B _ (by decide +kernel)) (EvR.lqA (ev_v 4 rfl) as_r) (few _ hnm)) (nee _ hnm)) (by rintro ds ⟨F, rfl, h⟩; exact ⟨F, rfl, h⟩)) sc_evy.nd fun d hd => ?_
      obtain ⟨F', rfl, hn', hm'⟩ := hd
      refine Go.le (T := S0) ?_ as_l
      have hsub : ∀ r ∈ F, r ∈ F' := fun r hr => (hm' r).mpr (List.mem_append_left _ hr)
      have hlen : F.length ≤ F'.length := nodup_le hI.nd hsub
      have hN' : F'.length ≤ N := hok.few hn' fun r hr => hnm r ((hm' r).mp hr)
      refine go_turn ⟨_, ?_, F', _, _, _, _, _, _, _, ⟨hn', fun r hr => hsub r (hI.rw r hr), fun r hr => hnm r ((hm' r).mp hr), fun e => ?_⟩, by omega, rfl, rfl, rfl⟩
      · rw [hm]
        split <;> omega
      · have e : F.length = F'.length := by omega
        -- nothing is new
        have hback : ∀ r ∈ F', r ∈ F := by
          intro r hr
          apply Classical.byContradiction
          intro hno
          have := nodup_le (l := r :: F) (m := F') (List.nodup_cons.mpr ⟨hno, hI.nd⟩) fun x hx => by
            rcases List.mem_cons.mp hx with rfl | hx
            · exact hr
            · exact hsub x hx
          rw [List.length_cons] at this
          omega
        intro c hc xs hl hx
        refine (hm' _).mpr (List.mem_append_right _ (List.mem_flatMap.mpr ⟨c, hc, List.mem_map.mpr ⟨xs, ?_, rfl⟩⟩))
        exact (seats_mem F _ xs).mpr ⟨hl, fun x h => hback x (hx x h)⟩
  · rintro m Δ' S' ⟨F, many, o4, o5, o6, o7, o8, o9, hI, hle, hm, rfl, rfl⟩ hT
    have hT : (!decide (many = ((F.map rowD).length : Int))) = false := hT
    rw [List.length_map] at hT
    have he : many = (F.length : Int) := by simpa using hT
    exact go_rtM (R' := rX K (IsEvery cs rows)) rfl hE (EvR.x (ev_v 2 rfl) ⟨F, rfl, hI.nd, fun r => ⟨hI.md r, closed_all hI.rw (hI.cl he) r⟩⟩) fun v G1 H1 G2 H2 g p r => ⟨hT0 _ _ p, r⟩
end
end Pk
namespace Pk
open PySem L2 DL
/-! ### the boards of which the law goes through all sessions -/
def PlsOk (wd most : Nat) (cs : List Cn) : Prop := cs.length ≤ 5 ∧ ∀ c ∈ cs, CnOk c ∧ c.ws.length ≤ most ∧ c.qs.length = wd
def RIn (wd : Nat) (lo hi : Int) (r : List Int) : Prop := r.length = wd ∧ ∀ x ∈ r, lo ≤ x ∧ x ≤ hi
structure ThruOk (wd t most : Nat) : Prop where
  w1 : 1 ≤ wd
  w3 : wd ≤ 3
  t1 : 1 ≤ t
  t3 : t ≤ 3
  m2 : 2 ≤ most
  m4 : most ≤ 4
  n60 : (t + 1) ^ wd ≤ 60
  p : ((t + 1) ^ wd) ^ most ≤ 10000
  m3 : wd = 1 → 3 ≤ most
theorem made_in {wd most : Nat} {cs : List Cn} (hc : PlsOk wd most cs) {lo hi : Int} {rows : List (List Int)} (hr : ∀ r ∈ rows, RIn wd lo hi r) : ∀ r, Made cs rows r → RIn wd lo hi r := by
  intro r h
  induction h with
  | told h => exact hr _ h
  | @sess c xs h1 hl _ ih =>
    obtain ⟨hok, _, hq⟩ := hc.2 c h1
    refine ⟨by rw [settle_len hok, hq], fun x hx => ?_⟩
    obtain ⟨col, hcol⟩ := List.getElem?_of_mem hx
    have hlt : col < c.qs.length := by have := (List.getElem?_eq_some_iff.mp hcol).1; rwa [settle_len hok] at this
    obtain ⟨⟨p, hp, e⟩, _⟩ := settle_set hok hl hlt
    rw [List.getD_eq_getElem?_getD, hcol] at e
    have hp1 : p.1 ∈ xs.map fun r => r.getD col 0 := (List.of_mem_zip (a := p.1) (b := p.2) hp).1
    obtain ⟨y, hy, e2⟩ := List.mem_map.mp hp1
    have hr := ih y hy
    have hm : p.1 ∈ y := by
      rw [← e2, List.getD_eq_getElem?_getD, List.getElem?_eq_getElem (by rw [hr.1, ← hq]; exact hlt)]; exact List.getElem_mem _
    have e : p.1 = x := e
    rw [← e]
    exact hr.2 _ hm
def entsV (lo : Int) (t : Nat) : List Int := (List.range (t + 1)).map fun k : Nat => lo + (k : Int)
theorem ents_mem {lo : Int} {t : Nat} {x : Int} (h : lo ≤ x ∧ x ≤ lo + t) : x ∈ entsV lo t :=
  List.mem_map.mpr ⟨(x - lo).toNat, List.mem_range.mpr (by omega), by omega⟩
theorem evyOk {wd t most : Nat} (hC : ThruOk wd t most) {cs : List Cn} (hc : PlsOk wd most cs) {lo : Int} {rows : List (List Int)} (hn : rows.length ≤ 1000) (hr : ∀ r ∈ rows, RIn wd lo (lo + t) r) : EvyOk wd ((t + 1) ^ wd) cs rows where
  w1 := hC.w1
  n := hn
  cn := by have := hc.1; omega
  c := fun c h => ⟨(hc.2 c h).1, (hc.2 c h).2.2, Nat.le_trans (Nat.pow_le_pow_right (Nat.one_le_pow _ _ (by omega)) (hc.2 c h).2.1) hC.p⟩
  n1 := Nat.one_le_pow _ _ (by omega)
  n60 := hC.n60
  r := fun r h => (hr r h).1
  un := ⟨seatsV (entsV lo t) wd, by rw [seatsV_len]; unfold entsV; rw [List.length_map, List.length_range]; exact Nat.le_refl _, fun r h => by
    have := made_in hc hr r h
    exact (seats_mem _ _ _).mpr ⟨this.1, fun x hx => ents_mem (this.2 x hx)⟩⟩
theorem mem_every {cs : List Cn} {rows F : List (List Int)} (h : ∀ r, r ∈ F ↔ Made cs rows r) (r : List Int) : decide (r ∈ F) = madeB cs rows r := by
  rw [Bool.eq_iff_iff, decide_eq_true_iff, madeB_iff]
  exact h r
/-! what can be shown -/
theorem int_20 {i : Int} (h : -1000000 ≤ i ∧ i ≤ 1000000) : (PyData.shown (.int i)).length ≤ 25 := by
  have h2 : i.natAbs < 10 ^ 19 := by omega
  have e := int_text_length_le10 (k := 19) (by decide) h2
  show (Str.ofString (toString i)).length ≤ 25
  rw [ofString_length]
  omega
theorem show_int {i : Int} (h : -1000000 ≤ i ∧ i ≤ 1000000) : PyData.showable (.int i) = true := by
  unfold PyData.showable
  refine decide_eq_true ?_
  by_cases hz : i.natAbs = 0
  · rw [hz]; decide
  · exact Nat.lt_of_lt_of_le ((Nat.log2_lt hz).mpr (by omega : i.natAbs < 2 ^ 64)) (by decide)
theorem shw_ints {ns : List Int} (hn : ns.length ≤ 10000) (h : ∀ i ∈ ns, -1000000 ≤ i ∧ i ≤ 1000000) : Shw (.list (ns.map .int)) := by
  have hcl : (PyData.list (ns.map .int)).canLay0 = true := SeqAt.canLay_of_shaped (shaped_ints ns)
  have s1 : ∀ ns : List Int, (∀ i ∈ ns, -1000000 ≤ i ∧ i ≤ 1000000) → PyData.showableAll (ns.map .int) = true := fun ns => by
    induction ns with
    | nil => intro _; rfl
    | cons n ns ih => intro h; rw [List.map_cons, PyData.showableAll, show_int (h n List.mem_cons_self), ih fun i hi => h i (List.mem_cons_of_mem _ hi)]; rfl
  have s2 : ∀ ns : List Int, (∀ i ∈ ns, -1000000 ≤ i ∧ i ≤ 1000000) → PyData.intsShortAll 25 (ns.map .int) = true := fun ns => by
    induction ns with
    | nil => intro _; rfl
    | cons n ns ih =>
      intro h
      rw [List.map_cons, PyData.intsShortAll, ih fun i hi => h i (List.mem_cons_of_mem _ hi)]
      have := int_20 (h n List.mem_cons_self)
      simp [PyData.intsShort, this]
  have s3 : ∀ ns : List Int, PyData.bulkAll (ns.map .int) ≤ 10 * ns.length := fun ns => by
    induction ns with
    | nil => simp [PyData.bulkAll]
    | cons n ns ih => rw [List.map_cons, PyData.bulkAll, List.length_cons]; simp only [PyData.bulk]; omega
  have s4 : PyData.depthAll (ns.map .int) = 0 := by
    clear hn h hcl
    induction ns with
    | nil => rfl
    | cons n ns ih => simp [PyData.depthAll, PyData.depth, ih]
  refine ⟨shaped_ints ns, ?_, ?_, ?_⟩
  · rw [PyData.showable]; exact s1 ns h
  · rw [PyData.depth, s4]; decide
  · have h1 := PyData.shown_le_bulk 25 (by decide) (PyData.list (ns.map .int)) (PyData.leavesShort_of_canLay0 25 _ hcl (by rw [PyData.intsShort]; exact s2 ns h))
    have hb : (PyData.list (ns.map .int)).bulk ≤ 200000 := by rw [PyData.bulk]; have := s3 ns; omega
    have e : sizeLine = 16777216 := rfl
    rw [e]
    omega
theorem shw_nats {ks : List Nat} (hn : ks.length ≤ 10000) (h : ∀ i ∈ ks, i ≤ 1000000) : Shw (.list (ks.map natD)) := by
  have := shw_ints (ns := ks.map fun k : Nat => (k : Int)) (by rw [List.length_map]; exact hn) fun i hi => by
    obtain ⟨k, hk, rfl⟩ := List.mem_map.mp hi
    have := h k hk
    omega
  rw [List.map_map] at this
  exact this
end Pk
namespace Pk
open PySem L2 DL
theorem shw_two {i j : Int} (hi : -1000000 ≤ i ∧ i ≤ 1000000) (hj : -1000000 ≤ j ∧ j ≤ 1000000) : Shw (.tuple [.int i, .int j]) := by
  have hcl : (PyData.tuple [.int i, .int j]).canLay0 = true := rfl
  have hsh : (PyData.tuple [.int i, .int j]).intsShort 25 = true := by
    have h1 := int_20 hi
    have h2 := int_20 hj
    simp [PyData.intsShort, PyData.intsShortAll, h1, h2]
  refine ⟨rfl, ?_, ?_, ?_⟩
  · have h1 := show_int hi
    have h2 := show_int hj
    rw [PyData.showable]
    simp [PyData.showableAll, h1, h2]
  · simp [PyData.depth, PyData.depthAll]
  · have h1 := PyData.shown_le_bulk 25 (by decide) (PyData.tuple [.int i, .int j]) (PyData.leavesShort_of_canLay0 25 _ hcl hsh)
    have hb : (PyData.tuple [.int i, .int j]).bulk ≤ 2000 := by simp [PyData.bulk, PyData.bulkAll]
    have e : sizeLine = 16777216 := rfl
    rw [e]
    omega
theorem part_cases {cs : List Cn} {A B : List (List Int)} (ha : A.length ≤ 1000) (hb : B.length ≤ 1000) : partV cs A B = .none ∨ ∃ i j : Int, partV cs A B = .tuple [.int i, .int j] ∧ Shw (.tuple [.int i, .int j]) := by
  have hf : ∀ {A B : List (List Int)} {i : Nat}, firstV cs A B = some i → i < A.length := fun h => by
    unfold firstV at h
    exact (List.findIdx?_eq_some_iff_getElem.mp h).1
  unfold partV
  split
  · rename_i i h
    have := hf h
    exact .inr ⟨0, i, rfl, shw_two (by omega) (by omega)⟩
  · split
    · rename_i i h
      have := hf h
      exact .inr ⟨1, i, rfl, shw_two (by omega) (by omega)⟩
    · exact .inl rfl
section
variable {P : Program} {w : World} {K : PySem.W.Frag} {mg : Str → Option Value} {base : Heap} {Cc Cp Cs : Addr}
def n_due : List Str := ["pair", "closures", "which", "index", "row"]
theorem sc_due : FnScope n_due ["pair", "closures"] (defScope s_law_due) := ⟨rfl, rfl, rfl, by decide +kernel, rfl, by decide +kernel, by decide +kernel⟩
def pr_due (K : PySem.W.Frag) : Hp → List PyData → RR → Prop := fun _ ds R => ∃ (cs : List Cn) (A B FA FB : List (List Int)), ds = [.tuple [rowsD A, rowsD B], .list [rowsD FA, rowsD FB]] ∧ (∀ r, r ∈ FA ↔ Made cs A r) ∧ (∀ r, r ∈ FB ↔ Made cs B r) ∧ A.length ≤ 1000 ∧ B.length ≤ 1000 ∧ R = rAt K (partV cs A B)
theorem ok_due {f : Addr} {fd : FuncData} (F : Fun K "_law_due" "_law_due" s_law_due f fd) (B : BN mg) : FnOk P w K mg base CX0 1 f fd ["pair", "closures"] (spP K (pr_due K)) := by
  refine fun_go F sc_due (by rintro G ds R ⟨a, b, c, d, e, rfl, _⟩; rfl) ?_
  rintro cdv A outer s H0 E G H ds R hr ⟨cs, ra, rb, fa, fb, rfl, hfa, hfb, hla, hlb, rfl⟩
  have hu65 : (A.deeper (PyProof.Rows.envOfC (Str.ofString "_law_due") (defScope s_law_due) s.heap.objs.size f cdv)).units + 65 < cLine := by have := hr.un; omega
  obtain ⟨S0, hS0⟩ : ∃ S0, ((As.ext G H).and (.fact (Same G) fun _ _ e h => h.trans e)) = S0 := ⟨_, rfl⟩
  rw [hS0]
  have hE : S0.le (.ext G H) := by rw [← hS0]; exact as_l
  refine go_for (α := Nat) (xs := List.range 2) (enc := fun k => .int (k : Int)) (is := [2]) (fun k Δ => Δ.set 2 (some (.int (k : Int)))) (it_rng (n := 2) rfl (B _ (by decide +kernel)) ev_int (by omega)) (fun k hk => tg_name 2 sc_due.nd) rfl PassesOwn.never
    (fun i Δ' S' => ∃ (o2 o3 o4 : Option PyData), Δ' = [some (.tuple [rowsD ra, rowsD rb]), some (.list [rowsD fa, rowsD fb]), o2, o3, o4] ∧ (1 ≤ i → ∀ r ∈ ra, madeB cs rb r = true) ∧ (2 ≤ i → ∀ r ∈ rb, madeB cs ra r = true) ∧ S0 = S') ⟨none, none, none, rfl, fun h => by omega, fun h => by omega, rfl⟩ ?_ ?_
  · rintro i k _ _ hk ⟨o2, o3, o4, rfl, h1, h2, rfl⟩
    have hi : i < 2 := by have := (List.getElem?_eq_some_iff.mp hk).1; simpa using this
    have hki : k = i := by rw [List.getElem?_range hi] at hk; cases hk; rfl
    subst hki
    obtain ⟨xa, xb, xf, ha, hf, hF, hret, hfin⟩ : ∃ xa xb xf : List (List Int), atI [rowsD ra, rowsD rb] (k : Int) = some (rowsD xa) ∧ atI [rowsD fa, rowsD fb] (1 - (k : Int)) = some (rowsD xf) ∧ (∀ r, r ∈ xf ↔ Made cs xb r) ∧ (∀ j, firstV cs xa xb = some j → partV cs ra rb = .tuple [.int (k : Nat), natD j]) ∧ ((∀ r ∈ xa, madeB cs xb r = true) → (1 ≤ k + 1 → ∀ r ∈ ra, madeB cs rb r = true) ∧ (2 ≤ k + 1 → ∀ r ∈ rb, madeB cs ra r = true)) := by
      match k, hi with
      | 0, _ => exact ⟨ra, rb, fb, rfl, rfl, hfb, fun j h => by unfold partV; rw [h]; rfl, fun h => ⟨fun _ => h, fun z => by omega⟩⟩
      | 1, _ => exact ⟨rb, ra, fa, rfl, rfl, hfa, fun j h => by unfold partV; rw [first_none (h1 (Nat.le_refl _)), h]; rfl, fun h => ⟨fun _ => h1 (Nat.le_refl _), fun _ => h⟩⟩
    refine go_for (α := List Int × Nat) (xs := xa.zipIdx) (enc := fun z => .tuple [.int (z.2 : Nat), rowD z.1]) (is := [3, 4]) (fun z Δ => sets Δ [3, 4] [.int (z.2 : Nat), rowD z.1]) (ItD.is (it_enum rfl (B _ (by decide +kernel)) (ev_ix (ixd_tup ha) (ev_v 0 rfl) (ev_v 2 rfl))) enum_map) (fun z hz => tg_tup sc_due.nd rfl (nm_cons 3 (nm_cons 4 .nil))) rfl PassesOwn.never
      (fun j Δ' S' => ∃ (o3 o4 : Option PyData), Δ' = [some (.tuple [rowsD ra, rowsD rb]), some (.list [rowsD fa, rowsD fb]), some (.int (k : Nat)), o3, o4] ∧ (∀ r ∈ xa.take j, madeB cs xb r = true) ∧ S0 = S') ⟨o3, o4, rfl, by simp, rfl⟩ ?_ ?_
    · rintro j ⟨r, jj⟩ _ _ hj ⟨o3, o4, rfl, hm, rfl⟩
      obtain ⟨rfl, hjr⟩ := enum_get hj
      refine go_if (k := !madeB cs xb r) (EvT.is (evt_cmpF (of_notIn hu65 (shaped_row r) (shaped_rows xf)) (EvR.m (ev_v 4 rfl)) (EvR.m (ev_ix (ixd_list hf) (ev_v 1 rfl) (ev_op od_sub ev_int (ev_v 2 rfl))))) (by rw [any_row, mem_every hF])) (fun h => ?_) (fun h => ?_)
      · have h : madeB cs xb r = false := by simpa using h
        exact go_rt rfl hE (EvR.is (ev_tup (ea_cons (ev_v 2 rfl) (ea_cons (ev_v 3 rfl) ea_nil))) (hret _ (first_some hm hjr h)).symm)
      · have h : madeB cs xb r = true := by simpa using h
        refine go_nil' (go_turn ⟨_, _, rfl, ?_, rfl⟩)
        rw [DL.take_some hjr]
        intro x hx
        rcases List.mem_append.mp hx with hx | hx
        · exact hm x hx
        · rw [List.mem_singleton.mp hx]; exact h
    · rintro _ _ ⟨o3, o4, rfl, hm, rfl⟩
      rw [List.length_zipIdx, List.take_length] at hm
      obtain ⟨f1, f2⟩ := hfin hm
      exact go_turn ⟨_, _, _, rfl, f1, f2, rfl⟩
  · rintro _ _ ⟨o2, o3, o4, rfl, h1, h2, rfl⟩
    exact go_rt rfl hE (EvR.is ev_non (by unfold partV; rw [first_none (h1 (by simp)), first_none (h2 (by simp))]))
def pr_alike3 (K : PySem.W.Frag) : Hp → List PyData → As → RR → Prop := fun _ ds T R => ∃ d, ds = [d, d] ∧ (d = .none ∨ ∃ i j : Int, d = .tuple [.int i, .int j] ∧ Shw (.tuple [.int i, .int j])) ∧ T = .tt ∧ R = rAnd .tt (rAt K (.bool true))
theorem ok_alike3 {f : Addr} {fd : FuncData} (F : Fun K "_law_alike" "_law_alike" s_law_alike f fd) (B : BN mg) : FnG P w K mg base 1 f fd ["found", "due"] (spM K (pr_alike3 K)) := by
  refine fn_goG F sc_alike (by rintro G ds T R ⟨d, rfl, _⟩; rfl) ?_
  rintro cdv A outer s H0 E G H ds T R hr hgd ⟨d, rfl, hd, rfl, rfl⟩
  have hu := hr.units
  have hsh : SeqAt.shaped d = true := by
    rcases hd with rfl | ⟨i, j, rfl, h⟩
    · rfl
    · exact h.sh
  have hrep : ∀ {S : As}, CallD (cxOf CX0 P w K mg base ["found", "due"] "_law_alike" (defScope s_law_alike) f cdv A outer s H0 E).nox (.builtin "repr") S [d] (rAt K (.str d.shown)) := by
    intro S
    rcases hd with rfl | ⟨i, j, rfl, h⟩
    · exact call_reprN
    · exact call_repr hgd hu h (.inr ⟨_, rfl⟩)
  refine go_rtM (R' := rAt K (.bool true)) rfl (as_l.trans as_l) (EvR.is (ev_and (k := true) (k' := true) (ev_cmpF (u := .bl (PyData.eqv d d)) (of_eqD hu hsh hsh) (EvR.m (ev_v 0 rfl)) (EvR.m (ev_v 1 rfl)) ?_) fun _ => ev_one (EvR.is (ev_cmp od_eqS (ev_callB hrep rfl (B _ (by decide +kernel)) (by decide +kernel) (ea_cons (ev_v 0 rfl) ea_nil)) (ev_callB hrep rfl (B _ (by decide +kernel)) (by decide +kernel) (ea_cons (ev_v 1 rfl) ea_nil))) ?_)) rfl) fun v G1 H1 G2 H2 g p r => ⟨p.2, r⟩
  · intro G; rw [SeqAt.eqv_refl _ (SeqAt.canLay_of_shaped hsh)]; exact .bl true
  · rw [decide_eq_true rfl]
end
end Pk
namespace Pk
open PySem L2 DL
theorem ev_take {X : Cx} {S : As} {Δ : De} {bg e : Expr} {q : Addr} {m : Int} {j : Nat} {pos p : Pos} (c : C8.Cal X.prog X.w X.K X.mg X.base 1 "_law_take" (spB X.K (pr_take X.K)) []) (hr : Room j X.A) (hg : Gl X "_law_take") (hT : Has S (.bag X.K q)) (hb : Ev X bg Δ S (ob q)) (he : Ev X e Δ S (.int m)) (h0 : 0 < m) (h1 : m ≤ 2000000000000000000) (hk : 1 ≤ j := by decide)
    (hs1 : starEach [bg, e] X.env = (false, eval bg X.env) :: starEach [e] X.env := by rfl) (hs2 : starEach [e] X.env = (false, eval e X.env) :: starEach [] X.env := by rfl) (hpl : (backTo pos (starEach [e] X.env)).any (·.1) = false := by rfl) : EvX X (.Call (.Name "_law_take" p) [bg, e] [] pos) Δ S (intTo m) :=
  evx_cB (PL := (· = [.int m])) c hr hg hT (eax_bag hb (EvA.x (ea_cons he ea_nil hs2) rfl) hs1) (fun _ _ ds hds _ => ⟨m, hds, h0, log_ok h0 h1, rfl⟩) (hk := hk) (he := hs1) (hpl := hpl)
def lcSc : Expr → Scope
  | .ListComp _ _ sc _ => sc
  | _ => ⟨.function, [], false, false, []⟩
def asgE : Stmt → Expr
  | .Assign _ e _ => e
  | _ => .Constant .none 0 ⟨0, 0, 0, 0⟩
def forB : Stmt → List Stmt
  | .For _ _ b _ _ => b
  | _ => []
def rlSc (outer inner : Scope) : Scope := { inner with names := inner.names.map fun (n, k) => if (k == NameKind.free && outer.kind == .function && outer.names.lookup n == some .cell) then (n, NameKind.cell) else (n, k) }
/-- an item of a table that is written down -/
theorem evx_tab {X : Cx} {S : As} {Δ : De} {es : List Expr} {i : Expr} {ds : List PyData} {p pos : Pos} {P P2 : PyData → Prop} (ha : EvA X es Δ S ds) (hi : EvX X i Δ S P2) (hP : ∀ d2, P2 d2 → ∃ n d, d2 = .int n ∧ atI ds n = some d ∧ P d) (hl : ds.length ≤ 1000) (hs : PlainIx i) : EvX X (.Subscript (.List es p) i pos) Δ S P :=
  evx_ix (P1 := (· = .list ds)) (P2 := P2) (EvR.x (EvR.frz (evl_lst ha hl)) rfl) hi (by
    rintro _ d2 rfl h
    obtain ⟨n, d, rfl, e, h⟩ := hP d2 h
    exact (ixd_list e).x h) (hs := hs)
def triD (wd t most : Nat) : PyData := .tuple [.int (wd : Nat), .int (t : Nat), .int (most : Nat)]
theorem thru_ok {i : Int} (h : 0 ≤ i ∧ i < 4) : ∃ wd t most : Nat, atI [.tuple [.int 1, .int 3, .int 4], .tuple [.int 2, .int 1, .int 4], .tuple [.int 2, .int 2, .int 3], .tuple [.int 3, .int 1, .int 3]] i = some (triD wd t most) ∧ ThruOk wd t most := by
  obtain ⟨n, rfl⟩ : ∃ n : Nat, i = n := ⟨i.toNat, by omega⟩
  have hn : n < 4 := by omega
  match n, hn with
  | 0, _ => exact ⟨1, 3, 4, rfl, by constructor <;> decide⟩
  | 1, _ => exact ⟨2, 1, 4, rfl, by constructor <;> decide⟩
  | 2, _ => exact ⟨2, 2, 3, rfl, by constructor <;> decide⟩
  | 3, _ => exact ⟨3, 1, 3, rfl, by constructor <;> decide⟩
theorem many_ok {i : Int} (h : 0 ≤ i ∧ i < 4) : ∃ m : Int, atI [PyData.int 1, .int 1, .int 2, .int 0] i = some (.int m) ∧ 0 ≤ m ∧ m < 3 := by
  obtain ⟨n, rfl⟩ : ∃ n : Nat, i = n := ⟨i.toNat, by omega⟩
  have hn : n < 4 := by omega
  match n, hn with
  | 0, _ => exact ⟨1, rfl, by decide⟩
  | 1, _ => exact ⟨1, rfl, by decide⟩
  | 2, _ => exact ⟨2, rfl, by decide⟩
  | 3, _ => exact ⟨0, rfl, by decide⟩
theorem all2_cns {α : Type} {wd most : Nat} {xs : List α} {ds : List PyData} (h : All2 (fun _ => CnIn wd most) xs ds) : ∃ cs : List Cn, ds = cs.map cpD ∧ cs.length = xs.length ∧ ∀ c ∈ cs, CnOk c ∧ c.ws.length ≤ most ∧ c.qs.length = wd := by
  obtain ⟨r, e, hr⟩ := coded (enc := cpD) (P := fun c => CnOk c ∧ c.ws.length ≤ most ∧ c.qs.length = wd) (h.right (P := fun d => ∃ c : Cn, d = cpD c ∧ CnOk c ∧ c.ws.length ≤ most ∧ c.qs.length = wd) fun _ d ⟨c, h1, h2, h3, h4⟩ => ⟨c, h1, h2, h3, h4⟩)
  exact ⟨r, e, by rw [h.len, e, List.length_map], hr⟩
theorem all2_rows {α : Type} {wd : Nat} {t : Int} {xs : List α} {ds : List PyData} (h : All2 (fun _ => RowIn wd t) xs ds) : ∃ rows : List (List Int), ds = rows.map rowD ∧ rows.length = xs.length ∧ ∀ r ∈ rows, RIn wd 0 t r := by
  obtain ⟨r, e, hr⟩ := coded (enc := rowD) (P := fun r => RIn wd 0 t r) (h.right (P := fun d => ∃ r : List Int, d = rowD r ∧ RIn wd 0 t r) fun _ d ⟨r, h1, h2, h3⟩ => ⟨r, h1, h2, h3⟩)
  exact ⟨r, e, by rw [h.len, e, List.length_map], hr⟩
theorem all2_made {Cc : Addr} {cs : List Cn} {ds : List PyData} (h : All2 (IsCn Cc) cs ds) : ∃ acs : List ACn, PyData.list ds = cnsD Cc acs ∧ acs.map (·.2) = cs := by
  induction h with
  | nil => exact ⟨[], rfl, rfl⟩
  | @cons c d cs ds h1 _ ih =>
    obtain ⟨a, rfl⟩ := h1
    obtain ⟨acs, e, rfl⟩ := ih
    refine ⟨(a, c) :: acs, ?_, rfl⟩
    unfold cnsD at e ⊢
    rw [List.map_cons, ← PyData.list.inj e]
/-- all entries moved -/
def shiftV (x : Int) (rows : List (List Int)) : List (List Int) := rows.map fun r => r.map fun z => z - x
theorem shift_in {wd t : Nat} {x : Int} {rows : List (List Int)} (h : ∀ r ∈ rows, RIn wd 0 t r) : ∀ r ∈ shiftV x rows, RIn wd (-x) (-x + t) r := by
  intro r hr
  obtain ⟨r0, h0, rfl⟩ := List.mem_map.mp hr
  obtain ⟨h1, h2⟩ := h r0 h0
  refine ⟨by rw [List.length_map]; exact h1, fun z hz => ?_⟩
  obtain ⟨z0, hz0, rfl⟩ := List.mem_map.mp hz
  have := h2 z0 hz0
  omega
theorem shift_len {x : Int} {rows : List (List Int)} : (shiftV x rows).length = rows.length := List.length_map ..
theorem boOk {wd t most : Nat} {lo : Int} (hC : ThruOk wd t most) {acs : List ACn} (hc : PlsOk wd most (acs.map (·.2))) {rows : List (List Int)} (hn : rows.length ≤ 1000) (hr : ∀ r ∈ rows, RIn wd lo (lo + t) r) : BoOk wd acs rows where
  w6 := by have := hC.w3; omega
  w1 := hC.w1
  cn := by have := hc.1; rw [List.length_map] at this; omega
  ok := fun z hz => by
    have := hc.2 z.2 (List.mem_map.mpr ⟨z, hz, rfl⟩)
    exact ⟨this.1, this.2.2⟩
  n := hn
  r := fun r h => (hr r h).1
end Pk
namespace Pk
open PySem L2 DL
section
variable {P : Program} {w : World} {K : PySem.W.Frag} {mg : Str → Option Value} {base : Heap} {Cc Cp Cs : Addr}
def n_oth : List Str := ["bag", "plans", "rows", "width", "top", "whole", "other", "way", "some", "one"]
theorem sc_oth : FnScope n_oth ["bag", "plans", "rows", "width", "top"] (defScope s_law_other) := ⟨rfl, rfl, rfl, by decide +kernel, rfl, by decide +kernel, by decide +kernel⟩
/-- rows of this kind, so many of them -/
def RowsIn (wd t many : Nat) (d : PyData) : Prop := ∃ rs : List (List Int), d = rowsD rs ∧ rs.length ≤ many ∧ ∀ r ∈ rs, RIn wd 0 t r
def RowsL (wd t many : Nat) (ds : List PyData) : Prop := ∃ rs : List (List Int), ds = rs.map rowD ∧ rs.length ≤ many ∧ ∀ r ∈ rs, RIn wd 0 t r
theorem rows_l {wd t many : Nat} {d : PyData} (h : RowsIn wd t many d) : ∃ ds, d = .list ds := by
  obtain ⟨rs, rfl, _⟩ := h; exact ⟨_, rfl⟩
theorem rows_cut {wd t many : Nat} {ds : List PyData} {l u : Option Int} (h : RowsIn wd t many (.list ds)) : RowsL wd t many (cutD ds l u) := by
  obtain ⟨rs, e, h1, h2⟩ := h
  have e : ds = rs.map rowD := PyData.list.inj e
  subst e
  exact ⟨cutD rs l u, cut_map _ _ _ _, Nat.le_trans (cut_sub rs l u).length_le h1, fun r hr => h2 r ((cut_sub rs l u).subset hr)⟩
theorem rows_cat {wd t m n : Nat} {ds es : List PyData} (h : RowsL wd t m ds) (h' : RowsL wd t n es) : RowsL wd t (m + n) (ds ++ es) := by
  obtain ⟨rs, rfl, h1, h2⟩ := h
  obtain ⟨rs', rfl, h1', h2'⟩ := h'
  exact ⟨rs ++ rs', by rw [List.map_append], by rw [List.length_append]; omega, fun r hr => (List.mem_append.mp hr).elim (h2 r) (h2' r)⟩
theorem rows_f {wd t m : Nat} {ds : List PyData} (h : RowsL wd t m ds) : RowsIn wd t m (.list ds) := by
  obtain ⟨rs, rfl, h⟩ := h; exact ⟨rs, rfl, h⟩
theorem rows_lf {wd t m : Nat} {ds : List PyData} (h : RowsIn wd t m (.list ds)) : RowsL wd t m ds := by
  obtain ⟨rs, e, h⟩ := h; exact ⟨rs, PyData.list.inj e, h⟩
theorem rows_len {wd t m : Nat} {ds : List PyData} (h : RowsL wd t m ds) : ds.length ≤ m := by
  obtain ⟨rs, rfl, h, _⟩ := h; rw [List.length_map]; exact h
/-- the sum of two lists of rows -/
theorem evx_cat {X : Cx} {S : As} {Δ : De} {a b : Expr} {wd t m n : Nat} {pos : Pos} (hm : m + n ≤ 1000) (ha : EvX X a Δ S (RowsIn wd t m)) (hb : EvX X b Δ S (RowsIn wd t n)) : EvX X (.BinOp a .Add b pos) Δ S (RowsIn wd t (m + n)) :=
  EvR.xfrz (PL := RowsL wd t (m + n)) (evx_op ha hb (by
    rintro d1 d2 h1 h2
    obtain ⟨ds, rfl⟩ := rows_l h1
    obtain ⟨es, rfl⟩ := rows_l h2
    have l1 := rows_len (rows_lf h1)
    have l2 := rows_len (rows_lf h2)
    exact (od_catL (by omega)).xl (rows_cat (rows_lf h1) (rows_lf h2))) (hR := back_xl)) fun ds h => rows_f h
theorem evx_cut {X : Cx} {S : As} {Δ : De} {a : Expr} {lo hi : Option Expr} {wd t m : Nat} {pos p2 : Pos} {PL PH : Option Int → Prop} (ha : EvX X a Δ S (RowsIn wd t m)) (hl : EvOX X lo Δ S PL) (hu : EvOX X hi Δ S PH) : EvX X (.Subscript a (.Slice lo hi none p2) pos) Δ S (RowsIn wd t m) :=
  EvR.xfrz (evx_sl ha (fun d h => rows_l h) hl hu) fun es ⟨ds, l, u, h, _, _, e⟩ => by rw [e]; exact rows_f (rows_cut h)
def pr_oth (K : PySem.W.Frag) : Hp → List PyData → RR → Prop := fun _ ds R => ∃ (wd t most : Nat) (cs : List Cn) (rows : List (List Int)), ds = [plansD cs, rowsD rows, .int wd, .int t] ∧ ThruOk wd t most ∧ PlsOk wd most cs ∧ rows.length ≤ 5 ∧ (∀ r ∈ rows, RIn wd 0 t r) ∧ R = rX K (RowsIn wd t 20)
theorem ok_oth {f : Addr} {fd : FuncData} (F : Fun K "_law_other" "_law_other" s_law_other f fd) (B : BN mg) (c2 : CalB P w K mg base 1 "_law_take" (pr_take K)) (c4 : CalB P w K mg base 2 "_law_row" (pr_row K)) (c5 : C8.Cal P w K mg base 2 "_law_every" (spM K (pr_evy K)) []) : FnOk P w K mg base CX0 3 f fd ["bag", "plans", "rows", "width", "top"] (spB K (pr_oth K)) := by
  refine fun_goM F sc_oth (by rintro G ds T R ⟨p, ds', R', rfl, _, ⟨m, t, a, b, c, rfl, _⟩, _⟩; rfl) ?_
  rintro cdv A outer s H0 E G H ds T R hr ⟨p, ds', R', rfl, rfl, ⟨wd, t, most, cs, rows, rfl, hC, hcs, hrl, hrows, rfl⟩, rfl⟩
  have hu := hr.units
  have hw3 := hC.w3
  have ht3 := hC.t3
  have hbag := bag_has (K := K) (q := p) (bag_fo (K := K) (p := p) (G := G) (H := H))
  have hrows0 : ∀ r ∈ rows, RIn wd 0 (0 + t) r := fun r h => by rw [Int.zero_add]; exact hrows r h
  refine go_setX 5 (P := IsEvery cs rows) (evx_cM c5 hr rfl (PL := (· = [plansD cs, rowsD rows])) (T := .tt) (EvA.x (ea_cons (ev_v 1 rfl) (ea_cons (ev_v 2 rfl) ea_nil)) rfl) has_tt (by
      rintro G1 H1 _ rfl _
      exact ⟨wd, _, cs, rows, _, rfl, evyOk hC hcs (by omega) hrows0, view_frz, rfl⟩)) sc_oth.nd fun d hd => ?_
  obtain ⟨Fw, rfl, hFn, hF⟩ := hd
  have hFin : ∀ r ∈ Fw, RIn wd 0 t r := fun r h => made_in hcs hrows r ((hF r).mp h)
  have hFl : Fw.length ≤ 60 := Nat.le_trans ((evyOk hC hcs (by omega) hrows0).few hFn fun r h => (hF r).mp h) hC.n60
  refine go_setLcX 6 (lclX (own := [("one", 9)]) (is := [9]) (enc := fun k : Nat => .int (k : Int)) (PX := fun xs => ∃ n : Nat, xs = List.range n ∧ (n : Int) < 3) (fun _ => RowIn wd t) (fun k Δ => Δ.set 9 (some (.int (k : Int)))) (itx_rng (m := 3) rfl (B _ (by decide +kernel)) (ev_take c2 hr rfl hbag (ev_v 0 rfl) ev_int (by omega) (by omega)) (by omega)) (blkOk_by (N := n_oth) (sc := defScope s_law_other) (by decide +kernel)) ?ln3 (by decide) (fun xs _ k hk => fun _ _ _ _ _ => tg_name 9 sc_oth.nd) ?el3) rfl sc_oth.nd fun ds hds => ?_
  case ln3 => rintro _ ⟨n, rfl, hn⟩; rw [List.length_range]; omega
  case el3 =>
    rintro _ ⟨n, rfl, hn⟩ D es hD k hk
    exact fun _ _ _ _ _ => evx_cB c4 hr rfl (Has.acc hbag fun e => hD (.inr e)) (eax_bag (ev_v 0 rfl) (EvA.x (PL := (· = [.int wd, .int t])) (ea_cons (ev_v 3 rfl) (ea_cons (ev_v 4 rfl) ea_nil)) rfl)) fun _ _ ds hds _ => ⟨wd, t, hds, by omega, by omega, by omega, rfl⟩
  obtain ⟨_, ⟨n3, rfl, hn3⟩, hA⟩ := hds
  obtain ⟨oth, rfl, hol, hoth⟩ := all2_rows hA
  rw [List.length_range] at hol
  refine go_setX 7 (ev_take c2 hr rfl hbag (ev_v 0 rfl) ev_int (by omega) (by omega)) sc_oth.nd fun d hd => ?_
  obtain ⟨wy, rfl, hwy0, hwy⟩ := hd
  refine go_if (k := decide (wy = 0) || rows.isEmpty) (EvT.is (evt_w (evw_or (evt_cmp od_eqI (ev_v 7 rfl) ev_int) fun _ => evw_or1 (evt_cmpF (of_eqD hu (shaped_rows rows) shaped_nil) (EvR.m (ev_v 2 rfl)) (EvR.m (EvR.frz (evl_lst ea_nil)))))) (by rw [eqv_nil, List.isEmpty_map])) (fun h => ?_) (fun h => go_nil' ?_)
  · exact go_rtM (R' := rX K (RowsIn wd t 20)) rfl (as_l.trans as_l) (EvR.x (ev_v 6 rfl) ⟨oth, rfl, by omega, hoth⟩) fun v G1 H1 G2 H2 g p r => ⟨p.2, r⟩
  rw [Bool.or_eq_false_iff, decide_eq_false_iff_not] at h
  have hne : rows ≠ [] := fun e => by rw [e] at h; cases h.2
  have hl1 : 0 < rows.length := List.length_pos_iff.mpr hne
  obtain ⟨r0, hr0⟩ := List.exists_mem_of_ne_nil rows hne
  have hF1 : 0 < Fw.length := List.length_pos_of_mem ((hF r0).mpr (.told hr0))
  have hrI : RowsIn wd t 5 (rowsD rows) := ⟨rows, rfl, hrl, hrows⟩
  refine go_setX 8 (evx_cat (m := 5) (n := 5) (by decide) (evx_cut (EvR.x (ev_v 2 rfl) hrI) (eox_some (P := fun _ => True) (EvR.xx (ev_take (m := rows.length) c2 hr rfl hbag (ev_v 0 rfl) (EvR.is (ev_len rfl rfl (B _ (by decide +kernel)) (EvR.m (ev_v 2 rfl))) (by rw [List.length_map])) (by omega) (by omega)) fun d ⟨i, hd, _⟩ => ⟨i, hd, True.intro⟩)) eox_none) (evx_cut (EvR.x (ev_v 2 rfl) hrI) eox_none (eox_some (P := fun _ => True) (EvR.xx (ev_take c2 hr rfl hbag (ev_v 0 rfl) ev_int (by omega) (by omega)) fun d ⟨i, hd, _⟩ => ⟨i, hd, True.intro⟩)))) sc_oth.nd fun d hd => ?_
  refine go_rtM (R' := rX K (RowsIn wd t 20)) rfl (as_l.trans as_l) (EvR.xx (evx_cut (wd := wd) (t := t) (m := 10 + 3 + 2) (evx_cat (by decide) (evx_cat (by decide) (EvR.x (ev_v 8 rfl) hd) (EvR.xfrz (evl_lcX (own := [("one", 9)]) (is := [9]) (enc := fun k : Nat => .int (k : Int)) (PX := fun xs => xs = List.range (wy - 1).toNat) (fun _ => RowIn wd t) (fun k Δ => Δ.set 9 (some (.int (k : Int)))) (ItD.x (it_rng (n := (wy - 1).toNat) rfl (B _ (by decide +kernel)) (EvR.is (ev_op od_sub (ev_v 7 rfl) ev_int) ?wm) (by omega)) ⟨_, rfl, rfl⟩) rfl sc_oth.nd (blkOk_by (N := n_oth) (sc := defScope s_law_other) (by decide +kernel)) ?ln4 (by decide) (fun xs _ k hk => fun _ _ _ _ _ => tg_name 9 sc_oth.nd) ?el4) ?fz4)) (evx_cut (EvR.x (ev_v 6 rfl) ⟨oth, rfl, by omega, hoth⟩) eox_none (eox_some (P := fun _ => True) (EvR.xx (ev_take c2 hr rfl hbag (ev_v 0 rfl) ev_int (by omega) (by omega)) fun d ⟨i, hd, _⟩ => ⟨i, hd, True.intro⟩)))) eox_none (eox_some (P := fun _ => True) (EvR.x ev_int ⟨_, rfl, True.intro⟩))) ?w20) fun v G1 H1 G2 H2 g p r => ⟨p.2, r⟩
  case wm => rw [Int.toNat_of_nonneg (by omega)]
  case ln4 => rintro _ rfl; rw [List.length_range]; omega
  case el4 =>
    rintro _ rfl D es hD k hk
    refine fun _ _ _ _ _ => evx_ix (P1 := (· = rowsD Fw)) (P2 := intTo Fw.length) (EvR.x (ev_v 5 rfl) rfl) (ev_take c2 hr rfl (Has.acc hbag fun e => hD (.inr e)) (ev_v 0 rfl) (EvR.is (ev_len rfl rfl (B _ (by decide +kernel)) (EvR.m (ev_v 5 rfl))) (by rw [List.length_map])) (by omega) (by omega)) ?_
    rintro _ _ rfl ⟨i, rfl, h0, h1⟩
    obtain ⟨m, rfl⟩ : ∃ m : Nat, i = m := ⟨i.toNat, by omega⟩
    have hm : m < Fw.length := by omega
    exact (ixd_list (ix_rows hm)).x ⟨_, rfl, hFin _ (getD_mem hm)⟩
  case fz4 =>
    rintro _ ⟨_, rfl, hA⟩
    obtain ⟨rs, rfl, hl, h⟩ := all2_rows hA
    rw [List.length_range] at hl
    exact ⟨rs, rfl, by omega, h⟩
  case w20 =>
    rintro d ⟨rs, rfl, h1, h2⟩
    exact ⟨rs, rfl, by omega, h2⟩
end
end Pk
namespace Pk
open PySem L2 DL
theorem thru5_ok {i : Int} (h : 0 ≤ i ∧ i < 5) : ∃ wd t most : Nat, atI [.tuple [.int 1, .int 3, .int 4], .tuple [.int 2, .int 1, .int 4], .tuple [.int 2, .int 2, .int 3], .tuple [.int 3, .int 1, .int 3], .tuple [.int 2, .int 1, .int 3]] i = some (triD wd t most) ∧ ThruOk wd t most := by
  obtain ⟨n, rfl⟩ : ∃ n : Nat, i = n := ⟨i.toNat, by omega⟩
  have hn : n < 5 := by omega
  match n, hn with
  | 0, _ => exact ⟨1, 3, 4, rfl, by constructor <;> decide⟩
  | 1, _ => exact ⟨2, 1, 4, rfl, by constructor <;> decide⟩
  | 2, _ => exact ⟨2, 2, 3, rfl, by constructor <;> decide⟩
  | 3, _ => exact ⟨3, 1, 3, rfl, by constructor <;> decide⟩
  | 4, _ => exact ⟨2, 1, 3, rfl, by constructor <;> decide⟩
theorem shaped_two (A B : List (List Int)) : SeqAt.shaped (.list [rowsD A, rowsD B]) = true := by
  have h1 := shaped_rows A
  have h2 := shaped_rows B
  have hd : ∀ A : List (List Int), (rowsD A).depth ≤ 2 := fun A => by
    have h : ∀ A : List (List Int), PyData.depthAll (A.map rowD) ≤ 1 := fun A => by
      induction A with
      | nil => simp [PyData.depthAll]
      | cons n ns ih =>
        have := depth_row n
        simp only [List.map_cons, PyData.depthAll]
        omega
    have := h A
    unfold rowsD
    rw [PyData.depth] <;> omega
  have d1 := hd A
  have d2 := hd B
  have c1 : (rowsD A).canLay0 = true := SeqAt.canLay_of_shaped h1
  have c2 : (rowsD B).canLay0 = true := SeqAt.canLay_of_shaped h2
  unfold SeqAt.shaped
  rw [Bool.and_eq_true, decide_eq_true_eq]
  refine ⟨by simp [PyData.canLay0, PyData.canLayAll0, c1, c2], ?_⟩
  simp only [PyData.depth, PyData.depthAll]
  omega
section
variable {P : Program} {w : World} {K : PySem.W.Frag} {mg : Str → Option Value} {base : Heap} {Cc Cp Cs : Addr}
def n_law : List Str := ["script", "bag", "k", "width", "top", "most", "plans", "rows", "down", "pair", "closures", "councils", "handed", "given", "turn", "one", "entry", "row", "some", "parts"]
theorem sc_law : FnScope n_law ["script"] (defScope s_law) := ⟨rfl, rfl, rfl, by decide +kernel, rfl, by decide +kernel, by decide +kernel⟩
def pr_law (K : PySem.W.Frag) : Hp → List PyData → As → RR → Prop := fun _ ds T R => ∃ ns : List Int, ds = [scrD (ns.map .int)] ∧ T = .tt ∧ R = rAnd .tt (rAt K (.bool true))
def callA : Expr → Expr
  | .Call _ (e :: _) _ _ => e
  | _ => .Constant .none 0 ⟨0, 0, 0, 0⟩
def lcE : Expr → Expr
  | .ListComp e _ _ _ => e
  | _ => .Constant .none 0 ⟨0, 0, 0, 0⟩
/-- the pair, moved: the outer and the middle list -/
def e_out : Expr := callA (asgE ((forB ((defBody s_law).getD 1 (.Pass ⟨0, 0, 0, 0⟩))).getD 5 (.Pass ⟨0, 0, 0, 0⟩)))
def sc_mid : Scope := rlSc (defScope s_law) (lcSc e_out)
def sc_inn : Scope := rlSc sc_mid (lcSc (lcE e_out))
theorem ok_law {f : Addr} {fd : FuncData} (F : Fun K "law" "law" s_law f fd) (B : BN mg) (c1 : CalP P w K mg base 1 "_law_bag" (pr_bag K)) (c2 : CalB P w K mg base 1 "_law_take" (pr_take K)) (c3 : CalB P w K mg base 2 "_law_council" (pr_council K)) (c4 : CalB P w K mg base 2 "_law_row" (pr_row K)) (c5 : C8.Cal P w K mg base 2 "_law_every" (spM K (pr_evy K)) []) (c6 : CalP P w K mg base 6 "_law_made" (pr_made K Cc)) (c7 : CalP P w K mg base 1 "_law_due" (pr_due K)) (c8 : CalP P w K mg base 9 "parted" (pr_par K Cc)) (c9 : CalG P w K mg base 1 "_law_alike" (spM K (pr_alike3 K))) (c10 : CalB P w K mg base 3 "_law_other" (pr_oth K)) : FnG P w K mg base 10 f fd ["script"] (spM K (pr_law K)) := by
  refine fn_goG F sc_law (by rintro G ds T R ⟨c, rfl, _⟩; rfl) ?_
  rintro cdv A outer s H0 E G H ds T R hr hgd ⟨ns, rfl, rfl, rfl⟩
  have hu := hr.units
  obtain ⟨S0, hS0⟩ : ∃ S0, (((As.extx G H As.tt.fo).and (.fact (Same G) fun _ _ e h => h.trans e)).and .tt) = S0 := ⟨_, rfl⟩
  rw [hS0]
  have hE : S0.le (.extx G H As.tt.fo) := by rw [← hS0]; exact as_l.trans as_l
  refine go_setBag 1 (ev_c c1 hr rfl (ea_cons (ev_v 0 rfl) ea_nil) (fun _ _ _ => ⟨ns, rfl, rfl⟩) (hR := back_bag)) sc_law.nd fun p hp => ?_
  have hpf : ¬ S0.fo p := As.nf hp
  have hbag : Has (S0.and (.bag K p)) (.bag K p) := bag_has hpf
  refine go_for (α := Nat) (xs := List.range 3) (enc := fun k => .int (k : Int)) (is := [2]) (fun k Δ => Δ.set 2 (some (.int (k : Int)))) (it_rng (n := 3) rfl (B _ (by decide +kernel)) ev_int (by omega)) (fun k hk => tg_name 2 sc_law.nd) rfl PassesOwn.never
    (fun i Δ' S' => ∃ (o2 o3 o4 o5 o6 o7 o8 o9 o10 o11 o12 o13 o14 : Option PyData), Δ' = [some (scrD (ns.map .int)), some (ob p), o2, o3, o4, o5, o6, o7, o8, o9, o10, o11, o12, o13, o14, none, none, none, none, none] ∧ S' = S0.and (.bag K p)) ⟨none, none, none, none, none, none, none, none, none, none, none, none, none, rfl, rfl⟩ ?_ ?_
  · rintro i k _ _ hk ⟨o2, o3, o4, o5, o6, o7, o8, o9, o10, o11, o12, o13, o14, rfl, rfl⟩
    -- width, top, most
    refine @go_asgX _ _ _ _ _ _ (fun d => ∃ wd t most : Nat, d = triD wd t most ∧ ThruOk wd t most) _ _ [3, 4, 5] (fun d Δ => sets Δ [3, 4, 5] (unT d)) (@evx_tab _ _ _ _ _ [.tuple [.int 1, .int 3, .int 4], .tuple [.int 2, .int 1, .int 4], .tuple [.int 2, .int 2, .int 3], .tuple [.int 3, .int 1, .int 3], .tuple [.int 2, .int 1, .int 3]] _ _ _ (intTo 5) (@ea_cons _ _ _ _ _ _ _ (ev_tup (ea_cons ev_int (ea_cons ev_int (ea_cons ev_int ea_nil)))) (@ea_cons _ _ _ _ _ _ _ (ev_tup (ea_cons ev_int (ea_cons ev_int (ea_cons ev_int ea_nil)))) (@ea_cons _ _ _ _ _ _ _ (ev_tup (ea_cons ev_int (ea_cons ev_int (ea_cons ev_int ea_nil)))) (@ea_cons _ _ _ _ _ _ _ (ev_tup (ea_cons ev_int (ea_cons ev_int (ea_cons ev_int ea_nil)))) (@ea_cons _ _ _ _ _ _ _ (ev_tup (ea_cons ev_int (ea_cons ev_int (ea_cons ev_int ea_nil)))) (@ea_nil _ _ _) rfl) rfl) rfl) rfl) rfl) (ev_take c2 hr rfl hbag (ev_v 1 rfl) ev_int (by omega) (by omega)) ?_ (by decide) (fun _ _ => rfl)) ?_ (fun d hd => ?_) rfl rfl rfl
    · rintro _ ⟨i, rfl, hi⟩
      obtain ⟨wd, t, most, e, h⟩ := thru5_ok hi
      exact ⟨i, _, rfl, e, wd, t, most, rfl, h⟩
    · rintro d ⟨wd, t, most, rfl, h⟩
      exact tg_tup sc_law.nd rfl (nm_cons 3 (nm_cons 4 (nm_cons 5 .nil)))
    obtain ⟨wd, t, most, rfl, hC⟩ := hd
    have hw1 := hC.w1
    have hw3 := hC.w3
    have ht3 := hC.t3
    have hm2 := hC.m2
    have hm4 := hC.m4
    -- plans
    refine go_setX 6 (P := fun d => ∃ cs1 : List Cn, d = plansD cs1 ∧ cs1.length < 3 ∧ ∀ c ∈ cs1, CnOk c ∧ c.ws.length ≤ most ∧ c.qs.length = wd) (EvR.xfrz (evl_lcX (own := [("one", 15)]) (is := [15]) (enc := fun k : Nat => .int (k : Int)) (PX := fun xs => ∃ n : Nat, xs = List.range n ∧ (n : Int) < 3) (fun _ => CnIn wd most) (fun k Δ => Δ.set 15 (some (.int (k : Int)))) (itx_rng (m := 3) rfl (B _ (by decide +kernel)) (evx_ix (P1 := (· = .list [.int 1, .int 1, .int 2, .int 0])) (P2 := intTo 4) (EvR.x (EvR.frz (evl_lst (ea_cons ev_int (ea_cons ev_int (ea_cons ev_int (ea_cons ev_int ea_nil)))))) rfl) (ev_take c2 hr rfl hbag (ev_v 1 rfl) ev_int (by omega) (by omega)) ?ix) (by omega)) rfl sc_law.nd (blkOk_by (N := n_law) (sc := defScope s_law) (by decide +kernel)) ?ln (by decide) (fun xs _ k hk => fun _ _ _ _ _ => tg_name 15 sc_law.nd) ?el) ?fz1) sc_law.nd fun d hd => ?_
    case ix =>
      rintro _ _ rfl ⟨i, rfl, hi⟩
      obtain ⟨m, e, h⟩ := many_ok hi
      exact (ixd_list e).x ⟨m, rfl, h⟩
    case ln => rintro _ ⟨n, rfl, hn⟩; rw [List.length_range]; omega
    case el =>
      rintro _ ⟨n, rfl, hn⟩ D es hD k hk
      exact fun _ _ _ _ _ => evx_cB c3 hr rfl (Has.acc hbag fun e => hD (.inr e)) (eax_bag (ev_v 1 rfl) (EvA.x (PL := (· = [.int wd, .int most])) (ea_cons (ev_v 3 rfl) (ea_cons (ev_v 5 rfl) ea_nil)) rfl)) fun _ _ ds hds _ => ⟨wd, most, hds, hw1, by omega, hm2, by omega, rfl⟩
    case fz1 =>
      rintro _ ⟨_, ⟨n, rfl, hn⟩, hA⟩
      obtain ⟨cs1, rfl, hcl1, hcs1⟩ := all2_cns hA
      rw [List.length_range] at hcl1
      exact ⟨cs1, rfl, by omega, hcs1⟩
    obtain ⟨cs1, rfl, hcl1, hcs1⟩ := hd
    refine go_setX 6 (P := fun d => ∃ cs : List Cn, d = plansD cs ∧ PlsOk wd most cs) (EvR.xfrz (PL := fun ds => ∃ cs : List Cn, ds = cs.map cpD ∧ PlsOk wd most cs) (evx_op (P1 := (· = plansD cs1)) (P2 := fun d => ∃ cs2 : List Cn, d = plansD cs2 ∧ cs2.length ≤ 3 ∧ ∀ c ∈ cs2, CnOk c ∧ c.ws.length ≤ most ∧ c.qs.length = wd) (EvR.x (ev_v 6 rfl) rfl) (EvR.xfrz (evl_lcX (own := [("one", 15)]) (is := [15]) (enc := fun k : Nat => .int (k : Int)) (PX := fun xs => ∃ n : Nat, xs = List.range n ∧ n ≤ 3 ∧ (n ≠ 0 → wd = 1)) (fun _ => CnIn 1 3) (fun k Δ => Δ.set 15 (some (.int (k : Int)))) (itx_rngP (PN := fun n => n ≤ 3 ∧ (n ≠ 0 → wd = 1)) rfl (B _ (by decide +kernel)) (evx_op (P1 := fun d => d = .int (if wd = 1 then 1 else 0)) (P2 := intTo 4) (EvR.x (EvR.is (ev_callTy (T := "int") (cd_intB (k := decide ((wd : Int) = 1))) rfl (B _ (by decide +kernel)) (by decide +kernel) (ea_cons (ev_cmp od_eqI (ev_v 3 rfl) ev_int) ea_nil)) ?ib) rfl) (ev_take c2 hr rfl hbag (ev_v 1 rfl) ev_int (by omega) (by omega)) ?ml)) rfl sc_law.nd (blkOk_by (N := n_law) (sc := defScope s_law) (by decide +kernel)) ?ln2 (by decide) (fun xs _ k hk => fun _ _ _ _ _ => tg_name 15 sc_law.nd) ?el2) ?fz) ?cat (hR := back_xl)) ?fz2) sc_law.nd fun d hd => ?_
    case ib =>
      by_cases h : wd = 1
      · simp [h]
      · have : ¬ (wd : Int) = 1 := by omega
        simp [h, this]
    case ml =>
      rintro _ _ rfl ⟨i, rfl, h0, h1⟩
      by_cases h : wd = 1
      · rw [if_pos h]
        exact (od_mul (.inr ⟨by omega, by omega⟩)).x ⟨i.toNat, by rw [Int.toNat_of_nonneg h0, Int.one_mul], ⟨by omega, fun _ => h⟩, by omega⟩
      · rw [if_neg h]
        exact (od_mul (.inr ⟨by omega, by omega⟩)).x ⟨0, by rw [Int.zero_mul]; rfl, ⟨by omega, fun z => absurd rfl z⟩, by omega⟩
    case ln2 => rintro _ ⟨n, rfl, hn, _⟩; rw [List.length_range]; omega
    case el2 =>
      rintro _ ⟨n, rfl, hn, _⟩ D es hD k hk
      exact fun _ _ _ _ _ => evx_cB c3 hr rfl (Has.acc hbag fun e => hD (.inr e)) (eax_bag (ev_v 1 rfl) (EvA.x (PL := (· = [.int (1 : Nat), .int (3 : Nat)])) (ea_cons ev_int (ea_cons ev_int ea_nil)) rfl)) fun _ _ ds hds _ => ⟨1, 3, hds, by omega, by omega, by omega, by omega, rfl⟩
    case fz =>
      rintro _ ⟨_, ⟨n, rfl, hn3, hnw⟩, hA⟩
      obtain ⟨cs2, rfl, hl2, hc2⟩ := all2_cns hA
      rw [List.length_range] at hl2
      refine ⟨cs2, rfl, by omega, fun c hc => ?_⟩
      have hw : wd = 1 := hnw fun z => by
        have := List.length_pos_of_mem hc
        omega
      have h3 := hC.m3 hw
      obtain ⟨a, b, c'⟩ := hc2 c hc
      exact ⟨a, by omega, by omega⟩
    case cat =>
      rintro _ _ rfl ⟨cs2, rfl, hl2, hc2⟩
      refine (od_catL (by rw [List.length_map, List.length_map]; omega)).xl ⟨cs1 ++ cs2, by rw [List.map_append], by rw [List.length_append]; omega, fun c hc => ?_⟩
      rcases List.mem_append.mp hc with hc | hc
      · exact hcs1 c hc
      · exact hc2 c hc
    case fz2 => rintro _ ⟨cs, rfl, h⟩; exact ⟨cs, rfl, h⟩
    obtain ⟨cs, rfl, hcs⟩ := hd
    -- rows, down
    refine go_asgX (P := fun d => ∃ (rows : List (List Int)) (x : Int), d = .tuple [rowsD rows, .int x] ∧ rows.length ≤ 5 ∧ (∀ r ∈ rows, RIn wd 0 t r) ∧ 0 ≤ x ∧ x < 2 * t + 1) (is := [7, 8]) (f := fun d Δ => sets Δ [7, 8] (unT d)) (evx_tup (PL := fun ds => ∃ (rows : List (List Int)) (x : Int), ds = [rowsD rows, .int x] ∧ rows.length ≤ 5 ∧ (∀ r ∈ rows, RIn wd 0 t r) ∧ 0 ≤ x ∧ x < 2 * t + 1) (EvAX.xx (eax_cons (P := RowsIn wd t 5) (EvR.xfrz (evl_lcX (own := [("one", 15)]) (is := [15]) (enc := fun k : Nat => .int (k : Int)) (PX := fun xs => ∃ n : Nat, xs = List.range n ∧ (n : Int) < 6) (fun _ => RowIn wd t) (fun k Δ => Δ.set 15 (some (.int (k : Int)))) (itx_rng (m := 6) rfl (B _ (by decide +kernel)) (ev_take c2 hr rfl hbag (ev_v 1 rfl) ev_int (by omega) (by omega)) (by omega)) rfl sc_law.nd (blkOk_by (N := n_law) (sc := defScope s_law) (by decide +kernel)) ?ln3 (by decide) (fun xs _ k hk => fun _ _ _ _ _ => tg_name 15 sc_law.nd) ?el3) ?fz3) (eax_one (P := intTo (2 * t + 1)) (ev_take c2 hr rfl hbag (ev_v 1 rfl) (ev_op od_add (ev_op (od_mul (.inr ⟨by omega, by omega⟩)) ev_int (ev_v 4 rfl)) ev_int) (by omega) (by omega)))) ?al3) ?tl3) ?tg3 fun d hd => ?_
    case ln3 => rintro _ ⟨n, rfl, hn⟩; rw [List.length_range]; omega
    case el3 =>
      rintro _ ⟨n, rfl, hn⟩ D es hD k hk
      exact fun _ _ _ _ _ => evx_cB c4 hr rfl (Has.acc hbag fun e => hD (.inr e)) (eax_bag (ev_v 1 rfl) (EvA.x (PL := (· = [.int wd, .int t])) (ea_cons (ev_v 3 rfl) (ea_cons (ev_v 4 rfl) ea_nil)) rfl)) fun _ _ ds hds _ => ⟨wd, t, hds, by omega, by omega, by omega, rfl⟩
    case fz3 =>
      rintro _ ⟨_, ⟨n, rfl, hn⟩, hA⟩
      obtain ⟨rs, rfl, hl, h⟩ := all2_rows hA
      rw [List.length_range] at hl
      exact ⟨rs, rfl, by omega, h⟩
    case al3 =>
      rintro ds ⟨d, ds', rfl, ⟨rs, rfl, h1, h2⟩, d2, rfl, x, rfl, h3, h4⟩
      exact ⟨rs, x, rfl, h1, h2, h3, h4⟩
    case tl3 =>
      rintro ds ⟨rs, x, rfl, h⟩
      exact ⟨by simp, rs, x, rfl, h⟩
    case tg3 =>
      rintro d ⟨rs, x, rfl, h⟩
      exact tg_tup sc_law.nd rfl (nm_cons 7 (nm_cons 8 .nil))
    obtain ⟨rows, x, rfl, hrl, hrows, hx0, hx1⟩ := hd
    -- the pair
    refine go_setX 9 (P := fun d => ∃ rs : List (List Int), d = .tuple [rowsD rows, rowsD rs] ∧ rs.length ≤ 20 ∧ ∀ r ∈ rs, RIn wd 0 t r) (evx_tup (PL := fun ds => ∃ rs : List (List Int), ds = [rowsD rows, rowsD rs] ∧ rs.length ≤ 20 ∧ ∀ r ∈ rs, RIn wd 0 t r) (EvAX.xx (eax_cons (P := (· = rowsD rows)) (EvR.x (ev_v 7 rfl) rfl) (eax_one (P := RowsIn wd t 20) (evx_cB c10 hr rfl hbag (eax_bag (ev_v 1 rfl) (EvA.x (PL := (· = [plansD cs, rowsD rows, .int wd, .int t])) (ea_cons (ev_v 6 rfl) (ea_cons (ev_v 7 rfl) (ea_cons (ev_v 3 rfl) (ea_cons (ev_v 4 rfl) ea_nil)))) rfl)) fun _ _ ds hds _ => ⟨wd, t, most, cs, rows, hds, hC, hcs, hrl, hrows, rfl⟩))) ?al5) ?tl5) sc_law.nd fun d hd => ?_
    case al5 =>
      rintro ds ⟨d, ds', rfl, rfl, d2, rfl, rs, rfl, h⟩
      exact ⟨rs, rfl, h⟩
    case tl5 =>
      rintro ds ⟨rs, rfl, h⟩
      exact ⟨by simp, rs, rfl, h⟩
    obtain ⟨oth, rfl, hol, hoth⟩ := hd
    refine go_set 9 (d := .tuple [rowsD (shiftV x rows), rowsD (shiftV x oth)]) (EvR.is (ev_tupleC rfl rfl (B _ (by decide +kernel)) (.inl rfl) (EvR.frz (evl_map (α := List (List Int)) (xs := [rows, oth]) (enc := rowsD) [("some", 18)] (fun rs => rowsD (shiftV x rs)) (fun rs Δ => Δ.set 18 (some (rowsD rs))) (it_tup (ev_v 9 rfl)) rfl sc_law.nd (blkOk_by (N := n_law) (sc := defScope s_law) (by decide +kernel)) (by simp) (is := [18]) (by decide) (fun b hb => fun _ _ _ _ _ => tg_name 18 sc_law.nd) ?el6))) ?pr6) sc_law.nd ?_
    case pr6 => rfl
    case el6 =>
      intro D es hD rs hrs
      have hrsl : rs.length ≤ 20 := by
        simp at hrs
        rcases hrs with rfl | rfl <;> omega
      have hrsi : ∀ r ∈ rs, RIn wd 0 t r := by
        simp at hrs
        rcases hrs with rfl | rfl
        · exact hrows
        · exact hoth
      refine fun _ _ _ _ _ => EvR.is (EvR.frz (evl_map (α := List Int) (xs := rs) (enc := rowD) [("row", 17)] (fun r => rowD (r.map fun z => z - x)) (fun r Δ => Δ.set 17 (some (rowD r))) (it_list (ev_v 18 rfl)) rfl sc_law.nd (blkOk_by (N := n_law) (sc := sc_mid) (by decide +kernel)) (by omega) (is := [17]) (by decide) (fun b hb => fun _ _ _ _ _ => tg_name 17 sc_law.nd) (fun D es hD r hrm => fun _ _ _ _ _ => ev_tupleC rfl rfl (B _ (by decide +kernel)) (.inl rfl) (EvR.is (EvR.frz (evl_map [("entry", 16)] (fun z : Int => .int (z - x)) (fun z Δ => Δ.set 16 (some (.int z))) (it_tup (ev_v 17 rfl)) rfl sc_law.nd (blkOk_by (N := n_law) (sc := sc_inn) (by decide +kernel)) (by have := (hrsi r hrm).1; omega) (is := [16]) (by decide) (fun b hb => fun _ _ _ _ _ => tg_name 16 sc_law.nd) (fun D es hD z hz => fun _ _ _ _ _ => ev_op od_sub (ev_v 16 rfl) (ev_v 8 rfl)))) (by rw [List.map_map]; rfl))))) (by unfold shiftV rowsD; rw [List.map_map]; rfl)
    have hAl : (shiftV x rows).length ≤ 5 := by rw [shift_len]; exact hrl
    have hA := shift_in (x := x) hrows
    have hBl : (shiftV x oth).length ≤ 20 := by rw [shift_len]; exact hol
    have hB := shift_in (x := x) hoth
    generalize shiftV x rows = ra at hAl hA
    generalize shiftV x oth = rb at hBl hB
    -- closures, councils
    refine go_parX 10 11 (P1 := fun d => ∃ fa fb : List (List Int), d = .list [rowsD fa, rowsD fb] ∧ (∀ r, r ∈ fa ↔ Made cs ra r) ∧ ∀ r, r ∈ fb ↔ Made cs rb r) (P2 := fun d => ∃ acs : List ACn, d = cnsD Cc acs ∧ acs.map (·.2) = cs) (EvR.xfrz (evl_lcX (α := List (List Int)) (own := [("some", 18)]) (is := [18]) (enc := rowsD) (PX := fun xs => xs = [ra, rb]) (fun rs => IsEvery cs rs) (fun rs Δ => Δ.set 18 (some (rowsD rs))) (ItD.x (it_tup (ev_v 9 rfl)) ⟨_, rfl, rfl⟩) rfl sc_law.nd (blkOk_by (N := n_law) (sc := defScope s_law) (by decide +kernel)) ?ln7 (by decide) (fun xs _ k hk => fun _ _ _ _ _ => tg_name 18 sc_law.nd) ?el7) ?fz7) (EvR.xfrz (evl_lcX (own := [("parts", 19)]) (is := [19]) (enc := cpD) (PX := fun xs => xs = cs) (fun c => IsCn Cc c) (fun c Δ => Δ.set 19 (some (cpD c))) (ItD.x (it_list (ev_v 6 rfl)) ⟨_, rfl, rfl⟩) rfl sc_law.nd (blkOk_by (N := n_law) (sc := defScope s_law) (by decide +kernel)) ?ln4 (by decide) (fun xs _ k hk => fun _ _ _ _ _ => tg_name 19 sc_law.nd) ?el4) ?fz4) rfl sc_law.nd fun d1 d2 h1 h2 => ?_
    case ln7 => rintro _ rfl; simp
    case el7 =>
      rintro _ rfl D es hD rs hrs
      have hrsl : rs.length ≤ 20 := by
        simp at hrs
        rcases hrs with rfl | rfl <;> omega
      have hrsi : ∀ r ∈ rs, RIn wd (-x) (-x + t) r := by
        simp at hrs
        rcases hrs with rfl | rfl
        · exact hA
        · exact hB
      refine fun _ _ _ _ _ => evx_cM c5 hr rfl (PL := (· = [plansD cs, rowsD rs])) (T := .tt) (EvA.x (ea_cons (ev_v 6 rfl) (ea_cons (ev_v 18 rfl) ea_nil)) rfl) has_tt (by
        rintro G1 H1 _ rfl _
        exact ⟨wd, _, cs, rs, _, rfl, evyOk hC hcs (by omega) hrsi, view_frz, rfl⟩)
    case fz7 =>
      rintro _ ⟨_, rfl, h7⟩
      cases h7 with
      | cons h8 h9 => cases h9 with
        | cons h10 h11 =>
          cases h11
          obtain ⟨fa, rfl, _, e1⟩ := h8
          obtain ⟨fb, rfl, _, e2⟩ := h10
          exact ⟨fa, fb, rfl, e1, e2⟩
    case ln4 => rintro _ rfl; have := hcs.1; omega
    case el4 =>
      rintro _ rfl D es hD c hc
      exact fun _ _ _ _ _ => evx_c c6 hr rfl (EvA.x (PL := (· = [cpD c])) (ea_cons (ev_v 19 rfl) ea_nil) rfl) fun _ _ ds hds _ => ⟨c, hds, (hcs.2 c hc).1, rfl⟩
    case fz4 =>
      rintro _ ⟨_, rfl, hA⟩
      exact all2_made hA
    obtain ⟨fa, fb, rfl, hfa, hfb⟩ := h1
    obtain ⟨acs, rfl, rfl⟩ := h2
    -- handed, given
    refine go_parX 12 13 (P1 := (· = .list [rowsD ra, rowsD rb])) (P2 := (· = cnsD Cc acs)) (EvR.x (EvR.is (EvR.frz (evl_map (α := List (List Int)) (xs := [ra, rb]) (enc := rowsD) [("some", 18)] rowsD (fun rs Δ => Δ.set 18 (some (rowsD rs))) (it_tup (ev_v 9 rfl)) rfl sc_law.nd (blkOk_by (N := n_law) (sc := defScope s_law) (by decide +kernel)) (by simp) (is := [18]) (by decide) (fun b hb => fun _ _ _ _ _ => tg_name 18 sc_law.nd) (fun D es hD rs hrs => fun _ _ _ _ _ => EvR.frz (evl_list rfl rfl (B _ (by decide +kernel)) (.inl rfl) (ev_v 18 rfl))))) rfl) rfl) (EvR.x (EvR.frz (evl_list rfl rfl (B _ (by decide +kernel)) (.inl rfl) (ev_v 11 rfl))) rfl) rfl sc_law.nd fun d1 d2 h1 h2 => ?_
    subst h1 h2
    have hsa := part_cases (cs := acs.map (·.2)) (A := ra) (B := rb) (by omega) (by omega)
    have hsb := part_cases (cs := acs.map (·.2)) (A := rb) (B := ra) (by omega) (by omega)
    refine go_for (α := Nat) (xs := List.range 2) (enc := fun k => .int (k : Int)) (is := [14]) (fun k Δ => Δ.set 14 (some (.int (k : Int)))) (it_rng (n := 2) rfl (B _ (by decide +kernel)) ev_int (by omega)) (fun k hk => tg_name 14 sc_law.nd) rfl PassesOwn.never
      (fun j Δ' S' => ∃ (o14 : Option PyData), Δ' = [some (scrD (ns.map .int)), some (ob p), some (.int k), some (.int wd), some (.int t), some (.int most), some (plansD (acs.map (·.2))), some (rowsD rows), some (.int x), some (.tuple [rowsD ra, rowsD rb]), some (.list [rowsD fa, rowsD fb]), some (cnsD Cc acs), some (.list [rowsD ra, rowsD rb]), some (cnsD Cc acs), o14, none, none, none, none, none] ∧ S' = S0.and (.bag K p)) ⟨o14, rfl, rfl⟩ ?_ ?_
    · rintro j k14 _ _ hj ⟨o14, rfl, rfl⟩
      refine go_if (k := false) (EvT.is (evt_not (k := true) (evt_val (evx_cG c9 hgd hr rfl (PL := (· = [partV (acs.map (·.2)) ra rb, partV (acs.map (·.2)) ra rb])) (T := .tt) (EvA.x (ea_cons (ev_c c8 hr rfl (ea_cons (ev_ix (ixd_list (d := rowsD ra) (i := 0) rfl) (ev_v 12 rfl) ev_int) (ea_cons (ev_ix (ixd_list (d := rowsD rb) (i := 1) rfl) (ev_v 12 rfl) ev_int) (ea_cons (ev_v 11 rfl) ea_nil))) fun _ _ _ => ⟨wd, acs, ra, rb, rfl, boOk hC hcs (by rw [List.length_append]; omega) (fun r h => (List.mem_append.mp h).elim (hA r) (hB r)), rfl⟩) (ea_cons (ev_c c7 hr rfl (ea_cons (ev_v 9 rfl) (ea_cons (ev_v 10 rfl) ea_nil)) fun _ _ _ => ⟨_, ra, rb, fa, fb, rfl, hfa, hfb, by omega, by omega, rfl⟩) ea_nil)) rfl) has_tt fun _ _ ds hds _ => ⟨_, hds, hsa, rfl, rfl⟩))) rfl) (fun h => by cases h) (fun _ => go_nil' ?_)
      refine go_if (k := false) (EvT.is (evt_not (k := true) (evt_val (evx_cG c9 hgd hr rfl (PL := (· = [partV (acs.map (·.2)) rb ra, partV (acs.map (·.2)) rb ra])) (T := .tt) (EvA.x (ea_cons (ev_c c8 hr rfl (ea_cons (ev_ix (ixd_list (d := rowsD rb) (i := 1) rfl) (ev_v 12 rfl) ev_int) (ea_cons (ev_ix (ixd_list (d := rowsD ra) (i := 0) rfl) (ev_v 12 rfl) ev_int) (ea_cons (ev_v 11 rfl) ea_nil))) fun _ _ _ => ⟨wd, acs, rb, ra, rfl, boOk hC hcs (by rw [List.length_append]; omega) (fun r h => (List.mem_append.mp h).elim (hB r) (hA r)), rfl⟩) (ea_cons (ev_c c7 hr rfl (ea_cons (ev_revT (ev_v 9 rfl)) (ea_cons (EvR.frz (evl_revL (ev_v 10 rfl))) ea_nil)) fun _ _ _ => ⟨_, rb, ra, fb, fa, rfl, hfb, hfa, by omega, by omega, rfl⟩) ea_nil)) rfl) has_tt fun _ _ ds hds _ => ⟨_, hds, hsb, rfl, rfl⟩))) rfl) (fun h => by cases h) (fun _ => go_nil' ?_)
      refine go_if (k := false) (EvT.is (evt_w (evw_or (k := false) (EvT.is (evt_cmpF (of_neD hu (shaped_two ra rb) (shaped_two ra rb)) (EvR.m (ev_v 12 rfl)) (EvR.m (EvR.is (EvR.frz (evl_map (α := List (List Int)) (xs := [ra, rb]) (enc := rowsD) [("some", 18)] rowsD (fun rs Δ => Δ.set 18 (some (rowsD rs))) (it_tup (ev_v 9 rfl)) rfl sc_law.nd (blkOk_by (N := n_law) (sc := defScope s_law) (by decide +kernel)) (by simp) (is := [18]) (by decide) (fun b hb => fun _ _ _ _ _ => tg_name 18 sc_law.nd) (fun D es hD rs hrs => fun _ _ _ _ _ => EvR.frz (evl_list rfl rfl (B _ (by decide +kernel)) (.inl rfl) (ev_v 18 rfl))))) rfl))) (by rw [SeqAt.eqv_refl _ (SeqAt.canLay_of_shaped (shaped_two ra rb))]; rfl)) fun _ => evw_or1 (k := false) (evt_cmp (od_neRefs hu ?refs) (ev_v 13 rfl) (ev_v 11 rfl)))) rfl) (fun h => by cases h) (fun _ => go_nil' (go_turn ⟨_, rfl, rfl⟩))
      intro d hd
      obtain ⟨z, _, rfl⟩ := List.mem_map.mp hd
      exact refD_ins
    · rintro _ _ ⟨o14, rfl, rfl⟩
      exact go_turn ⟨_, _, _, _, _, _, _, _, _, _, _, _, _, rfl, rfl⟩
  · rintro _ _ ⟨o2, o3, o4, o5, o6, o7, o8, o9, o10, o11, o12, o13, o14, rfl, rfl⟩
    exact go_rtM (R' := rAt K (.bool true)) rfl (as_l.trans hE) ev_bl fun v G1 H1 G2 H2 g p r => ⟨True.intro, r⟩
end
end Pk
namespace Pk
open PySem L2 DL
theorem ats_int (K : PySem.W.Frag) (G : Hp) : ∀ ns : List Int, Ats K G (ns.map V.int) (ns.map .int)
  | [] => .nil
  | n :: ns => .cons (.int n) (ats_int K G ns)
theorem all_mk {l : PySem.W.OpenLaw} {w : World} {K : PySem.W.Frag} {h : Heap} {mg : Str → Option Value} {fa f_mb f_me f_ex f_ii f_ib f_bo f_ms f_aw f_aq f_ci f_cw f_ct f_ca f_ro f_fi f_nl f_lv f_ff f_cp f_pi f_ih f_hm f_ht f_li f_as f_si f_mk f_pf f_co f_lb f_lt f_la f_lc f_lm f_lx f_lr f_le f_ld f_lo f_zz C Q H : Addr} (X : K.In h) (G : h.Ns mainGlobals mg) (hfa : mg "law" = some (.ref fa))
    {oc_mb kV_mb dc_mb pm_mb cd_mb ct_mb : Value} {od_mb an_mb : Option Addr} {sl_mb : Array (Option Value)}
    {oc_me kV_me dc_me pm_me cd_me ct_me : Value} {od_me an_me : Option Addr} {sl_me : Array (Option Value)}
    {oc_ex kV_ex dc_ex pm_ex cd_ex ct_ex : Value} {od_ex an_ex : Option Addr} {sl_ex : Array (Option Value)}
    {oc_ii kV_ii dc_ii pm_ii cd_ii ct_ii : Value} {od_ii an_ii : Option Addr} {sl_ii : Array (Option Value)}
    {oc_ib kV_ib dc_ib pm_ib cd_ib ct_ib : Value} {od_ib an_ib : Option Addr} {sl_ib : Array (Option Value)}
    {oc_bo kV_bo dc_bo pm_bo cd_bo ct_bo : Value} {od_bo an_bo : Option Addr} {sl_bo : Array (Option Value)}
    {oc_ms kV_ms dc_ms pm_ms cd_ms ct_ms : Value} {od_ms an_ms : Option Addr} {sl_ms : Array (Option Value)}
    {oc_aw kV_aw dc_aw pm_aw cd_aw ct_aw : Value} {od_aw an_aw : Option Addr} {sl_aw : Array (Option Value)}
    {oc_aq kV_aq dc_aq pm_aq cd_aq ct_aq : Value} {od_aq an_aq : Option Addr} {sl_aq : Array (Option Value)}
    {oc_ci kV_ci dc_ci pm_ci cd_ci ct_ci : Value} {od_ci an_ci : Option Addr} {sl_ci : Array (Option Value)}
    {oc_cw kV_cw dc_cw pm_cw cd_cw ct_cw : Value} {od_cw an_cw : Option Addr} {sl_cw : Array (Option Value)}
    {oc_ct kV_ct dc_ct pm_ct cd_ct ct_ct : Value} {od_ct an_ct : Option Addr} {sl_ct : Array (Option Value)}
    {oc_ca kV_ca dc_ca pm_ca cd_ca ct_ca : Value} {od_ca an_ca : Option Addr} {sl_ca : Array (Option Value)}
    {oc_ro kV_ro dc_ro pm_ro cd_ro ct_ro : Value} {od_ro an_ro : Option Addr} {sl_ro : Array (Option Value)}
    {oc_fi kV_fi dc_fi pm_fi cd_fi ct_fi : Value} {od_fi an_fi : Option Addr} {sl_fi : Array (Option Value)}
    {oc_nl kV_nl dc_nl pm_nl cd_nl ct_nl : Value} {od_nl an_nl : Option Addr} {sl_nl : Array (Option Value)}
    {oc_lv kV_lv dc_lv pm_lv cd_lv ct_lv : Value} {od_lv an_lv : Option Addr} {sl_lv : Array (Option Value)}
    {oc_ff kV_ff dc_ff pm_ff cd_ff ct_ff : Value} {od_ff an_ff : Option Addr} {sl_ff : Array (Option Value)}
    {oc_cp kV_cp dc_cp pm_cp cd_cp ct_cp : Value} {od_cp an_cp : Option Addr} {sl_cp : Array (Option Value)}
    {oc_pi kV_pi dc_pi pm_pi cd_pi ct_pi : Value} {od_pi an_pi : Option Addr} {sl_pi : Array (Option Value)}
    {oc_ih kV_ih dc_ih pm_ih cd_ih ct_ih : Value} {od_ih an_ih : Option Addr} {sl_ih : Array (Option Value)}
    {oc_hm kV_hm dc_hm pm_hm cd_hm ct_hm : Value} {od_hm an_hm : Option Addr} {sl_hm : Array (Option Value)}
    {oc_ht kV_ht dc_ht pm_ht cd_ht ct_ht : Value} {od_ht an_ht : Option Addr} {sl_ht : Array (Option Value)}
    {oc_li kV_li dc_li pm_li cd_li ct_li : Value} {od_li an_li : Option Addr} {sl_li : Array (Option Value)}
    {oc_as kV_as dc_as pm_as cd_as ct_as : Value} {od_as an_as : Option Addr} {sl_as : Array (Option Value)}
    {oc_si kV_si dc_si pm_si cd_si ct_si : Value} {od_si an_si : Option Addr} {sl_si : Array (Option Value)}
    {oc_mk kV_mk dc_mk pm_mk cd_mk ct_mk : Value} {od_mk an_mk : Option Addr} {sl_mk : Array (Option Value)}
    {oc_pf kV_pf dc_pf pm_pf cd_pf ct_pf : Value} {od_pf an_pf : Option Addr} {sl_pf : Array (Option Value)}
    {oc_co kV_co dc_co pm_co cd_co ct_co : Value} {od_co an_co : Option Addr} {sl_co : Array (Option Value)}
    {oc_lb kV_lb dc_lb pm_lb cd_lb ct_lb : Value} {od_lb an_lb : Option Addr} {sl_lb : Array (Option Value)}
    {oc_lt kV_lt dc_lt pm_lt cd_lt ct_lt : Value} {od_lt an_lt : Option Addr} {sl_lt : Array (Option Value)}
    {oc_la kV_la dc_la pm_la cd_la ct_la : Value} {od_la an_la : Option Addr} {sl_la : Array (Option Value)}
    {oc_lc kV_lc dc_lc pm_lc cd_lc ct_lc : Value} {od_lc an_lc : Option Addr} {sl_lc : Array (Option Value)}
    {oc_lm kV_lm dc_lm pm_lm cd_lm ct_lm : Value} {od_lm an_lm : Option Addr} {sl_lm : Array (Option Value)}
    {oc_lx kV_lx dc_lx pm_lx cd_lx ct_lx : Value} {od_lx an_lx : Option Addr} {sl_lx : Array (Option Value)}
    {oc_lr kV_lr dc_lr pm_lr cd_lr ct_lr : Value} {od_lr an_lr : Option Addr} {sl_lr : Array (Option Value)}
    {oc_le kV_le dc_le pm_le cd_le ct_le : Value} {od_le an_le : Option Addr} {sl_le : Array (Option Value)}
    {oc_ld kV_ld dc_ld pm_ld cd_ld ct_ld : Value} {od_ld an_ld : Option Addr} {sl_ld : Array (Option Value)}
    {oc_lo kV_lo dc_lo pm_lo cd_lo ct_lo : Value} {od_lo an_lo : Option Addr} {sl_lo : Array (Option Value)}
    {oc_zz kV_zz dc_zz pm_zz cd_zz ct_zz : Value} {od_zz an_zz : Option Addr} {sl_zz : Array (Option Value)}
    {t_g1 : Nat}
    {t_g2 : Nat}
    {t_g3 : Nat}
    {t_g4 : Nat}
    (xn_C : PySem.W.nsIn K mainGlobals "Council" = some (some (.ref C)))
    (xpg_C : PySem.W.plainGet K C Str.empty = true)
    (xhd_C : PySem.W.hasDictIn K C = true)
    (xpo_C : PySem.W.plainOver K C = true)
    (xsa_C : PySem.W.findIn K (.ref C) "__setattr__" = some (some (.builtin "object.__setattr__")))
    (xmk_C : PySem.W.makesIn K C = true)
    (xkc_C : PySem.W.keepIn K (.ref C) = true)
    (xna_C0 : PySem.W.findIn K (.ref C) "seat_weights" = some none)
    (xna_C1 : PySem.W.findIn K (.ref C) "column_quotas" = some none)
    (xn_Q : PySem.W.nsIn K mainGlobals "Packer" = some (some (.ref Q)))
    (xpg_Q : PySem.W.plainGet K Q Str.empty = true)
    (xhd_Q : PySem.W.hasDictIn K Q = true)
    (xpo_Q : PySem.W.plainOver K Q = true)
    (xsa_Q : PySem.W.findIn K (.ref Q) "__setattr__" = some (some (.builtin "object.__setattr__")))
    (xmk_Q : PySem.W.makesIn K Q = true)
    (xkc_Q : PySem.W.keepIn K (.ref Q) = true)
    (xna_Q0 : PySem.W.findIn K (.ref Q) "its_weights" = some none)
    (xna_Q1 : PySem.W.findIn K (.ref Q) "its_rooms" = some none)
    (xna_Q2 : PySem.W.findIn K (.ref Q) "its_answers" = some none)
    (xn_H : PySem.W.nsIn K mainGlobals "Shelf" = some (some (.ref H)))
    (xpg_H : PySem.W.plainGet K H Str.empty = true)
    (xhd_H : PySem.W.hasDictIn K H = true)
    (xpo_H : PySem.W.plainOver K H = true)
    (xsa_H : PySem.W.findIn K (.ref H) "__setattr__" = some (some (.builtin "object.__setattr__")))
    (xmk_H : PySem.W.makesIn K H = true)
    (xkc_H : PySem.W.keepIn K (.ref H) = true)
    (xna_H0 : PySem.W.findIn K (.ref H) "its_rows" = some none)
    (xna_H1 : PySem.W.findIn K (.ref H) "its_parts" = some none)
    (xa_mb : PySem.W.nsIn K mainGlobals "meets_bound" = some (some (.ref f_mb)))
    (xl_mb : K.lookup f_mb = some ⟨oc_mb, od_mb, .func (PySem.W.fnOf "meets_bound" "meets_bound" (defArgs s_meets_bound) (defBody s_meets_bound) (defScope s_meets_bound) .none kV_mb dc_mb pm_mb an_mb cd_mb ct_mb), sl_mb⟩)
    (xc_mb : PySem.W.codeIn K cd_mb "meets_bound" = true)
    (xk_mb : PySem.W.keepIn K (.ref f_mb) = true)
    (xa_me : PySem.W.nsIn K mainGlobals "meets" = some (some (.ref f_me)))
    (xl_me : K.lookup f_me = some ⟨oc_me, od_me, .func (PySem.W.fnOf "meets" "meets" (defArgs s_meets) (defBody s_meets) (defScope s_meets) .none kV_me dc_me pm_me an_me cd_me ct_me), sl_me⟩)
    (xc_me : PySem.W.codeIn K cd_me "meets" = true)
    (xk_me : PySem.W.keepIn K (.ref f_me) = true)
    (xa_ex : PySem.W.nsIn K mainGlobals "exactly" = some (some (.ref f_ex)))
    (xl_ex : K.lookup f_ex = some ⟨oc_ex, od_ex, .func (PySem.W.fnOf "exactly" "exactly" (defArgs s_exactly) (defBody s_exactly) (defScope s_exactly) .none kV_ex dc_ex pm_ex an_ex cd_ex ct_ex), sl_ex⟩)
    (xc_ex : PySem.W.codeIn K cd_ex "exactly" = true)
    (xk_ex : PySem.W.keepIn K (.ref f_ex) = true)
    (xa_ii : PySem.W.nsIn K mainGlobals "is_integer" = some (some (.ref f_ii)))
    (xl_ii : K.lookup f_ii = some ⟨oc_ii, od_ii, .func (PySem.W.fnOf "is_integer" "is_integer" (defArgs s_is_integer) (defBody s_is_integer) (defScope s_is_integer) .none kV_ii dc_ii pm_ii an_ii cd_ii ct_ii), sl_ii⟩)
    (xc_ii : PySem.W.codeIn K cd_ii "is_integer" = true)
    (xk_ii : PySem.W.keepIn K (.ref f_ii) = true)
    (xa_ib : PySem.W.nsIn K mainGlobals "is_between" = some (some (.ref f_ib)))
    (xl_ib : K.lookup f_ib = some ⟨oc_ib, od_ib, .func (PySem.W.fnOf "is_between" "is_between" (defArgs s_is_between) (defBody s_is_between) (defScope s_is_between) .none kV_ib dc_ib pm_ib an_ib cd_ib ct_ib), sl_ib⟩)
    (xc_ib : PySem.W.codeIn K cd_ib "is_between" = true)
    (xk_ib : PySem.W.keepIn K (.ref f_ib) = true)
    (xa_bo : PySem.W.nsIn K mainGlobals "bits_of" = some (some (.ref f_bo)))
    (xl_bo : K.lookup f_bo = some ⟨oc_bo, od_bo, .func (PySem.W.fnOf "bits_of" "bits_of" (defArgs s_bits_of) (defBody s_bits_of) (defScope s_bits_of) .none kV_bo dc_bo pm_bo an_bo cd_bo ct_bo), sl_bo⟩)
    (xc_bo : PySem.W.codeIn K cd_bo "bits_of" = true)
    (xk_bo : PySem.W.keepIn K (.ref f_bo) = true)
    (xa_ms : PySem.W.nsIn K mainGlobals "members" = some (some (.ref f_ms)))
    (xl_ms : K.lookup f_ms = some ⟨oc_ms, od_ms, .func (PySem.W.fnOf "members" "members" (defArgs s_members) (defBody s_members) (defScope s_members) .none kV_ms dc_ms pm_ms an_ms cd_ms ct_ms), sl_ms⟩)
    (xc_ms : PySem.W.codeIn K cd_ms "members" = true)
    (xk_ms : PySem.W.keepIn K (.ref f_ms) = true)
    (xa_aw : PySem.W.nsIn K mainGlobals "are_weights" = some (some (.ref f_aw)))
    (xl_aw : K.lookup f_aw = some ⟨oc_aw, od_aw, .func (PySem.W.fnOf "are_weights" "are_weights" (defArgs s_are_weights) (defBody s_are_weights) (defScope s_are_weights) .none kV_aw dc_aw pm_aw an_aw cd_aw ct_aw), sl_aw⟩)
    (xc_aw : PySem.W.codeIn K cd_aw "are_weights" = true)
    (xk_aw : PySem.W.keepIn K (.ref f_aw) = true)
    (xa_aq : PySem.W.nsIn K mainGlobals "are_quotas" = some (some (.ref f_aq)))
    (xl_aq : K.lookup f_aq = some ⟨oc_aq, od_aq, .func (PySem.W.fnOf "are_quotas" "are_quotas" (defArgs s_are_quotas) (defBody s_are_quotas) (defScope s_are_quotas) .none kV_aq dc_aq pm_aq an_aq cd_aq ct_aq), sl_aq⟩)
    (xc_aq : PySem.W.codeIn K cd_aq "are_quotas" = true)
    (xk_aq : PySem.W.keepIn K (.ref f_aq) = true)
    (xa_ci : PySem.W.findIn K (.ref C) "__init__" = some (some (.ref f_ci)))
    (xi_ci : PySem.W.isFn K (.ref f_ci) = true)
    (xl_ci : K.lookup f_ci = some ⟨oc_ci, od_ci, .func (PySem.W.fnOf "__init__" "Council.__init__" (defArgs s_Council_init) (defBody s_Council_init) (defScope s_Council_init) .none kV_ci dc_ci pm_ci an_ci cd_ci ct_ci), sl_ci⟩)
    (xc_ci : PySem.W.codeIn K cd_ci "Council.__init__" = true)
    (xk_ci : PySem.W.keepIn K (.ref f_ci) = true)
    (xa_cw : PySem.W.findIn K (.ref C) "weights" = some (some (.ref f_cw)))
    (xi_cw : PySem.W.isFn K (.ref f_cw) = true)
    (xl_cw : K.lookup f_cw = some ⟨oc_cw, od_cw, .func (PySem.W.fnOf "weights" "Council.weights" (defArgs s_Council_weights) (defBody s_Council_weights) (defScope s_Council_weights) .none kV_cw dc_cw pm_cw an_cw cd_cw ct_cw), sl_cw⟩)
    (xc_cw : PySem.W.codeIn K cd_cw "Council.weights" = true)
    (xk_cw : PySem.W.keepIn K (.ref f_cw) = true)
    (xa_ct : PySem.W.findIn K (.ref C) "total" = some (some (.ref f_ct)))
    (xi_ct : PySem.W.isFn K (.ref f_ct) = true)
    (xl_ct : K.lookup f_ct = some ⟨oc_ct, od_ct, .func (PySem.W.fnOf "total" "Council.total" (defArgs s_Council_total) (defBody s_Council_total) (defScope s_Council_total) .none kV_ct dc_ct pm_ct an_ct cd_ct ct_ct), sl_ct⟩)
    (xc_ct : PySem.W.codeIn K cd_ct "Council.total" = true)
    (xk_ct : PySem.W.keepIn K (.ref f_ct) = true)
    (xa_ca : PySem.W.findIn K (.ref C) "allowance" = some (some (.ref f_ca)))
    (xi_ca : PySem.W.isFn K (.ref f_ca) = true)
    (xl_ca : K.lookup f_ca = some ⟨oc_ca, od_ca, .func (PySem.W.fnOf "allowance" "Council.allowance" (defArgs s_Council_allowance) (defBody s_Council_allowance) (defScope s_Council_allowance) .none kV_ca dc_ca pm_ca an_ca cd_ca ct_ca), sl_ca⟩)
    (xc_ca : PySem.W.codeIn K cd_ca "Council.allowance" = true)
    (xk_ca : PySem.W.keepIn K (.ref f_ca) = true)
    (xa_ro : PySem.W.nsIn K mainGlobals "rooms_of" = some (some (.ref f_ro)))
    (xl_ro : K.lookup f_ro = some ⟨oc_ro, od_ro, .func (PySem.W.fnOf "rooms_of" "rooms_of" (defArgs s_rooms_of) (defBody s_rooms_of) (defScope s_rooms_of) .none kV_ro dc_ro pm_ro an_ro cd_ro ct_ro), sl_ro⟩)
    (xc_ro : PySem.W.codeIn K cd_ro "rooms_of" = true)
    (xk_ro : PySem.W.keepIn K (.ref f_ro) = true)
    (xa_fi : PySem.W.nsIn K mainGlobals "fits" = some (some (.ref f_fi)))
    (xl_fi : K.lookup f_fi = some ⟨oc_fi, od_fi, .func (PySem.W.fnOf "fits" "fits" (defArgs s_fits) (defBody s_fits) (defScope s_fits) .none kV_fi dc_fi pm_fi an_fi cd_fi ct_fi), sl_fi⟩)
    (xc_fi : PySem.W.codeIn K cd_fi "fits" = true)
    (xk_fi : PySem.W.keepIn K (.ref f_fi) = true)
    (xa_nl : PySem.W.nsIn K mainGlobals "next_loads" = some (some (.ref f_nl)))
    (xl_nl : K.lookup f_nl = some ⟨oc_nl, od_nl, .func (PySem.W.fnOf "next_loads" "next_loads" (defArgs s_next_loads) (defBody s_next_loads) (defScope s_next_loads) .none kV_nl dc_nl pm_nl an_nl cd_nl ct_nl), sl_nl⟩)
    (xc_nl : PySem.W.codeIn K cd_nl "next_loads" = true)
    (xk_nl : PySem.W.keepIn K (.ref f_nl) = true)
    (xa_lv : PySem.W.nsIn K mainGlobals "load_levels" = some (some (.ref f_lv)))
    (xl_lv : K.lookup f_lv = some ⟨oc_lv, od_lv, .func (PySem.W.fnOf "load_levels" "load_levels" (defArgs s_load_levels) (defBody s_load_levels) (defScope s_load_levels) .none kV_lv dc_lv pm_lv an_lv cd_lv ct_lv), sl_lv⟩)
    (xc_lv : PySem.W.codeIn K cd_lv "load_levels" = true)
    (xk_lv : PySem.W.keepIn K (.ref f_lv) = true)
    (xa_ff : PySem.W.nsIn K mainGlobals "first_fit" = some (some (.ref f_ff)))
    (xl_ff : K.lookup f_ff = some ⟨oc_ff, od_ff, .func (PySem.W.fnOf "first_fit" "first_fit" (defArgs s_first_fit) (defBody s_first_fit) (defScope s_first_fit) .none kV_ff dc_ff pm_ff an_ff cd_ff ct_ff), sl_ff⟩)
    (xc_ff : PySem.W.codeIn K cd_ff "first_fit" = true)
    (xk_ff : PySem.W.keepIn K (.ref f_ff) = true)
    (xa_cp : PySem.W.nsIn K mainGlobals "can_pack" = some (some (.ref f_cp)))
    (xl_cp : K.lookup f_cp = some ⟨oc_cp, od_cp, .func (PySem.W.fnOf "can_pack" "can_pack" (defArgs s_can_pack) (defBody s_can_pack) (defScope s_can_pack) .none kV_cp dc_cp pm_cp an_cp cd_cp ct_cp), sl_cp⟩)
    (xc_cp : PySem.W.codeIn K cd_cp "can_pack" = true)
    (xk_cp : PySem.W.keepIn K (.ref f_cp) = true)
    (xa_pi : PySem.W.findIn K (.ref Q) "__init__" = some (some (.ref f_pi)))
    (xi_pi : PySem.W.isFn K (.ref f_pi) = true)
    (xl_pi : K.lookup f_pi = some ⟨oc_pi, od_pi, .func (PySem.W.fnOf "__init__" "Packer.__init__" (defArgs s_Packer_init) (defBody s_Packer_init) (defScope s_Packer_init) .none kV_pi dc_pi pm_pi an_pi cd_pi ct_pi), sl_pi⟩)
    (xc_pi : PySem.W.codeIn K cd_pi "Packer.__init__" = true)
    (xk_pi : PySem.W.keepIn K (.ref f_pi) = true)
    (xa_ih : PySem.W.findIn K (.ref Q) "is_heavy" = some (some (.ref f_ih)))
    (xi_ih : PySem.W.isFn K (.ref f_ih) = true)
    (xl_ih : K.lookup f_ih = some ⟨oc_ih, od_ih, .func (PySem.W.fnOf "is_heavy" "Packer.is_heavy" (defArgs s_Packer_is_heavy) (defBody s_Packer_is_heavy) (defScope s_Packer_is_heavy) .none kV_ih dc_ih pm_ih an_ih cd_ih ct_ih), sl_ih⟩)
    (xc_ih : PySem.W.codeIn K cd_ih "Packer.is_heavy" = true)
    (xk_ih : PySem.W.keepIn K (.ref f_ih) = true)
    (xa_hm : PySem.W.nsIn K mainGlobals "heavy_masks" = some (some (.ref f_hm)))
    (xl_hm : K.lookup f_hm = some ⟨oc_hm, od_hm, .func (PySem.W.fnOf "heavy_masks" "heavy_masks" (defArgs s_heavy_masks) (defBody s_heavy_masks) (defScope s_heavy_masks) .none kV_hm dc_hm pm_hm an_hm cd_hm ct_hm), sl_hm⟩)
    (xc_hm : PySem.W.codeIn K cd_hm "heavy_masks" = true)
    (xk_hm : PySem.W.keepIn K (.ref f_hm) = true)
    (xa_ht : PySem.W.nsIn K mainGlobals "heavy_table" = some (some (.ref f_ht)))
    (xl_ht : K.lookup f_ht = some ⟨oc_ht, od_ht, .func (PySem.W.fnOf "heavy_table" "heavy_table" (defArgs s_heavy_table) (defBody s_heavy_table) (defScope s_heavy_table) .none kV_ht dc_ht pm_ht an_ht cd_ht ct_ht), sl_ht⟩)
    (xc_ht : PySem.W.codeIn K cd_ht "heavy_table" = true)
    (xk_ht : PySem.W.keepIn K (.ref f_ht) = true)
    (xa_li : PySem.W.nsIn K mainGlobals "light_sets" = some (some (.ref f_li)))
    (xl_li : K.lookup f_li = some ⟨oc_li, od_li, .func (PySem.W.fnOf "light_sets" "light_sets" (defArgs s_light_sets) (defBody s_light_sets) (defScope s_light_sets) .none kV_li dc_li pm_li an_li cd_li ct_li), sl_li⟩)
    (xc_li : PySem.W.codeIn K cd_li "light_sets" = true)
    (xk_li : PySem.W.keepIn K (.ref f_li) = true)
    (xa_as : PySem.W.nsIn K mainGlobals "all_sides" = some (some (.ref f_as)))
    (xl_as : K.lookup f_as = some ⟨oc_as, od_as, .func (PySem.W.fnOf "all_sides" "all_sides" (defArgs s_all_sides) (defBody s_all_sides) (defScope s_all_sides) .none kV_as dc_as pm_as an_as cd_as ct_as), sl_as⟩)
    (xc_as : PySem.W.codeIn K cd_as "all_sides" = true)
    (xk_as : PySem.W.keepIn K (.ref f_as) = true)
    (xa_si : PySem.W.findIn K (.ref H) "__init__" = some (some (.ref f_si)))
    (xi_si : PySem.W.isFn K (.ref f_si) = true)
    (xl_si : K.lookup f_si = some ⟨oc_si, od_si, .func (PySem.W.fnOf "__init__" "Shelf.__init__" (defArgs s_Shelf_init) (defBody s_Shelf_init) (defScope s_Shelf_init) .none kV_si dc_si pm_si an_si cd_si ct_si), sl_si⟩)
    (xc_si : PySem.W.codeIn K cd_si "Shelf.__init__" = true)
    (xk_si : PySem.W.keepIn K (.ref f_si) = true)
    (xa_mk : PySem.W.findIn K (.ref H) "makes" = some (some (.ref f_mk)))
    (xi_mk : PySem.W.isFn K (.ref f_mk) = true)
    (xl_mk : K.lookup f_mk = some ⟨oc_mk, od_mk, .func (PySem.W.fnOf "makes" "Shelf.makes" (defArgs s_Shelf_makes) (defBody s_Shelf_makes) (defScope s_Shelf_makes) .none kV_mk dc_mk pm_mk an_mk cd_mk ct_mk), sl_mk⟩)
    (xc_mk : PySem.W.codeIn K cd_mk "Shelf.makes" = true)
    (xk_mk : PySem.W.keepIn K (.ref f_mk) = true)
    (xa_pf : PySem.W.nsIn K mainGlobals "parts_for" = some (some (.ref f_pf)))
    (xl_pf : K.lookup f_pf = some ⟨oc_pf, od_pf, .func (PySem.W.fnOf "parts_for" "parts_for" (defArgs s_parts_for) (defBody s_parts_for) (defScope s_parts_for) .none kV_pf dc_pf pm_pf an_pf cd_pf ct_pf), sl_pf⟩)
    (xc_pf : PySem.W.codeIn K cd_pf "parts_for" = true)
    (xk_pf : PySem.W.keepIn K (.ref f_pf) = true)
    (xa_co : PySem.W.nsIn K mainGlobals "parted" = some (some (.ref f_co)))
    (xl_co : K.lookup f_co = some ⟨oc_co, od_co, .func (PySem.W.fnOf "parted" "parted" (defArgs s_parted) (defBody s_parted) (defScope s_parted) .none kV_co dc_co pm_co an_co cd_co ct_co), sl_co⟩)
    (xc_co : PySem.W.codeIn K cd_co "parted" = true)
    (xk_co : PySem.W.keepIn K (.ref f_co) = true)
    (xa_lb : PySem.W.nsIn K mainGlobals "_law_bag" = some (some (.ref f_lb)))
    (xl_lb : K.lookup f_lb = some ⟨oc_lb, od_lb, .func (PySem.W.fnOf "_law_bag" "_law_bag" (defArgs s_law_bag) (defBody s_law_bag) (defScope s_law_bag) .none kV_lb dc_lb pm_lb an_lb cd_lb ct_lb), sl_lb⟩)
    (xc_lb : PySem.W.codeIn K cd_lb "_law_bag" = true)
    (xk_lb : PySem.W.keepIn K (.ref f_lb) = true)
    (xa_lt : PySem.W.nsIn K mainGlobals "_law_take" = some (some (.ref f_lt)))
    (xl_lt : K.lookup f_lt = some ⟨oc_lt, od_lt, .func (PySem.W.fnOf "_law_take" "_law_take" (defArgs s_law_take) (defBody s_law_take) (defScope s_law_take) .none kV_lt dc_lt pm_lt an_lt cd_lt ct_lt), sl_lt⟩)
    (xc_lt : PySem.W.codeIn K cd_lt "_law_take" = true)
    (xk_lt : PySem.W.keepIn K (.ref f_lt) = true)
    (xa_la : PySem.W.nsIn K mainGlobals "_law_alike" = some (some (.ref f_la)))
    (xl_la : K.lookup f_la = some ⟨oc_la, od_la, .func (PySem.W.fnOf "_law_alike" "_law_alike" (defArgs s_law_alike) (defBody s_law_alike) (defScope s_law_alike) .none kV_la dc_la pm_la an_la cd_la ct_la), sl_la⟩)
    (xc_la : PySem.W.codeIn K cd_la "_law_alike" = true)
    (xk_la : PySem.W.keepIn K (.ref f_la) = true)
    (xa_lc : PySem.W.nsIn K mainGlobals "_law_council" = some (some (.ref f_lc)))
    (xl_lc : K.lookup f_lc = some ⟨oc_lc, od_lc, .func (PySem.W.fnOf "_law_council" "_law_council" (defArgs s_law_council) (defBody s_law_council) (defScope s_law_council) .none kV_lc dc_lc pm_lc an_lc cd_lc ct_lc), sl_lc⟩)
    (xc_lc : PySem.W.codeIn K cd_lc "_law_council" = true)
    (xk_lc : PySem.W.keepIn K (.ref f_lc) = true)
    (xa_lm : PySem.W.nsIn K mainGlobals "_law_made" = some (some (.ref f_lm)))
    (xl_lm : K.lookup f_lm = some ⟨oc_lm, od_lm, .func (PySem.W.fnOf "_law_made" "_law_made" (defArgs s_law_made) (defBody s_law_made) (defScope s_law_made) .none kV_lm dc_lm pm_lm an_lm cd_lm ct_lm), sl_lm⟩)
    (xc_lm : PySem.W.codeIn K cd_lm "_law_made" = true)
    (xk_lm : PySem.W.keepIn K (.ref f_lm) = true)
    (xa_lx : PySem.W.nsIn K mainGlobals "_law_settle" = some (some (.ref f_lx)))
    (xl_lx : K.lookup f_lx = some ⟨oc_lx, od_lx, .func (PySem.W.fnOf "_law_settle" "_law_settle" (defArgs s_law_settle) (defBody s_law_settle) (defScope s_law_settle) .none kV_lx dc_lx pm_lx an_lx cd_lx ct_lx), sl_lx⟩)
    (xc_lx : PySem.W.codeIn K cd_lx "_law_settle" = true)
    (xk_lx : PySem.W.keepIn K (.ref f_lx) = true)
    (xa_lr : PySem.W.nsIn K mainGlobals "_law_row" = some (some (.ref f_lr)))
    (xl_lr : K.lookup f_lr = some ⟨oc_lr, od_lr, .func (PySem.W.fnOf "_law_row" "_law_row" (defArgs s_law_row) (defBody s_law_row) (defScope s_law_row) .none kV_lr dc_lr pm_lr an_lr cd_lr ct_lr), sl_lr⟩)
    (xc_lr : PySem.W.codeIn K cd_lr "_law_row" = true)
    (xk_lr : PySem.W.keepIn K (.ref f_lr) = true)
    (xa_le : PySem.W.nsIn K mainGlobals "_law_every" = some (some (.ref f_le)))
    (xl_le : K.lookup f_le = some ⟨oc_le, od_le, .func (PySem.W.fnOf "_law_every" "_law_every" (defArgs s_law_every) (defBody s_law_every) (defScope s_law_every) .none kV_le dc_le pm_le an_le cd_le ct_le), sl_le⟩)
    (xc_le : PySem.W.codeIn K cd_le "_law_every" = true)
    (xk_le : PySem.W.keepIn K (.ref f_le) = true)
    (xa_ld : PySem.W.nsIn K mainGlobals "_law_due" = some (some (.ref f_ld)))
    (xl_ld : K.lookup f_ld = some ⟨oc_ld, od_ld, .func (PySem.W.fnOf "_law_due" "_law_due" (defArgs s_law_due) (defBody s_law_due) (defScope s_law_due) .none kV_ld dc_ld pm_ld an_ld cd_ld ct_ld), sl_ld⟩)
    (xc_ld : PySem.W.codeIn K cd_ld "_law_due" = true)
    (xk_ld : PySem.W.keepIn K (.ref f_ld) = true)
    (xa_lo : PySem.W.nsIn K mainGlobals "_law_other" = some (some (.ref f_lo)))
    (xl_lo : K.lookup f_lo = some ⟨oc_lo, od_lo, .func (PySem.W.fnOf "_law_other" "_law_other" (defArgs s_law_other) (defBody s_law_other) (defScope s_law_other) .none kV_lo dc_lo pm_lo an_lo cd_lo ct_lo), sl_lo⟩)
    (xc_lo : PySem.W.codeIn K cd_lo "_law_other" = true)
    (xk_lo : PySem.W.keepIn K (.ref f_lo) = true)
    (xa_zz : PySem.W.nsIn K mainGlobals "law" = some (some (.ref f_zz)))
    (xl_zz : K.lookup f_zz = some ⟨oc_zz, od_zz, .func (PySem.W.fnOf "law" "law" (defArgs s_law) (defBody s_law) (defScope s_law) .none kV_zz dc_zz pm_zz an_zz cd_zz ct_zz), sl_zz⟩)
    (xc_zz : PySem.W.codeIn K cd_zz "law" = true)
    (xk_zz : PySem.W.keepIn K (.ref f_zz) = true)
    (xh_g1 : PySem.W.nsIn K mainGlobals "LEAST_SEATS" = some (some (.int 2 t_g1)))
    (xh_g2 : PySem.W.nsIn K mainGlobals "MOST_SEATS" = some (some (.int 7 t_g2)))
    (xh_g3 : PySem.W.nsIn K mainGlobals "MOST_WEIGHT" = some (some (.int 1000000 t_g3)))
    (xh_g4 : PySem.W.nsIn K mainGlobals "MOST_COLUMNS" = some (some (.int 6 t_g4)))
    (xb_all : PySem.W.nsIn K mainGlobals "all" = some none)
    (xb_any : PySem.W.nsIn K mainGlobals "any" = some none)
    (xb_range : PySem.W.nsIn K mainGlobals "range" = some none)
    (xb_len : PySem.W.nsIn K mainGlobals "len" = some none)
    (xb_zip : PySem.W.nsIn K mainGlobals "zip" = some none)
    (xb_sum : PySem.W.nsIn K mainGlobals "sum" = some none)
    (xb_list : PySem.W.nsIn K mainGlobals "list" = some none)
    (xb_tuple : PySem.W.nsIn K mainGlobals "tuple" = some none)
    (xb_sorted : PySem.W.nsIn K mainGlobals "sorted" = some none)
    (xb_int : PySem.W.nsIn K mainGlobals "int" = some none)
    (xb_isinstance : PySem.W.nsIn K mainGlobals "isinstance" = some none)
    (xb_bool : PySem.W.nsIn K mainGlobals "bool" = some none)
    (xb_abs : PySem.W.nsIn K mainGlobals "abs" = some none)
    (xb_max : PySem.W.nsIn K mainGlobals "max" = some none)
    (xb_min : PySem.W.nsIn K mainGlobals "min" = some none)
    (xb_repr : PySem.W.nsIn K mainGlobals "repr" = some none)
    (xb_enumerate : PySem.W.nsIn K mainGlobals "enumerate" = some none)
    (xb_set : PySem.W.nsIn K mainGlobals "set" = some none)
    : ∃ fd : FuncData, (∀ (s : Shared) (v : Value), BindsTo s fd ⟨[v], []⟩ [("script", v)]) ∧ ∀ base : Heap, K.In base → base.Ns mainGlobals mg → FnG l.prog w K mg base 10 fa fd ["script"] (spM K (pr_law K)) := by
  have e := hfa.symm.trans (PySem.W.mg_of X G xa_zz)
  cases e
  have B : BN mg := by
    intro y hy
    simp only [bnames, List.mem_cons, List.not_mem_nil, or_false] at hy
    rcases hy with rfl | rfl | rfl | rfl | rfl | rfl | rfl | rfl | rfl | rfl | rfl | rfl | rfl | rfl | rfl | rfl | rfl | rfl
    · exact PySem.W.mg_none_of X G xb_all
    · exact PySem.W.mg_none_of X G xb_any
    · exact PySem.W.mg_none_of X G xb_range
    · exact PySem.W.mg_none_of X G xb_len
    · exact PySem.W.mg_none_of X G xb_zip
    · exact PySem.W.mg_none_of X G xb_sum
    · exact PySem.W.mg_none_of X G xb_list
    · exact PySem.W.mg_none_of X G xb_tuple
    · exact PySem.W.mg_none_of X G xb_sorted
    · exact PySem.W.mg_none_of X G xb_int
    · exact PySem.W.mg_none_of X G xb_isinstance
    · exact PySem.W.mg_none_of X G xb_bool
    · exact PySem.W.mg_none_of X G xb_abs
    · exact PySem.W.mg_none_of X G xb_max
    · exact PySem.W.mg_none_of X G xb_min
    · exact PySem.W.mg_none_of X G xb_repr
    · exact PySem.W.mg_none_of X G xb_enumerate
    · exact PySem.W.mg_none_of X G xb_set
  have g1 : GI mg "LEAST_SEATS" 2 := ⟨_, PySem.W.mg_of X G xh_g1, _, rfl⟩
  have g2 : GI mg "MOST_SEATS" 7 := ⟨_, PySem.W.mg_of X G xh_g2, _, rfl⟩
  have g3 : GI mg "MOST_WEIGHT" 1000000 := ⟨_, PySem.W.mg_of X G xh_g3, _, rfl⟩
  have g4 : GI mg "MOST_COLUMNS" 6 := ⟨_, PySem.W.mg_of X G xh_g4, _, rfl⟩
  have KC : Cls K C := ⟨xpg_C, xhd_C, xpo_C, xsa_C⟩
  have TC : CF K C := ⟨KC, xna_C0, xna_C1⟩
  have KQ : Cls K Q := ⟨xpg_Q, xhd_Q, xpo_Q, xsa_Q⟩
  have TQ : PF K Q := ⟨KQ, xna_Q0, xna_Q1, xna_Q2⟩
  have KH : Cls K H := ⟨xpg_H, xhd_H, xpo_H, xsa_H⟩
  have TH : ShF K H := ⟨KH, xna_H0, xna_H1⟩
  have F_mb := fun_mk (st := s_meets_bound) xl_mb xc_mb xk_mb
  have b_mb := F_mb.binds (ps := ["row", "bound"]) fun _ _ _ _ _ _ us hl => match us, hl with | [_, _], _ => rfl
  have F_me := fun_mk (st := s_meets) xl_me xc_me xk_me
  have b_me := F_me.binds (ps := ["row", "wish"]) fun _ _ _ _ _ _ us hl => match us, hl with | [_, _], _ => rfl
  have F_ex := fun_mk (st := s_exactly) xl_ex xc_ex xk_ex
  have b_ex := F_ex.binds (ps := ["row"]) fun _ _ _ _ _ _ us hl => match us, hl with | [_], _ => rfl
  have F_ii := fun_mk (st := s_is_integer) xl_ii xc_ii xk_ii
  have b_ii := F_ii.binds (ps := ["thing"]) fun _ _ _ _ _ _ us hl => match us, hl with | [_], _ => rfl
  have F_ib := fun_mk (st := s_is_between) xl_ib xc_ib xk_ib
  have b_ib := F_ib.binds (ps := ["thing", "least", "greatest"]) fun _ _ _ _ _ _ us hl => match us, hl with | [_, _, _], _ => rfl
  have F_bo := fun_mk (st := s_bits_of) xl_bo xc_bo xk_bo
  have b_bo := F_bo.binds (ps := ["many"]) fun _ _ _ _ _ _ us hl => match us, hl with | [_], _ => rfl
  have F_ms := fun_mk (st := s_members) xl_ms xc_ms xk_ms
  have b_ms := F_ms.binds (ps := ["items", "mask"]) fun _ _ _ _ _ _ us hl => match us, hl with | [_, _], _ => rfl
  have F_aw := fun_mk (st := s_are_weights) xl_aw xc_aw xk_aw
  have b_aw := F_aw.binds (ps := ["thing"]) fun _ _ _ _ _ _ us hl => match us, hl with | [_], _ => rfl
  have F_aq := fun_mk (st := s_are_quotas) xl_aq xc_aq xk_aq
  have b_aq := F_aq.binds (ps := ["thing", "total"]) fun _ _ _ _ _ _ us hl => match us, hl with | [_, _], _ => rfl
  have F_ci := fun_mk (st := s_Council_init) xl_ci xc_ci xk_ci
  have b_ci := F_ci.binds (ps := ["self", "weights", "quotas"]) fun _ _ _ _ _ _ us hl => match us, hl with | [_, _, _], _ => rfl
  have F_cw := fun_mk (st := s_Council_weights) xl_cw xc_cw xk_cw
  have b_cw := F_cw.binds (ps := ["self"]) fun _ _ _ _ _ _ us hl => match us, hl with | [_], _ => rfl
  have F_ct := fun_mk (st := s_Council_total) xl_ct xc_ct xk_ct
  have b_ct := F_ct.binds (ps := ["self"]) fun _ _ _ _ _ _ us hl => match us, hl with | [_], _ => rfl
  have F_ca := fun_mk (st := s_Council_allowance) xl_ca xc_ca xk_ca
  have b_ca := F_ca.binds (ps := ["self", "side"]) fun _ _ _ _ _ _ us hl => match us, hl with | [_, _], _ => rfl
  have F_ro := fun_mk (st := s_rooms_of) xl_ro xc_ro xk_ro
  have b_ro := F_ro.binds (ps := ["council", "sides"]) fun _ _ _ _ _ _ us hl => match us, hl with | [_, _], _ => rfl
  have F_fi := fun_mk (st := s_fits) xl_fi xc_fi xk_fi
  have b_fi := F_fi.binds (ps := ["load", "tops"]) fun _ _ _ _ _ _ us hl => match us, hl with | [_, _], _ => rfl
  have F_nl := fun_mk (st := s_next_loads) xl_nl xc_nl xk_nl
  have b_nl := F_nl.binds (ps := ["load", "weight"]) fun _ _ _ _ _ _ us hl => match us, hl with | [_, _], _ => rfl
  have F_lv := fun_mk (st := s_load_levels) xl_lv xc_lv xk_lv
  have b_lv := F_lv.binds (ps := ["weights", "rooms"]) fun _ _ _ _ _ _ us hl => match us, hl with | [_, _], _ => rfl
  have F_ff := fun_mk (st := s_first_fit) xl_ff xc_ff xk_ff
  have b_ff := F_ff.binds (ps := ["weights", "rooms"]) fun _ _ _ _ _ _ us hl => match us, hl with | [_, _], _ => rfl
  have F_cp := fun_mk (st := s_can_pack) xl_cp xc_cp xk_cp
  have b_cp := F_cp.binds (ps := ["weights", "rooms"]) fun _ _ _ _ _ _ us hl => match us, hl with | [_, _], _ => rfl
  have F_pi := fun_mk (st := s_Packer_init) xl_pi xc_pi xk_pi
  have b_pi := F_pi.binds (ps := ["self", "weights", "rooms"]) fun _ _ _ _ _ _ us hl => match us, hl with | [_, _, _], _ => rfl
  have F_ih := fun_mk (st := s_Packer_is_heavy) xl_ih xc_ih xk_ih
  have b_ih := F_ih.binds (ps := ["self", "mask"]) fun _ _ _ _ _ _ us hl => match us, hl with | [_, _], _ => rfl
  have F_hm := fun_mk (st := s_heavy_masks) xl_hm xc_hm xk_hm
  have b_hm := F_hm.binds (ps := ["cases", "many"]) fun _ _ _ _ _ _ us hl => match us, hl with | [_, _], _ => rfl
  have F_ht := fun_mk (st := s_heavy_table) xl_ht xc_ht xk_ht
  have b_ht := F_ht.binds (ps := ["councils", "sides"]) fun _ _ _ _ _ _ us hl => match us, hl with | [_, _], _ => rfl
  have F_li := fun_mk (st := s_light_sets) xl_li xc_li xk_li
  have b_li := F_li.binds (ps := ["councils", "sides"]) fun _ _ _ _ _ _ us hl => match us, hl with | [_, _], _ => rfl
  have F_as := fun_mk (st := s_all_sides) xl_as xc_as xk_as
  have b_as := F_as.binds (ps := ["width"]) fun _ _ _ _ _ _ us hl => match us, hl with | [_], _ => rfl
  have F_si := fun_mk (st := s_Shelf_init) xl_si xc_si xk_si
  have b_si := F_si.binds (ps := ["self", "rows", "parts"]) fun _ _ _ _ _ _ us hl => match us, hl with | [_, _, _], _ => rfl
  have F_mk := fun_mk (st := s_Shelf_makes) xl_mk xc_mk xk_mk
  have b_mk := F_mk.binds (ps := ["self", "row"]) fun _ _ _ _ _ _ us hl => match us, hl with | [_, _], _ => rfl
  have F_pf := fun_mk (st := s_parts_for) xl_pf xc_pf xk_pf
  have b_pf := F_pf.binds (ps := ["rows", "councils"]) fun _ _ _ _ _ _ us hl => match us, hl with | [_, _], _ => rfl
  have F_co := fun_mk (st := s_parted) xl_co xc_co xk_co
  have b_co := F_co.binds (ps := ["rows", "others", "councils"]) fun _ _ _ _ _ _ us hl => match us, hl with | [_, _, _], _ => rfl
  have F_lb := fun_mk (st := s_law_bag) xl_lb xc_lb xk_lb
  have b_lb := F_lb.binds (ps := ["script"]) fun _ _ _ _ _ _ us hl => match us, hl with | [_], _ => rfl
  have F_lt := fun_mk (st := s_law_take) xl_lt xc_lt xk_lt
  have b_lt := F_lt.binds (ps := ["bag", "many"]) fun _ _ _ _ _ _ us hl => match us, hl with | [_, _], _ => rfl
  have F_la := fun_mk (st := s_law_alike) xl_la xc_la xk_la
  have b_la := F_la.binds (ps := ["found", "due"]) fun _ _ _ _ _ _ us hl => match us, hl with | [_, _], _ => rfl
  have F_lc := fun_mk (st := s_law_council) xl_lc xc_lc xk_lc
  have b_lc := F_lc.binds (ps := ["bag", "width", "most"]) fun _ _ _ _ _ _ us hl => match us, hl with | [_, _, _], _ => rfl
  have F_lm := fun_mk (st := s_law_made) xl_lm xc_lm xk_lm
  have b_lm := F_lm.binds (ps := ["parts"]) fun _ _ _ _ _ _ us hl => match us, hl with | [_], _ => rfl
  have F_lx := fun_mk (st := s_law_settle) xl_lx xc_lx xk_lx
  have b_lx := F_lx.binds (ps := ["parts", "rows"]) fun _ _ _ _ _ _ us hl => match us, hl with | [_, _], _ => rfl
  have F_lr := fun_mk (st := s_law_row) xl_lr xc_lr xk_lr
  have b_lr := F_lr.binds (ps := ["bag", "width", "top"]) fun _ _ _ _ _ _ us hl => match us, hl with | [_, _, _], _ => rfl
  have F_le := fun_mk (st := s_law_every) xl_le xc_le xk_le
  have b_le := F_le.binds (ps := ["councils", "rows"]) fun _ _ _ _ _ _ us hl => match us, hl with | [_, _], _ => rfl
  have F_ld := fun_mk (st := s_law_due) xl_ld xc_ld xk_ld
  have b_ld := F_ld.binds (ps := ["pair", "closures"]) fun _ _ _ _ _ _ us hl => match us, hl with | [_, _], _ => rfl
  have F_lo := fun_mk (st := s_law_other) xl_lo xc_lo xk_lo
  have b_lo := F_lo.binds (ps := ["bag", "plans", "rows", "width", "top"]) fun _ _ _ _ _ _ us hl => match us, hl with | [_, _, _, _, _], _ => rfl
  have F_zz := fun_mk (st := s_law) xl_zz xc_zz xk_zz
  refine ⟨PySem.W.fnOf "law" "law" (defArgs s_law) (defBody s_law) (defScope s_law) .none kV_zz dc_zz pm_zz an_zz cd_zz ct_zz, fun s v => .of_eq rfl, fun base _ _ => ?_⟩
  have c_mb := C8.Cal.mk ⟨_, _, ["row", "bound"], [], ok_meets_bound (P := l.prog) (w := w) (mg := mg) (base := base) F_mb , PySem.W.mg_of X G xa_mb, xk_mb, b_mb, .nil⟩
  have c_me := C8.Cal.mk ⟨_, _, ["row", "wish"], [], ok_meets (P := l.prog) (w := w) (mg := mg) (base := base) F_me B c_mb, PySem.W.mg_of X G xa_me, xk_me, b_me, .nil⟩
  have c_ex := C8.Cal.mk ⟨_, _, ["row"], [], ok_exactly (P := l.prog) (w := w) (mg := mg) (base := base) F_ex B, PySem.W.mg_of X G xa_ex, xk_ex, b_ex, .nil⟩
  have c_ii := C8.Cal.mk ⟨_, _, ["thing"], [], ok_is_integer (P := l.prog) (w := w) (mg := mg) (base := base) F_ii B, PySem.W.mg_of X G xa_ii, xk_ii, b_ii, .nil⟩
  have c_ib := C8.Cal.mk ⟨_, _, ["thing", "least", "greatest"], [], ok_is_between (P := l.prog) (w := w) (mg := mg) (base := base) F_ib c_ii, PySem.W.mg_of X G xa_ib, xk_ib, b_ib, .nil⟩
  have c_bo := C8.Cal.mk ⟨_, _, ["many"], [], ok_bits_of (P := l.prog) (w := w) (mg := mg) (base := base) F_bo B, PySem.W.mg_of X G xa_bo, xk_bo, b_bo, .nil⟩
  have c_ms := C8.Cal.mk ⟨_, _, ["items", "mask"], [], ok_members (P := l.prog) (w := w) (mg := mg) (base := base) F_ms B c_bo, PySem.W.mg_of X G xa_ms, xk_ms, b_ms, .nil⟩
  have c_aw := C8.Cal.mk ⟨_, _, ["thing"], [], ok_are_weights (P := l.prog) (w := w) (mg := mg) (base := base) F_aw B g1 g2 g3 c_ib, PySem.W.mg_of X G xa_aw, xk_aw, b_aw, .nil⟩
  have c_aq := C8.Cal.mk ⟨_, _, ["thing", "total"], [], ok_are_quotas (P := l.prog) (w := w) (mg := mg) (base := base) F_aq B g4 c_ib, PySem.W.mg_of X G xa_aq, xk_aq, b_aq, .nil⟩
  have c_ci := C8.Mak.mk ⟨_, _, ["self", "weights", "quotas"], [], ⟨xmk_C, xa_ci, xi_ci, xkc_C⟩, ok_cinit (P := l.prog) (w := w) (mg := mg) (base := base) F_ci B TC c_aw c_aq, PySem.W.mg_of X G xn_C, b_ci, .nil⟩
  have c_cw := C8.Met.mk ⟨_, _, ["self"], [], KC, ⟨xa_cw, xi_cw, xk_cw⟩, ok_cweights (P := l.prog) (w := w) (mg := mg) (base := base) F_cw B TC, b_cw, .nil⟩
  have c_ct := C8.Met.mk ⟨_, _, ["self"], [], KC, ⟨xa_ct, xi_ct, xk_ct⟩, ok_ctotal (P := l.prog) (w := w) (mg := mg) (base := base) F_ct B TC, b_ct, .nil⟩
  have c_ca := C8.Met.mk ⟨_, _, ["self", "side"], [], KC, ⟨xa_ca, xi_ca, xk_ca⟩, ok_callow (P := l.prog) (w := w) (mg := mg) (base := base) F_ca TC c_ct, b_ca, .nil⟩
  have c_ro := C8.Cal.mk ⟨_, _, ["council", "sides"], [], ok_rooms_of (P := l.prog) (w := w) (mg := mg) (base := base) F_ro TC c_ca, PySem.W.mg_of X G xa_ro, xk_ro, b_ro, .nil⟩
  have c_fi := C8.Cal.mk ⟨_, _, ["load", "tops"], [], ok_fits (P := l.prog) (w := w) (mg := mg) (base := base) F_fi B, PySem.W.mg_of X G xa_fi, xk_fi, b_fi, .nil⟩
  have c_nl := C8.Cal.mk ⟨_, _, ["load", "weight"], [], ok_next (P := l.prog) (w := w) (mg := mg) (base := base) F_nl B, PySem.W.mg_of X G xa_nl, xk_nl, b_nl, .nil⟩
  have c_lv := C8.Cal.mk ⟨_, _, ["weights", "rooms"], [], ok_lev (P := l.prog) (w := w) (mg := mg) (base := base) F_lv B c_nl c_fi, PySem.W.mg_of X G xa_lv, xk_lv, b_lv, .nil⟩
  have c_ff := C8.Cal.mk ⟨_, _, ["weights", "rooms"], [], ok_ff (P := l.prog) (w := w) (mg := mg) (base := base) F_ff B, PySem.W.mg_of X G xa_ff, xk_ff, b_ff, .nil⟩
  have c_cp := C8.Cal.mk ⟨_, _, ["weights", "rooms"], [], ok_cp (P := l.prog) (w := w) (mg := mg) (base := base) F_cp B c_ff c_lv, PySem.W.mg_of X G xa_cp, xk_cp, b_cp, .nil⟩
  have c_pi := C8.Mak.mk ⟨_, _, ["self", "weights", "rooms"], [], ⟨xmk_Q, xa_pi, xi_pi, xkc_Q⟩, ok_pinit (P := l.prog) (w := w) (mg := mg) (base := base) F_pi TQ, PySem.W.mg_of X G xn_Q, b_pi, .nil⟩
  have c_ih := C8.Met.mk ⟨_, _, ["self", "mask"], [], KQ, ⟨xa_ih, xi_ih, xk_ih⟩, ok_ih (P := l.prog) (w := w) (mg := mg) (base := base) F_ih B TQ c_ms c_cp, b_ih, .nil⟩
  have c_hm := C8.Cal.mk ⟨_, _, ["cases", "many"], [], ok_hm (P := l.prog) (w := w) (mg := mg) (base := base) F_hm B TQ c_pi c_bo c_ih, PySem.W.mg_of X G xa_hm, xk_hm, b_hm, .nil⟩
  have c_ht := C8.Cal.mk ⟨_, _, ["councils", "sides"], [], ok_ht (P := l.prog) (w := w) (mg := mg) (base := base) F_ht B TC c_hm c_cw c_ro, PySem.W.mg_of X G xa_ht, xk_ht, b_ht, .nil⟩
  have c_li := C8.Cal.mk ⟨_, _, ["councils", "sides"], [], ok_ls (P := l.prog) (w := w) (mg := mg) (base := base) F_li B c_ht c_bo c_ms, PySem.W.mg_of X G xa_li, xk_li, b_li, .nil⟩
  have c_as := C8.Cal.mk ⟨_, _, ["width"], [], ok_all_sides (P := l.prog) (w := w) (mg := mg) (base := base) F_as B, PySem.W.mg_of X G xa_as, xk_as, b_as, .nil⟩
  have c_si := C8.Mak.mk ⟨_, _, ["self", "rows", "parts"], [], ⟨xmk_H, xa_si, xi_si, xkc_H⟩, ok_shi (P := l.prog) (w := w) (mg := mg) (base := base) F_si TH, PySem.W.mg_of X G xn_H, b_si, .nil⟩
  have c_mk := C8.Met.mk ⟨_, _, ["self", "row"], [], KH, ⟨xa_mk, xi_mk, xk_mk⟩, ok_mk (P := l.prog) (w := w) (mg := mg) (base := base) F_mk B TH c_ex c_me, b_mk, .nil⟩
  have c_pf := C8.Cal.mk ⟨_, _, ["rows", "councils"], [], ok_pf (P := l.prog) (w := w) (mg := mg) (base := base) F_pf B c_li c_as, PySem.W.mg_of X G xa_pf, xk_pf, b_pf, .nil⟩
  have c_co := C8.Cal.mk ⟨_, _, ["rows", "others", "councils"], [], ok_par (P := l.prog) (w := w) (mg := mg) (base := base) F_co B c_pf c_si c_mk, PySem.W.mg_of X G xa_co, xk_co, b_co, .nil⟩
  have c_lb := C8.Cal.mk ⟨_, _, ["script"], [], ok_bag (P := l.prog) (w := w) (mg := mg) (base := base) F_lb B, PySem.W.mg_of X G xa_lb, xk_lb, b_lb, .nil⟩
  have c_lt := C8.Cal.mk ⟨_, _, ["bag", "many"], [], ok_take (P := l.prog) (w := w) (mg := mg) (base := base) F_lt B, PySem.W.mg_of X G xa_lt, xk_lt, b_lt, .nil⟩
  have c_la := CalG.mk ⟨_, _, ["found", "due"], ok_alike3 (P := l.prog) (w := w) (mg := mg) (base := base) F_la B, PySem.W.mg_of X G xa_la, xk_la, b_la⟩
  have c_lc := C8.Cal.mk ⟨_, _, ["bag", "width", "most"], [], ok_council (P := l.prog) (w := w) (mg := mg) (base := base) F_lc B c_lt, PySem.W.mg_of X G xa_lc, xk_lc, b_lc, .nil⟩
  have c_lm := C8.Cal.mk ⟨_, _, ["parts"], [], ok_made (P := l.prog) (w := w) (mg := mg) (base := base) F_lm B c_ci, PySem.W.mg_of X G xa_lm, xk_lm, b_lm, .nil⟩
  have c_lx := C8.Cal.mk ⟨_, _, ["parts", "rows"], [], ok_set (P := l.prog) (w := w) (mg := mg) (base := base) F_lx B, PySem.W.mg_of X G xa_lx, xk_lx, b_lx, .nil⟩
  have c_lr := C8.Cal.mk ⟨_, _, ["bag", "width", "top"], [], ok_row (P := l.prog) (w := w) (mg := mg) (base := base) F_lr B c_lt, PySem.W.mg_of X G xa_lr, xk_lr, b_lr, .nil⟩
  have c_le := C8.Cal.mk ⟨_, _, ["councils", "rows"], [], ok_evy (P := l.prog) (w := w) (mg := mg) (base := base) F_le B c_lx, PySem.W.mg_of X G xa_le, xk_le, b_le, .nil⟩
  have c_ld := C8.Cal.mk ⟨_, _, ["pair", "closures"], [], ok_due (P := l.prog) (w := w) (mg := mg) (base := base) F_ld B, PySem.W.mg_of X G xa_ld, xk_ld, b_ld, .nil⟩
  have c_lo := C8.Cal.mk ⟨_, _, ["bag", "plans", "rows", "width", "top"], [], ok_oth (P := l.prog) (w := w) (mg := mg) (base := base) F_lo B c_lt c_lr c_le, PySem.W.mg_of X G xa_lo, xk_lo, b_lo, .nil⟩
  exact ok_law F_zz B c_lb c_lt c_lc c_lr c_le c_lm c_ld c_co c_la c_lo
theorem walk {l : PySem.W.OpenLaw} {q : Program} {loose : List Str} {XP : (Str → Option Value) → Heap → Prop} {YP : World → Heap → Prop} {d : DefRec} {K : Params → PySem.W.Frag} (hn : l.most = some 63) (hdf : d.params.defaults = []) (hY : ∀ (w : World) (h : Heap), YP w h → (K w.params).In h)
    (F : ∀ (w : World) (mg : Str → Option Value) (fa : Addr) (h : Heap), (K w.params).In h → h.Ns mainGlobals mg → mg d.name = some (.ref fa) → ∃ fd : FuncData, (∀ (s : Shared) (u : Value), BindsTo s fd ⟨[u], []⟩ [("script", u)]) ∧ ∀ b0 : Heap, (K w.params).In b0 → b0.Ns mainGlobals mg → FnG l.prog w (K w.params) mg b0 10 fa fd ["script"] (spM (K w.params) (pr_law (K w.params)))) :
    PySem.W.WalkO q loose XP YP l.row.toRowW d [] (fun f vs => PySem.call f vs) := by
  refine walkG (n := 63) (k := 10) (x := "script") (sp := fun w => spM (K w.params) (pr_law (K w.params))) hn (by decide) hdf ⟨rfl, by decide, by decide⟩ hY F fun w T a ns hS => ?_
  refine ⟨T, [scrD (ns.map .int)], .tt, _, Same.refl _, .cons (.scr hS (ats_int _ _ ns)) .nil, True.intro, ⟨ns, rfl, rfl, rfl⟩, fun v G2 H2 _ _ r => ?_⟩
  obtain ⟨_, r⟩ := r
  cases r
  rfl
end Pk
open PySem PySem.W PyProof.Rows
set_option maxRecDepth 100000 in
set_option maxHeartbeats 0 in
theorem PySem.Challenge.cw_packedseats_k84_shelves_parted_holds : PySem.Challenge.rw_packedseats_k84_shelves_parted.Holds := by
  w_on; o_law; k_head; (case hw => w_witness2)
  k_fill
  refine Pk.walk (l := PySem.Challenge.rw_packedseats_k84_shelves_parted) rfl rfl (fun w h Y => PySem.W.kIn_of Y) ?F
  case F =>
    intro w mg fa h KX G hmg
    refine' Pk.all_mk KX G hmg ?n_C ?pg_C ?hd_C ?po_C ?sa_C ?mk_C ?kc_C ?na_C0 ?na_C1 ?n_Q ?pg_Q ?hd_Q ?po_Q ?sa_Q ?mk_Q ?kc_Q ?na_Q0 ?na_Q1 ?na_Q2 ?n_H ?pg_H ?hd_H ?po_H ?sa_H ?mk_H ?kc_H ?na_H0 ?na_H1 ?a_mb ?l_mb ?c_mb ?k_mb ?a_me ?l_me ?c_me ?k_me ?a_ex ?l_ex ?c_ex ?k_ex ?a_ii ?l_ii ?c_ii ?k_ii ?a_ib ?l_ib ?c_ib ?k_ib ?a_bo ?l_bo ?c_bo ?k_bo ?a_ms ?l_ms ?c_ms ?k_ms ?a_aw ?l_aw ?c_aw ?k_aw ?a_aq ?l_aq ?c_aq ?k_aq ?a_ci ?i_ci ?l_ci ?c_ci ?k_ci ?a_cw ?i_cw ?l_cw ?c_cw ?k_cw ?a_ct ?i_ct ?l_ct ?c_ct ?k_ct ?a_ca ?i_ca ?l_ca ?c_ca ?k_ca ?a_ro ?l_ro ?c_ro ?k_ro ?a_fi ?l_fi ?c_fi ?k_fi ?a_nl ?l_nl ?c_nl ?k_nl ?a_lv ?l_lv ?c_lv ?k_lv ?a_ff ?l_ff ?c_ff ?k_ff ?a_cp ?l_cp ?c_cp ?k_cp ?a_pi ?i_pi ?l_pi ?c_pi ?k_pi ?a_ih ?i_ih ?l_ih ?c_ih ?k_ih ?a_hm ?l_hm ?c_hm ?k_hm ?a_ht ?l_ht ?c_ht ?k_ht ?a_li ?l_li ?c_li ?k_li ?a_as ?l_as ?c_as ?k_as ?a_si ?i_si ?l_si ?c_si ?k_si ?a_mk ?i_mk ?l_mk ?c_mk ?k_mk ?a_pf ?l_pf ?c_pf ?k_pf ?a_co ?l_co ?c_co ?k_co ?a_lb ?l_lb ?c_lb ?k_lb ?a_lt ?l_lt ?c_lt ?k_lt ?a_la ?l_la ?c_la ?k_la ?a_lc ?l_lc ?c_lc ?k_lc ?a_lm ?l_lm ?c_lm ?k_lm ?a_lx ?l_lx ?c_lx ?k_lx ?a_lr ?l_lr ?c_lr ?k_lr ?a_le ?l_le ?c_le ?k_le ?a_ld ?l_ld ?c_ld ?k_ld ?a_lo ?l_lo ?c_lo ?k_lo ?a_zz ?l_zz ?c_zz ?k_zz ?h_g1 ?h_g2 ?h_g3 ?h_g4 ?b_all ?b_any ?b_range ?b_len ?b_zip ?b_sum ?b_list ?b_tuple ?b_sorted ?b_int ?b_isinstance ?b_bool ?b_abs ?b_max ?b_min ?b_repr ?b_enumerate ?b_set
    (case n_C => k_is); (case pg_C => k_is); (case hd_C => k_is); (case po_C => k_is); (case sa_C => k_is); (case mk_C => k_is)
    (case kc_C => k_is); (case na_C0 => k_is); (case na_C1 => k_is); (case n_Q => k_is); (case pg_Q => k_is); (case hd_Q => k_is)
    (case po_Q => k_is); (case sa_Q => k_is); (case mk_Q => k_is); (case kc_Q => k_is); (case na_Q0 => k_is); (case na_Q1 => k_is)
    (case na_Q2 => k_is); (case n_H => k_is); (case pg_H => k_is); (case hd_H => k_is); (case po_H => k_is); (case sa_H => k_is)
    (case mk_H => k_is); (case kc_H => k_is); (case na_H0 => k_is); (case na_H1 => k_is); (case a_mb => k_is); (case l_mb => k_is)
    (case c_mb => k_is); (case k_mb => k_is); (case a_me => k_is); (case l_me => k_is); (case c_me => k_is); (case k_me => k_is)
    (case a_ex => k_is); (case l_ex => k_is); (case c_ex => k_is); (case k_ex => k_is); (case a_ii => k_is); (case l_ii => k_is)
    (case c_ii => k_is); (case k_ii => k_is); (case a_ib => k_is); (case l_ib => k_is); (case c_ib => k_is); (case k_ib => k_is)
    (case a_bo => k_is); (case l_bo => k_is); (case c_bo => k_is); (case k_bo => k_is); (case a_ms => k_is); (case l_ms => k_is)
    (case c_ms => k_is); (case k_ms => k_is); (case a_aw => k_is); (case l_aw => k_is); (case c_aw => k_is); (case k_aw => k_is)
    (case a_aq => k_is); (case l_aq => k_is); (case c_aq => k_is); (case k_aq => k_is); (case a_ci => k_is); (case i_ci => k_is)
    (case l_ci => k_is); (case c_ci => k_is); (case k_ci => k_is); (case a_cw => k_is); (case i_cw => k_is); (case l_cw => k_is)
    (case c_cw => k_is); (case k_cw => k_is); (case a_ct => k_is); (case i_ct => k_is); (case l_ct => k_is); (case c_ct => k_is)
    (case k_ct => k_is); (case a_ca => k_is); (case i_ca => k_is); (case l_ca => k_is); (case c_ca => k_is); (case k_ca => k_is)
    (case a_ro => k_is); (case l_ro => k_is); (case c_ro => k_is); (case k_ro => k_is); (case a_fi => k_is); (case l_fi => k_is)
    (case c_fi => k_is); (case k_fi => k_is); (case a_nl => k_is); (case l_nl => k_is); (case c_nl => k_is); (case k_nl => k_is)
    (case a_lv => k_is); (case l_lv => k_is); (case c_lv => k_is); (case k_lv => k_is); (case a_ff => k_is); (case l_ff => k_is)
    (case c_ff => k_is); (case k_ff => k_is); (case a_cp => k_is); (case l_cp => k_is); (case c_cp => k_is); (case k_cp => k_is)
    (case a_pi => k_is); (case i_pi => k_is); (case l_pi => k_is); (case c_pi => k_is); (case k_pi => k_is); (case a_ih => k_is)
    (case i_ih => k_is); (case l_ih => k_is); (case c_ih => k_is); (case k_ih => k_is); (case a_hm => k_is); (case l_hm => k_is)
    (case c_hm => k_is); (case k_hm => k_is); (case a_ht => k_is); (case l_ht => k_is); (case c_ht => k_is); (case k_ht => k_is)
    (case a_li => k_is); (case l_li => k_is); (case c_li => k_is); (case k_li => k_is); (case a_as => k_is); (case l_as => k_is)
    (case c_as => k_is); (case k_as => k_is); (case a_si => k_is); (case i_si => k_is); (case l_si => k_is); (case c_si => k_is)
    (case k_si => k_is); (case a_mk => k_is); (case i_mk => k_is); (case l_mk => k_is); (case c_mk => k_is); (case k_mk => k_is)
    (case a_pf => k_is); (case l_pf => k_is); (case c_pf => k_is); (case k_pf => k_is); (case a_co => k_is); (case l_co => k_is)
    (case c_co => k_is); (case k_co => k_is); (case a_lb => k_is); (case l_lb => k_is); (case c_lb => k_is); (case k_lb => k_is)
    (case a_lt => k_is); (case l_lt => k_is); (case c_lt => k_is); (case k_lt => k_is); (case a_la => k_is); (case l_la => k_is)
    (case c_la => k_is); (case k_la => k_is); (case a_lc => k_is); (case l_lc => k_is); (case c_lc => k_is); (case k_lc => k_is)
    (case a_lm => k_is); (case l_lm => k_is); (case c_lm => k_is); (case k_lm => k_is); (case a_lx => k_is); (case l_lx => k_is)
    (case c_lx => k_is); (case k_lx => k_is); (case a_lr => k_is); (case l_lr => k_is); (case c_lr => k_is); (case k_lr => k_is)
    (case a_le => k_is); (case l_le => k_is); (case c_le => k_is); (case k_le => k_is); (case a_ld => k_is); (case l_ld => k_is)
    (case c_ld => k_is); (case k_ld => k_is); (case a_lo => k_is); (case l_lo => k_is); (case c_lo => k_is); (case k_lo => k_is)
    (case a_zz => k_is); (case l_zz => k_is); (case c_zz => k_is); (case k_zz => k_is); (case h_g1 => k_is); (case h_g2 => k_is)
    (case h_g3 => k_is); (case h_g4 => k_is); (case b_all => k_is); (case b_any => k_is); (case b_range => k_is); (case b_len => k_is)
    (case b_zip => k_is); (case b_sum => k_is); (case b_list => k_is); (case b_tuple => k_is); (case b_sorted => k_is); (case b_int => k_is)
    (case b_isinstance => k_is); (case b_bool => k_is); (case b_abs => k_is); (case b_max => k_is); (case b_min => k_is); (case b_repr => k_is)
    (case b_enumerate => k_is); (case b_set => k_is)
