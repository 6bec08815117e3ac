import PyProof.Rows.All
import Wide.All
import OpenK.AllK
import Wide.FinOn
import HandS.ForMost
import HandS.IsInst
import HandS.Wide
import HandS.Flow
import HandS.WordsExc
import HandS.TupAny
import HandS.Style
import HandS.SortInts
import HandS.TupMul
import HandS.Deep
import HandS.ExcSuper
import HandS.Lambda
import HandS.AnyAll
import Open.Row
import PySem.Challenge.RW_knittold_k00_fractions_through_long_sums
set_option Elab.async false
set_option linter.all false
set_option maxRecDepth 100000
set_option maxHeartbeats 4000000
namespace KD
open PySem PySem.Spec PyProof.Rows L2
abbrev D := PyData
abbrev Frag := PySem.W.Frag
abbrev St := L2.St
def kD : Key → D
  | .inl i => .int i
  | .inr s => .str s
/-- the script -/
def scr (ns : List Int) : D := .dict [(.dict [], .list (ns.map PyData.int))]
/-- an opaque thing at a -/
def opq (a : Addr) : D := .dict [(.dict [], .int a)]
mutual
inductive Rp (K : Frag) (F : Hp) : V → D → Prop
  | non : Rp K F .non .none
  | bl (b : Bool) : Rp K F (.bl b) (.bool b)
  | int (i : Int) : Rp K F (.int i) (.int i)
  | str (x : Str) : Rp K F (.str x) (.str x)
  | lst {a : Addr} {xs : List V} {ds : List D} : F a = some (.lst xs) → Rps K F xs ds → Rp K F (.ref a) (.list ds)
  | tup {a : Addr} {xs : List V} {ds : List D} : SqT K F a xs → Rps K F xs ds → Rp K F (.ref a) (.tuple ds)
  | dct {a : Addr} {kvs : List (Key × V)} {es : List (D × D)} : F a = some (.dK kvs) → Rkv K F kvs es → Rp K F (.ref a) (.dict es)
  | opq (a : Addr) : Rp K F (.ref a) (KD.opq a)
  | scr {a : Addr} {ns : List Int} : SqL K F a (ns.map V.int) → Rp K F (.ref a) (KD.scr ns)
inductive Rps (K : Frag) (F : Hp) : List V → List D → Prop
  | nil : Rps K F [] []
  | cons {v : V} {vs : List V} {d : D} {ds : List D} : Rp K F v d → Rps K F vs ds → Rps K F (v :: vs) (d :: ds)
inductive Rkv (K : Frag) (F : Hp) : List (Key × V) → List (D × D) → Prop
  | nil : Rkv K F [] []
  | cons {k : Key} {v : V} {kvs : List (Key × V)} {d : D} {es : List (D × D)} : Rp K F v d → Rkv K F kvs es → Rkv K F ((k, v) :: kvs) ((kD k, d) :: es)
end
def Sub (F F' : Hp) : Prop := ∀ a o, F a = some o → F' a = some o
theorem Sub.refl (F : Hp) : Sub F F := fun _ _ h => h
theorem Sub.trans {F G H : Hp} (a : Sub F G) (b : Sub G H) : Sub F H := fun c o h => b c o (a c o h)
theorem Sub.upd {F : Hp} {p : Addr} {o : HO} (h : F p = none) : Sub F (upd F p o) := fun a u e => by rw [upd_ne (ne_of_none e h)]; exact e
theorem Sub.none {F F' : Hp} (s : Sub F F') {a : Addr} (h : F' a = none) : F a = none := by
  cases e : F a with
  | none => rfl
  | some o => rw [s a o e] at h; cases h
theorem Sub.rd {F F' : Hp} (s : Sub F F') {a : Addr} {u : HO} (h : Rd F a u) : Rd F' a u := by
  rcases h with h | ⟨o, h⟩
  · exact .inl (s _ _ h)
  · exact .inr ⟨o, s _ _ h⟩
section
variable {K : Frag} {F F' : Hp}
theorem sqL_mono (s : Sub F F') {a : Addr} {xs : List V} (h : SqL K F a xs) : SqL K F' a xs := by
  rcases h with h | h
  · exact .inl (s.rd h)
  · exact .inr h
theorem sqT_mono (s : Sub F F') {a : Addr} {xs : List V} (h : SqT K F a xs) : SqT K F' a xs := by
  rcases h with h | h
  · exact .inl (s.rd h)
  · exact .inr h
mutual
theorem Rp.mono (s : Sub F F') : ∀ (d : D) (v : V), Rp K F v d → Rp K F' v d
  | .none, _, h => by cases h; exact .non
  | .bool b, _, h => by cases h; exact .bl b
  | .int i, _, h => by cases h; exact .int i
  | .str x, _, h => by cases h; exact .str x
  | .list ds, _, h => by
    cases h with
    | lst a b => exact .lst (s _ _ a) (Rps.mono s ds _ b)
  | .tuple ds, _, h => by
    cases h with
    | tup a b => exact .tup (sqT_mono s a) (Rps.mono s ds _ b)
  | .dict es, _, h => by
    cases h with
    | dct a b => exact .dct (s _ _ a) (Rkv.mono s es _ b)
    | opq a => exact .opq a
    | scr a => exact .scr (sqL_mono s a)
theorem Rps.mono (s : Sub F F') : ∀ (ds : List D) (vs : List V), Rps K F vs ds → Rps K F' vs ds
  | [], _, h => by cases h; exact .nil
  | d :: ds, _, h => by
    cases h with
    | cons a b => exact .cons (Rp.mono s d _ a) (Rps.mono s ds _ b)
theorem Rkv.mono (s : Sub F F') : ∀ (es : List (D × D)) (kvs : List (Key × V)), Rkv K F kvs es → Rkv K F' kvs es
  | [], _, h => by cases h; exact .nil
  | (k, d) :: es, _, h => by
    cases h with
    | cons a b => exact .cons (Rp.mono s d _ a) (Rkv.mono s es _ b)
end
theorem Rp.mn {v : V} {d : D} (h : Rp K F v d) (s : Sub F F') : Rp K F' v d := Rp.mono s d v h
theorem Rps.mn {v : List V} {d : List D} (h : Rps K F v d) (s : Sub F F') : Rps K F' v d := Rps.mono s d v h
theorem Rkv.mn {v : List (Key × V)} {d : List (D × D)} (h : Rkv K F v d) (s : Sub F F') : Rkv K F' v d := Rkv.mono s d v h
theorem Rps.length : ∀ {vs : List V} {ds : List D}, Rps K F vs ds → vs.length = ds.length
  | _, _, .nil => rfl
  | _, _, .cons _ t => by rw [List.length_cons, List.length_cons, Rps.length t]
theorem Rps.append : ∀ {vs ws : List V} {ds es : List D}, Rps K F vs ds → Rps K F ws es → Rps K F (vs ++ ws) (ds ++ es)
  | _, _, _, _, .nil, b => b
  | _, _, _, _, .cons r t, b => .cons r (Rps.append t b)
theorem Rps.one {v : V} {d : D} (h : Rp K F v d) : Rps K F [v] [d] := .cons h .nil
theorem Rps.get : ∀ {vs : List V} {ds : List D} {i : Nat} {d : D}, Rps K F vs ds → ds[i]? = some d → ∃ v, vs[i]? = some v ∧ Rp K F v d
  | _, _, _, _, .nil, e => by simp at e
  | _, _, 0, _, .cons r _, e => by simp at e; subst e; exact ⟨_, rfl, r⟩
  | _, _, i + 1, d, .cons _ t, e => by
    obtain ⟨u, h1, h2⟩ := Rps.get (i := i) (d := d) t (by simpa using e)
    exact ⟨u, by simpa using h1, h2⟩
theorem Rps.getV : ∀ {vs : List V} {ds : List D} {i : Nat} {v : V}, Rps K F vs ds → vs[i]? = some v → ∃ d, ds[i]? = some d ∧ Rp K F v d
  | _, _, _, _, .nil, e => by simp at e
  | _, _, 0, _, .cons r _, e => by simp at e; subst e; exact ⟨_, rfl, r⟩
  | _, _, i + 1, d, .cons _ t, e => by
    obtain ⟨u, h1, h2⟩ := Rps.getV (i := i) (v := d) t (by simpa using e)
    exact ⟨u, by simpa using h1, h2⟩
theorem Rps.set {v : V} {d : D} (r : Rp K F v d) : ∀ {vs : List V} {ds : List D} (i : Nat), Rps K F vs ds → Rps K F (vs.set i v) (ds.set i d)
  | _, _, _, .nil => .nil
  | _, _, 0, .cons _ t => .cons r t
  | _, _, i + 1, .cons q t => .cons q (Rps.set r i t)
theorem Rps.take : ∀ {vs : List V} {ds : List D} (n : Nat), Rps K F vs ds → Rps K F (vs.take n) (ds.take n)
  | _, _, 0, _ => .nil
  | _, _, _ + 1, .nil => .nil
  | _, _, n + 1, .cons r t => .cons r (Rps.take n t)
theorem Rps.drop : ∀ {vs : List V} {ds : List D} (n : Nat), Rps K F vs ds → Rps K F (vs.drop n) (ds.drop n)
  | _, _, 0, r => r
  | _, _, _ + 1, .nil => .nil
  | _, _, n + 1, .cons _ t => Rps.drop n t
theorem Rps.reverse : ∀ {vs : List V} {ds : List D}, Rps K F vs ds → Rps K F vs.reverse ds.reverse
  | _, _, .nil => .nil
  | _, _, .cons r t => by
    rw [List.reverse_cons, List.reverse_cons]
    exact (Rps.reverse t).append (.one r)
theorem Rps.ints : ∀ {vs : List V} {ns : List Int}, Rps K F vs (ns.map PyData.int) → vs = ns.map V.int
  | _, [], h => by cases h; rfl
  | _, n :: ns, h => by
    cases h with
    | cons a b => cases a; rw [Rps.ints b]; rfl
theorem Rps.strs : ∀ {vs : List V} {ns : List Str}, Rps K F vs (ns.map PyData.str) → vs = ns.map V.str
  | _, [], h => by cases h; rfl
  | _, n :: ns, h => by
    cases h with
    | cons a b => cases a; rw [Rps.strs b]; rfl
theorem Rps.bls : ∀ {vs : List V} {ns : List Bool}, Rps K F vs (ns.map PyData.bool) → vs = ns.map V.bl
  | _, [], h => by cases h; rfl
  | _, n :: ns, h => by
    cases h with
    | cons a b => cases a; rw [Rps.bls b]; rfl
theorem Rps.ofInts : ∀ (ns : List Int), Rps K F (ns.map V.int) (ns.map PyData.int)
  | [] => .nil
  | n :: ns => .cons (.int n) (Rps.ofInts ns)
theorem Rps.ofStrs : ∀ (ns : List Str), Rps K F (ns.map V.str) (ns.map PyData.str)
  | [] => .nil
  | n :: ns => .cons (.str n) (Rps.ofStrs ns)
end
/-- a step that leaves all that is not frozen as it is -/
structure Ext (F H F' H' : Hp) : Prop where
  ff : Sub F F'
  fh : Sub F' H'
  keep : ∀ a o, H a = some o → F a = none → H' a = some o ∧ F' a = none
theorem Ext.refl {F H : Hp} (s : Sub F H) : Ext F H F H := ⟨.refl _, s, fun _ _ h n => ⟨h, n⟩⟩
theorem Ext.trans {F H F1 H1 F2 H2 : Hp} (a : Ext F H F1 H1) (b : Ext F1 H1 F2 H2) : Ext F H F2 H2 :=
  ⟨a.ff.trans b.ff, b.fh, fun c o h n => b.keep c o (a.keep c o h n).1 (a.keep c o h n).2⟩
theorem Ext.new {F H : Hp} {p : Addr} {o : HO} (s : Sub F H) (h : H p = none) : Ext F H (upd F p o) (upd H p o) := by
  refine ⟨Sub.upd (s.none h), fun a u e => ?_, fun a u e n => ?_⟩
  · by_cases hp : a = p
    · subst hp; rw [upd_same] at e ⊢; exact e
    · rw [upd_ne hp] at e ⊢; exact s _ _ e
  · have hp := ne_of_none e h
    rw [upd_ne hp, upd_ne hp]; exact ⟨e, n⟩
def NotTbl (o : HO) : Prop := ∀ ps, o ≠ .tbl ps
/-- the boxes B are let free, tables may grow -/
structure ExtB (B : List Addr) (T : List (Addr × Str)) (F H F' H' : Hp) : Prop where
  ff : Sub F F'
  fh : Sub F' H'
  keepF : ∀ a o, H a = some o → F a = none → F' a = none ∧ ∃ u, H' a = some u
  keep : ∀ a o, H a = some o → F a = none → a ∉ B → NotTbl o → H' a = some o
  tab : LamX.Tabs T H → LamX.Tabs T H'
theorem Ext.same {F H F' H' : Hp} (e : Ext F H F' H') (s : Sub F H) : Sub H H' := fun a o h => by
  cases q : F a with
  | none => exact (e.keep a o h q).1
  | some u =>
    have := s a u q
    rw [h] at this; cases this
    exact e.fh a o (e.ff a o q)
theorem Ext.b {F H F' H' : Hp} (e : Ext F H F' H') (s : Sub F H) (B : List Addr) (T : List (Addr × Str)) : ExtB B T F H F' H' :=
  ⟨e.ff, e.fh, fun a o h n => ⟨(e.keep a o h n).2, o, (e.keep a o h n).1⟩, fun a o h n _ _ => (e.keep a o h n).1, fun t => t.ext (e.same s)⟩
theorem ExtB.mono {B B' : List Addr} {T : List (Addr × Str)} {F H F' H' : Hp} (e : ExtB B T F H F' H') (s : ∀ b ∈ B, b ∈ B') : ExtB B' T F H F' H' :=
  ⟨e.ff, e.fh, e.keepF, fun a o h n nb t => e.keep a o h n (fun z => nb (s a z)) t, e.tab⟩
/-- a box of draws -/
structure BoxOk (F H : Hp) (b : Addr) : Prop where
  ex : ∃ (r : Addr) (ns : List Int) (k : Int), H b = some (.dK [(.inr "row", .ref r), (.inr "at", .int k)]) ∧ F r = some (.lst (ns.map V.int)) ∧ 0 < ns.length ∧ ns.length < 100000
  fr : F b = none
/-- a slot: unset, a value, an own list, an own dict, a box -/
inductive Bd where
  | un | v (d : D) | own (ds : List D) | dic (es : List (D × D)) | bx
def Bd.isOwn : Bd → Bool
  | .own _ => true
  | .dic _ => true
  | .bx => true
  | _ => false
def SlotOk (K : Frag) (F H : Hp) : Bd → Option V → Prop
  | .un, _ => True
  | .v d, o => ∃ v, o = some v ∧ Rp K F v d
  | .own ds, o => ∃ a vs, o = some (.ref a) ∧ H a = some (.lst vs) ∧ Rps K F vs ds ∧ F a = none
  | .dic es, o => ∃ a kvs, o = some (.ref a) ∧ H a = some (.dK kvs) ∧ Rkv K F kvs es ∧ F a = none
  | .bx, o => ∃ a, o = some (.ref a) ∧ BoxOk F H a
/-- the world of a def's body -/
structure Wd where
  G : Hp
  F0 : Hp
  B : List Addr
  T : List (Addr × Str)
  tg : ∀ p ∈ T, ∃ o, G p.1 = some o
structure Core (W : Wd) (F H : Hp) : Prop where
  f0 : Sub W.F0 F
  fh : Sub F H
  prot : ∀ a o, W.G a = some o → F a = none ∧ (∃ u, H a = some u) ∧ (NotTbl o → H a = some o)
  tabs : LamX.Tabs W.T H
  bx : ∀ b ∈ W.B, BoxOk F H b ∧ W.G b = none
def Bd.isBx : Bd → Bool
  | .bx => true
  | _ => false
structure Rel (K : Frag) (W : Wd) (F : Hp) (ρ : List Bd) (σ : St) (H : Hp) : Prop where
  core : Core W F H
  len : ρ.length = σ.length
  ok : ∀ (i : Nat) (b : Bd) (o : Option V), ρ[i]? = some b → σ[i]? = some o → SlotOk K F H b o
  apart : ∀ (i : Nat) (b : Bd) (a : Addr), ρ[i]? = some b → b.isOwn = true → σ[i]? = some (some (.ref a)) → W.G a = none ∧ (b.isBx = false → a ∉ W.B) ∧ ∀ (j : Nat) (b' : Bd), ρ[j]? = some b' → b'.isOwn = true → σ[j]? = some (some (.ref a)) → j = i
section
variable {K : Frag} {W : Wd} {F F' H H' : Hp} {ρ : List Bd} {σ : St}
theorem notTbl_lst {xs : List V} : NotTbl (.lst xs) := fun _ z => by cases z
theorem notTbl_dK {xs : List (Key × V)} : NotTbl (.dK xs) := fun _ z => by cases z
theorem BoxOk.step {B : List Addr} {T : List (Addr × Str)} {a : Addr} (hb : BoxOk F H a) (e : ExtB B T F H F' H') (nb : a ∉ B) : BoxOk F' H' a := by
  obtain ⟨⟨r, ns, k, h1, h2, h3⟩, h4⟩ := hb
  exact ⟨⟨r, ns, k, e.keep a _ h1 h4 nb notTbl_dK, e.ff _ _ h2, h3⟩, (e.keepF a _ h1 h4).1⟩
theorem Core.step {B : List Addr} (c : Core W F H) (e : ExtB B W.T F H F' H') (hB : ∀ b ∈ B, W.G b = none) (hb : ∀ b ∈ B, BoxOk F' H' b) : Core W F' H' where
  f0 := c.f0.trans e.ff
  fh := e.fh
  prot := fun a o g => by
    obtain ⟨h1, ⟨u, h2⟩, h3⟩ := c.prot a o g
    obtain ⟨q1, q2⟩ := e.keepF a u h2 h1
    exact ⟨q1, q2, fun t => e.keep a o (h3 t) h1 (fun z => by rw [hB a z] at g; cases g) t⟩
  tabs := e.tab c.tabs
  bx := fun b z => ⟨by
    by_cases nb : b ∈ B
    · exact hb b nb
    · exact (c.bx b z).1.step e nb, (c.bx b z).2⟩
theorem SlotOk.step {B : List Addr} {T : List (Addr × Str)} {b : Bd} {o : Option V} (h : SlotOk K F H b o) (e : ExtB B T F H F' H')
    (hB : ∀ a, b.isOwn = true → o = some (.ref a) → a ∈ B → b = .bx ∧ BoxOk F' H' a) : SlotOk K F' H' b o := by
  cases b with
  | un => trivial
  | v d => obtain ⟨v, rfl, r⟩ := h; exact ⟨v, rfl, r.mn e.ff⟩
  | own ds =>
    obtain ⟨a, vs, rfl, h1, h2, h3⟩ := h
    have nb : a ∉ B := fun z => by have := (hB a rfl rfl z).1; cases this
    exact ⟨a, vs, rfl, e.keep a _ h1 h3 nb notTbl_lst, h2.mn e.ff, (e.keepF a _ h1 h3).1⟩
  | dic es =>
    obtain ⟨a, vs, rfl, h1, h2, h3⟩ := h
    have nb : a ∉ B := fun z => by have := (hB a rfl rfl z).1; cases this
    exact ⟨a, vs, rfl, e.keep a _ h1 h3 nb notTbl_dK, h2.mn e.ff, (e.keepF a _ h1 h3).1⟩
  | bx =>
    obtain ⟨a, rfl, hb⟩ := h
    refine ⟨a, rfl, ?_⟩
    by_cases nb : a ∈ B
    · exact (hB a rfl rfl nb).2
    · obtain ⟨⟨r, ns, k, h1, h2, h3⟩, h4⟩ := hb
      exact ⟨⟨r, ns, k, e.keep a _ h1 h4 nb notTbl_dK, e.ff _ _ h2, h3⟩, (e.keepF a _ h1 h4).1⟩
/-- a step of the heap under the slots -/
theorem Rel.step {B : List Addr} (R : Rel K W F ρ σ H) (e : ExtB B W.T F H F' H') (hB : ∀ b ∈ B, ∃ i : Nat, ρ[i]? = some Bd.bx ∧ σ[i]? = some (some (.ref b))) (hb : ∀ b ∈ B, BoxOk F' H' b) : Rel K W F' ρ σ H' where
  core := R.core.step e (fun b z => by
    obtain ⟨i, h1, h2⟩ := hB b z
    exact (R.apart i _ b h1 rfl h2).1) hb
  len := R.len
  ok := fun i b o h1 h2 => (R.ok i b o h1 h2).step e fun a ho ea hm => by
    obtain ⟨j, g1, g2⟩ := hB a hm
    subst ea
    have := (R.apart i b a h1 ho h2).2.2 j _ g1 rfl g2
    subst this
    rw [h1] at g1; cases g1
    exact ⟨rfl, hb a hm⟩
  apart := R.apart
theorem Rel.ext (R : Rel K W F ρ σ H) (e : Ext F H F' H') : Rel K W F' ρ σ H' := R.step (e.b R.core.fh [] W.T) (fun _ z => nomatch z) (fun _ z => nomatch z)
/-- a slot takes a value -/
theorem Rel.set (R : Rel K W F ρ σ H) {i : Nat} {d : D} {v : V} (r : Rp K F v d) : Rel K W F (ρ.set i (.v d)) (σ.set i (some v)) H where
  core := R.core
  len := by rw [List.length_set, List.length_set]; exact R.len
  ok := fun j b o h1 h2 => by
    by_cases hj : i = j
    · subst hj
      have hi : i < ρ.length := by
        have := (List.getElem?_eq_some_iff.mp h1).1
        rwa [List.length_set] at this
      rw [List.getElem?_set_self hi] at h1
      rw [List.getElem?_set_self (by rw [← R.len]; exact hi)] at h2
      cases h1; cases h2
      exact ⟨v, rfl, r⟩
    · rw [List.getElem?_set_ne hj] at h1 h2
      exact R.ok j b o h1 h2
  apart := fun j b a h1 ho h2 => by
    by_cases hj : i = j
    · subst hj
      have hi : i < ρ.length := by
        have := (List.getElem?_eq_some_iff.mp h1).1
        rwa [List.length_set] at this
      rw [List.getElem?_set_self hi] at h1
      cases h1; cases ho
    · rw [List.getElem?_set_ne hj] at h1 h2
      obtain ⟨g, g2, k⟩ := R.apart j b a h1 ho h2
      refine ⟨g, g2, fun j' b' e1 e2 e3 => ?_⟩
      by_cases hj' : i = j'
      · subst hj'
        have hi : i < ρ.length := by
          have := (List.getElem?_eq_some_iff.mp e1).1
          rwa [List.length_set] at this
        rw [List.getElem?_set_self hi] at e1
        cases e1; cases e2
      · rw [List.getElem?_set_ne hj'] at e1 e3
        exact k j' b' e1 e2 e3
/-- a is owned by no slot, not protected -/
def Free (W : Wd) (ρ : List Bd) (σ : St) (a : Addr) : Prop := W.G a = none ∧ a ∉ W.B ∧ ∀ (j : Nat) (b : Bd), ρ[j]? = some b → b.isOwn = true → σ[j]? ≠ some (some (.ref a))
/-- a slot takes an owned thing -/
theorem Rel.setOwn (R : Rel K W F ρ σ H) {i : Nat} {b : Bd} {a : Addr} (ho : b.isOwn = true) (s : SlotOk K F H b (some (.ref a))) (fr : Free W ρ σ a) : Rel K W F (ρ.set i b) (σ.set i (some (.ref a))) H where
  core := R.core
  len := by rw [List.length_set, List.length_set]; exact R.len
  ok := fun j b o h1 h2 => by
    by_cases hj : i = j
    · subst hj
      have hi : i < ρ.length := by
        have := (List.getElem?_eq_some_iff.mp h1).1
        rwa [List.length_set] at this
      rw [List.getElem?_set_self hi] at h1
      rw [List.getElem?_set_self (by rw [← R.len]; exact hi)] at h2
      cases h1; cases h2
      exact s
    · rw [List.getElem?_set_ne hj] at h1 h2
      exact R.ok j b o h1 h2
  apart := fun j b' a' h1 ho' h2 => by
    by_cases hj : i = j
    · subst hj
      have hi : i < ρ.length := by
        have := (List.getElem?_eq_some_iff.mp h1).1
        rwa [List.length_set] at this
      rw [List.getElem?_set_self hi] at h1
      rw [List.getElem?_set_self (by rw [← R.len]; exact hi)] at h2
      cases h1; cases h2
      refine ⟨fr.1, fun _ => fr.2.1, fun j' b' e1 e2 e3 => ?_⟩
      by_cases hj' : i = j'
      · exact hj'.symm
      · rw [List.getElem?_set_ne hj'] at e1 e3
        exact absurd e3 (fr.2.2 j' b' e1 e2)
    · rw [List.getElem?_set_ne hj] at h1 h2
      obtain ⟨g, g2, k⟩ := R.apart j b' a' h1 ho' h2
      refine ⟨g, g2, fun j' b'' e1 e2 e3 => ?_⟩
      by_cases hj' : i = j'
      · subst hj'
        have hi : i < ρ.length := by
          have := (List.getElem?_eq_some_iff.mp e1).1
          rwa [List.length_set] at this
        rw [List.getElem?_set_self (by rw [← R.len]; exact hi)] at e3
        cases e3
        exact absurd h2 (fr.2.2 j b' h1 ho')
      · rw [List.getElem?_set_ne hj'] at e1 e3
        exact k j' b'' e1 e2 e3
/-- an own list is frozen -/
theorem Rel.freezeL (R : Rel K W F ρ σ H) {i : Nat} {ds : List D} (hi : ρ[i]? = some (.own ds)) : ∃ a vs, σ[i]? = some (some (.ref a)) ∧ H a = some (.lst vs) ∧ F a = none ∧ Rel K W (upd F a (.lst vs)) (ρ.set i (.v (.list ds))) σ H ∧ Rp K (upd F a (.lst vs)) (.ref a) (.list ds) := by
  have hl : i < σ.length := by rw [← R.len]; exact (List.getElem?_eq_some_iff.mp hi).1
  obtain ⟨o, ho⟩ : ∃ o, σ[i]? = some o := ⟨_, List.getElem?_eq_getElem hl⟩
  obtain ⟨a, vs, rfl, h1, h2, h3⟩ := R.ok i _ o hi ho
  obtain ⟨g, gB, ap⟩ := R.apart i _ a hi rfl ho
  have gB := gB rfl
  have sf : Sub F (upd F a (.lst vs)) := Sub.upd h3
  have rp : Rp K (upd F a (.lst vs)) (.ref a) (.list ds) := .lst upd_same (h2.mn sf)
  have slot : ∀ (j : Nat) (b : Bd) (o : Option V), j ≠ i → ρ[j]? = some b → σ[j]? = some o → SlotOk K (upd F a (.lst vs)) H b o := fun j b o hj e1 e2 => by
    have s := R.ok j b o e1 e2
    have nea : ∀ a', b.isOwn = true → o = some (.ref a') → a' ≠ a := fun a' eo ea z => by
      subst ea; subst z
      exact hj (ap j b e1 eo e2)
    cases b with
    | un => trivial
    | v d => obtain ⟨v, rfl, r⟩ := s; exact ⟨v, rfl, r.mn sf⟩
    | own ds => obtain ⟨a', vs', rfl, q1, q2, q3⟩ := s; exact ⟨a', vs', rfl, q1, q2.mn sf, by rw [upd_ne (nea a' rfl rfl)]; exact q3⟩
    | dic es => obtain ⟨a', vs', rfl, q1, q2, q3⟩ := s; exact ⟨a', vs', rfl, q1, q2.mn sf, by rw [upd_ne (nea a' rfl rfl)]; exact q3⟩
    | bx =>
      obtain ⟨a', rfl, ⟨r, ns, k, q1, q2, q3⟩, q4⟩ := s
      exact ⟨a', rfl, ⟨r, ns, k, q1, sf _ _ q2, q3⟩, by rw [upd_ne (nea a' rfl rfl)]; exact q4⟩
  refine ⟨a, vs, ho, h1, h3, ⟨⟨R.core.f0.trans sf, fun b o e => ?_, fun b o e => ?_, R.core.tabs, fun b z => ?_⟩, by rw [List.length_set]; exact R.len, fun j b o e1 e2 => ?_, fun j b a' e1 e2 e3 => ?_⟩, rp⟩
  · by_cases hb : b = a
    · subst hb; rw [upd_same] at e; cases e; exact h1
    · rw [upd_ne hb] at e; exact R.core.fh b o e
  · obtain ⟨q1, q2⟩ := R.core.prot b o e
    refine ⟨?_, q2⟩
    have hb : b ≠ a := fun z => by subst z; rw [g] at e; cases e
    rw [upd_ne hb]; exact q1
  · obtain ⟨⟨⟨r, ns, k, q1, q2, q3⟩, q4⟩, q5⟩ := R.core.bx b z
    have hb : b ≠ a := fun y => gB (y ▸ z)
    exact ⟨⟨⟨r, ns, k, q1, sf _ _ q2, q3⟩, by rw [upd_ne hb]; exact q4⟩, q5⟩
  · by_cases hj : j = i
    · subst hj
      rw [List.getElem?_set_self (by rw [R.len]; exact hl)] at e1
      cases e1
      rw [ho] at e2; cases e2
      exact ⟨_, rfl, rp⟩
    · rw [List.getElem?_set_ne (Ne.symm hj)] at e1
      exact slot j b o hj e1 e2
  · by_cases hj : j = i
    · subst hj
      rw [List.getElem?_set_self (by rw [R.len]; exact hl)] at e1
      cases e1; cases e2
    · rw [List.getElem?_set_ne (Ne.symm hj)] at e1
      obtain ⟨g', g2', k⟩ := R.apart j b a' e1 e2 e3
      refine ⟨g', g2', fun j' b' f1 f2 f3 => ?_⟩
      by_cases hj' : j' = i
      · subst hj'
        rw [List.getElem?_set_self (by rw [R.len]; exact hl)] at f1
        cases f1; cases f2
      · rw [List.getElem?_set_ne (Ne.symm hj')] at f1
        exact k j' b' f1 f2 f3
/-- an own dict is frozen -/
theorem Rel.freezeD (R : Rel K W F ρ σ H) {i : Nat} {ds : List (D × D)} (hi : ρ[i]? = some (.dic ds)) : ∃ a vs, σ[i]? = some (some (.ref a)) ∧ H a = some (.dK vs) ∧ F a = none ∧ Rel K W (upd F a (.dK vs)) (ρ.set i (.v (.dict ds))) σ H ∧ Rp K (upd F a (.dK vs)) (.ref a) (.dict ds) := by
  have hl : i < σ.length := by rw [← R.len]; exact (List.getElem?_eq_some_iff.mp hi).1
  obtain ⟨o, ho⟩ : ∃ o, σ[i]? = some o := ⟨_, List.getElem?_eq_getElem hl⟩
  obtain ⟨a, vs, rfl, h1, h2, h3⟩ := R.ok i _ o hi ho
  obtain ⟨g, gB, ap⟩ := R.apart i _ a hi rfl ho
  have gB := gB rfl
  have sf : Sub F (upd F a (.dK vs)) := Sub.upd h3
  have rp : Rp K (upd F a (.dK vs)) (.ref a) (.dict ds) := .dct upd_same (h2.mn sf)
  have slot : ∀ (j : Nat) (b : Bd) (o : Option V), j ≠ i → ρ[j]? = some b → σ[j]? = some o → SlotOk K (upd F a (.dK vs)) H b o := fun j b o hj e1 e2 => by
    have s := R.ok j b o e1 e2
    have nea : ∀ a', b.isOwn = true → o = some (.ref a') → a' ≠ a := fun a' eo ea z => by
      subst ea; subst z
      exact hj (ap j b e1 eo e2)
    cases b with
    | un => trivial
    | v d => obtain ⟨v, rfl, r⟩ := s; exact ⟨v, rfl, r.mn sf⟩
    | own ds => obtain ⟨a', vs', rfl, q1, q2, q3⟩ := s; exact ⟨a', vs', rfl, q1, q2.mn sf, by rw [upd_ne (nea a' rfl rfl)]; exact q3⟩
    | dic es => obtain ⟨a', vs', rfl, q1, q2, q3⟩ := s; exact ⟨a', vs', rfl, q1, q2.mn sf, by rw [upd_ne (nea a' rfl rfl)]; exact q3⟩
    | bx =>
      obtain ⟨a', rfl, ⟨r, ns, k, q1, q2, q3⟩, q4⟩ := s
      exact ⟨a', rfl, ⟨r, ns, k, q1, sf _ _ q2, q3⟩, by rw [upd_ne (nea a' rfl rfl)]; exact q4⟩
  refine ⟨a, vs, ho, h1, h3, ⟨⟨R.core.f0.trans sf, fun b o e => ?_, fun b o e => ?_, R.core.tabs, fun b z => ?_⟩, by rw [List.length_set]; exact R.len, fun j b o e1 e2 => ?_, fun j b a' e1 e2 e3 => ?_⟩, rp⟩
  · by_cases hb : b = a
    · subst hb; rw [upd_same] at e; cases e; exact h1
    · rw [upd_ne hb] at e; exact R.core.fh b o e
  · obtain ⟨q1, q2⟩ := R.core.prot b o e
    refine ⟨?_, q2⟩
    have hb : b ≠ a := fun z => by subst z; rw [g] at e; cases e
    rw [upd_ne hb]; exact q1
  · obtain ⟨⟨⟨r, ns, k, q1, q2, q3⟩, q4⟩, q5⟩ := R.core.bx b z
    have hb : b ≠ a := fun y => gB (y ▸ z)
    exact ⟨⟨⟨r, ns, k, q1, sf _ _ q2, q3⟩, by rw [upd_ne hb]; exact q4⟩, q5⟩
  · by_cases hj : j = i
    · subst hj
      rw [List.getElem?_set_self (by rw [R.len]; exact hl)] at e1
      cases e1
      rw [ho] at e2; cases e2
      exact ⟨_, rfl, rp⟩
    · rw [List.getElem?_set_ne (Ne.symm hj)] at e1
      exact slot j b o hj e1 e2
  · by_cases hj : j = i
    · subst hj
      rw [List.getElem?_set_self (by rw [R.len]; exact hl)] at e1
      cases e1; cases e2
    · rw [List.getElem?_set_ne (Ne.symm hj)] at e1
      obtain ⟨g', g2', k⟩ := R.apart j b a' e1 e2 e3
      refine ⟨g', g2', fun j' b' f1 f2 f3 => ?_⟩
      by_cases hj' : j' = i
      · subst hj'
        rw [List.getElem?_set_self (by rw [R.len]; exact hl)] at f1
        cases f1; cases f2
      · rw [List.getElem?_set_ne (Ne.symm hj')] at f1
        exact k j' b' f1 f2 f3
end
end KD
namespace KD
open PySem PySem.Spec PyProof.Rows L2
/-! ### readings over data -/
abbrev En := List Bd
abbrev TEd := En → (D → En → Prop) → Prop
abbrev TAd := En → (List D → En → Prop) → Prop
abbrev TTd := En → (Bool → En → Prop) → Prop
def Mo {α : Type} (t : En → (α → En → Prop) → Prop) : Prop := ∀ ρ Q Q', (∀ d ρ', Q d ρ' → Q' d ρ') → t ρ Q → t ρ Q'
def Mr {α : Type} (r : (α → Prop) → Prop) : Prop := ∀ Q Q', (∀ d, Q d → Q' d) → r Q → r Q'
def lift (K : Frag) (W : Wd) (t : TEd) : TE := fun σ H Q => ∃ F ρ, Rel K W F ρ σ H ∧ t ρ fun d ρ' => ∀ F' H' v, Sub F F' → Rel K W F' ρ' σ H' → Rp K F' v d → Q v H'
def liftT (K : Frag) (W : Wd) (t : TTd) : TT := fun σ H Q => ∃ F ρ, Rel K W F ρ σ H ∧ t ρ fun b ρ' => ∀ F' H', Sub F F' → Rel K W F' ρ' σ H' → Q b H'
def liftS (K : Frag) (W : Wd) (t : TAd) : TA := fun σ H Q => ∃ F ρ, Rel K W F ρ σ H ∧ t ρ fun ds ρ' => ∀ F' H' vs, Sub F F' → Rel K W F' ρ' σ H' → Rps K F' vs ds → Q vs H'
structure PD (X : Cx) (W : Wd) (e : Expr) (t : TEd) : Prop where
  mo : Mo t
  pe : PE X e (lift X.K W t)
structure PDT (X : Cx) (W : Wd) (e : Expr) (t : TTd) : Prop where
  mo : Mo t
  pt : PT X e (liftT X.K W t)
/-- the same whatever the whole is (and, or) -/
structure PDW (X : Cx) (W : Wd) (e : Expr) (t : TTd) : Prop where
  mo : Mo t
  pw : PW X e (liftT X.K W t)
/-- a list of expressions, no boxes -/
structure PDs (X : Cx) (W : Wd) (es : List Expr) (t : TAd) : Prop where
  mo : Mo t
  pa : PA X es (liftS X.K W t)
  ln : ∀ (ρ : En) (Q : List D → En → Prop), t ρ Q → t ρ fun xs ρ' => xs.length = es.length ∧ Q xs ρ'
theorem PEimp {X : Cx} {e : Expr} {t t' : TE} (h : PE X e t) (i : ∀ σ H Q, t' σ H Q → t σ H Q) : PE X e t' := ⟨fun pins s σ H Q I q => h.run pins s σ H Q I (i σ H Q q)⟩
theorem PTimp {X : Cx} {e : Expr} {t t' : TT} (h : PT X e t) (i : ∀ σ H Q, t' σ H Q → t σ H Q) : PT X e t' := ⟨fun pins s σ H Q I q => h.run pins s σ H Q I (i σ H Q q)⟩
theorem PWimp {X : Cx} {e : Expr} {t t' : TT} (h : PW X e t) (i : ∀ σ H Q, t' σ H Q → t σ H Q) : PW X e t' := ⟨fun wh pins s σ H Q I q => h.run wh pins s σ H Q I (i σ H Q q)⟩
theorem PAimp {X : Cx} {es : List Expr} {t t' : TA} (h : PA X es t) (i : ∀ σ H Q, t' σ H Q → t σ H Q) : PA X es t' := ⟨fun pos pins s σ H Q I q => h.run pos pins s σ H Q I (i σ H Q q)⟩
/-! ### names and constants -/
def dVar (i : Nat) : TEd := fun ρ Q => match ρ[i]? with
  | some (.v d) => Q d ρ
  | some (.own ds) => Q (.list ds) (ρ.set i (.v (.list ds)))
  | some (.dic es) => Q (.dict es) (ρ.set i (.v (.dict es)))
  | _ => False
def dC (d : D) : TEd := fun ρ Q => Q d ρ
theorem Mo.c (d : D) : Mo (dC d) := fun _ _ _ h q => h _ _ q
theorem Mo.var (i : Nat) : Mo (dVar i) := fun ρ Q Q' h q => by
  unfold dVar at q ⊢
  split at q
  · exact h _ _ q
  · exact h _ _ q
  · exact h _ _ q
  · exact q.elim
section
variable {X : Cx} {W : Wd}
theorem lift_var {i : Nat} {σ : St} {H : Hp} {Q : VK} (h : lift X.K W (dVar i) σ H Q) : tVar i σ H Q := by
  obtain ⟨F, ρ, R, q⟩ := h
  unfold dVar at q
  split at q
  · rename_i d hd
    have hl : i < σ.length := by rw [← R.len]; exact (List.getElem?_eq_some_iff.mp hd).1
    have ho := List.getElem?_eq_getElem hl
    obtain ⟨v, e, r⟩ := R.ok i _ _ hd ho
    exact ⟨v, by rw [ho, e], q F H v (.refl F) R r⟩
  · rename_i ds hd
    obtain ⟨a, vs, ho, _, h3, R', r⟩ := R.freezeL hd
    exact ⟨_, ho, q _ H _ (Sub.upd h3) R' r⟩
  · rename_i es hd
    obtain ⟨a, vs, ho, _, h3, R', r⟩ := R.freezeD hd
    exact ⟨_, ho, q _ H _ (Sub.upd h3) R' r⟩
  · exact q.elim
theorem pd_var (i : Nat) {x : Str} {pos : Pos} (hN : X.N[i]? = some x := by rfl) (hv : Vis X.env.scope x := by first | exact Or.inl rfl | exact Or.inr (Or.inl rfl) | exact Or.inr (Or.inr rfl)) (hd : (x == ("__debug__" : Str)) = false := by decide)
    (hcd : (x == ("__classdict__" : Str)) = false := by decide) : PD X W (.Name x pos) (dVar i) :=
  ⟨.var i, PEimp (pv i hN hv hd hcd) fun _ _ _ h => lift_var h⟩
theorem lift_c {d : D} {v : V} (hr : ∀ K F, Rp K F v d) {σ : St} {H : Hp} {Q : VK} (h : lift X.K W (dC d) σ H Q) : tC v σ H Q := by
  obtain ⟨F, ρ, R, q⟩ := h
  exact q F H v (.refl F) R (hr _ _)
theorem pd_int {i j pos} : PD X W (.Constant (.int i) j pos) (dC (.int i)) := ⟨.c _, PEimp pe_int fun _ _ _ h => lift_c (fun _ _ => .int i) h⟩
theorem pd_bl {b j pos} : PD X W (.Constant (.bool b) j pos) (dC (.bool b)) := ⟨.c _, PEimp pe_bl fun _ _ _ h => lift_c (fun _ _ => .bl b) h⟩
theorem pd_non {j pos} : PD X W (.Constant .none j pos) (dC .none) := ⟨.c _, PEimp pe_non fun _ _ _ h => lift_c (fun _ _ => .non) h⟩
theorem pd_str {x j pos} : PD X W (.Constant (.str x) j pos) (dC (.str x)) := ⟨.c _, PEimp pe_str fun _ _ _ h => lift_c (fun _ _ => .str x) h⟩
/-- a module's constant -/
theorem pd_glob {x : Str} {v : V} {d : D} {u : Value} {pos : Pos} (hg : Gl X x) (hm : X.mg x = some u) (r : RelV v u) (hr : ∀ F, Rp X.K F v d) (hd : (x == ("__debug__" : Str)) = false := by decide) : PD X W (.Name x pos) (dC d) :=
  ⟨.c _, PEimp (pe_glob hg hm r hd) fun σ H Q h => by
    obtain ⟨F, ρ, R, q⟩ := h
    exact q F H v (.refl F) R (hr F)⟩
end
/-! ### operators by values -/
abbrev R2d := D → D → (D → Prop) → Prop
abbrev R1d := D → (D → Prop) → Prop
def dOp (r : R2d) (ta tb : TEd) : TEd := fun ρ Q => ta ρ fun x ρ1 => tb ρ1 fun y ρ2 => r x y fun z => Q z ρ2
def dUn (r : R1d) (ta : TEd) : TEd := fun ρ Q => ta ρ fun x ρ1 => r x fun z => Q z ρ1
/-- r tells what the rule q of values does -/
structure OpD (K : Frag) (r : R2d) (q : R2) : Prop where
  mr : ∀ x y, Mr (r x y)
  ok : ∀ x y F H d e (Q : D → Prop) (R : VK), Sub F H → Rp K F x d → Rp K F y e → r d e Q → (∀ z F' H' v, Ext F H F' H' → Rp K F' v z → Q z → R v H') → q x y H R
structure UnD (K : Frag) (r : R1d) (q : V → Hp → VK → Prop) : Prop where
  mr : ∀ x, Mr (r x)
  ok : ∀ x F H d (Q : D → Prop) (R : VK), Sub F H → Rp K F x d → r d Q → (∀ z F' H' v, Ext F H F' H' → Rp K F' v z → Q z → R v H') → q x H R
theorem Mo.op {r : R2d} {ta tb : TEd} (hr : ∀ x y, Mr (r x y)) (ha : Mo ta) (hb : Mo tb) : Mo (dOp r ta tb) := fun ρ Q Q' h q =>
  ha ρ _ _ (fun x ρ1 q1 => hb ρ1 _ _ (fun y ρ2 q2 => hr x y _ _ (fun z q3 => h z ρ2 q3) q2) q1) q
theorem Mo.un {r : R1d} {ta : TEd} (hr : ∀ x, Mr (r x)) (ha : Mo ta) : Mo (dUn r ta) := fun ρ Q Q' h q =>
  ha ρ _ _ (fun x ρ1 q1 => hr x _ _ (fun z q3 => h z ρ1 q3) q1) q
section
variable {X : Cx} {W : Wd} {a b : Expr} {ta tb : TEd} {pos : Pos}
theorem lift_op {r : R2d} {q : R2} (o : OpD X.K r q) (ha : Mo ta) (hb : Mo tb) {σ : St} {H : Hp} {Q : VK} (h : lift X.K W (dOp r ta tb) σ H Q) : tOp q (lift X.K W ta) (lift X.K W tb) σ H Q := by
  obtain ⟨F, ρ, R, h⟩ := h
  refine ⟨F, ρ, R, ha _ _ _ (fun x ρ1 q1 F1 H1 vx s1 R1 rx => ?_) h⟩
  refine ⟨F1, ρ1, R1, hb _ _ _ (fun y ρ2 q2 F2 H2 vy s2 R2 ry => ?_) q1⟩
  exact o.ok vx vy F2 H2 x y _ Q R2.core.fh (rx.mn s2) ry q2 fun z F' H' v e rz q3 => q3 F' H' v ((s1.trans s2).trans e.ff) (R2.ext e) rz
theorem lift_un {r : R1d} {q : V → Hp → VK → Prop} (o : UnD X.K r q) (ha : Mo ta) {σ : St} {H : Hp} {Q : VK} (h : lift X.K W (dUn r ta) σ H Q) : tUn q (lift X.K W ta) σ H Q := by
  obtain ⟨F, ρ, R, h⟩ := h
  refine ⟨F, ρ, R, ha _ _ _ (fun x ρ1 q1 F1 H1 vx s1 R1 rx => ?_) h⟩
  exact o.ok vx F1 H1 x _ Q R1.core.fh rx q1 fun z F' H' v e rz q3 => q3 F' H' v (s1.trans e.ff) (R1.ext e) rz
theorem pd_op {op : Operator} {r : R2d} {q : R2} (o : OpD X.K r q) (ho : OpR X (binaryOp op) q) (ha : PD X W a ta) (hb : PD X W b tb) : PD X W (.BinOp a op b pos) (dOp r ta tb) :=
  ⟨.op o.mr ha.mo hb.mo, PEimp (pe_op ho ha.pe hb.pe) fun _ _ _ h => lift_op o ha.mo hb.mo h⟩
theorem pd_un {op : UnaryOp} {r : R1d} {q : V → Hp → VK → Prop} (o : UnD X.K r q) (ho : UnR X (unaryOp op) q) (ha : PD X W a ta) : PD X W (.UnaryOp op a pos) (dUn r ta) :=
  ⟨.un o.mr ha.mo, PEimp (pe_un ho ha.pe) fun _ _ _ h => lift_un o ha.mo h⟩
theorem pd_cmp {op : CmpOp} {r : R2d} {q : R2} (o : OpD X.K r q) (ho : OpR X (compareOp op) q) (ha : PD X W a ta) (hb : PD X W b tb) (hm : behindInMarks op b = false) : PD X W (.Compare a [op] [b] pos) (dOp r ta tb) :=
  ⟨.op o.mr ha.mo hb.mo, PEimp (pe_cmpR ho ha.pe hb.pe hm) fun _ _ _ h => lift_op o ha.mo hb.mo h⟩
theorem pd_ix {r : R2d} {q : R2} (o : OpD X.K r q) (ho : IxR X q) (ha : PD X W a ta) (hb : PD X W b tb) (hs : PlainIx b) : PD X W (.Subscript a b pos) (dOp r ta tb) :=
  ⟨.op o.mr ha.mo hb.mo, PEimp (pe_ix ho ha.pe hb.pe hs) fun _ _ _ h => lift_op o ha.mo hb.mo h⟩
/-- the comparison as a test -/
def dTst (t : TEd) : TTd := fun ρ Q => t ρ fun d ρ' => match d with
  | .bool b => Q b ρ'
  | _ => False
theorem Mo.tst {t : TEd} (h : Mo t) : Mo (dTst t) := fun ρ Q Q' k q => h ρ _ _ (fun d ρ' q => by
  cases d <;> first | exact k _ _ q | exact q.elim) q
theorem lift_tst {t : TEd} (hm : Mo t) {σ : St} {H : Hp} {Q : Bool → Hp → Prop} (h : liftT X.K W (dTst t) σ H Q) : lift X.K W t σ H fun x H' => ∃ k, x = .bl k ∧ Q k H' := by
  obtain ⟨F, ρ, R, h⟩ := h
  refine ⟨F, ρ, R, hm _ _ _ (fun d ρ1 q F1 H1 v s1 R1 r => ?_) h⟩
  cases d with
  | bool b => cases r; exact ⟨b, rfl, q F1 H1 s1 R1⟩
  | _ => exact q.elim
theorem pdt_cmp {op : CmpOp} {r : R2d} {q : R2} (o : OpD X.K r q) (ho : OpR X (compareOp op) q) (ha : PD X W a ta) (hb : PD X W b tb) (hm : behindInMarks op b = false) : PDT X W (.Compare a [op] [b] pos) (dTst (dOp r ta tb)) :=
  ⟨.tst (.op o.mr ha.mo hb.mo), PTimp (pt_cmpR ho ha.pe hb.pe hm) fun σ H Q h => lift_op (Q := fun x H' => ∃ k, x = V.bl k ∧ Q k H') o ha.mo hb.mo (lift_tst (.op o.mr ha.mo hb.mo) h)⟩
/-- a op b op' c -/
@[irreducible] def chK (z : D) (A B : Prop) : Prop := match z with
  | .bool true => A
  | .bool false => B
  | _ => False
def dChain (r r' : R2d) (ta tb tc : TEd) : TEd := fun ρ Q => ta ρ fun x ρ1 => tb ρ1 fun y ρ2 => r x y fun z => chK z (tc ρ2 fun w ρ3 => r' y w fun z' => Q z' ρ3) (Q (.bool false) ρ2)
theorem chT {p : Prop} [Decidable p] {A B : Prop} (h : p) (a : A) : chK (.bool (decide p)) A B := by rw [decide_eq_true h]; unfold chK; exact a
theorem chF {p : Prop} [Decidable p] {A B : Prop} (h : ¬ p) (b : B) : chK (.bool (decide p)) A B := by rw [decide_eq_false h]; unfold chK; exact b
theorem Mo.chain {r r' : R2d} {tc : TEd} (hr : ∀ x y, Mr (r x y)) (hr' : ∀ x y, Mr (r' x y)) (ha : Mo ta) (hb : Mo tb) (hc : Mo tc) : Mo (dChain r r' ta tb tc) := fun ρ Q Q' h q =>
  ha ρ _ _ (fun x ρ1 q1 => hb ρ1 _ _ (fun y ρ2 q2 => hr x y _ _ (fun z q3 => by
    unfold chK at q3 ⊢
    cases z with
    | bool k => cases k with
      | false => exact h _ _ q3
      | true => exact hc _ _ _ (fun w ρ3 q4 => hr' y w _ _ (fun z' q5 => h _ _ q5) q4) q3
    | _ => exact q3.elim) q2) q1) q
theorem lift_chain {r r' : R2d} {q q' : R2} {tc : TEd} (o : OpD X.K r q) (o' : OpD X.K r' q') (ha : Mo ta) (hb : Mo tb) (hc : Mo tc) {σ : St} {H : Hp} {Q : VK} (h : lift X.K W (dChain r r' ta tb tc) σ H Q) : tChain q q' (lift X.K W ta) (lift X.K W tb) (lift X.K W tc) σ H Q := by
  obtain ⟨F, ρ, R, h⟩ := h
  refine ⟨F, ρ, R, ha _ _ _ (fun x ρ1 q1 F1 H1 vx s1 R1 rx => ?_) h⟩
  refine ⟨F1, ρ1, R1, hb _ _ _ (fun y ρ2 q2 F2 H2 vy s2 R2 ry => ?_) q1⟩
  refine o.ok vx vy F2 H2 x y _ _ R2.core.fh (rx.mn s2) ry q2 fun z F3 H3 v e rz q3 => ?_
  have R3 := R2.ext e
  unfold chK at q3
  cases z with
  | bool k =>
    cases rz
    refine ⟨k, rfl, ?_⟩
    cases k with
    | false => exact iteF (q3 F3 H3 _ ((s1.trans s2).trans e.ff) R3 (.bl false))
    | true =>
      refine iteT ⟨F3, ρ2, R3, hc _ _ _ (fun w ρ3 q4 F4 H4 vw s4 R4 rw => ?_) q3⟩
      exact o'.ok vy vw F4 H4 y w _ Q R4.core.fh ((ry.mn e.ff).mn s4) rw q4 fun z' F5 H5 v' e' rz' q5 => q5 F5 H5 v' (((s1.trans s2).trans e.ff).trans (s4.trans e'.ff)) (R4.ext e') rz'
  | _ => exact q3.elim
theorem pd_chain {op op' : CmpOp} {r r' : R2d} {q q' : R2} {c : Expr} {tc : TEd} (o : OpD X.K r q) (o' : OpD X.K r' q') (ho : OpR X (compareOp op) q) (ho' : OpR X (compareOp op') q') (ha : PD X W a ta) (hb : PD X W b tb) (hc : PD X W c tc)
    (hm : lastMarks [op, op'] [b, c] = false := by with_unfolding_all rfl) : PD X W (.Compare a [op, op'] [b, c] pos) (dChain r r' ta tb tc) :=
  ⟨.chain o.mr o'.mr ha.mo hb.mo hc.mo, PEimp (pe_chain ho ho' ha.pe hb.pe hc.pe hm) fun _ _ _ h => lift_chain o o' ha.mo hb.mo hc.mo h⟩
theorem pdt_chain {op op' : CmpOp} {r r' : R2d} {q q' : R2} {c : Expr} {tc : TEd} (o : OpD X.K r q) (o' : OpD X.K r' q') (ho : OpR X (compareOp op) q) (ho' : OpR X (compareOp op') q') (ha : PD X W a ta) (hb : PD X W b tb) (hc : PD X W c tc)
    (hm : lastMarks [op, op'] [b, c] = false := by with_unfolding_all rfl) : PDT X W (.Compare a [op, op'] [b, c] pos) (dTst (dChain r r' ta tb tc)) :=
  ⟨.tst (.chain o.mr o'.mr ha.mo hb.mo hc.mo), PTimp (pt_chain ho ho' ha.pe hb.pe hc.pe hm) fun σ H Q h => lift_chain (Q := fun x H' => ∃ k, x = V.bl k ∧ Q k H') o o' ha.mo hb.mo hc.mo (lift_tst (.chain o.mr o'.mr ha.mo hb.mo hc.mo) h)⟩
end
/-! ### truth -/
def dTru : D → (Bool → Prop) → Prop
  | .none, Q => Q false
  | .bool b, Q => Q b
  | .int i, Q => Q (i != 0)
  | .str s, Q => s.length ≤ sizeLine ∧ Q ((s.length : Int) != 0)
  | .list ds, Q => Q (!ds.isEmpty)
  | .tuple ds, Q => Q (!ds.isEmpty)
  | .dict [], Q => Q false
  | .dict ((.int _, _) :: _), Q => Q true
  | .dict ((.str _, _) :: _), Q => Q true
  | .dict _, _ => False
theorem Mr.tru (d : D) : Mr (dTru d) := fun Q Q' h q => by
  unfold dTru at q ⊢
  split at q <;> first | exact h _ q | exact ⟨q.1, h _ q.2⟩ | exact q.elim
theorem Rps.isEmpty {K : Frag} {F : Hp} {vs : List V} {ds : List D} (h : Rps K F vs ds) : vs.isEmpty = ds.isEmpty := by
  cases h <;> rfl
theorem tru_of {K : Frag} {F H : Hp} {x : V} {d : D} (s : Sub F H) (r : Rp K F x d) {Q : Bool → Prop} (q : dTru d Q) : ∃ k, TruV K x H k ∧ Q k := by
  cases d with
  | none => cases r; exact ⟨_, rfl, q⟩
  | bool b => cases r; exact ⟨_, rfl, q⟩
  | int i => cases r; exact ⟨_, rfl, q⟩
  | str z => cases r; exact ⟨_, ⟨q.1, rfl⟩, q.2⟩
  | list ds =>
    cases r with
    | lst h1 h2 => exact ⟨_, .inl ⟨_, .of (s _ _ h1), rfl⟩, by rw [h2.isEmpty]; exact q⟩
  | tuple ds =>
    cases r with
    | tup h1 h2 => exact ⟨_, .inr (.inl ⟨_, sqT_mono s h1, rfl⟩), by rw [h2.isEmpty]; exact q⟩
  | dict es =>
    cases r with
    | dct h1 h2 =>
      refine ⟨_, .inr (.inr ⟨_, s _ _ h1, rfl⟩), ?_⟩
      cases h2 with
      | nil => exact q
      | @cons k v kvs d es a b =>
        cases k with
        | inl i => exact q
        | inr i => exact q
    | opq a => exact q.elim
    | scr a => exact q.elim
section
variable {X : Cx} {W : Wd} {a b : Expr} {ta tb : TEd} {pos : Pos} {rest : List Expr}
/-- any expression's truth as a test -/
def dTruth (t : TEd) : TTd := fun ρ Q => t ρ fun d ρ' => dTru d fun k => Q k ρ'
theorem Mo.truth {t : TEd} (h : Mo t) : Mo (dTruth t) := fun ρ Q Q' k q => h ρ _ _ (fun d ρ' q => Mr.tru d _ _ (fun b q => k b ρ' q) q) q
theorem lift_truth {t : TEd} (hm : Mo t) {σ : St} {H : Hp} {Q : Bool → Hp → Prop} (h : liftT X.K W (dTruth t) σ H Q) : lift X.K W t σ H fun x H' => ∃ k, TruV X.K x H' k ∧ Q k H' := by
  obtain ⟨F, ρ, R, h⟩ := h
  refine ⟨F, ρ, R, hm _ _ _ (fun d ρ1 q F1 H1 v s1 R1 r => ?_) h⟩
  obtain ⟨k, h1, h2⟩ := tru_of R1.core.fh r q
  exact ⟨k, h1, h2 F1 H1 s1 R1⟩
theorem pdt_truth (ha : PD X W a ta) (he : ∀ whole, isTrue a X.env whole = (do let v ← whole; standAt a.pos; holding [v] (truthy v)) := by intro _; rfl) : PDT X W a (dTruth ta) :=
  ⟨.truth ha.mo, PTimp (pt_truth ha.pe he) fun _ _ _ h => lift_truth ha.mo h⟩
def dNot (t : TTd) : TTd := fun ρ Q => t ρ fun c ρ' => Q (!c) ρ'
def dAnd (t u : TTd) : TTd := fun ρ Q => t ρ fun c ρ' => if c = true then u ρ' Q else Q false ρ'
def dOr (t u : TTd) : TTd := fun ρ Q => t ρ fun c ρ' => if c = true then Q true ρ' else u ρ' Q
theorem Mo.not {t : TTd} (h : Mo t) : Mo (dNot t) := fun ρ Q Q' k q => h ρ _ _ (fun c ρ' q => k _ _ q) q
theorem Mo.and {t u : TTd} (h : Mo t) (h' : Mo u) : Mo (dAnd t u) := fun ρ Q Q' k q => h ρ _ _ (fun c ρ' q => by
  cases c with
  | true => exact iteT (h' _ _ _ k ((if_pos rfl).mp q))
  | false => exact iteF (k _ _ ((if_neg Bool.false_ne_true).mp q))) q
theorem Mo.or {t u : TTd} (h : Mo t) (h' : Mo u) : Mo (dOr t u) := fun ρ Q Q' k q => h ρ _ _ (fun c ρ' q => by
  cases c with
  | true => exact iteT (k _ _ ((if_pos rfl).mp q))
  | false => exact iteF (h' _ _ _ k ((if_neg Bool.false_ne_true).mp q))) q
variable {tA tB : TTd}
theorem pdt_not (ha : PDT X W a tA) : PDT X W (.UnaryOp .Not a pos) (dNot tA) :=
  ⟨.not ha.mo, PTimp (L2.pt_not ha.pt) fun σ H Q h => by
    obtain ⟨F, ρ, R, h⟩ := h
    exact ⟨F, ρ, R, ha.mo _ _ _ (fun c ρ1 q F1 H1 s1 R1 => q F1 H1 s1 R1) h⟩⟩
theorem PDW.pdt (h : PDW X W a tA) : PDT X W a tA := ⟨h.mo, h.pw.pt⟩
theorem pdw_and1 (ha : PDT X W a tA) : PDW X W (.BoolOp .And [a] pos) tA := ⟨ha.mo, pw_and1 ha.pt⟩
theorem pdw_or1 (ha : PDT X W a tA) : PDW X W (.BoolOp .Or [a] pos) tA := ⟨ha.mo, pw_or1 ha.pt⟩
theorem pdw_and (ha : PDT X W a tA) (hb : PDW X W (.BoolOp .And (b :: rest) pos) tB) : PDW X W (.BoolOp .And (a :: b :: rest) pos) (dAnd tA tB) :=
  ⟨.and ha.mo hb.mo, PWimp (pw_and ha.pt hb.pw) fun σ H Q h => by
    obtain ⟨F, ρ, R, h⟩ := h
    refine ⟨F, ρ, R, ha.mo _ _ _ (fun c ρ1 q F1 H1 s1 R1 => ?_) h⟩
    cases c with
    | true => exact iteT ⟨F1, ρ1, R1, hb.mo _ _ _ (fun b ρ2 q2 F2 H2 s2 R2 => q2 F2 H2 (s1.trans s2) R2) ((if_pos rfl).mp q)⟩
    | false => exact iteF (((if_neg Bool.false_ne_true).mp q) F1 H1 s1 R1)⟩
theorem pdw_or (ha : PDT X W a tA) (hb : PDW X W (.BoolOp .Or (b :: rest) pos) tB) : PDW X W (.BoolOp .Or (a :: b :: rest) pos) (dOr tA tB) :=
  ⟨.or ha.mo hb.mo, PWimp (pw_or ha.pt hb.pw) fun σ H Q h => by
    obtain ⟨F, ρ, R, h⟩ := h
    refine ⟨F, ρ, R, ha.mo _ _ _ (fun c ρ1 q F1 H1 s1 R1 => ?_) h⟩
    cases c with
    | true => exact iteT (((if_pos rfl).mp q) F1 H1 s1 R1)
    | false => exact iteF ⟨F1, ρ1, R1, hb.mo _ _ _ (fun b ρ2 q2 F2 H2 s2 R2 => q2 F2 H2 (s1.trans s2) R2) ((if_neg Bool.false_ne_true).mp q)⟩⟩
/-! ### and, or, not as values -/
def dAndV (ta tb : TEd) : TEd := fun ρ Q => ta ρ fun x ρ1 => dTru x fun k => if k = true then tb ρ1 Q else Q x ρ1
def dOrV (ta tb : TEd) : TEd := fun ρ Q => ta ρ fun x ρ1 => dTru x fun k => if k = true then Q x ρ1 else tb ρ1 Q
def dNotV (ta : TEd) : TEd := fun ρ Q => ta ρ fun x ρ1 => dTru x fun k => Q (.bool (!k)) ρ1
theorem Mo.andV {ta tb : TEd} (h : Mo ta) (h' : Mo tb) : Mo (dAndV ta tb) := fun ρ Q Q' k q => h ρ _ _ (fun x ρ1 q => Mr.tru x _ _ (fun c q => by
  cases c with
  | true => exact iteT (h' _ _ _ k ((if_pos rfl).mp q))
  | false => exact iteF (k _ _ ((if_neg Bool.false_ne_true).mp q))) q) q
theorem Mo.orV {ta tb : TEd} (h : Mo ta) (h' : Mo tb) : Mo (dOrV ta tb) := fun ρ Q Q' k q => h ρ _ _ (fun x ρ1 q => Mr.tru x _ _ (fun c q => by
  cases c with
  | true => exact iteT (k _ _ ((if_pos rfl).mp q))
  | false => exact iteF (h' _ _ _ k ((if_neg Bool.false_ne_true).mp q))) q) q
theorem Mo.notV {ta : TEd} (h : Mo ta) : Mo (dNotV ta) := fun ρ Q Q' k q => h ρ _ _ (fun x ρ1 q => Mr.tru x _ _ (fun c q => k _ _ q) q) q
theorem pd_one {op} {t : TEd} (h : PD X W a t) : PD X W (.BoolOp op [a] pos) t := ⟨h.mo, pe_one h.pe⟩
theorem pd_and (ha : PD X W a ta) (hb : PD X W (.BoolOp .And (b :: rest) pos) tb) : PD X W (.BoolOp .And (a :: b :: rest) pos) (dAndV ta tb) :=
  ⟨.andV ha.mo hb.mo, PEimp (pe_andT ha.pe hb.pe) fun σ H Q h => by
    obtain ⟨F, ρ, R, h⟩ := h
    refine ⟨F, ρ, R, ha.mo _ _ _ (fun x ρ1 q F1 H1 vx s1 R1 rx => ?_) h⟩
    obtain ⟨k, h1, h2⟩ := tru_of R1.core.fh rx q
    refine ⟨k, h1, ?_⟩
    cases k with
    | true => exact iteT ⟨F1, ρ1, R1, hb.mo _ _ _ (fun y ρ2 q2 F2 H2 vy s2 R2 ry => q2 F2 H2 vy (s1.trans s2) R2 ry) ((if_pos rfl).mp h2)⟩
    | false => exact iteF (((if_neg Bool.false_ne_true).mp h2) F1 H1 vx s1 R1 rx)⟩
theorem pd_or (ha : PD X W a ta) (hb : PD X W (.BoolOp .Or (b :: rest) pos) tb) : PD X W (.BoolOp .Or (a :: b :: rest) pos) (dOrV ta tb) :=
  ⟨.orV ha.mo hb.mo, PEimp (pe_orT ha.pe hb.pe) fun σ H Q h => by
    obtain ⟨F, ρ, R, h⟩ := h
    refine ⟨F, ρ, R, ha.mo _ _ _ (fun x ρ1 q F1 H1 vx s1 R1 rx => ?_) h⟩
    obtain ⟨k, h1, h2⟩ := tru_of R1.core.fh rx q
    refine ⟨k, h1, ?_⟩
    cases k with
    | true => exact iteT (((if_pos rfl).mp h2) F1 H1 vx s1 R1 rx)
    | false => exact iteF ⟨F1, ρ1, R1, hb.mo _ _ _ (fun y ρ2 q2 F2 H2 vy s2 R2 ry => q2 F2 H2 vy (s1.trans s2) R2 ry) ((if_neg Bool.false_ne_true).mp h2)⟩⟩
theorem pd_not (ha : PD X W a ta) : PD X W (.UnaryOp .Not a pos) (dNotV ta) :=
  ⟨.notV ha.mo, PEimp (pe_notT ha.pe) fun σ H Q h => by
    obtain ⟨F, ρ, R, h⟩ := h
    refine ⟨F, ρ, R, ha.mo _ _ _ (fun x ρ1 q F1 H1 vx s1 R1 rx => ?_) h⟩
    obtain ⟨k, h1, h2⟩ := tru_of R1.core.fh rx q
    exact ⟨k, h1, h2 F1 H1 _ s1 R1 (.bl _)⟩⟩
/-! ### x if t else y -/
def dIf (t : TTd) (ta tb : TEd) : TEd := fun ρ Q => t ρ fun c ρ1 => if c = true then ta ρ1 Q else tb ρ1 Q
theorem Mo.iff {t : TTd} {ta tb : TEd} (h : Mo t) (ha : Mo ta) (hb : Mo tb) : Mo (dIf t ta tb) := fun ρ Q Q' k q => h ρ _ _ (fun c ρ1 q => by
  cases c with
  | true => exact iteT (ha _ _ _ k ((if_pos rfl).mp q))
  | false => exact iteF (hb _ _ _ k ((if_neg Bool.false_ne_true).mp q))) q
theorem pd_if {c : Expr} (hc : PDT X W c tA) (ha : PD X W a ta) (hb : PD X W b tb) : PD X W (.IfExp c a b pos) (dIf tA ta tb) :=
  ⟨.iff hc.mo ha.mo hb.mo, PEimp (pe_ifExp hc.pt ha.pe hb.pe) fun σ H Q h => by
    obtain ⟨F, ρ, R, h⟩ := h
    refine ⟨F, ρ, R, hc.mo _ _ _ (fun k ρ1 q F1 H1 s1 R1 => ?_) h⟩
    cases k with
    | true => exact iteT ⟨F1, ρ1, R1, ha.mo _ _ _ (fun y ρ2 q2 F2 H2 vy s2 R2 ry => q2 F2 H2 vy (s1.trans s2) R2 ry) ((if_pos rfl).mp q)⟩
    | false => exact iteF ⟨F1, ρ1, R1, hb.mo _ _ _ (fun y ρ2 q2 F2 H2 vy s2 R2 ry => q2 F2 H2 vy (s1.trans s2) R2 ry) ((if_neg Bool.false_ne_true).mp q)⟩⟩
/-! ### lists of expressions; displays -/
def dNil : TAd := fun ρ Q => Q [] ρ
def dCons (ta : TEd) (tr : TAd) : TAd := fun ρ Q => ta ρ fun x ρ1 => tr ρ1 fun xs ρ2 => Q (x :: xs) ρ2
theorem Mo.nil : Mo dNil := fun _ _ _ h q => h _ _ q
theorem Mo.cons {ta : TEd} {tr : TAd} (h : Mo ta) (h' : Mo tr) : Mo (dCons ta tr) := fun ρ Q Q' k q => h ρ _ _ (fun x ρ1 q1 => h' ρ1 _ _ (fun xs ρ2 q2 => k _ _ q2) q1) q
theorem pds_nil : PDs X W [] dNil := ⟨.nil, PAimp pa_nil fun σ H Q h => by
  obtain ⟨F, ρ, R, h⟩ := h
  exact h F H [] (.refl F) R .nil, fun _ _ h => ⟨rfl, h⟩⟩
theorem pds_cons {e : Expr} {es : List Expr} {te : TEd} {t : TAd} (ha : PD X W e te) (hr : PDs X W es t) (hs : starEach (e :: es) X.env = (false, eval e X.env) :: starEach es X.env := by rfl) : PDs X W (e :: es) (dCons te t) :=
  ⟨.cons ha.mo hr.mo, PAimp (pa_cons ha.pe hr.pa hs) fun σ H Q h => by
    obtain ⟨F, ρ, R, h⟩ := h
    refine ⟨F, ρ, R, ha.mo _ _ _ (fun x ρ1 q F1 H1 vx s1 R1 rx => ?_) h⟩
    exact ⟨F1, ρ1, R1, hr.mo _ _ _ (fun xs ρ2 q2 F2 H2 vs s2 R2 rs => q2 F2 H2 _ (s1.trans s2) R2 (.cons (rx.mn s2) rs)) q⟩, fun ρ Q h => ha.mo _ _ _ (fun x ρ1 q => hr.mo _ _ _ (fun xs ρ2 q => ⟨congrArg (· + 1) q.1, q.2⟩) (hr.ln _ _ q)) h⟩
def dTup (t : TAd) : TEd := fun ρ Q => t ρ fun xs ρ1 => Q (.tuple xs) ρ1
def dLst (t : TAd) : TEd := fun ρ Q => t ρ fun xs ρ1 => Q (.list xs) ρ1
theorem Mo.tup {t : TAd} (h : Mo t) : Mo (dTup t) := fun ρ Q Q' k q => h ρ _ _ (fun xs ρ1 q => k _ _ q) q
theorem Mo.lst {t : TAd} (h : Mo t) : Mo (dLst t) := fun ρ Q Q' k q => h ρ _ _ (fun xs ρ1 q => k _ _ q) q
theorem few_ok {α : Type} {l : List α} {n m : Nat} (h : Nat.ble n 1000 = true) (e : m = n) : m ≤ sizeLine := by
  have := Nat.le_of_ble_eq_true h
  rw [sizeLine_eq]; omega
theorem rp_newT {K : Frag} {F : Hp} {p : Addr} {vs : List V} {ds : List D} (hn : F p = none) (r : Rps K F vs ds) : Rp K (upd F p (.tup vs)) (.ref p) (.tuple ds) := .tup (.of upd_same) (r.mn (Sub.upd hn))
theorem rp_newL {K : Frag} {F : Hp} {p : Addr} {vs : List V} {ds : List D} (hn : F p = none) (r : Rps K F vs ds) : Rp K (upd F p (.lst vs)) (.ref p) (.list ds) := .lst upd_same (r.mn (Sub.upd hn))
theorem pd_tup {es : List Expr} {t : TAd} {x1} (h : PDs X W es t) (hl : Nat.ble es.length 1000 = true := by rfl) : PD X W (.Tuple es x1 pos) (dTup t) :=
  ⟨.tup h.mo, PEimp (pe_tup h.pa) fun σ H Q q => by
    obtain ⟨F, ρ, R, q⟩ := q
    refine ⟨F, ρ, R, h.mo _ _ _ (fun xs ρ1 q F1 H1 vs s1 R1 rs => ⟨by rw [rs.length]; exact few_ok (l := es) hl q.1, fun p hp => ?_⟩) (h.ln _ _ q)⟩
    have hf := R1.core.fh.none hp
    exact q.2 _ _ _ (s1.trans (Sub.upd hf)) (R1.ext (Ext.new R1.core.fh hp)) (rp_newT hf rs)⟩
theorem pd_lst {es : List Expr} {t : TAd} (h : PDs X W es t) (hl : Nat.ble es.length 1000 = true := by rfl) : PD X W (.List es pos) (dLst t) :=
  ⟨.lst h.mo, PEimp (pe_lst h.pa) fun σ H Q q => by
    obtain ⟨F, ρ, R, q⟩ := q
    refine ⟨F, ρ, R, h.mo _ _ _ (fun xs ρ1 q F1 H1 vs s1 R1 rs => ⟨by rw [rs.length]; exact few_ok (l := es) hl q.1, fun p hp => ?_⟩) (h.ln _ _ q)⟩
    have hf := R1.core.fh.none hp
    exact q.2 _ _ _ (s1.trans (Sub.upd hf)) (R1.ext (Ext.new R1.core.fh hp)) (rp_newL hf rs)⟩
end
end KD
namespace KD
open PySem PySem.Spec PyProof.Rows L2
/-! ### statements -/
structure Ed where
  nx : En → Prop
  rt : D → Prop
  bk : En → Prop := fun _ => False
  ct : En → Prop := fun _ => False
abbrev TSd := Ed → En → Prop
structure Ed.le (A B : Ed) : Prop where
  nx : ∀ ρ, A.nx ρ → B.nx ρ
  rt : ∀ d, A.rt d → B.rt d
  bk : ∀ ρ, A.bk ρ → B.bk ρ
  ct : ∀ ρ, A.ct ρ → B.ct ρ
theorem Ed.le.refl (A : Ed) : Ed.le A A := ⟨fun _ h => h, fun _ h => h, fun _ h => h, fun _ h => h⟩
def MoS (t : TSd) : Prop := ∀ ρ A B, Ed.le A B → t A ρ → t B ρ
def liftE (K : Frag) (W : Wd) (F : Hp) (D : Ends) : Ed where
  nx := fun ρ => ∀ F' σ' H', Sub F F' → Rel K W F' ρ σ' H' → D.nx σ' H'
  rt := fun d => ∀ F' ρ' σ' H' v, Sub F F' → Rel K W F' ρ' σ' H' → Rp K F' v d → D.rt v H'
  bk := fun ρ => ∀ F' σ' H', Sub F F' → Rel K W F' ρ σ' H' → D.bk σ' H'
  ct := fun ρ => ∀ F' σ' H', Sub F F' → Rel K W F' ρ σ' H' → D.ct σ' H'
def liftD (K : Frag) (W : Wd) (t : TSd) : TS := fun D σ H => ∃ F ρ, Rel K W F ρ σ H ∧ t (liftE K W F D) ρ
theorem liftE_mono {K : Frag} {W : Wd} {F F' : Hp} {D : Ends} (s : Sub F F') : Ed.le (liftE K W F D) (liftE K W F' D) :=
  ⟨fun _ h F1 σ H s1 => h F1 σ H (s.trans s1), fun _ h F1 ρ σ H v s1 => h F1 ρ σ H v (s.trans s1), fun _ h F1 σ H s1 => h F1 σ H (s.trans s1), fun _ h F1 σ H s1 => h F1 σ H (s.trans s1)⟩
structure PDS (X : Cx) (W : Wd) (st : Stmt) (t : TSd) : Prop where
  mo : MoS t
  ps : PS X st (liftD X.K W t)
structure PDB (X : Cx) (W : Wd) (sts : List Stmt) (t : TSd) : Prop where
  mo : MoS t
  ps : PSs X sts (liftD X.K W t)
theorem PSimp {X : Cx} {st : Stmt} {t t' : TS} (h : PS X st t) (i : ∀ D σ H, t' D σ H → t D σ H) : PS X st t' := ⟨fun pins s σ H D I q => h.run pins s σ H D I (i D σ H q)⟩
theorem PSsimp {X : Cx} {st : List Stmt} {t t' : TS} (h : PSs X st t) (i : ∀ D σ H, t' D σ H → t D σ H) : PSs X st t' := ⟨fun pins s σ H D I q => h.run pins s σ H D I (i D σ H q)⟩
abbrev TGd := D → En → (En → Prop) → Prop
abbrev TGsd := List D → En → (En → Prop) → Prop
def MoG (t : TGd) : Prop := ∀ d ρ (Q Q' : En → Prop), (∀ ρ', Q ρ' → Q' ρ') → t d ρ Q → t d ρ Q'
def MoGs (t : TGsd) : Prop := ∀ ds ρ (Q Q' : En → Prop), (∀ ρ', Q ρ' → Q' ρ') → t ds ρ Q → t ds ρ Q'
/-- nothing but the slots ws differs -/
def Agree (ws : List Nat) (σ σ' : St) : Prop := σ'.length = σ.length ∧ ∀ j, j ∉ ws → σ'[j]? = σ[j]?
theorem Agree.refl (ws : List Nat) (σ : St) : Agree ws σ σ := ⟨rfl, fun _ _ => rfl⟩
theorem Agree.trans {ws : List Nat} {σ σ1 σ2 : St} (a : Agree ws σ σ1) (b : Agree ws σ1 σ2) : Agree ws σ σ2 := ⟨b.1.trans a.1, fun j h => (b.2 j h).trans (a.2 j h)⟩
theorem Agree.sub {ws ws' : List Nat} {σ σ1 : St} (a : Agree ws σ σ1) (h : ∀ j ∈ ws, j ∈ ws') : Agree ws' σ σ1 := ⟨a.1, fun j hj => a.2 j fun z => hj (h j z)⟩
theorem Agree.set {i : Nat} {σ : St} {o : Option V} : Agree [i] σ (σ.set i o) := ⟨List.length_set, fun j h => List.getElem?_set_ne fun z => h (by simp [z])⟩
def liftG (K : Frag) (W : Wd) (ws : List Nat) (t : TGd) : TG := fun v σ H Q => ∃ F ρ d, Rel K W F ρ σ H ∧ Rp K F v d ∧ t d ρ fun ρ' => ∀ F' σ' H', Sub F F' → Rel K W F' ρ' σ' H' → Agree ws σ σ' → Q σ' H'
def liftGs (K : Frag) (W : Wd) (ws : List Nat) (t : TGsd) : TGs := fun vs σ H Q => ∃ F ρ ds, Rel K W F ρ σ H ∧ Rps K F vs ds ∧ t ds ρ fun ρ' => ∀ F' σ' H', Sub F F' → Rel K W F' ρ' σ' H' → Agree ws σ σ' → Q σ' H'
structure PDG (X : Cx) (W : Wd) (tg : Expr) (ws : List Nat) (t : TGd) : Prop where
  mo : MoG t
  pg : PG X tg (liftG X.K W ws t)
structure PDGs (X : Cx) (W : Wd) (tgs : List Expr) (ws : List Nat) (t : TGsd) : Prop where
  mo : MoGs t
  pg : PGs X tgs (liftGs X.K W ws t)
theorem PGimp {X : Cx} {e : Expr} {t t' : TG} (h : PG X e t) (i : ∀ v σ H Q, t' v σ H Q → t v σ H Q) : PG X e t' := ⟨fun pins s σ H v u Q I r q => h.run pins s σ H v u Q I r (i v σ H Q q)⟩
theorem PGsimp {X : Cx} {e : List Expr} {t t' : TGs} (h : PGs X e t) (i : ∀ v σ H Q, t' v σ H Q → t v σ H Q) : PGs X e t' := ⟨fun pins s σ H v u Q I r q => h.run pins s σ H v u Q I r (i v σ H Q q)⟩
def sNext : TSd := fun D ρ => D.nx ρ
def sSeq (t u : TSd) : TSd := fun D ρ => t { D with nx := u D } ρ
def sBreak : TSd := fun D ρ => D.bk ρ
def sCont : TSd := fun D ρ => D.ct ρ
def sDrop (t : TEd) : TSd := fun D ρ => t ρ fun _ ρ' => D.nx ρ'
def sRet (t : TEd) : TSd := fun D ρ => t ρ fun d _ => D.rt d
def sIf (c : TTd) (t u : TSd) : TSd := fun D ρ => c ρ fun b ρ' => if b = true then t D ρ' else u D ρ'
def sAsg (t : TEd) (g : TGd) : TSd := fun D ρ => t ρ fun d ρ' => g d ρ' D.nx
def gdName (i : Nat) : TGd := fun d ρ Q => Q (ρ.set i (.v d))
def gdNil : TGsd := fun ds ρ Q => match ds with
  | [] => Q ρ
  | _ => False
def gdCons (t : TGd) (u : TGsd) : TGsd := fun ds ρ Q => match ds with
  | d :: r => t d ρ fun ρ' => u r ρ' Q
  | _ => False
def gdTup (n : Nat) (t : TGsd) : TGd := fun d ρ Q => match d with
  | .tuple ds => ds.length = n ∧ t ds ρ Q
  | _ => False
section
variable {X : Cx} {W : Wd} {pos : Pos}
theorem pdb_nil : PDB X W [] sNext := ⟨fun ρ A B l h => l.nx _ h, PSsimp pss_nil fun D σ H h => by
  obtain ⟨F, ρ, R, h⟩ := h
  exact h F σ H (.refl F) R⟩
theorem pdb_cons {st : Stmt} {rest : List Stmt} {t u : TSd} (h1 : PDS X W st t) (h2 : PDB X W rest u) : PDB X W (st :: rest) (sSeq t u) :=
  ⟨fun ρ A B l h => h1.mo ρ { A with nx := u A } { B with nx := u B } ⟨fun ρ' q => h2.mo ρ' A B l q, l.rt, l.bk, l.ct⟩ h, PSsimp (pss_cons h1.ps h2.ps) fun D σ H h => by
    obtain ⟨F, ρ, R, h⟩ := h
    refine ⟨F, ρ, R, h1.mo ρ { liftE X.K W F D with nx := u (liftE X.K W F D) } _ ⟨fun ρ' q F' σ' H' s R' => ⟨F', ρ', R', h2.mo ρ' _ _ (liftE_mono s) q⟩, fun _ q => q, fun _ q => q, fun _ q => q⟩ h⟩⟩
theorem pdb_one {st : Stmt} {t : TSd} (h1 : PDS X W st t) : PDB X W [st] t := ⟨h1.mo, pss_one h1.ps⟩
theorem pds_pass : PDS X W (.Pass pos) sNext := ⟨fun ρ A B l h => l.nx _ h, PSimp ps_pass fun D σ H h => by
  obtain ⟨F, ρ, R, h⟩ := h
  exact h F σ H (.refl F) R⟩
theorem pds_break : PDS X W (.Break pos) sBreak := ⟨fun ρ A B l h => l.bk _ h, PSimp ps_break fun D σ H h => by
  obtain ⟨F, ρ, R, h⟩ := h
  exact h F σ H (.refl F) R⟩
theorem pds_cont : PDS X W (.Continue pos) sCont := ⟨fun ρ A B l h => l.ct _ h, PSimp ps_continue fun D σ H h => by
  obtain ⟨F, ρ, R, h⟩ := h
  exact h F σ H (.refl F) R⟩
theorem pds_expr {e : Expr} {t : TEd} (he : PD X W e t) (hs : swapsWith e none pos.line X.env = pure false := by rfl) : PDS X W (.Expr e pos) (sDrop t) :=
  ⟨fun ρ A B l h => he.mo _ _ _ (fun d ρ' q => l.nx _ q) h, PSimp (ps_expr he.pe hs) fun D σ H h => by
    obtain ⟨F, ρ, R, h⟩ := h
    exact ⟨F, ρ, R, he.mo _ _ _ (fun d ρ' q F' H' v s R' r => q F' σ H' s R') h⟩⟩
theorem pds_ret {e : Expr} {t : TEd} (he : PD X W e t) : PDS X W (.Return (some e) pos) (sRet t) :=
  ⟨fun ρ A B l h => he.mo _ _ _ (fun d ρ' q => l.rt _ q) h, PSimp (ps_ret he.pe) fun D σ H h => by
    obtain ⟨F, ρ, R, h⟩ := h
    exact ⟨F, ρ, R, he.mo _ _ _ (fun d ρ' q F' H' v s R' r => q F' ρ' σ H' v s R' r) h⟩⟩
def sRetN : TSd := fun D _ => D.rt .none
theorem pds_retN : PDS X W (.Return none pos) sRetN :=
  ⟨fun ρ A B l h => l.rt _ h, PSimp ps_retN fun D σ H h => by
    obtain ⟨F, ρ, R, h⟩ := h
    exact h F ρ σ H _ (.refl F) R .non⟩
theorem pds_if {c : Expr} {a b : List Stmt} {tc : TTd} {t u : TSd} (hc : PDT X W c tc) (ha : PDB X W a t) (hb : PDB X W b u) : PDS X W (.If c a b pos) (sIf tc t u) :=
  ⟨fun ρ A B l h => hc.mo _ _ _ (fun k ρ' q => by
    cases k with
    | true => exact iteT (ha.mo _ _ _ l ((if_pos rfl).mp q))
    | false => exact iteF (hb.mo _ _ _ l ((if_neg Bool.false_ne_true).mp q))) h, PSimp (ps_if hc.pt ha.ps hb.ps) fun D σ H h => by
    obtain ⟨F, ρ, R, h⟩ := h
    refine ⟨F, ρ, R, hc.mo _ _ _ (fun k ρ' q F' H' s R' => ?_) h⟩
    cases k with
    | true => exact iteT ⟨F', ρ', R', ha.mo _ _ _ (liftE_mono s) ((if_pos rfl).mp q)⟩
    | false => exact iteF ⟨F', ρ', R', hb.mo _ _ _ (liftE_mono s) ((if_neg Bool.false_ne_true).mp q)⟩⟩
/-! ### targets -/
theorem liftG_name {i : Nat} {v : V} {σ : St} {H : Hp} {Q : St → Hp → Prop} (h : liftG X.K W [i] (gdName i) v σ H Q) : gName i v σ H Q := by
  obtain ⟨F, ρ, d, R, r, h⟩ := h
  exact h F _ H (.refl F) (R.set r) .set
theorem pdg_name {i : Nat} {x : Str} (hN : X.N.Nodup) (hi : X.N[i]? = some x) (hx : Loc X.env.scope x) (hf : X.fn x = true ∨ X.env.scope.names.lookup x = some .local := by first | exact .inl rfl | exact .inr rfl | assumption) : PDG X W (.Name x pos) [i] (gdName i) :=
  ⟨fun d ρ Q Q' k q => k _ q, PGimp (pg_name hN hi hx hf) fun _ _ _ _ h => liftG_name h⟩
theorem pdgs_nil {ws : List Nat} : PDGs X W [] ws gdNil := ⟨fun ds ρ Q Q' k q => by
  cases ds with
  | nil => exact k _ q
  | cons _ _ => exact q.elim, PGsimp pgs_nil fun vs σ H Q h => by
  obtain ⟨F, ρ, ds, R, r, h⟩ := h
  cases ds with
  | nil => cases r; exact ⟨rfl, h F σ H (.refl F) R (.refl _ _)⟩
  | cons _ _ => exact h.elim⟩
theorem pdgs_cons {e : Expr} {es : List Expr} {t : TGd} {u : TGsd} {w1 w2 : List Nat} (h1 : PDG X W e w1 t) (h2 : PDGs X W es w2 u)
    (hs : (assignEach (e :: es) X.env).map (·.2) = assign e X.env :: (assignEach es X.env).map (·.2) := by rfl) : PDGs X W (e :: es) (w1 ++ w2) (gdCons t u) :=
  ⟨fun ds ρ Q Q' k q => by
    cases ds with
    | nil => exact q.elim
    | cons d r => exact h1.mo _ _ _ _ (fun ρ' q' => h2.mo _ _ _ _ k q') q, PGsimp (pgs_cons h1.pg h2.pg hs) fun vs σ H Q h => by
    obtain ⟨F, ρ, ds, R, r, h⟩ := h
    cases ds with
    | nil => exact h.elim
    | cons d ds =>
      cases r with
      | cons r rr => exact ⟨_, _, rfl, F, ρ, d, R, r, h1.mo _ _ _ _ (fun ρ' q F' σ' H' s R' ag => ⟨F', ρ', ds, R', rr.mn s, h2.mo _ _ _ _ (fun ρ2 q2 F2 σ2 H2 s2 R2 ag2 => q2 F2 σ2 H2 (s.trans s2) R2 ((ag.sub fun j hj => List.mem_append_left _ hj).trans (ag2.sub fun j hj => List.mem_append_right _ hj))) q⟩) h⟩⟩
theorem pdg_tup {es : List Expr} {k : Nat} {t : TGsd} {n : Nat} {ws : List Nat} (hc : X.calm = true) (h : PDGs X W es ws t)
    (hn : (assignEach es X.env).length = n := by rfl) (hst : (assignEach es X.env).findIdx? (·.1) = none := by rfl) : PDG X W (.Tuple es k pos) ws (gdTup n t) :=
  ⟨fun d ρ Q Q' k q => by
    cases d <;> first | exact q.elim | exact ⟨q.1, h.mo _ _ _ _ k q.2⟩, PGimp (pg_tup hc h.pg hn hst) fun v σ H Q q => by
    obtain ⟨F, ρ, d, R, r, q⟩ := q
    cases d with
    | tuple ds =>
      cases r with
      | tup ha hr => exact ⟨_, _, rfl, sqT_mono R.core.fh ha, by rw [hr.length]; exact q.1, F, ρ, ds, R, hr, q.2⟩
    | _ => exact q.elim⟩
theorem pds_asg {tg e : Expr} {t : TEd} {g : TGd} {ws : List Nat} (he : PD X W e t) (hg : PDG X W tg ws g) (hs : swapsWithSole [tg] e pos.line X.env = pure false := by rfl) (hw : swappedStores [tg] e X.env = pure none := by rfl)
    (h1 : (assignEach [tg] X.env).map (·.2) = [assign tg X.env] := by rfl) : PDS X W (.Assign [tg] e pos) (sAsg t g) :=
  ⟨fun ρ A B l h => he.mo _ _ _ (fun d ρ' q => hg.mo _ _ _ _ l.nx q) h, PSimp (ps_asg he.pe hg.pg hs hw h1) fun D σ H h => by
    obtain ⟨F, ρ, R, h⟩ := h
    refine ⟨F, ρ, R, he.mo _ _ _ (fun d ρ' q F' H' v s R' r => ?_) h⟩
    exact ⟨F', ρ', d, R', r, hg.mo _ _ _ _ (fun ρ2 q2 F2 σ2 H2 s2 R2 _ => q2 F2 σ2 H2 (s.trans s2) R2) q⟩⟩
theorem pds_set {i : Nat} {x : Str} {e : Expr} {t : TEd} {pos' : Pos} (hN : X.N.Nodup) (hi : X.N[i]? = some x) (hx : Loc X.env.scope x) (he : PD X W e t) (hs : swapsWith e (some (.Name x pos')) pos.line X.env = pure false := by rfl) (hf : X.fn x = true ∨ X.env.scope.names.lookup x = some .local := by first | exact .inl rfl | exact .inr rfl | assumption) :
    PDS X W (.Assign [.Name x pos'] e pos) (sAsg t (gdName i)) :=
  ⟨fun ρ A B l h => he.mo _ _ _ (fun d ρ' q => l.nx _ q) h, PSimp (ps_set hN hi hx he.pe hs hf) fun D σ H h => by
    obtain ⟨F, ρ, R, h⟩ := h
    refine ⟨F, ρ, R, he.mo _ _ _ (fun d ρ' q F' H' v s R' r => ?_) h⟩
    exact q F' _ H' s (R'.set r)⟩
/-- a, b = x, y by local names -/
def sPar (i j : Nat) (t : TAd) : TSd := fun D ρ => t ρ fun ds ρ' => match ds with
  | [d, e] => D.nx ((ρ'.set i (.v d)).set j (.v e))
  | _ => False
theorem pds_par {i j : Nat} {x y : Str} {a b : Expr} {t : TAd} {px py pt : Pos} {kt k2 pt2} (hc : X.calm = true) (hN : X.N.Nodup) (hi : X.N[i]? = some x) (hj : X.N[j]? = some y) (hij : i ≠ j)
    (hx : X.env.scope.names.lookup x = some .local) (hy : X.env.scope.names.lookup y = some .local) (ha : PDs X W [a, b] t)
    (hw : swappedStores [.Tuple [.Name x px, .Name y py] kt pt] (.Tuple [a, b] k2 pt2) X.env = pure (some [x, y]))
    (hs : swapsWithSole [.Tuple [.Name x px, .Name y py] kt pt] (.Tuple [a, b] k2 pt2) pos.line X.env = pure false := by rfl) :
    PDS X W (.Assign [.Tuple [.Name x px, .Name y py] kt pt] (.Tuple [a, b] k2 pt2) pos) (sPar i j t) :=
  ⟨fun ρ A B l h => ha.mo _ _ _ (fun ds ρ' q => by
    rcases ds with _ | ⟨d, _ | ⟨e, _ | _⟩⟩ <;> first | exact q.elim | exact l.nx _ q) h, PSimp (ps_par hc hN hi hj hij hx hy ha.pa hw hs) fun D σ H h => by
    obtain ⟨F, ρ, R, h⟩ := h
    refine ⟨F, ρ, R, ha.mo _ _ _ (fun ds ρ' q F' H' vs s R' r => ?_) h⟩
    rcases ds with _ | ⟨d, _ | ⟨e, _ | _⟩⟩
    · exact q.elim
    · exact q.elim
    · cases r with
      | cons r1 r2 =>
        cases r2 with
        | cons r2 r3 =>
          cases r3
          exact ⟨_, _, rfl, q F' _ H' s ((R'.set r1).set r2)⟩
    · exact q.elim⟩
/-- x op= e -/
def sAug (i : Nat) (r : R2d) (t : TEd) : TSd := fun D ρ => match ρ[i]? with
  | some (.v x) => t ρ fun y ρ' => r x y fun z => D.nx (ρ'.set i (.v z))
  | _ => False
theorem pds_aug {i : Nat} {x : Str} {e : Expr} {t : TEd} {op : Operator} {r : R2d} {q : R2} {pos' : Pos} (o : OpD X.K r q) (ho : OpR X (inplaceOp op) q) (hN : X.N.Nodup) (hi : X.N[i]? = some x) (hx : Loc X.env.scope x) (he : PD X W e t) (hp : PIp X op q) (hf : X.fn x = true ∨ X.env.scope.names.lookup x = some .local := by first | exact .inl rfl | exact .inr rfl | assumption) :
    PDS X W (.AugAssign (.Name x pos') op e pos) (sAug i r t) :=
  ⟨fun ρ A B l h => by
    unfold sAug at h ⊢
    split at h
    · exact he.mo _ _ _ (fun y ρ' h => o.mr _ _ _ _ (fun z h => l.nx _ h) h) h
    · exact h.elim, PSimp (ps_aug hN hi hx he.pe hp hf) fun D σ H h => by
    obtain ⟨F, ρ, R, h⟩ := h
    unfold sAug at h
    split at h
    · rename_i d hd
      have hl : i < σ.length := by rw [← R.len]; exact (List.getElem?_eq_some_iff.mp hd).1
      have hs := List.getElem?_eq_getElem hl
      obtain ⟨v, e1, r1⟩ := R.ok i _ _ hd hs
      refine ⟨v, by rw [hs, e1], F, ρ, R, he.mo _ _ _ (fun y ρ' h F' H' vy s R' ry => ?_) h⟩
      exact o.ok v vy F' H' d y _ _ R'.core.fh (r1.mn s) ry h fun z F2 H2 v2 ex rz h => h F2 _ H2 (s.trans ex.ff) ((R'.ext ex).set rz)
    · exact h.elim⟩
/-! ### while -/
def sWhile0 (c : TTd) (tb : TSd) : TSd := fun D ρ => ∃ I : Nat → En → Prop, (∃ m, I m ρ) ∧ ∀ m ρ', I m ρ' →
  c ρ' fun b ρ2 => if b = true then tb { D with nx := fun ρ3 => ∃ m', m' < m ∧ I m' ρ3, ct := fun ρ3 => ∃ m', m' < m ∧ I m' ρ3, bk := D.nx } ρ2 else D.nx ρ2
theorem pds_while {c : Expr} {body : List Stmt} {tc : TTd} {tb : TSd} (hp : PassesOwn (model X.prog X.w) X.A X.env X.xe) (hc : PDT X W c tc) (hb : PDB X W body tb) : PDS X W (.While c body [] pos) (sWhile0 tc tb) :=
  ⟨fun ρ A B l ⟨I, h0, h⟩ => ⟨I, h0, fun m ρ' i => hc.mo _ _ _ (fun k ρ2 q => by
    cases k with
    | true => exact iteT (hb.mo _ { A with nx := fun ρ3 => ∃ m', m' < m ∧ I m' ρ3, ct := fun ρ3 => ∃ m', m' < m ∧ I m' ρ3, bk := A.nx } { B with nx := fun ρ3 => ∃ m', m' < m ∧ I m' ρ3, ct := fun ρ3 => ∃ m', m' < m ∧ I m' ρ3, bk := B.nx } ⟨fun _ q => q, l.rt, l.nx, fun _ q => q⟩ ((if_pos rfl).mp q))
    | false => exact iteF (l.nx _ ((if_neg Bool.false_ne_true).mp q))) (h m ρ' i)⟩, PSimp (ps_while hp hc.pt hb.ps) fun D σ H h => by
    obtain ⟨F, ρ, R, I, ⟨m0, h0⟩, h⟩ := h
    refine ⟨fun m σ' H' => ∃ F' ρ', Sub F F' ∧ Rel X.K W F' ρ' σ' H' ∧ I m ρ', ⟨m0, F, ρ, .refl F, R, h0⟩, ?_⟩
    rintro m σ' H' ⟨F', ρ', s', R', i⟩
    refine ⟨F', ρ', R', hc.mo _ _ _ (fun k ρ2 q F2 H2 s2 R2 => ?_) (h m ρ' i)⟩
    cases k with
    | true =>
      refine iteT ⟨fun σ3 H3 => ∃ F3 ρ3 m', m' < m ∧ Sub F F3 ∧ Rel X.K W F3 ρ3 σ3 H3 ∧ I m' ρ3, ?_, ?_⟩
      · rintro σ3 H3 ⟨F3, ρ3, m', hm, s3, R3, i3⟩
        exact ⟨m', hm, F3, ρ3, s3, R3, i3⟩
      · refine ⟨F2, ρ2, R2, hb.mo _ _ _ ⟨?_, ?_, ?_, ?_⟩ ((if_pos rfl).mp q)⟩
        · rintro ρ3 ⟨m', hm, i3⟩ F3 σ3 H3 s3 R3
          exact ⟨F3, ρ3, m', hm, (s'.trans s2).trans s3, R3, i3⟩
        · intro d q3 F3 ρ3 σ3 H3 v s3 R3 r3
          exact q3 F3 ρ3 σ3 H3 v ((s'.trans s2).trans s3) R3 r3
        · intro ρ3 q3 F3 σ3 H3 s3 R3
          exact q3 F3 σ3 H3 ((s'.trans s2).trans s3) R3
        · rintro ρ3 ⟨m', hm, i3⟩ F3 σ3 H3 s3 R3
          exact ⟨F3, ρ3, m', hm, (s'.trans s2).trans s3, R3, i3⟩
    | false => exact iteF (((if_neg Bool.false_ne_true).mp q) F2 σ' H2 (s'.trans s2) R2)⟩
/-! ### what is walked -/
/-- J yields things for ds, from F0 on -/
structure ItOk (K : Frag) (J : It) (ds : List D) (F0 : Hp) : Prop where
  stop : ∀ (i : Nat) F H, i = ds.length → Sub F0 F → Sub F H → J.stop i H
  go : ∀ (i : Nat) F H, i < ds.length → Sub F0 F → Sub F H → J.go i H
  yld : ∀ (i : Nat) F H x H' d, ds[i]? = some d → Sub F0 F → Sub F H → J.yld i H x H' → ∃ F', Ext F H F' H' ∧ Rp K F' x d
def liftI (K : Frag) (W : Wd) (t : TAd) : TI := fun σ H R => ∃ F ρ, Rel K W F ρ σ H ∧ t ρ fun ds ρ' => ∀ F' H' J, Sub F F' → Rel K W F' ρ' σ H' → ItOk K J ds F' → R J H'
structure PDI (X : Cx) (W : Wd) (tg iter : Expr) (t : TAd) : Prop where
  mo : Mo t
  pi : PI X tg iter (liftI X.K W t)
theorem PIimp {X : Cx} {tg e : Expr} {t t' : TI} (h : PI X tg e t) (i : ∀ σ H Q, t' σ H Q → t σ H Q) : PI X tg e t' := ⟨fun pins s σ H Q I q => h.run pins s σ H Q I (i σ H Q q)⟩
def sFor0 (ti : TAd) (g : TGd) (tb : TSd) : TSd := fun D ρ => ti ρ fun ds ρ1 => ∃ I : Nat → En → Prop, I 0 ρ1 ∧
  (∀ i d ρ', ds[i]? = some d → I i ρ' → g d ρ' fun ρ2 => tb { D with nx := I (i + 1), ct := I (i + 1), bk := D.nx } ρ2) ∧ ∀ ρ', I ds.length ρ' → D.nx ρ'
theorem pds_for {tg iter : Expr} {body : List Stmt} {ti : TAd} {g : TGd} {tb : TSd} {ws : List Nat} (hp : PassesOwn (model X.prog X.w) X.A X.env X.xe) (hc : X.calm = true) (hi : PDI X W tg iter ti) (hg : PDG X W tg ws g) (hb : PDB X W body tb)
    (hs : ∀ x, foldedSetIterable iter X.env x = pure x := by intro _; rfl) : PDS X W (.For tg iter body [] pos) (sFor0 ti g tb) :=
  ⟨fun ρ A B l h => hi.mo _ _ _ (fun ds ρ1 ⟨I, h0, h1, h2⟩ => ⟨I, h0, fun i d ρ' e q => hg.mo _ _ _ _ (fun ρ2 q2 => hb.mo _ { A with nx := I (i + 1), ct := I (i + 1), bk := A.nx } { B with nx := I (i + 1), ct := I (i + 1), bk := B.nx } ⟨fun _ q => q, l.rt, l.nx, fun _ q => q⟩ q2) (h1 i d ρ' e q), fun ρ' q => l.nx _ (h2 ρ' q)⟩) h,
    PSimp (ps_for hp hc hi.pi hg.pg hb.ps hs) fun D σ H h => by
    obtain ⟨F, ρ, R, h⟩ := h
    refine ⟨F, ρ, R, hi.mo _ _ _ (fun ds ρ1 ⟨I, h0, h1, h2⟩ F1 H1 J s1 R1 iok => ?_) h⟩
    refine ⟨fun i m σ' H' => m = ds.length - i ∧ i ≤ ds.length ∧ ∃ F' ρ', Sub F1 F' ∧ Rel X.K W F' ρ' σ' H' ∧ I i ρ', ⟨ds.length, by simp, Nat.zero_le _, F1, ρ1, .refl F1, R1, h0⟩, ?_⟩
    rintro i m σ' H' ⟨rfl, hle, F', ρ', s', R', q⟩
    by_cases hlt : i < ds.length
    · obtain ⟨d, hd⟩ : ∃ d, ds[i]? = some d := ⟨_, List.getElem?_eq_getElem hlt⟩
      refine .inr ⟨iok.go i F' H' hlt s' R'.core.fh, fun σ3 H3 => ∃ F3 ρ3, Sub F1 F3 ∧ Rel X.K W F3 ρ3 σ3 H3 ∧ I (i + 1) ρ3, ?_, fun x H2 y => ?_⟩
      · rintro σ3 H3 ⟨F3, ρ3, s3, R3, q3⟩
        exact ⟨ds.length - (i + 1), by omega, rfl, hlt, F3, ρ3, s3, R3, q3⟩
      · obtain ⟨F2, ex, r⟩ := iok.yld i F' H' x H2 d hd s' R'.core.fh y
        have R2 := R'.ext ex
        have s12 := s'.trans ex.ff
        refine ⟨F2, ρ', d, R2, r, hg.mo _ _ _ _ (fun ρ2 q2 F4 σ4 H4 s4 R4 _ => ?_) (h1 i d ρ' hd q)⟩
        refine ⟨F4, ρ2, R4, hb.mo _ _ _ ⟨?_, ?_, ?_, ?_⟩ q2⟩
        · intro ρ3 q3 F3 σ3 H3 s3 R3
          exact ⟨F3, ρ3, (s12.trans s4).trans s3, R3, q3⟩
        · intro d' q3 F3 ρ3 σ3 H3 v s3 R3 r3
          exact q3 F3 ρ3 σ3 H3 v (s1.trans ((s12.trans s4).trans s3)) R3 r3
        · intro ρ3 q3 F3 σ3 H3 s3 R3
          exact q3 F3 σ3 H3 (s1.trans ((s12.trans s4).trans s3)) R3
        · intro ρ3 q3 F3 σ3 H3 s3 R3
          exact ⟨F3, ρ3, (s12.trans s4).trans s3, R3, q3⟩
    · have e : i = ds.length := by omega
      exact .inl ⟨iok.stop i F' H' e s' R'.core.fh, h2 ρ' (e ▸ q) F' σ' H' (s1.trans s') R'⟩⟩
/-- a list, a tuple walked -/
def seqD : D → Option (List D)
  | .list ds => some ds
  | .tuple ds => some ds
  | _ => none
def dSeq (t : TEd) : TAd := fun ρ Q => t ρ fun d ρ' => match d with
  | .list ds => Q ds ρ'
  | _ => False
def dSeqT (t : TEd) : TAd := fun ρ Q => t ρ fun d ρ' => match d with
  | .tuple ds => Q ds ρ'
  | _ => False
theorem Mo.seq {t : TEd} (h : Mo t) : Mo (dSeq t) := fun ρ Q Q' k q => h _ _ _ (fun d ρ' q => by cases d <;> first | exact q.elim | exact k _ _ q) q
theorem Mo.seqT {t : TEd} (h : Mo t) : Mo (dSeqT t) := fun ρ Q Q' k q => h _ _ _ (fun d ρ' q => by cases d <;> first | exact q.elim | exact k _ _ q) q
theorem pdi_list {tg e : Expr} {t : TEd} (he : PD X W e t) : PDI X W tg e (dSeq t) :=
  ⟨.seq he.mo, PIimp (pi_list he.pe) fun σ H Q h => by
    obtain ⟨F, ρ, R, h⟩ := h
    refine ⟨F, ρ, R, he.mo _ _ _ (fun d ρ' q F' H' v s R' r => ?_) h⟩
    cases d with
    | list ds =>
      cases r with
      | @lst a xs _ h1 h2 =>
        refine ⟨a, rfl, ⟨xs, .of (R'.core.fh _ _ h1)⟩, q F' H' _ s R' ⟨?_, ?_, ?_⟩⟩
        · intro i F2 H2 hi s2 f2
          exact ⟨xs, .of ((s2.trans f2) _ _ h1), by rw [h2.length]; omega⟩
        · intro i F2 H2 hi s2 f2
          have : i < xs.length := by rw [h2.length]; exact hi
          exact ⟨xs, xs[i], .of ((s2.trans f2) _ _ h1), by simp [this]⟩
        · rintro i F2 H2 x H3 d hd s2 f2 ⟨rfl, y⟩
          obtain ⟨v, hv, rv⟩ := h2.get hd
          have := y xs (SqL.of ((s2.trans f2) _ _ h1))
          rw [hv] at this; cases this
          exact ⟨F2, Ext.refl f2, rv.mn s2⟩
    | _ => exact q.elim⟩
theorem pdi_tup {tg e : Expr} {t : TEd} (he : PD X W e t) : PDI X W tg e (dSeqT t) :=
  ⟨.seqT he.mo, PIimp (pi_tup he.pe) fun σ H Q h => by
    obtain ⟨F, ρ, R, h⟩ := h
    refine ⟨F, ρ, R, he.mo _ _ _ (fun d ρ' q F' H' v s R' r => ?_) h⟩
    cases d with
    | tuple ds =>
      cases r with
      | @tup a xs _ h1 h2 =>
        refine ⟨a, rfl, ⟨xs, sqT_mono R'.core.fh h1⟩, q F' H' _ s R' ⟨?_, ?_, ?_⟩⟩
        · intro i F2 H2 hi s2 f2
          exact ⟨xs, sqT_mono (s2.trans f2) h1, by rw [h2.length]; omega⟩
        · intro i F2 H2 hi s2 f2
          have : i < xs.length := by rw [h2.length]; exact hi
          exact ⟨xs, xs[i], sqT_mono (s2.trans f2) h1, by simp [this]⟩
        · rintro i F2 H2 x H3 d hd s2 f2 ⟨rfl, y⟩
          obtain ⟨v, hv, rv⟩ := h2.get hd
          have := y xs (sqT_mono (s2.trans f2) h1)
          rw [hv] at this; cases this
          exact ⟨F2, Ext.refl f2, rv.mn s2⟩
    | _ => exact q.elim⟩
/-- lo, lo + 1, .. below hi -/
def rng (lo hi : Int) : List D := (List.range (hi - lo).toNat).map fun k => .int (lo + (k : Nat))
def dRng1 (t : TAd) : TAd := fun ρ Q => t ρ fun ds ρ' => match ds with
  | [.int j] => (-(2 ^ 62) ≤ j ∧ j < 2 ^ 62) ∧ Q (rng 0 j) ρ'
  | _ => False
def dRng2 (t : TAd) : TAd := fun ρ Q => t ρ fun ds ρ' => match ds with
  | [.int i, .int j] => (-(2 ^ 62) ≤ i ∧ i < 2 ^ 62 ∧ -(2 ^ 62) ≤ j ∧ j < 2 ^ 62) ∧ Q (rng i j) ρ'
  | _ => False
theorem itOk_rng {K : Frag} {lo : Int} {n : Nat} {F0 : Hp} : ItOk K (Itr lo n) ((List.range n).map fun k => PyData.int (lo + (k : Nat))) F0 := by
  refine ⟨fun i F H hi _ _ => ?_, fun i F H hi _ _ => ?_, fun i F H x H' d hd _ f y => ?_⟩
  · show n ≤ i
    simp at hi; omega
  · show i < n
    simpa using hi
  · obtain ⟨rfl, rfl⟩ := y
    rw [List.getElem?_map] at hd
    cases e : (List.range n)[i]? with
    | none => rw [e] at hd; cases hd
    | some k =>
      rw [e] at hd
      have hk : k = i := by
        have := List.getElem?_eq_some_iff.mp e
        obtain ⟨h1, h2⟩ := this
        simpa using h2.symm
      subst hk
      cases hd
      exact ⟨F, Ext.refl f, .int _⟩
theorem Mo.rng1 {t : TAd} (h : Mo t) : Mo (dRng1 t) := fun ρ Q Q' k q => h _ _ _ (fun ds ρ' q => by
  unfold dRng1 at *
  split at q
  · exact ⟨q.1, k _ _ q.2⟩
  · exact q.elim) q
theorem Mo.rng2 {t : TAd} (h : Mo t) : Mo (dRng2 t) := fun ρ Q Q' k q => h _ _ _ (fun ds ρ' q => by
  unfold dRng2 at *
  split at q
  · exact ⟨q.1, k _ _ q.2⟩
  · exact q.elim) q
theorem pdi_rng1 {tg a : Expr} {t : TAd} {p pos : Pos} (hg : Gl X "range") (hm : X.mg "range" = none) (ha : PDs X W [a] t) (hs : starEach [a] X.env = [(false, eval a X.env)] := by rfl) : PDI X W tg (.Call (.Name "range" p) [a] [] pos) (dRng1 t) :=
  ⟨.rng1 ha.mo, PIimp (pi_range1 hg hm ha.pa hs) fun σ H Q h => by
    obtain ⟨F, ρ, R, h⟩ := h
    refine ⟨F, ρ, R, ha.mo _ _ _ (fun ds ρ' q F' H' vs s R' r => ?_) h⟩
    split at q
    · rename_i j
      cases r with
      | cons r1 r2 =>
        cases r1; cases r2
        refine ⟨j, rfl, q.1.1, q.1.2, q.2 F' H' _ s R' ?_⟩
        have := itOk_rng (K := X.K) (lo := 0) (n := j.toNat) (F0 := F')
        unfold rng
        rw [Int.sub_zero]
        exact this
    · exact q.elim⟩
theorem pdi_rng2 {tg a b : Expr} {t : TAd} {p pos : Pos} (hg : Gl X "range") (hm : X.mg "range" = none) (ha : PDs X W [a, b] t) (hs : starEach [a, b] X.env = [(false, eval a X.env), (false, eval b X.env)] := by rfl) (hs2 : starEach [b] X.env = [(false, eval b X.env)] := by rfl) : PDI X W tg (.Call (.Name "range" p) [a, b] [] pos) (dRng2 t) :=
  ⟨.rng2 ha.mo, PIimp (pi_range2 hg hm ha.pa hs hs2) fun σ H Q h => by
    obtain ⟨F, ρ, R, h⟩ := h
    refine ⟨F, ρ, R, ha.mo _ _ _ (fun ds ρ' q F' H' vs s R' r => ?_) h⟩
    split at q
    · rename_i i j
      cases r with
      | cons r1 r2 =>
        cases r2 with
        | cons r2 r3 =>
          cases r1; cases r2; cases r3
          exact ⟨i, j, rfl, q.1, q.2 F' H' _ s R' itOk_rng⟩
    · exact q.elim⟩
end
end KD
namespace KD
open PySem PySem.Spec PyProof.Rows L2
section
variable {K : Frag} {W : Wd} {F F' H H' : Hp} {ρ : List Bd} {σ : St}
theorem Ext.add {p : Addr} {o : HO} (s : Sub F H) (hp : H p = none) : Ext F H F (upd H p o) :=
  ⟨.refl F, fun a u e => by rw [upd_ne (ne_of_none (s a u e) hp)]; exact s a u e, fun a u e n => ⟨by rw [upd_ne (ne_of_none e hp)]; exact e, n⟩⟩
theorem Rel.own_at (R : Rel K W F ρ σ H) {j : Nat} {b : Bd} {p : Addr} (h1 : ρ[j]? = some b) (ho : b.isOwn = true) (h2 : σ[j]? = some (some (.ref p))) : ∃ o, H p = some o ∧ Mut (some o) ∧ F p = none := by
  have s := R.ok j b _ h1 h2
  cases b with
  | un => cases ho
  | v d => cases ho
  | own ds => obtain ⟨a, vs, e, h, _, hf⟩ := s; cases e; exact ⟨_, h, trivial, hf⟩
  | dic ds => obtain ⟨a, vs, e, h, _, hf⟩ := s; cases e; exact ⟨_, h, trivial, hf⟩
  | bx => obtain ⟨a, e, ⟨_, _, _, h, _⟩, hf⟩ := s; cases e; exact ⟨_, h, trivial, hf⟩
theorem Rel.fresh (R : Rel K W F ρ σ H) {p : Addr} (hp : H p = none) : Free W ρ σ p := by
  refine ⟨?_, fun z => ?_, fun j b h1 ho h2 => ?_⟩
  · cases e : W.G p with
    | none => rfl
    | some o => obtain ⟨_, ⟨u, q⟩, _⟩ := R.core.prot p o e; rw [hp] at q; cases q
  · obtain ⟨⟨⟨_, _, _, q, _⟩, _⟩, _⟩ := R.core.bx p z
    rw [hp] at q; cases q
  · obtain ⟨o, q, _⟩ := R.own_at h1 ho h2
    rw [hp] at q; cases q
/-- a free thing is frozen -/
theorem Rel.frz1 (R : Rel K W F ρ σ H) {p : Addr} {o : HO} (hp : H p = some o) (hf : F p = none) (fr : Free W ρ σ p) : Rel K W (upd F p o) ρ σ H := by
  have sf : Sub F (upd F p o) := Sub.upd hf
  refine ⟨⟨R.core.f0.trans sf, fun b u e => ?_, fun b u e => ?_, R.core.tabs, fun b z => ?_⟩, R.len, fun j b v e1 e2 => ?_, R.apart⟩
  · by_cases hb : b = p
    · subst hb; rw [upd_same] at e; cases e; exact hp
    · rw [upd_ne hb] at e; exact R.core.fh b u e
  · obtain ⟨q1, q2⟩ := R.core.prot b u e
    have hb : b ≠ p := fun z => by subst z; rw [fr.1] at e; cases e
    exact ⟨by rw [upd_ne hb]; exact q1, q2⟩
  · obtain ⟨⟨⟨r, ns, k, q1, q2, q3⟩, q4⟩, q5⟩ := R.core.bx b z
    have hb : b ≠ p := fun y => fr.2.1 (y ▸ z)
    exact ⟨⟨⟨r, ns, k, q1, sf _ _ q2, q3⟩, by rw [upd_ne hb]; exact q4⟩, q5⟩
  · have s := R.ok j b v e1 e2
    have nea : ∀ a', b.isOwn = true → v = some (.ref a') → a' ≠ p := fun a' eo ea z => by
      subst ea; subst z
      exact fr.2.2 j b e1 eo e2
    cases b with
    | un => trivial
    | v d => obtain ⟨v, rfl, r⟩ := s; exact ⟨v, rfl, r.mn sf⟩
    | own ds => obtain ⟨a', vs', rfl, q1, q2, q3⟩ := s; exact ⟨a', vs', rfl, q1, q2.mn sf, by rw [upd_ne (nea a' rfl rfl)]; exact q3⟩
    | dic es => obtain ⟨a', vs', rfl, q1, q2, q3⟩ := s; exact ⟨a', vs', rfl, q1, q2.mn sf, by rw [upd_ne (nea a' rfl rfl)]; exact q3⟩
    | bx =>
      obtain ⟨a', rfl, ⟨r, ns, k, q1, q2, q3⟩, q4⟩ := s
      exact ⟨a', rfl, ⟨r, ns, k, q1, sf _ _ q2, q3⟩, by rw [upd_ne (nea a' rfl rfl)]; exact q4⟩
theorem tabs_write {T : List (Addr × Str)} {p : Addr} {o : HO} (t : LamX.Tabs T H) (hm : Mut (H p)) (hne : ∀ φ, H p ≠ some (.ext φ)) : LamX.Tabs T (upd H p o) := fun q hq => by
  obtain ⟨ps, h1, h2, h3⟩ := t q hq
  have n1 : q.1 ≠ p := fun z => by rw [← z, h1] at hm; exact hm
  refine ⟨ps, by rw [upd_ne n1]; exact h1, h2, fun pos cv hc => ?_⟩
  obtain ⟨c, e1, e2⟩ := h3 pos cv hc
  have n2 : c ≠ p := fun z => by rw [← z] at hne; exact hne _ e2
  exact ⟨c, e1, by rw [upd_ne n2]; exact e2⟩
/-- a free thing is written -/
theorem Rel.wrFree (R : Rel K W F ρ σ H) {p : Addr} {o : HO} (hm : Mut (H p)) (hne : ∀ φ, H p ≠ some (.ext φ)) (hf : F p = none) (fr : Free W ρ σ p) : Rel K W F ρ σ (upd H p o) := by
  refine ⟨⟨R.core.f0, fun b u e => ?_, fun b u e => ?_, tabs_write R.core.tabs hm hne, fun b z => ?_⟩, R.len, fun j b v e1 e2 => ?_, R.apart⟩
  · have hb : b ≠ p := fun z => by subst z; rw [hf] at e; cases e
    rw [upd_ne hb]; exact R.core.fh b u e
  · obtain ⟨q1, q2, q3⟩ := R.core.prot b u e
    have hb : b ≠ p := fun z => by subst z; rw [fr.1] at e; cases e
    exact ⟨q1, by rw [upd_ne hb]; exact q2, by rw [upd_ne hb]; exact q3⟩
  · obtain ⟨⟨⟨r, ns, k, q1, q2, q3⟩, q4⟩, q5⟩ := R.core.bx b z
    have hb : b ≠ p := fun y => fr.2.1 (y ▸ z)
    exact ⟨⟨⟨r, ns, k, by rw [upd_ne hb]; exact q1, q2, q3⟩, q4⟩, q5⟩
  · have s := R.ok j b v e1 e2
    have nea : ∀ a', b.isOwn = true → v = some (.ref a') → a' ≠ p := fun a' eo ea z => by
      subst ea; subst z
      exact fr.2.2 j b e1 eo e2
    cases b with
    | un => trivial
    | v d => exact s
    | own ds => obtain ⟨a', vs', rfl, q1, q2, q3⟩ := s; exact ⟨a', vs', rfl, by rw [upd_ne (nea a' rfl rfl)]; exact q1, q2, q3⟩
    | dic es => obtain ⟨a', vs', rfl, q1, q2, q3⟩ := s; exact ⟨a', vs', rfl, by rw [upd_ne (nea a' rfl rfl)]; exact q1, q2, q3⟩
    | bx =>
      obtain ⟨a', rfl, ⟨r, ns, k, q1, q2, q3⟩, q4⟩ := s
      exact ⟨a', rfl, ⟨r, ns, k, by rw [upd_ne (nea a' rfl rfl)]; exact q1, q2, q3⟩, q4⟩
/-- an owned thing is written -/
theorem Rel.wrOwn (R : Rel K W F ρ σ H) {i : Nat} {b b' : Bd} {p : Addr} {o : HO} (hi : ρ[i]? = some b) (ho : b.isOwn = true) (hs : σ[i]? = some (some (.ref p))) (ho' : b'.isOwn = true) (hnb : b.isBx = false) (hm : ∀ φ, H p ≠ some (.ext φ)) (ok' : SlotOk K F (upd H p o) b' (some (.ref p))) : Rel K W F (ρ.set i b') σ (upd H p o) := by
  obtain ⟨u, hp, hmu, hf⟩ := R.own_at hi ho hs
  obtain ⟨g, gB, ap⟩ := R.apart i b p hi ho hs
  have gB := gB hnb
  have hil : i < ρ.length := (List.getElem?_eq_some_iff.mp hi).1
  refine ⟨⟨R.core.f0, fun b u e => ?_, fun b u e => ?_, tabs_write R.core.tabs (by rw [hp]; exact hmu) hm, fun b z => ?_⟩, by rw [List.length_set]; exact R.len, fun j c v e1 e2 => ?_, fun j c a e1 e2 e3 => ?_⟩
  · have hb : b ≠ p := fun z => by subst z; rw [hf] at e; cases e
    rw [upd_ne hb]; exact R.core.fh b u e
  · obtain ⟨q1, q2, q3⟩ := R.core.prot b u e
    have hb : b ≠ p := fun z => by subst z; rw [g] at e; cases e
    exact ⟨q1, by rw [upd_ne hb]; exact q2, by rw [upd_ne hb]; exact q3⟩
  · obtain ⟨⟨⟨r, ns, k, q1, q2, q3⟩, q4⟩, q5⟩ := R.core.bx b z
    have hb : b ≠ p := fun y => gB (y ▸ z)
    exact ⟨⟨⟨r, ns, k, by rw [upd_ne hb]; exact q1, q2, q3⟩, q4⟩, q5⟩
  · by_cases hj : i = j
    · subst hj
      rw [List.getElem?_set_self hil] at e1
      cases e1
      rw [hs] at e2; cases e2
      exact ok'
    · rw [List.getElem?_set_ne hj] at e1
      have s := R.ok j c v e1 e2
      have nea : ∀ a', c.isOwn = true → v = some (.ref a') → a' ≠ p := fun a' eo ea z => by
        subst ea; subst z
        exact hj (ap j c e1 eo e2).symm
      cases c with
      | un => trivial
      | v d => exact s
      | own ds => obtain ⟨a', vs', rfl, q1, q2, q3⟩ := s; exact ⟨a', vs', rfl, by rw [upd_ne (nea a' rfl rfl)]; exact q1, q2, q3⟩
      | dic es => obtain ⟨a', vs', rfl, q1, q2, q3⟩ := s; exact ⟨a', vs', rfl, by rw [upd_ne (nea a' rfl rfl)]; exact q1, q2, q3⟩
      | bx =>
        obtain ⟨a', rfl, ⟨r, ns, k, q1, q2, q3⟩, q4⟩ := s
        exact ⟨a', rfl, ⟨r, ns, k, by rw [upd_ne (nea a' rfl rfl)]; exact q1, q2, q3⟩, q4⟩
  · by_cases hj : i = j
    · subst hj
      rw [List.getElem?_set_self hil] at e1
      cases e1
      rw [hs] at e3; cases e3
      refine ⟨g, fun _ => gB, fun j' c' f1 f2 f3 => ?_⟩
      by_cases hj' : i = j'
      · exact hj'.symm
      · rw [List.getElem?_set_ne hj'] at f1
        exact ap j' c' f1 f2 f3
    · rw [List.getElem?_set_ne hj] at e1
      obtain ⟨g', g2', k⟩ := R.apart j c a e1 e2 e3
      refine ⟨g', g2', fun j' c' f1 f2 f3 => ?_⟩
      by_cases hj' : i = j'
      · subst hj'
        rw [hs] at f3; cases f3
        exact absurd (ap j c e1 e2 e3) (fun z => hj z.symm)
      · rw [List.getElem?_set_ne hj'] at f1
        exact k j' c' f1 f2 f3
end
/-! ### fresh lists -/
def liftF (K : Frag) (W : Wd) (t : TAd) : TE := fun σ H Q => ∃ F ρ, Rel K W F ρ σ H ∧ t ρ fun ds ρ' => ∀ F' H' p vs, Sub F F' → Rel K W F' ρ' σ H' → H' p = some (.lst vs) → Rps K F' vs ds → F' p = none → Free W ρ' σ p → Q (.ref p) H'
structure PF (X : Cx) (W : Wd) (e : Expr) (t : TAd) : Prop where
  mo : Mo t
  pe : PE X e (liftF X.K W t)
def dF (t : TAd) : TEd := fun ρ Q => t ρ fun ds ρ' => Q (.list ds) ρ'
section
variable {X : Cx} {W : Wd} {pos : Pos}
theorem PF.pd {e : Expr} {t : TAd} (h : PF X W e t) : PD X W e (dF t) :=
  ⟨fun ρ Q Q' k q => h.mo _ _ _ (fun ds ρ' q => k _ _ q) q, PEimp h.pe fun σ H Q q => by
    obtain ⟨F, ρ, R, q⟩ := q
    refine ⟨F, ρ, R, h.mo _ _ _ (fun ds ρ' q F' H' p vs s R' hp hr hf fr => ?_) q⟩
    exact q _ H' _ (s.trans (Sub.upd hf)) (R'.frz1 hp hf fr) (rp_newL hf hr)⟩
theorem pf_lst {es : List Expr} {t : TAd} (h : PDs X W es t) (hl : Nat.ble es.length 1000 = true := by rfl) : PF X W (.List es pos) t :=
  ⟨h.mo, PEimp (pe_lst h.pa) fun σ H Q q => by
    obtain ⟨F, ρ, R, q⟩ := q
    refine ⟨F, ρ, R, h.mo _ _ _ (fun xs ρ1 q F1 H1 vs s1 R1 rs => ⟨by rw [rs.length]; exact few_ok (l := es) hl q.1, fun p hp => ?_⟩) (h.ln _ _ q)⟩
    have fr := R1.fresh hp
    exact q.2 F1 _ p vs s1 (R1.ext (Ext.add R1.core.fh hp)) upd_same rs (R1.core.fh.none hp) fr⟩
/-- name = a fresh list, from now on owned -/
def sSetF (i : Nat) (t : TAd) : TSd := fun D ρ => t ρ fun ds ρ' => D.nx (ρ'.set i (.own ds))
theorem setF_ok {i : Nat} {t : TAd} (hm : Mo t) {D : Ends} {σ : St} {H : Hp} (h : liftD X.K W (sSetF i t) D σ H) : tAsg (liftF X.K W t) (gName i) D σ H := by
  obtain ⟨F, ρ, R, h⟩ := h
  refine ⟨F, ρ, R, hm _ _ _ (fun ds ρ' q F' H' p vs s R' hp hr hf fr => ?_) h⟩
  exact q F' _ H' s (R'.setOwn rfl ⟨p, vs, rfl, hp, hr, hf⟩ fr)
theorem pds_setF {i : Nat} {x : Str} {e : Expr} {t : TAd} {pos' : Pos} (hN : X.N.Nodup) (hi : X.N[i]? = some x) (hx : Loc X.env.scope x) (he : PF X W e t) (hs : swapsWith e (some (.Name x pos')) pos.line X.env = pure false := by rfl) (hf : X.fn x = true ∨ X.env.scope.names.lookup x = some .local := by first | exact .inl rfl | exact .inr rfl | assumption) :
    PDS X W (.Assign [.Name x pos'] e pos) (sSetF i t) :=
  ⟨fun ρ A B l h => he.mo _ _ _ (fun d ρ' q => l.nx _ q) h, PSimp (ps_set hN hi hx he.pe hs hf) fun D σ H h => setF_ok he.mo h⟩
/-! ### own lists by their methods -/
def dApp (i : Nat) (te : TEd) : TEd := fun ρ Q => match ρ[i]? with
  | some (.own _) => te ρ fun y ρ' => match ρ'[i]? with
    | some (.own ds) => ds.length < sizeLine ∧ Q .none (ρ'.set i (.own (ds ++ [y])))
    | _ => False
  | _ => False
theorem Mo.app {i : Nat} {te : TEd} (h : Mo te) : Mo (dApp i te) := fun ρ Q Q' k q => by
  unfold dApp at q ⊢
  split at q
  · refine h _ _ _ (fun y ρ' q => ?_) q
    split at q
    · exact ⟨q.1, k _ _ q.2⟩
    · exact q.elim
  · exact q.elim
theorem Rel.ownL {K : Frag} {W : Wd} {F H : Hp} {ρ : En} {σ : St} (R : Rel K W F ρ σ H) {i : Nat} {ds : List D} (hi : ρ[i]? = some (.own ds)) : ∃ a vs, σ[i]? = some (some (.ref a)) ∧ H a = some (.lst vs) ∧ Rps K F vs ds ∧ F a = none := by
  have hl : i < σ.length := by rw [← R.len]; exact (List.getElem?_eq_some_iff.mp hi).1
  have ho := List.getElem?_eq_getElem hl
  obtain ⟨a, vs, e, h1, h2, h3⟩ := R.ok i _ _ hi ho
  exact ⟨a, vs, by rw [ho, e], h1, h2, h3⟩
theorem Rel.ownD {K : Frag} {W : Wd} {F H : Hp} {ρ : En} {σ : St} (R : Rel K W F ρ σ H) {i : Nat} {ds : List (D × D)} (hi : ρ[i]? = some (.dic ds)) : ∃ a vs, σ[i]? = some (some (.ref a)) ∧ H a = some (.dK vs) ∧ Rkv K F vs ds ∧ F a = none := by
  have hl : i < σ.length := by rw [← R.len]; exact (List.getElem?_eq_some_iff.mp hi).1
  have ho := List.getElem?_eq_getElem hl
  obtain ⟨a, vs, e, h1, h2, h3⟩ := R.ok i _ _ hi ho
  exact ⟨a, vs, by rw [ho, e], h1, h2, h3⟩
theorem pd_app {i : Nat} {x : Str} {e : Expr} {te : TEd} {p1 p2 p3 : Pos} (he : PD X W e te) (hline : (p2.endLine == p3.line) = true := by rfl)
    (hs : starEach [e] X.env = [(false, eval e X.env)] := by rfl)
    (hfew : ((backTo p3 (starEach [e] X.env)).all (fun x => !x.1) && (backToKw p3 (keywordEach [] X.env)).all (fun x => x.1.isSome)
      && decide ([e].length + ([] : List Keyword).length + (if ([] : List Keyword).isEmpty then 0 else 1) < 30)) = true := by rfl)
    (hbase : attributeBase (.Name x p1) "append" X.env (eval (.Name x p1) X.env) = eval (.Name x p1) X.env := by rfl)
    (hN : X.N[i]? = some x := by rfl) (hv : Vis X.env.scope x := by first | exact Or.inl rfl | exact Or.inr (Or.inl rfl) | exact Or.inr (Or.inr rfl)) (hd : (x == ("__debug__" : Str)) = false := by decide)
    (hcd : (x == ("__classdict__" : Str)) = false := by decide) : PD X W (.Call (.Attribute (.Name x p1) "append" p2) [e] [] p3) (dApp i te) :=
  ⟨.app he.mo, PEimp (pe_bm PySem.F.plainAttrs_list PySem.F.slot_list_append PySem.F.type_list_append mt_append (pv i hN hv hd hcd) (pa_cons he.pe pa_nil hs) hbase hfew hline hs) fun σ H Q h => by
    obtain ⟨F, ρ, R, h⟩ := h
    unfold dApp at h
    split at h
    · rename_i ds0 hd0
      obtain ⟨a, vs, ho, h1, h2, h3⟩ := R.ownL hd0
      refine ⟨.ref a, ho, .inl ⟨rfl, vs, .of h1⟩, F, ρ, R, he.mo _ _ _ (fun y ρ' q F' H' v s R' r => ?_) h⟩
      split at q
      · rename_i ds hd1
        obtain ⟨a', vs', ho', g1, g2, g3⟩ := R'.ownL hd1
        rw [ho] at ho'; cases ho'
        refine ⟨a, vs', v, rfl, rfl, g1, by rw [g2.length]; exact q.1, ?_⟩
        exact q.2 F' _ _ s (R'.wrOwn hd1 rfl ho rfl rfl (fun φ z => by rw [g1] at z; cases z) ⟨a, _, rfl, upd_same, g2.append (.one r), g3⟩) .non
      · exact q.elim
    · exact h.elim⟩
def dPop (i : Nat) : TEd := fun ρ Q => match ρ[i]? with
  | some (.own ds) => match ds.getLast? with
    | some d => Q d (ρ.set i (.own ds.dropLast))
    | none => False
  | _ => False
theorem Rps.dropLast {K : Frag} {F : Hp} {vs : List V} {ds : List D} (h : Rps K F vs ds) : Rps K F vs.dropLast ds.dropLast := by
  rw [List.dropLast_eq_take, List.dropLast_eq_take, h.length]
  exact h.take _
theorem Rps.eraseIdx {K : Frag} {F : Hp} : ∀ {vs : List V} {ds : List D} (k : Nat), Rps K F vs ds → Rps K F (vs.eraseIdx k) (ds.eraseIdx k)
  | _, _, _, .nil => .nil
  | _, _, 0, .cons _ t => t
  | _, _, k + 1, .cons r t => .cons r (Rps.eraseIdx k t)
theorem pd_pop {i : Nat} {x : Str} {p1 p2 p3 : Pos} (hline : (p2.endLine == p3.line) = true := by rfl)
    (hbase : attributeBase (.Name x p1) "pop" X.env (eval (.Name x p1) X.env) = eval (.Name x p1) X.env := by rfl)
    (hN : X.N[i]? = some x := by rfl) (hv : Vis X.env.scope x := by first | exact Or.inl rfl | exact Or.inr (Or.inl rfl) | exact Or.inr (Or.inr rfl)) (hd : (x == ("__debug__" : Str)) = false := by decide)
    (hcd : (x == ("__classdict__" : Str)) = false := by decide) : PD X W (.Call (.Attribute (.Name x p1) "pop" p2) [] [] p3) (dPop i) :=
  ⟨fun ρ Q Q' k q => by
    unfold dPop at q ⊢
    split at q
    · split at q
      · exact k _ _ q
      · exact q.elim
    · exact q.elim, PEimp (pe_bm0 PySem.F.plainAttrs_list PySem.F.slot_list_pop PySem.F.type_list_pop mt_pop (pv i hN hv hd hcd) hbase hline) fun σ H Q h => by
    obtain ⟨F, ρ, R, h⟩ := h
    unfold dPop at h
    split at h
    · rename_i ds hd0
      obtain ⟨a, vs, ho, h1, h2, h3⟩ := R.ownL hd0
      split at h
      · rename_i d hl
        rw [List.getLast?_eq_getElem?] at hl
        obtain ⟨y, hy, ry⟩ := h2.get hl
        refine ⟨.ref a, ho, .inl ⟨rfl, vs, .of h1⟩, a, vs, y, rfl, rfl, h1, by rw [h2.length]; exact hy, ?_⟩
        exact h F _ y (.refl F) (R.wrOwn hd0 rfl ho rfl rfl (fun φ z => by rw [h1] at z; cases z) ⟨a, _, rfl, upd_same, h2.dropLast, h3⟩) ry
      · exact h.elim
    · exact h.elim⟩
def dPopAt (i : Nat) (tk : TEd) : TEd := fun ρ Q => match ρ[i]? with
  | some (.own _) => tk ρ fun k ρ' => match k, ρ'[i]? with
    | .int j, some (.own ds) => (-(2 ^ 63) ≤ j ∧ j < 2 ^ 63) ∧ ∃ n d, seqIndex? j ds.length = some n ∧ ds[n]? = some d ∧ Q d (ρ'.set i (.own (ds.eraseIdx n)))
    | _, _ => False
  | _ => False
theorem pd_popAt {i : Nat} {x : Str} {e : Expr} {te : TEd} {p1 p2 p3 : Pos} (he : PD X W e te) (hline : (p2.endLine == p3.line) = true := by rfl)
    (hs : starEach [e] X.env = [(false, eval e X.env)] := by rfl)
    (hfew : ((backTo p3 (starEach [e] X.env)).all (fun x => !x.1) && (backToKw p3 (keywordEach [] X.env)).all (fun x => x.1.isSome)
      && decide ([e].length + ([] : List Keyword).length + (if ([] : List Keyword).isEmpty then 0 else 1) < 30)) = true := by rfl)
    (hbase : attributeBase (.Name x p1) "pop" X.env (eval (.Name x p1) X.env) = eval (.Name x p1) X.env := by rfl)
    (hN : X.N[i]? = some x := by rfl) (hv : Vis X.env.scope x := by first | exact Or.inl rfl | exact Or.inr (Or.inl rfl) | exact Or.inr (Or.inr rfl)) (hd : (x == ("__debug__" : Str)) = false := by decide)
    (hcd : (x == ("__classdict__" : Str)) = false := by decide) : PD X W (.Call (.Attribute (.Name x p1) "pop" p2) [e] [] p3) (dPopAt i te) :=
  ⟨fun ρ Q Q' k q => by
    unfold dPopAt at q ⊢
    split at q
    · refine he.mo _ _ _ (fun y ρ' q => ?_) q
      split at q
      · obtain ⟨q1, n, d, q2, q3, q4⟩ := q
        exact ⟨q1, n, d, q2, q3, k _ _ q4⟩
      · exact q.elim
    · exact q.elim, PEimp (pe_bm PySem.F.plainAttrs_list PySem.F.slot_list_pop PySem.F.type_list_pop mt_popAt (pv i hN hv hd hcd) (pa_cons he.pe pa_nil hs) hbase hfew hline hs) fun σ H Q h => by
    obtain ⟨F, ρ, R, h⟩ := h
    unfold dPopAt at h
    split at h
    · rename_i ds0 hd0
      obtain ⟨a, vs, ho, h1, h2, h3⟩ := R.ownL hd0
      refine ⟨.ref a, ho, .inl ⟨rfl, vs, .of h1⟩, F, ρ, R, he.mo _ _ _ (fun y ρ' q F' H' v s R' r => ?_) h⟩
      split at q
      · rename_i j ds hd1
        obtain ⟨a', vs', ho', g1, g2, g3⟩ := R'.ownL hd1
        rw [ho] at ho'; cases ho'
        obtain ⟨⟨b1, b2⟩, n, d, q2, q3, q4⟩ := q
        cases r
        obtain ⟨w, hw, rw'⟩ := g2.get q3
        refine ⟨a, vs', j, n, w, rfl, rfl, g1, b1, b2, by rw [g2.length]; exact q2, hw, ?_⟩
        exact q4 F' _ _ s (R'.wrOwn hd1 rfl ho rfl rfl (fun φ z => by rw [g1] at z; cases z) ⟨a, _, rfl, upd_same, g2.eraseIdx n, g3⟩) rw'
      · exact q.elim
    · exact h.elim⟩
/-- xs[k] = .. of an own list -/
def gdSet (i : Nat) (tk : TEd) : TGd := fun d ρ Q => match ρ[i]? with
  | some (.own _) => tk ρ fun k ρ' => match k, ρ'[i]? with
    | .int j, some (.own ds) => ∃ n, ixN ds.length j = some n ∧ Q (ρ'.set i (.own (ds.set n d)))
    | _, _ => False
  | _ => False
theorem pdg_set {i : Nat} {x : Str} {k : Expr} {tk : TEd} {p1 : Pos} (hk : PD X W k tk)
    (ha : ∀ v, assign (.Subscript (.Name x p1) k pos) X.env v = (do
      let ov ← holding [v] (eval (.Name x p1) X.env)
      let iv ← holding [v, ov] (eval k X.env)
      standAt pos
      holding [v, ov, iv] (setItem ov iv v)
      release [v, ov, iv] []) := by intro _; rfl)
    (hN : X.N[i]? = some x := by rfl) (hv : Vis X.env.scope x := by first | exact Or.inl rfl | exact Or.inr (Or.inl rfl) | exact Or.inr (Or.inr rfl)) (hd : (x == ("__debug__" : Str)) = false := by decide)
    (hcd : (x == ("__classdict__" : Str)) = false := by decide) : PDG X W (.Subscript (.Name x p1) k pos) [] (gdSet i tk) :=
  ⟨fun d ρ Q Q' kk q => by
    unfold gdSet at q ⊢
    split at q
    · refine hk.mo _ _ _ (fun y ρ' q => ?_) q
      split at q
      · obtain ⟨n, q1, q2⟩ := q
        exact ⟨n, q1, kk _ q2⟩
      · exact q.elim
    · exact q.elim, PGimp (pg_sub (pv i hN hv hd hcd) hk.pe set_list ha) fun v σ H Q h => by
    obtain ⟨F, ρ, d, R, r, h⟩ := h
    unfold gdSet at h
    split at h
    · rename_i ds0 hd0
      obtain ⟨a, vs, ho, h1, h2, h3⟩ := R.ownL hd0
      refine ⟨.ref a, ho, F, ρ, R, hk.mo _ _ _ (fun y ρ' q F' H' vk s R' rk => ?_) h⟩
      split at q
      · rename_i j ds hd1
        obtain ⟨a', vs', ho', g1, g2, g3⟩ := R'.ownL hd1
        rw [ho] at ho'; cases ho'
        obtain ⟨n, q1, q2⟩ := q
        cases rk
        refine ⟨a, vs', j, n, rfl, rfl, g1, by rw [g2.length]; exact q1, ?_⟩
        exact q2 F' _ _ s (R'.wrOwn hd1 rfl ho rfl rfl (fun φ z => by rw [g1] at z; cases z) ⟨a, _, rfl, upd_same, g2.set (r.mn s) n, g3⟩) (.refl _ _)
      · exact q.elim
    · exact h.elim⟩
end
end KD
namespace KD
open PySem PySem.Spec PyProof.Rows L2
/-! ### list comprehensions -/
def wipeE (ρ : En) : List Nat → En
  | [] => ρ
  | v :: vs => (wipeE ρ vs).set v .un
def mixE (ρ ρ4 : En) : List Nat → En
  | [] => ρ4
  | v :: vs => match ρ[v]? with
    | some b => (mixE ρ ρ4 vs).set v b
    | none => mixE ρ ρ4 vs
def plainE (ρ : En) (vs : List Nat) : Prop := (vs.all fun v => match ρ[v]? with
  | some b => !b.isOwn
  | none => true) = true
theorem plainE.get {ρ : En} {vs : List Nat} (h : plainE ρ vs) {v : Nat} {b : Bd} (hv : v ∈ vs) (hb : ρ[v]? = some b) : b.isOwn = false := by
  have q := List.all_eq_true.mp h v hv
  rw [hb] at q
  simpa using q
theorem wipeE_length (ρ : En) : ∀ vs : List Nat, (wipeE ρ vs).length = ρ.length
  | [] => rfl
  | v :: vs => by unfold wipeE; rw [List.length_set, wipeE_length ρ vs]
theorem wipeE_get {ρ : En} {i : Nat} {b : Bd} : ∀ {vs : List Nat}, (wipeE ρ vs)[i]? = some b → b = .un ∨ (i ∉ vs ∧ ρ[i]? = some b)
  | [], h => .inr ⟨by simp, h⟩
  | v :: vs, h => by
    unfold wipeE at h
    by_cases hi : v = i
    · subst hi
      by_cases hv : v < (wipeE ρ vs).length
      · rw [List.getElem?_set_self hv] at h; cases h; exact .inl rfl
      · rw [List.getElem?_eq_none (by simpa using hv)] at h; cases h
    · rw [List.getElem?_set_ne hi] at h
      rcases wipeE_get h with z | ⟨z1, z2⟩
      · exact .inl z
      · exact .inr ⟨by simp only [List.mem_cons, not_or]; exact ⟨fun e => hi e.symm, z1⟩, z2⟩
theorem mixE_length (ρ ρ4 : En) : ∀ vs : List Nat, (mixE ρ ρ4 vs).length = ρ4.length
  | [] => rfl
  | v :: vs => by
    unfold mixE
    split
    · rw [List.length_set, mixE_length ρ ρ4 vs]
    · exact mixE_length ρ ρ4 vs
theorem mixE_get {ρ ρ4 : En} {i : Nat} {b : Bd} (hl : ρ4.length = ρ.length) : ∀ {vs : List Nat}, (mixE ρ ρ4 vs)[i]? = some b → (i ∈ vs ∧ ρ[i]? = some b) ∨ (i ∉ vs ∧ ρ4[i]? = some b)
  | [], h => .inr ⟨by simp, h⟩
  | v :: vs, h => by
    unfold mixE at h
    by_cases hi : v = i
    · subst hi
      split at h
      · rename_i b' hb
        by_cases hv : v < (mixE ρ ρ4 vs).length
        · rw [List.getElem?_set_self hv] at h; cases h; exact .inl ⟨by simp, hb⟩
        · rw [List.getElem?_eq_none (by simpa using hv)] at h; cases h
      · rename_i hb
        have : (mixE ρ ρ4 vs)[v]? = none := List.getElem?_eq_none (by rw [mixE_length, hl]; exact List.getElem?_eq_none_iff.mp hb)
        rw [this] at h; cases h
    · have h' : (mixE ρ ρ4 vs)[i]? = some b := by
        split at h
        · rwa [List.getElem?_set_ne hi] at h
        · exact h
      rcases mixE_get hl h' with ⟨z1, z2⟩ | ⟨z1, z2⟩
      · exact .inl ⟨by simp [z1], z2⟩
      · exact .inr ⟨by simp only [List.mem_cons, not_or]; exact ⟨fun e => hi e.symm, z1⟩, z2⟩
theorem wipe_none {σ : L2.St} {i : Nat} : ∀ {vs : List Nat}, i ∈ vs → i < σ.length → (wipe σ vs)[i]? = some none
  | v :: vs, h, hl => by
    unfold wipe
    by_cases hi : v = i
    · subst hi
      rw [List.getElem?_set_self (by rw [wipe_length]; exact hl)]
    · rw [List.getElem?_set_ne hi]
      rcases List.mem_cons.mp h with z | z
      · exact absurd z.symm hi
      · exact wipe_none z hl
theorem wipe_agree {ws vs : List Nat} {σ σ' : L2.St} (a : Agree ws (wipe σ vs) σ') (h : ∀ j ∈ ws, j ∈ vs) : wipe σ' vs = wipe σ vs := by
  apply List.ext_getElem?
  intro j
  by_cases hj : j ∈ vs
  · by_cases hl : j < σ.length
    · rw [wipe_none hj hl, wipe_none hj (by rw [a.1, wipe_length]; exact hl)]
    · rw [List.getElem?_eq_none (by rw [wipe_length, a.1, wipe_length]; omega), List.getElem?_eq_none (by rw [wipe_length]; omega)]
  · rw [wipe_out hj, a.2 j fun z => hj (h j z)]
theorem Wd.add_tg (W : Wd) (p : Addr) (o : HO) : ∀ q ∈ W.T, ∃ u, upd W.G p o q.1 = some u := fun q hq => by
  by_cases h : q.1 = p
  · exact ⟨o, by rw [h]; exact upd_same⟩
  · rw [upd_ne h]
    exact W.tg q hq
def Wd.add (W : Wd) (p : Addr) (o : HO) : Wd := { W with G := upd W.G p o, tg := W.add_tg p o }
section
variable {K : Frag} {W : Wd} {F H : Hp} {ρ : En} {σ : L2.St}
theorem Rel.wiped (R : Rel K W F ρ σ H) {p : Addr} {o : HO} (hp : H p = some o) (hf : F p = none) (fr : Free W ρ σ p) (vs : List Nat) : Rel K (W.add p o) F (wipeE ρ vs) (wipe σ vs) H := by
  refine ⟨⟨R.core.f0, R.core.fh, fun b u e => ?_, R.core.tabs, fun b z => ⟨(R.core.bx b z).1, by
    have hb : b ≠ p := fun y => fr.2.1 (y ▸ z)
    show upd W.G p o b = none
    rw [upd_ne hb]; exact (R.core.bx b z).2⟩⟩, by rw [wipeE_length, wipe_length]; exact R.len, fun j b v e1 e2 => ?_, fun j b a e1 e2 e3 => ?_⟩
  · by_cases hb : b = p
    · subst hb
      have e' : upd W.G b o b = some u := e
      rw [upd_same] at e'; cases e'
      exact ⟨hf, ⟨_, hp⟩, fun _ => hp⟩
    · have e' : upd W.G p o b = some u := e
      rw [upd_ne hb] at e'
      exact R.core.prot b u e'
  · rcases wipeE_get e1 with z | ⟨z1, z2⟩
    · subst z; trivial
    · rw [wipe_out z1] at e2
      exact R.ok j b v z2 e2
  · rcases wipeE_get e1 with z | ⟨z1, z2⟩
    · subst z; cases e2
    · rw [wipe_out z1] at e3
      obtain ⟨g, g2, k⟩ := R.apart j b a z2 e2 e3
      refine ⟨?_, g2, fun j' b' f1 f2 f3 => ?_⟩
      · have hb : a ≠ p := fun z => by subst z; exact fr.2.2 j b z2 e2 e3
        show upd W.G p o a = none
        rw [upd_ne hb]; exact g
      · rcases wipeE_get f1 with z | ⟨y1, y2⟩
        · subst z; cases f2
        · rw [wipe_out y1] at f3
          exact k j' b' y2 f2 f3
/-- behind an element of a comprehension -/
theorem Rel.unwiped {F4 H4 : Hp} {ρ4 : En} {σ2 : L2.St} {vs : List Nat} {p : Addr} {o : HO} (R : Rel K W F ρ σ H) (R4 : Rel K (W.add p o) F4 ρ4 σ2 H4) (hpl : plainE ρ vs) (hs : wipe σ2 vs = wipe σ vs) (sF : Sub F F4) (hg : W.G p = none) :
    Rel K W F4 (mixE ρ ρ4 vs) σ H4 ∧ H4 p = some o ∨ (∃ ps, o = .tbl ps) := by
  by_cases ht : ∃ ps, o = .tbl ps
  · exact .inr ht
  refine .inl ?_
  have hl2 : σ2.length = σ.length := by
    have := congrArg List.length hs
    rwa [wipe_length, wipe_length] at this
  have hl4 : ρ4.length = ρ.length := by rw [R4.len, hl2, R.len]
  have so : ∀ j, j ∉ vs → σ2[j]? = σ[j]? := fun j hj => by
    have : (wipe σ2 vs)[j]? = (wipe σ vs)[j]? := by rw [hs]
    rwa [wipe_out hj, wipe_out hj] at this
  obtain ⟨p1, p2, p3⟩ := R4.core.prot p o (by show upd W.G p o p = some o; exact upd_same)
  have hp4 : H4 p = some o := p3 fun ps z => ht ⟨ps, z⟩
  refine ⟨⟨⟨R4.core.f0, R4.core.fh, fun b u e => ?_, R4.core.tabs, fun b z => ⟨(R4.core.bx b z).1, by
    have g' : upd W.G p o b = none := (R4.core.bx b z).2
    have hb : b ≠ p := fun y => by rw [y, upd_same] at g'; cases g'
    rwa [upd_ne hb] at g'⟩⟩, by rw [mixE_length, hl4]; exact R.len, fun j b v e1 e2 => ?_, fun j b a e1 e2 e3 => ?_⟩, hp4⟩
  · refine R4.core.prot b u ?_
    have hb : b ≠ p := fun z => by subst z; rw [hg] at e; cases e
    show upd W.G p o b = some u
    rw [upd_ne hb]; exact e
  · rcases mixE_get hl4 e1 with ⟨z1, z2⟩ | ⟨z1, z2⟩
    · have s := R.ok j b v z2 e2
      have np := hpl.get z1 z2
      cases b with
      | un => trivial
      | v d => obtain ⟨w, e, r⟩ := s; exact ⟨w, e, r.mn sF⟩
      | own _ => cases np
      | dic _ => cases np
      | bx => cases np
    · rw [← so j z1] at e2
      exact R4.ok j b v z2 e2
  · rcases mixE_get hl4 e1 with ⟨z1, z2⟩ | ⟨z1, z2⟩
    · rw [hpl.get z1 z2] at e2; cases e2
    · rw [← so j z1] at e3
      obtain ⟨g, g2, k⟩ := R4.apart j b a z2 e2 e3
      refine ⟨?_, g2, fun j' b' f1 f2 f3 => ?_⟩
      · have hb : a ≠ p := fun z => by subst z; rw [show (W.add a o).G a = some o from upd_same] at g; cases g
        have g' : upd W.G p o a = none := g
        rwa [upd_ne hb] at g'
      · rcases mixE_get hl4 f1 with ⟨y1, y2⟩ | ⟨y1, y2⟩
        · rw [hpl.get y1 y2] at f2; cases f2
        · rw [← so j' y1] at f3
          exact k j' b' y2 f2 f3
/-- p is still owned by no slot -/
theorem Rel.unwiped_free {F4 H4 : Hp} {ρ4 : En} {σ2 : L2.St} {vs : List Nat} {p : Addr} {o : HO} (R : Rel K W F ρ σ H) (R4 : Rel K (W.add p o) F4 ρ4 σ2 H4) (hpl : plainE ρ vs) (hs : wipe σ2 vs = wipe σ vs) (hg : W.G p = none) (hb : p ∉ W.B) : Free W (mixE ρ ρ4 vs) σ p := by
  have hl2 : σ2.length = σ.length := by
    have := congrArg List.length hs
    rwa [wipe_length, wipe_length] at this
  have hl4 : ρ4.length = ρ.length := by rw [R4.len, hl2, R.len]
  refine ⟨hg, hb, fun j b e1 e2 e3 => ?_⟩
  rcases mixE_get hl4 e1 with ⟨z1, z2⟩ | ⟨z1, z2⟩
  · rw [hpl.get z1 z2] at e2; cases e2
  · have so : σ2[j]? = σ[j]? := by
      have : (wipe σ2 vs)[j]? = (wipe σ vs)[j]? := by rw [hs]
      rwa [wipe_out z1, wipe_out z1] at this
    rw [← so] at e3
    have g := (R4.apart j b p z2 e2 e3).1
    rw [show (W.add p o).G p = some o from upd_same] at g; cases g
end
def dLc0 (ti : TAd) (g : TGd) (tt : TTd) (te : TEd) (vs : List Nat) : TAd := fun ρ Q => ti ρ fun ds ρ1 => ∃ I : Nat → List D → En → Prop, I 0 [] ρ1 ∧
  (∀ i d acc ρ', ds[i]? = some d → I i acc ρ' → plainE ρ' vs ∧ acc.length < sizeLine ∧ g d (wipeE ρ' vs) fun ρ2 => tt ρ2 fun b ρ3 =>
    if b = true then te ρ3 fun y ρ4 => I (i + 1) (acc ++ [y]) (mixE ρ' ρ4 vs) else I (i + 1) acc (mixE ρ' ρ3 vs)) ∧ ∀ acc ρ', I ds.length acc ρ' → Q acc ρ'
theorem Mo.lc {ti : TAd} {g : TGd} {tt : TTd} {te : TEd} {vs : List Nat} (h : Mo ti) : Mo (dLc0 ti g tt te vs) := fun ρ Q Q' k q => h _ _ _ (fun ds ρ1 ⟨I, h0, h1, h2⟩ => ⟨I, h0, h1, fun acc ρ' q => k _ _ (h2 acc ρ' q)⟩) q
structure PDTs (X : Cx) (W : Wd) (ifs : List Expr) (t : TTd) : Prop where
  mo : Mo t
  pt : PTs X ifs (liftT X.K W t)
def dYes : TTd := fun ρ Q => Q true ρ
section
variable {X : Cx} {W : Wd} {pos : Pos}
theorem PTsimp {X : Cx} {e : List Expr} {t t' : TT} (h : PTs X e t) (i : ∀ σ H Q, t' σ H Q → t σ H Q) : PTs X e t' := ⟨fun pins s σ H Q I q => h.run pins s σ H Q I (i σ H Q q)⟩
theorem pdts_nil : PDTs X W [] dYes := ⟨fun _ _ _ k q => k _ _ q, PTsimp pts_nil fun σ H Q h => by
  obtain ⟨F, ρ, R, h⟩ := h
  exact h F H (.refl F) R⟩
theorem pdts_one {c : Expr} {t : TTd} (h : PDT X W c t) : PDTs X W [c] t := ⟨h.mo, pts_one h.pt⟩
theorem lc_ok {ti : TAd} {g : TGd} {tt : TTd} {te : TEd} {vs ws : List Nat} {gH : TG} {ttH : TT} {teH : TE} {K : Frag} (hti : Mo ti) (hws : ∀ j ∈ ws, j ∈ vs)
    (hgm : MoG g) (htm : Mo tt) (hem : Mo te)
    {σ : L2.St} {H : Hp} {Q : VK}
    (hgH : ∀ W', W'.T = W.T → ∀ v σ H Q, liftG K W' ws g v σ H Q → gH v σ H Q) (htH : ∀ W', W'.T = W.T → ∀ σ H Q, liftT K W' tt σ H Q → ttH σ H Q) (heH : ∀ W', W'.T = W.T → ∀ σ H Q, lift K W' te σ H Q → teH σ H Q)
    (h : liftF K W (dLc0 ti g tt te vs) σ H Q) : tLc (liftI K W ti) gH ttH teH vs σ H Q := by
  obtain ⟨F, ρ, R, h⟩ := h
  refine ⟨F, ρ, R, hti _ _ _ (fun ds ρ1 ⟨I, h0, h1, h2⟩ F1 H1 J s1 R1 iok => ?_) h⟩
  intro p hp
  have hpf := R1.core.fh.none hp
  have R1' : Rel K W F1 ρ1 σ (upd H1 p (.lst [])) := R1.ext (Ext.add R1.core.fh hp)
  refine ⟨fun i m H' => m = ds.length - i ∧ i ≤ ds.length ∧ ∃ F' ρ' acc av, Sub F1 F' ∧ Rel K W F' ρ' σ H' ∧ H' p = some (.lst av) ∧ Rps K F' av acc ∧ F' p = none ∧ Free W ρ' σ p ∧ I i acc ρ',
    ⟨ds.length, by simp, Nat.zero_le _, F1, ρ1, [], [], .refl _, R1', upd_same, .nil, hpf, R1.fresh hp, h0⟩, ?_⟩
  rintro i m H' ⟨rfl, hle, F', ρ', acc, av, s', R', hp', ra, hpf', fr, q⟩
  by_cases hlt : i < ds.length
  · obtain ⟨d, hd⟩ : ∃ d, ds[i]? = some d := ⟨_, List.getElem?_eq_getElem hlt⟩
    refine .inr ⟨iok.go i F' H' hlt s' R'.core.fh, fun H3 => i + 1 ≤ ds.length ∧ ∃ F3 ρ3 acc av, Sub F1 F3 ∧ Rel K W F3 ρ3 σ H3 ∧ H3 p = some (.lst av) ∧ Rps K F3 av acc ∧ F3 p = none ∧ Free W ρ3 σ p ∧ I (i + 1) acc ρ3, ?_, fun x H2 y => ?_⟩
    · rintro H3 ⟨hle', rest⟩
      exact ⟨ds.length - (i + 1), by omega, rfl, hle', rest⟩
    · obtain ⟨F2, ex, r⟩ := iok.yld i F' H' x H2 d hd s' R'.core.fh y
      have R2 := R'.ext ex
      obtain ⟨hp2, hpf2⟩ := ex.keep p _ hp' hpf'
      obtain ⟨hpl, hlen, hg1⟩ := h1 i d acc ρ' hd q
      have Rw := R2.wiped hp2 hpf2 fr vs
      refine hgH (W.add p (.lst av)) rfl x _ _ _ ⟨F2, _, d, Rw, r, hgm _ _ _ _ (fun ρ2 q2 F3 σ3 H3 s3 R3 ag => ?_) hg1⟩
      have hw := wipe_agree ag hws
      refine ⟨hw, htH (W.add p (.lst av)) rfl _ _ _ ⟨F3, ρ2, R3, htm _ _ _ (fun b ρ3 q3 F4 H4 s4 R4 => ?_) q2⟩⟩
      have sT : Sub F' F4 := (ex.ff.trans s3).trans s4
      cases b with
      | false =>
        refine iteF ?_
        have q3' := (if_neg Bool.false_ne_true).mp q3
        have sF := (s3.trans s4)
        rcases R2.unwiped R4 hpl hw sF fr.1 with ⟨Ru, hpu⟩ | ⟨ps, z⟩
        · exact ⟨hlt, F4, _, acc, av, s'.trans sT, Ru, hpu, ra.mn sT, (R4.core.prot p _ (by show upd W.G p _ p = some _; exact upd_same)).1, R2.unwiped_free R4 hpl hw fr.1 fr.2.1, q3'⟩
        · cases z
      | true =>
        refine iteT (heH (W.add p (.lst av)) rfl _ _ _ ⟨F4, ρ3, R4, hem _ _ _ (fun y ρ4 q4 F5 H5 v s5 R5 ry => ?_) ((if_pos rfl).mp q3)⟩)
        have sF := (s3.trans s4).trans s5
        have sT5 : Sub F' F5 := sT.trans s5
        rcases R2.unwiped R5 hpl hw sF fr.1 with ⟨Ru, hpu⟩ | ⟨ps, z⟩
        · have hf5 := (R5.core.prot p _ (by show upd W.G p _ p = some _; exact upd_same)).1
          have fr5 := R2.unwiped_free R5 hpl hw fr.1 fr.2.1
          refine ⟨av, hpu, by rw [ra.length]; exact hlen, hlt, F5, _, acc ++ [y], av ++ [v], s'.trans sT5, ?_, upd_same, (ra.mn sT5).append (.one ry), hf5, fr5, q4⟩
          exact Ru.wrFree (by rw [hpu]; trivial) (fun φ z => by rw [hpu] at z; cases z) hf5 fr5
        · cases z
  · have e : i = ds.length := by omega
    exact .inl ⟨iok.stop i F' H' e s' R'.core.fh, h2 acc ρ' (e ▸ q) F' H' p av (s1.trans s') R' hp' ra hpf' fr⟩
theorem pf_lc {elt tg iter : Expr} {ifs : List Expr} {scope : Scope} {own : List (Str × Nat)} {ti : TAd} {g : TGd} {tt : TTd} {te : TEd} {ws : List Nat} (hc : X.calm = true) (hN : X.N.Nodup) (hi : PDI X W tg iter ti) (ok : BlkOk X.N X.env.scope scope own)
    (hws : ∀ j ∈ ws, j ∈ own.map (·.2) := by decide)
    (hg : ∀ (s : Shared) (H : Hp) (C : Addr) (cl : List (Str × Addr)) (fp : List Addr) (W' : Wd), W'.T = W.T → PDG (X.blk s H scope (compEnvC scope cl C X.env) fp) W' tg ws g) (ht : ∀ (s : Shared) (H : Hp) (C : Addr) (cl : List (Str × Addr)) (fp : List Addr) (W' : Wd), W'.T = W.T → PDTs (X.blk s H scope (compEnvC scope cl C X.env) fp) W' ifs tt)
    (he : ∀ (s : Shared) (H : Hp) (C : Addr) (cl : List (Str × Addr)) (fp : List Addr) (W' : Wd), W'.T = W.T → PD (X.blk s H scope (compEnvC scope cl C X.env) fp) W' elt te) (hs : ∀ x, foldedSetIterable iter X.env x = pure x := by intro _; rfl) :
    PF X W (.ListComp elt [⟨tg, iter, ifs, 0⟩] scope pos) (dLc0 ti g tt te (own.map (·.2))) := by
  refine ⟨.lc hi.mo, PEimp (pe_lc (g := fun v σ H Q => ∃ W', W'.T = W.T ∧ liftG X.K W' ws g v σ H Q) (tt := fun σ H Q => ∃ W', W'.T = W.T ∧ liftT X.K W' tt σ H Q) (te := fun σ H Q => ∃ W', W'.T = W.T ∧ lift X.K W' te σ H Q) hc hN hi.pi ok
    (fun s H C cl fp => ⟨fun pins s1 σ1 H1 v u Q I r ⟨W', e, q⟩ => (hg s H C cl fp W' e).pg.run pins s1 σ1 H1 v u Q I r q⟩)
    (fun s H C cl fp => ⟨fun pins s1 σ1 H1 Q I ⟨W', e, q⟩ => (ht s H C cl fp W' e).pt.run pins s1 σ1 H1 Q I q⟩)
    (fun s H C cl fp => ⟨fun pins s1 σ1 H1 Q I ⟨W', e, q⟩ => (he s H C cl fp W' e).pe.run pins s1 σ1 H1 Q I q⟩) hs) fun σ H Q h => ?_⟩
  exact lc_ok hi.mo hws (hg X.s_0 (fun _ => none) 0 [] [] W rfl).mo (ht X.s_0 (fun _ => none) 0 [] [] W rfl).mo (he X.s_0 (fun _ => none) 0 [] [] W rfl).mo (fun W' e v σ H Q q => ⟨W', e, q⟩) (fun W' e σ H Q q => ⟨W', e, q⟩) (fun W' e σ H Q q => ⟨W', e, q⟩) h
theorem setF_val {i : Nat} {t : TAd} (hm : Mo t) {D : Ends} {σ : L2.St} {H : Hp} (h : liftD X.K W (sAsg (dF t) (gdName i)) D σ H) : tAsg (liftF X.K W t) (gName i) D σ H := by
  obtain ⟨F, ρ, R, h⟩ := h
  refine ⟨F, ρ, R, hm _ _ _ (fun ds ρ' q F' H' p vs s R' hp hr hf fr => ?_) h⟩
  exact q _ _ H' (s.trans (Sub.upd hf)) ((R'.frz1 hp hf fr).set (rp_newL hf hr))
/-- name = [..] on one line, the name a local; the list is owned -/
theorem setLc_ps {i : Nat} {y : Str} {py : Pos} {elt tg iter : Expr} {ifs : List Expr} {scope : Scope} {own : List (Str × Nat)} {spos : Pos} {ti : TAd} {g : TGd} {tt : TTd} {te : TEd} {ws : List Nat} (hc : X.calm = true) (hN : X.N.Nodup) (hy : X.N[i]? = some y) (hyl : X.env.scope.names.lookup y = some .local)
    (hsw : swapsWith (.ListComp elt [⟨tg, iter, ifs, 0⟩] scope pos) (some (.Name y py)) spos.line X.env = pure true) (hi : PDI X W tg iter ti) (ok : BlkOk X.N X.env.scope scope own)
    (hws : ∀ j ∈ ws, j ∈ own.map (·.2))
    (hg : ∀ (s : Shared) (H : Hp) (C : Addr) (cl : List (Str × Addr)) (fp : List Addr) (W' : Wd), W'.T = W.T → PDG (X.blk s H scope (compEnvC scope cl C X.env) fp) W' tg ws g) (ht : ∀ (s : Shared) (H : Hp) (C : Addr) (cl : List (Str × Addr)) (fp : List Addr) (W' : Wd), W'.T = W.T → PDTs (X.blk s H scope (compEnvC scope cl C X.env) fp) W' ifs tt)
    (he : ∀ (s : Shared) (H : Hp) (C : Addr) (cl : List (Str × Addr)) (fp : List Addr) (W' : Wd), W'.T = W.T → PD (X.blk s H scope (compEnvC scope cl C X.env) fp) W' elt te) (hs : ∀ x, foldedSetIterable iter X.env x = pure x) :
    ∃ t, PS X (.Assign [.Name y py] (.ListComp elt [⟨tg, iter, ifs, 0⟩] scope pos) spos) t ∧ ∀ D σ H, tAsg (liftF X.K W (dLc0 ti g tt te (own.map (·.2)))) (gName i) D σ H → t D σ H := by
  refine ⟨_, ps_setLc (g := fun v σ H Q => ∃ W', W'.T = W.T ∧ liftG X.K W' ws g v σ H Q) (tt := fun σ H Q => ∃ W', W'.T = W.T ∧ liftT X.K W' tt σ H Q) (te := fun σ H Q => ∃ W', W'.T = W.T ∧ lift X.K W' te σ H Q) hc hN hy hyl hsw hi.pi ok
    (fun s H C cl fp => ⟨fun pins s1 σ1 H1 v u Q I r ⟨W', e, q⟩ => (hg s H C cl fp W' e).pg.run pins s1 σ1 H1 v u Q I r q⟩)
    (fun s H C cl fp => ⟨fun pins s1 σ1 H1 Q I ⟨W', e, q⟩ => (ht s H C cl fp W' e).pt.run pins s1 σ1 H1 Q I q⟩)
    (fun s H C cl fp => ⟨fun pins s1 σ1 H1 Q I ⟨W', e, q⟩ => (he s H C cl fp W' e).pe.run pins s1 σ1 H1 Q I q⟩) hs, fun D σ H h => ?_⟩
  exact lc_ok (Q := fun x H1 => gName i x σ H1 D.nx) hi.mo hws (hg X.s_0 (fun _ => none) 0 [] [] W rfl).mo (ht X.s_0 (fun _ => none) 0 [] [] W rfl).mo (he X.s_0 (fun _ => none) 0 [] [] W rfl).mo (fun W' e v σ H Q q => ⟨W', e, q⟩) (fun W' e σ H Q q => ⟨W', e, q⟩) (fun W' e σ H Q q => ⟨W', e, q⟩) h
theorem pds_setLcF {i : Nat} {y : Str} {py : Pos} {elt tg iter : Expr} {ifs : List Expr} {scope : Scope} {own : List (Str × Nat)} {spos : Pos} {ti : TAd} {g : TGd} {tt : TTd} {te : TEd} {ws : List Nat} (hc : X.calm = true) (hN : X.N.Nodup) (hy : X.N[i]? = some y) (hyl : X.env.scope.names.lookup y = some .local)
    (hsw : swapsWith (.ListComp elt [⟨tg, iter, ifs, 0⟩] scope pos) (some (.Name y py)) spos.line X.env = pure true) (hi : PDI X W tg iter ti) (ok : BlkOk X.N X.env.scope scope own)
    (hws : ∀ j ∈ ws, j ∈ own.map (·.2) := by decide)
    (hg : ∀ (s : Shared) (H : Hp) (C : Addr) (cl : List (Str × Addr)) (fp : List Addr) (W' : Wd), W'.T = W.T → PDG (X.blk s H scope (compEnvC scope cl C X.env) fp) W' tg ws g) (ht : ∀ (s : Shared) (H : Hp) (C : Addr) (cl : List (Str × Addr)) (fp : List Addr) (W' : Wd), W'.T = W.T → PDTs (X.blk s H scope (compEnvC scope cl C X.env) fp) W' ifs tt)
    (he : ∀ (s : Shared) (H : Hp) (C : Addr) (cl : List (Str × Addr)) (fp : List Addr) (W' : Wd), W'.T = W.T → PD (X.blk s H scope (compEnvC scope cl C X.env) fp) W' elt te) (hs : ∀ x, foldedSetIterable iter X.env x = pure x := by intro _; rfl) :
    PDS X W (.Assign [.Name y py] (.ListComp elt [⟨tg, iter, ifs, 0⟩] scope pos) spos) (sSetF i (dLc0 ti g tt te (own.map (·.2)))) := by
  obtain ⟨t, h1, h2⟩ := setLc_ps hc hN hy hyl hsw hi ok hws hg ht he hs
  exact ⟨fun ρ A B l h => Mo.lc hi.mo _ _ _ (fun d ρ' q => l.nx _ q) h, PSimp h1 fun D σ H h => h2 D σ H (setF_ok (.lc hi.mo) h)⟩
theorem pds_setLc {i : Nat} {y : Str} {py : Pos} {elt tg iter : Expr} {ifs : List Expr} {scope : Scope} {own : List (Str × Nat)} {spos : Pos} {ti : TAd} {g : TGd} {tt : TTd} {te : TEd} {ws : List Nat} (hc : X.calm = true) (hN : X.N.Nodup) (hy : X.N[i]? = some y) (hyl : X.env.scope.names.lookup y = some .local)
    (hsw : swapsWith (.ListComp elt [⟨tg, iter, ifs, 0⟩] scope pos) (some (.Name y py)) spos.line X.env = pure true) (hi : PDI X W tg iter ti) (ok : BlkOk X.N X.env.scope scope own)
    (hws : ∀ j ∈ ws, j ∈ own.map (·.2) := by decide)
    (hg : ∀ (s : Shared) (H : Hp) (C : Addr) (cl : List (Str × Addr)) (fp : List Addr) (W' : Wd), W'.T = W.T → PDG (X.blk s H scope (compEnvC scope cl C X.env) fp) W' tg ws g) (ht : ∀ (s : Shared) (H : Hp) (C : Addr) (cl : List (Str × Addr)) (fp : List Addr) (W' : Wd), W'.T = W.T → PDTs (X.blk s H scope (compEnvC scope cl C X.env) fp) W' ifs tt)
    (he : ∀ (s : Shared) (H : Hp) (C : Addr) (cl : List (Str × Addr)) (fp : List Addr) (W' : Wd), W'.T = W.T → PD (X.blk s H scope (compEnvC scope cl C X.env) fp) W' elt te) (hs : ∀ x, foldedSetIterable iter X.env x = pure x := by intro _; rfl) :
    PDS X W (.Assign [.Name y py] (.ListComp elt [⟨tg, iter, ifs, 0⟩] scope pos) spos) (sAsg (dF (dLc0 ti g tt te (own.map (·.2)))) (gdName i)) := by
  obtain ⟨t, h1, h2⟩ := setLc_ps hc hN hy hyl hsw hi ok hws hg ht he hs
  exact ⟨fun ρ A B l h => Mo.lc hi.mo _ _ _ (fun d ρ' q => l.nx _ q) h, PSimp h1 fun D σ H h => h2 D σ H (setF_val (.lc hi.mo) h)⟩
end
end KD
namespace KD
open PySem PySem.Spec PyProof.Rows L2
/-! ### what a def promises over data -/
abbrev XD := Value → List (Str × D) → Prop
abbrev Sd := List Bd → (D → Prop) → XD → Prop
def MoSd (S : Sd) : Prop := ∀ bs (Q Q' : D → Prop) (xd xd' : XD), (∀ d, Q d → Q' d) → (∀ c fs, xd c fs → xd' c fs) → S bs Q xd → S bs Q' xd'
abbrev XD0 : XD := fun _ _ => False
inductive RpB (K : Frag) (F H : Hp) : List V → List Bd → List Addr → Prop
  | nil : RpB K F H [] [] []
  | v {v : V} {d : D} {vs : List V} {bs : List Bd} {B : List Addr} : Rp K F v d → RpB K F H vs bs B → RpB K F H (v :: vs) (.v d :: bs) B
  | bx {b : Addr} {vs : List V} {bs : List Bd} {B : List Addr} : BoxOk F H b → b ∉ B → RpB K F H vs bs B → RpB K F H (.ref b :: vs) (.bx :: bs) (b :: B)
def ExAt (K : Frag) (F H : Hp) (d : Option Addr) (fs : List (Str × D)) : Prop := (d = none ∧ fs = []) ∨ ∃ a xs, d = some a ∧ H a = some (.xd xs) ∧ Paired (fun (p : Str × V) (q : Str × D) => p.1 = q.1 ∧ Rp K F p.2 q.2) xs fs
def spD (K : Frag) (T : List (Addr × Str)) (S : Sd) : Sp := fun vs H Q E => ∃ F bs B xd, Sub F H ∧ (∀ p ∈ T, F p.1 = none) ∧ LamX.Tabs T H ∧ RpB K F H vs bs B ∧
  S bs (fun d => ∀ F' H' v, ExtB B T F H F' H' → (∀ b ∈ B, BoxOk F' H' b) → Rp K F' v d → Q v H') xd ∧
  ∀ c fs, xd c fs → ∀ F' H' d, ExtB B T F H F' H' → (∀ b ∈ B, BoxOk F' H' b) → ExAt K F' H' d fs → E c d H'
section
variable {K : Frag} {F F' H H' : Hp}
theorem RpB.length : ∀ {vs : List V} {bs : List Bd} {B : List Addr}, RpB K F H vs bs B → vs.length = bs.length
  | _, _, _, .nil => rfl
  | _, _, _, .v _ t => by rw [List.length_cons, List.length_cons, RpB.length t]
  | _, _, _, .bx _ _ t => by rw [List.length_cons, List.length_cons, RpB.length t]
theorem RpB.boxes : ∀ {vs : List V} {bs : List Bd} {B : List Addr}, RpB K F H vs bs B → ∀ b ∈ B, BoxOk F H b
  | _, _, _, .nil, _, h => by cases h
  | _, _, _, .v _ t, b, h => RpB.boxes t b h
  | _, _, _, .bx r _ t, b, h => by
    rcases List.mem_cons.mp h with z | z
    · subst z; exact r
    · exact RpB.boxes t b z
theorem RpB.get : ∀ {vs : List V} {bs : List Bd} {B : List Addr} {i : Nat} {b : Bd} {v : V}, RpB K F H vs bs B → bs[i]? = some b → vs[i]? = some v → (∃ d, b = .v d ∧ Rp K F v d) ∨ (b = .bx ∧ ∃ a, v = .ref a ∧ a ∈ B)
  | _, _, _, _, _, _, .nil, h, _ => by simp at h
  | _, _, _, 0, _, _, .v r _, h, h' => by simp at h h'; subst h; subst h'; exact .inl ⟨_, rfl, r⟩
  | _, _, _, i + 1, _, _, .v _ t, h, h' => RpB.get (i := i) t (by simpa using h) (by simpa using h')
  | _, _, _, 0, _, _, .bx r _ _, h, h' => by simp at h h'; subst h; subst h'; exact .inr ⟨rfl, _, rfl, by simp⟩
  | _, _, _, i + 1, _, _, .bx _ _ t, h, h' => by
    rcases RpB.get (i := i) t (by simpa using h) (by simpa using h') with z | ⟨z, a, e, m⟩
    · exact .inl z
    · exact .inr ⟨z, a, e, by simp [m]⟩
theorem RpB.inj : ∀ {vs : List V} {bs : List Bd} {B : List Addr} {i j : Nat} {a : Addr}, RpB K F H vs bs B → bs[i]? = some .bx → bs[j]? = some .bx → vs[i]? = some (.ref a) → vs[j]? = some (.ref a) → i = j
  | _, _, _, _, _, _, .nil, h, _, _, _ => by simp at h
  | _, _, _, 0, _, _, .v r _, h, _, _, _ => by simp at h
  | _, _, _, _ + 1, 0, _, .v r _, _, h, _, _ => by simp at h
  | _, _, _, i + 1, j + 1, _, .v _ t, h1, h2, h3, h4 => by rw [RpB.inj (i := i) (j := j) t (by simpa using h1) (by simpa using h2) (by simpa using h3) (by simpa using h4)]
  | _, _, _, 0, 0, _, .bx _ _ _, _, _, _, _ => rfl
  | _, _, _, 0, j + 1, _, .bx _ n t, h1, h2, h3, h4 => by
    simp at h3; subst h3
    rcases RpB.get (i := j) t (by simpa using h2) (by simpa using h4) with ⟨d, z, _⟩ | ⟨_, a, e, m⟩
    · cases z
    · cases e; exact absurd m n
  | _, _, _, i + 1, 0, _, .bx _ n t, h1, h2, h3, h4 => by
    simp at h4; subst h4
    rcases RpB.get (i := i) t (by simpa using h1) (by simpa using h3) with ⟨d, z, _⟩ | ⟨_, a, e, m⟩
    · cases z
    · cases e; exact absurd m n
  | _, _, _, i + 1, j + 1, _, .bx _ _ t, h1, h2, h3, h4 => by rw [RpB.inj (i := i) (j := j) t (by simpa using h1) (by simpa using h2) (by simpa using h3) (by simpa using h4)]
end
/-! ### arguments -/
abbrev TBd := En → (List Bd → En → Prop) → Prop
def liftA (K : Frag) (W : Wd) (t : TBd) : TA := fun σ H Q => ∃ F ρ, Rel K W F ρ σ H ∧ t ρ fun bs ρ' => ∀ F' H' vs B, Sub F F' → Rel K W F' ρ' σ H' → RpB K F' H' vs bs B → (∀ b ∈ B, ∃ i : Nat, ρ'[i]? = some Bd.bx ∧ σ[i]? = some (some (.ref b))) → Q vs H'
structure PDA (X : Cx) (W : Wd) (es : List Expr) (t : TBd) : Prop where
  mo : Mo t
  pa : PA X es (liftA X.K W t)
def aNil : TBd := fun ρ Q => Q [] ρ
def aCons (te : TEd) (tr : TBd) : TBd := fun ρ Q => te ρ fun d ρ1 => tr ρ1 fun bs ρ2 => Q (.v d :: bs) ρ2
def noBx : List Bd → Prop
  | [] => True
  | .v _ :: bs => noBx bs
  | _ => False
/-- the box in slot i, no other among the rest -/
def aBx (i : Nat) (tr : TBd) : TBd := fun ρ Q => match ρ[i]? with
  | some .bx => tr ρ fun bs ρ2 => match ρ2[i]? with
    | some .bx => noBx bs ∧ Q (.bx :: bs) ρ2
    | _ => False
  | _ => False
theorem noBx_nil {K : Frag} {F H : Hp} : ∀ {vs : List V} {bs : List Bd} {B : List Addr}, RpB K F H vs bs B → noBx bs → B = []
  | _, _, _, .nil, _ => rfl
  | _, _, _, .v _ t, h => noBx_nil t h
  | _, _, _, .bx _ _ _, h => h.elim
section
variable {X : Cx} {W : Wd} {pos : Pos}
theorem pda_nil : PDA X W [] aNil := ⟨fun _ _ _ k q => k _ _ q, PAimp pa_nil fun σ H Q h => by
  obtain ⟨F, ρ, R, h⟩ := h
  exact h F H [] [] (.refl F) R .nil fun _ z => nomatch z⟩
theorem RpB.grow {K : Frag} {F F' H H' : Hp} : ∀ {vs : List V} {bs : List Bd} {B : List Addr}, RpB K F H vs bs B → Sub F F' → (∀ b ∈ B, BoxOk F' H' b) → RpB K F' H' vs bs B
  | _, _, _, .nil, _, _ => .nil
  | _, _, _, .v r t, s, h => .v (r.mn s) (RpB.grow t s h)
  | _, _, _, .bx r n t, s, h => .bx (h _ (by simp)) n (RpB.grow t s fun b hb => h b (by simp [hb]))
theorem pda_cons {e : Expr} {es : List Expr} {te : TEd} {t : TBd} (ha : PD X W e te) (hr : PDA X W es t) (hs : starEach (e :: es) X.env = (false, eval e X.env) :: starEach es X.env := by rfl) : PDA X W (e :: es) (aCons te t) :=
  ⟨fun ρ Q Q' k q => ha.mo _ _ _ (fun d ρ1 q => hr.mo _ _ _ (fun bs ρ2 q => k _ _ q) q) q, PAimp (pa_cons ha.pe hr.pa hs) fun σ H Q h => by
    obtain ⟨F, ρ, R, h⟩ := h
    refine ⟨F, ρ, R, ha.mo _ _ _ (fun x ρ1 q F1 H1 vx s1 R1 rx => ?_) h⟩
    exact ⟨F1, ρ1, R1, hr.mo _ _ _ (fun xs ρ2 q2 F2 H2 vs B s2 R2 rs hB => q2 F2 H2 _ B (s1.trans s2) R2 (.v (rx.mn s2) rs) hB) q⟩⟩
theorem pda_bx {i : Nat} {x : Str} {p1 : Pos} {es : List Expr} {t : TBd} (hr : PDA X W es t) (hs : starEach (.Name x p1 :: es) X.env = (false, eval (.Name x p1) X.env) :: starEach es X.env := by rfl)
    (hN : X.N[i]? = some x := by rfl) (hv : Vis X.env.scope x := by first | exact Or.inl rfl | exact Or.inr (Or.inl rfl) | exact Or.inr (Or.inr rfl)) (hd : (x == ("__debug__" : Str)) = false := by decide)
    (hcd : (x == ("__classdict__" : Str)) = false := by decide) : PDA X W (.Name x p1 :: es) (aBx i t) :=
  ⟨fun ρ Q Q' k q => by
    unfold aBx at q ⊢
    split at q
    · refine hr.mo _ _ _ (fun bs ρ2 q => ?_) q
      split at q
      · exact ⟨q.1, k _ _ q.2⟩
      · exact q.elim
    · exact q.elim, PAimp (pa_cons (pv i hN hv hd hcd) hr.pa hs) fun σ H Q h => by
    obtain ⟨F, ρ, R, h⟩ := h
    unfold aBx at h
    split at h
    · rename_i hi
      have hl : i < σ.length := by rw [← R.len]; exact (List.getElem?_eq_some_iff.mp hi).1
      have ho := List.getElem?_eq_getElem hl
      obtain ⟨a, e, hb⟩ := R.ok i _ _ hi ho
      rw [e] at ho
      refine ⟨_, ho, F, ρ, R, hr.mo _ _ _ (fun bs ρ2 q F2 H2 vs B s2 R2 rs hB => ?_) h⟩
      split at q
      · rename_i hi2
        have hB0 := noBx_nil rs q.1
        subst hB0
        obtain ⟨a', e', hb'⟩ := R2.ok i _ _ hi2 ho
        cases e'
        exact q.2 F2 H2 _ [a] s2 R2 (.bx hb' (by simp) rs) fun b z => by
          rw [List.mem_singleton] at z; subst z
          exact ⟨i, hi2, ho⟩
      · exact q.elim
    · exact h.elim⟩
/-! ### a call -/
def dCall (S : Sd) (xd : XD) (t : TBd) : TEd := fun ρ Q => t ρ fun bs ρ' => S bs (fun d => Q d ρ') xd
/-- exceptions that are wished for here reach E -/
def XOk (K : Frag) (W : Wd) (xd : XD) (E : XK) : Prop := ∀ F ρ σ H c fs d, Rel K W F ρ σ H → xd c fs → ExAt K F H d fs → E c d H
theorem XOk.no {K : Frag} {W : Wd} {E : XK} : XOk K W XD0 E := fun _ _ _ _ _ _ _ _ z => z.elim
theorem callSp {k : Nat} {S : Sd} {xd : XD} {E : XK} {t : TBd} (mo : MoSd S) (ha : Mo t) (hX : XOk X.K W xd E) {σ : L2.St} {H : Hp} {Q : VK} (h : lift X.K W (dCall S xd t) σ H Q) : tCall (spD X.K W.T S) [] E (liftA X.K W t) σ H Q := by
  obtain ⟨F, ρ, R, h⟩ := h
  refine ⟨F, ρ, R, ha _ _ _ (fun bs ρ1 q F1 H1 vs B s1 R1 rb hB => ?_) h⟩
  show spD X.K W.T S (vs ++ []) H1 Q E
  rw [List.append_nil]
  refine ⟨F1, bs, B, xd, R1.core.fh, fun p hp => ?_, R1.core.tabs, rb, mo _ _ _ _ _ (fun d q F' H' v ex hb r => ?_) (fun _ _ z => z) q, fun c fs z F' H' d ex hb x => ?_⟩
  · obtain ⟨o, e⟩ := W.tg p hp
    exact (R1.core.prot _ _ e).1
  · exact q F' H' v (s1.trans ex.ff) (R1.step ex hB hb) r
  · exact hX F' ρ1 σ H' c fs d (R1.step ex hB hb) z x
theorem pd_call {CX : CXT} {k : Nat} {f : Addr} {fd : FuncData} {ps : List Str} {S : Sd} {xd : XD} {E : XK} {x : Str} {p : Pos} {e : Expr} {es : List Expr} {t : TBd} (Fn : FnOk X.prog X.w X.K X.mg X.base CX k f fd ps (spD X.K W.T S)) (mo : MoSd S)
    (hr : Room k X.A) (hg : Gl X x) (hm : X.mg x = some (.ref f)) (hk : PySem.W.keepIn X.K (.ref f) = true) (hb : Binds X.K fd ps []) (hx : Passes CX X E) (hX : XOk X.K W xd E)
    (ha : PDA X W (e :: es) t) (hdb : (x == ("__debug__" : Str)) = false := by decide) (he : starEach (e :: es) X.env = (false, eval e X.env) :: starEach es X.env := by rfl) (hpl : (backTo pos (starEach es X.env)).any (·.1) = false := by rfl) :
    PD X W (.Call (.Name x p) (e :: es) [] pos) (dCall S xd t) :=
  ⟨fun ρ Q Q' k q => ha.mo _ _ _ (fun bs ρ' q => mo _ _ _ _ _ (fun d q => k _ _ q) (fun _ _ z => z) q) q, PEimp (pe_call Fn hr hg hm hk hb .nil hx ha.pa hdb he hpl) fun σ H Q h => callSp (k := k) mo ha.mo hX h⟩
theorem pd_call0 {CX : CXT} {k : Nat} {f : Addr} {fd : FuncData} {ps : List Str} {S : Sd} {xd : XD} {E : XK} {x : Str} {p : Pos} (Fn : FnOk X.prog X.w X.K X.mg X.base CX k f fd ps (spD X.K W.T S)) (mo : MoSd S)
    (hr : Room k X.A) (hg : Gl X x) (hm : X.mg x = some (.ref f)) (hk : PySem.W.keepIn X.K (.ref f) = true) (hb : Binds X.K fd ps []) (hx : Passes CX X E) (hX : XOk X.K W xd E)
    (hdb : (x == ("__debug__" : Str)) = false := by decide) :
    PD X W (.Call (.Name x p) [] [] pos) (dCall S xd aNil) :=
  ⟨fun ρ Q Q' k q => mo _ _ _ _ _ (fun d q => k _ _ q) (fun _ _ z => z) q, PEimp (pe_call0 Fn hr hg hm hk hb .nil hx hdb) fun σ H Q h => by
    have z := callSp (X := X) (W := W) (k := k) mo (pda_nil (X := X) (W := W)).mo hX h
    obtain ⟨F, ρ, R, q⟩ := z
    exact q F H [] [] (.refl F) R .nil fun _ z => nomatch z⟩
end
/-! ### a def's body keeps its promise -/
def startE (N : List Str) (bs : List Bd) : En := bs ++ List.replicate (N.length - bs.length) .un
def wdOf (F H : Hp) (B : List Addr) (T : List (Addr × Str)) (h : ∀ p ∈ T, F p.1 = none ∧ p.1 ∉ B ∧ ∃ o, H p.1 = some o) : Wd where
  G := fun a => if F a = none ∧ a ∉ B then H a else none
  F0 := F
  B := B
  T := T
  tg := fun p hp => by
    obtain ⟨h1, h2, o, h3⟩ := h p hp
    exact ⟨o, by rw [if_pos ⟨h1, h2⟩]; exact h3⟩
theorem rel_start {K : Frag} {F H : Hp} {B : List Addr} {T : List (Addr × Str)} {N : List Str} {vs : List V} {bs : List Bd} (hT : ∀ p ∈ T, F p.1 = none ∧ p.1 ∉ B ∧ ∃ o, H p.1 = some o) (s : Sub F H) (tb : LamX.Tabs T H) (r : RpB K F H vs bs B) : Rel K (wdOf F H B T hT) F (startE N bs) (L2.start N vs) H := by
  have hl := r.length
  have get : ∀ {i : Nat} {b : Bd} {o : Option V}, (startE N bs)[i]? = some b → (L2.start N vs)[i]? = some o → b = .un ∨ ∃ v, bs[i]? = some b ∧ vs[i]? = some v ∧ o = some v := fun {i b o} h1 h2 => by
    unfold startE at h1
    unfold L2.start at h2
    by_cases hi : i < bs.length
    · rw [List.getElem?_append_left hi] at h1
      rw [List.getElem?_append_left (by rw [List.length_map, hl]; exact hi), List.getElem?_map] at h2
      cases e : vs[i]? with
      | none => rw [e] at h2; cases h2
      | some v => rw [e] at h2; cases h2; exact .inr ⟨v, h1, rfl, rfl⟩
    · rw [List.getElem?_append_right (by omega), List.getElem?_replicate] at h1
      split at h1
      · cases h1; exact .inl rfl
      · cases h1
  refine ⟨⟨.refl F, s, fun a o g => ?_, tb, fun b z => ⟨r.boxes b z, ?_⟩⟩, ?_, fun i b o h1 h2 => ?_, fun i b a h1 ho h2 => ?_⟩
  · have g' : (if F a = none ∧ a ∉ B then H a else none) = some o := g
    split at g'
    · rename_i h
      exact ⟨h.1, ⟨o, g'⟩, fun _ => g'⟩
    · cases g'
  · show (if F b = none ∧ b ∉ B then H b else none) = none
    rw [if_neg fun y => y.2 z]
  · unfold startE L2.start
    simp only [List.length_append, List.length_map, List.length_replicate, hl]
  · rcases get h1 h2 with rfl | ⟨v, e1, e2, rfl⟩
    · trivial
    · rcases r.get e1 e2 with ⟨d, rfl, rd⟩ | ⟨rfl, a, rfl, m⟩
      · exact ⟨v, rfl, rd⟩
      · exact ⟨a, rfl, r.boxes a m⟩
  · rcases get h1 h2 with rfl | ⟨v, e1, e2, e3⟩
    · cases ho
    · cases e3
      rcases r.get e1 e2 with ⟨d, rfl, rd⟩ | ⟨rfl, a', e, m⟩
      · cases ho
      · cases e
        refine ⟨?_, fun z => absurd (show true = false from z) (by decide), fun j b' f1 f2 f3 => ?_⟩
        · show (if F a = none ∧ a ∉ B then H a else none) = none
          rw [if_neg fun y => y.2 m]
        · rcases get f1 f3 with rfl | ⟨v', g1, g2, g3⟩
          · cases f2
          · cases g3
            rcases r.get g1 g2 with ⟨d, rfl, rd⟩ | ⟨rfl, _, _, _⟩
            · cases f2
            · exact (r.inj e1 g1 e2 g2).symm
theorem rel_exit {K : Frag} {F H : Hp} {B : List Addr} {T : List (Addr × Str)} {hT : ∀ p ∈ T, F p.1 = none ∧ p.1 ∉ B ∧ ∃ o, H p.1 = some o} {F' H' : Hp} {ρ : En} {σ : L2.St} (hB : ∀ b ∈ B, BoxOk F H b) (R : Rel K (wdOf F H B T hT) F' ρ σ H') : ExtB B T F H F' H' ∧ ∀ b ∈ B, BoxOk F' H' b := by
  refine ⟨⟨R.core.f0, R.core.fh, fun a o h n => ?_, fun a o h n nb t => ?_, fun _ => R.core.tabs⟩, fun b z => (R.core.bx b z).1⟩
  · by_cases nb : a ∈ B
    · have hb := (R.core.bx a nb).1
      obtain ⟨⟨_, _, _, e, _⟩, e2⟩ := hb
      exact ⟨e2, _, e⟩
    · have g : (wdOf F H B T hT).G a = some o := by show (if F a = none ∧ a ∉ B then H a else none) = some o; rw [if_pos ⟨n, nb⟩]; exact h
      obtain ⟨h1, h2, _⟩ := R.core.prot a o g
      exact ⟨h1, h2⟩
  · have g : (wdOf F H B T hT).G a = some o := by show (if F a = none ∧ a ∉ B then H a else none) = some o; rw [if_pos ⟨n, nb⟩]; exact h
    exact (R.core.prot a o g).2.2 t
section
variable {P : Program} {w : World} {K : Frag} {mg : Str → Option Value} {base : Heap}
/-- a def that raises nothing -/
theorem fnD_of {x qual : Str} {st : Stmt} {f : Addr} {fd : FuncData} {N ps : List Str} {k : Nat} {S : Sd} {T : List (Addr × Str)} (Fn : Fun K x qual st f fd) (Sc : FnScope N ps (defScope st)) (mo : MoSd S) (len : ∀ bs Q xd, S bs Q xd → bs.length = ps.length)
    (hbody : ∀ (cdv : Value) (A : Around) (outer : List Env) (s : Shared) (H : Hp) (E : XK) (W : Wd), W.T = T → Room k (A.deeper (envOfC qual (defScope st) s.heap.objs.size f cdv)) →
      ∃ t, PDB (cxOf CX0 P w K mg base N qual (defScope st) f cdv A outer s H E).nox W (defBody st) t ∧ ∀ bs Q xd, S bs Q xd → t { nx := fun _ => Q .none, rt := Q } (startE N bs)) : FnOk P w K mg base CX0 (k + 1) f fd ps (spD K T S) := by
  refine Fn.ok Sc (fun vs H Q E ⟨F, bs, B, xd, _, _, _, r, h, _⟩ => r.length.trans (len _ _ _ h)) fun cdv A outer s H vs Q E hr ⟨F, bs, B, xd, hs, hT, tb, r, h, hE⟩ => ?_
  have hT' : ∀ p ∈ T, F p.1 = none ∧ p.1 ∉ B ∧ ∃ o, H p.1 = some o := fun p hp => by
    obtain ⟨ps, e, _⟩ := tb p hp
    refine ⟨hT p hp, fun z => ?_, _, e⟩
    obtain ⟨⟨_, _, _, e', _⟩, _⟩ := r.boxes _ z
    rw [e] at e'; cases e'
  obtain ⟨t, pt, ht⟩ := hbody cdv A outer s H E (wdOf F H B T hT') rfl hr
  refine ⟨_, pt.ps, F, startE N bs, rel_start hT' hs tb r, ?_⟩
  refine pt.mo _ _ _ ⟨?_, ?_, fun _ (z : False) => z.elim, fun _ (z : False) => z.elim⟩ (ht bs _ xd h)
  · intro ρ q F' σ' H' s' R'
    obtain ⟨e1, e2⟩ := rel_exit r.boxes R'
    exact q F' H' .non e1 e2 .non
  · intro d q F' ρ' σ' H' v s' R' rd
    obtain ⟨e1, e2⟩ := rel_exit r.boxes R'
    exact q F' H' v e1 e2 rd
/-- a def that may raise -/
theorem fnD_ofX {x qual : Str} {st : Stmt} {f : Addr} {fd : FuncData} {N ps : List Str} {k : Nat} {S : Sd} {T : List (Addr × Str)} (Fn : Fun K x qual st f fd) (Sc : FnScope N ps (defScope st)) (mo : MoSd S) (len : ∀ bs Q xd, S bs Q xd → bs.length = ps.length)
    (hbody : ∀ (cdv : Value) (A : Around) (outer : List Env) (s : Shared) (H : Hp) (E : XK) (xd : XD) (W : Wd), W.T = T → XOk K W xd E → Room k (A.deeper (envOfC qual (defScope st) s.heap.objs.size f cdv)) →
      ∃ t, PDB (cxOf (L2.CX P w) P w K mg base N qual (defScope st) f cdv A outer s H E) W (defBody st) t ∧ ∀ bs Q, S bs Q xd → t { nx := fun _ => Q .none, rt := Q } (startE N bs)) : FnOk P w K mg base (L2.CX P w) (k + 1) f fd ps (spD K T S) := by
  refine Fn.okX Sc (fun vs H Q E ⟨F, bs, B, xd, _, _, _, r, h, _⟩ => r.length.trans (len _ _ _ h)) fun cdv A outer s H vs Q E hr ⟨F, bs, B, xd, hs, hT, tb, r, h, hE⟩ => ?_
  have hT' : ∀ p ∈ T, F p.1 = none ∧ p.1 ∉ B ∧ ∃ o, H p.1 = some o := fun p hp => by
    obtain ⟨ps, e, _⟩ := tb p hp
    refine ⟨hT p hp, fun z => ?_, _, e⟩
    obtain ⟨⟨_, _, _, e', _⟩, _⟩ := r.boxes _ z
    rw [e] at e'; cases e'
  have hX : XOk K (wdOf F H B T hT') xd E := fun F' ρ σ H' c fs d R z x => by
    obtain ⟨e1, e2⟩ := rel_exit r.boxes R
    exact hE c fs z F' H' d e1 e2 x
  obtain ⟨t, pt, ht⟩ := hbody cdv A outer s H E xd (wdOf F H B T hT') rfl hX hr
  refine ⟨_, pt.ps, F, startE N bs, rel_start hT' hs tb r, ?_⟩
  refine pt.mo _ _ _ ⟨?_, ?_, fun _ (z : False) => z.elim, fun _ (z : False) => z.elim⟩ (ht bs _ h)
  · intro ρ q F' σ' H' s' R'
    obtain ⟨e1, e2⟩ := rel_exit r.boxes R'
    exact q F' H' .non e1 e2 .non
  · intro d q F' ρ' σ' H' v s' R' rd
    obtain ⟨e1, e2⟩ := rel_exit r.boxes R'
    exact q F' H' v e1 e2 rd
end
end KD
namespace KD
open PySem PySem.Spec PyProof.Rows L2
/-! ### the operators over data -/
def mulOk (i j : Int) : Prop := CMul i j ∨ CMulW i j
def dAdd : R2d := fun x y Q => match x, y with
  | .int i, .int j => Q (.int (i + j))
  | .str a, .str b => a.length + b.length ≤ sizeLine ∧ Q (.str (a ++ b))
  | .list a, .list b => a.length + b.length ≤ sizeLine ∧ Q (.list (a ++ b))
  | .tuple a, .tuple b => a.length + b.length ≤ sizeLine ∧ Q (.tuple (a ++ b))
  | _, _ => False
def dSub : R2d := fun x y Q => match x, y with
  | .int i, .int j => Q (.int (i - j))
  | _, _ => False
def dMul : R2d := fun x y Q => match x, y with
  | .int i, .int j => mulOk i j ∧ Q (.int (i * j))
  | .list a, .int k => (-(2 ^ 63) ≤ k ∧ k < 2 ^ 63 ∧ a.length * k.toNat ≤ sizeLine) ∧ Q (.list (List.replicate k.toNat a).flatten)
  | _, _ => False
def dMod : R2d := fun x y Q => match x, y with
  | .int i, .int j => 0 < j ∧ Q (.int (i % j))
  | _, _ => False
def dDiv : R2d := fun x y Q => match x, y with
  | .int i, .int j => CDivW i j ∧ Q (.int (i / j))
  | _, _ => False
def dPow : R2d := fun x y Q => match x, y with
  | .int i, .int j => CPow i j ∧ Q (.int (i ^ j.toNat))
  | _, _ => False
def dNeg : R1d := fun x Q => match x with
  | .int i => Q (.int (-i))
  | _ => False
def dCmp (p : Int → Int → Bool) : R2d := fun x y Q => match x, y with
  | .int i, .int j => Q (.bool (p i j))
  | _, _ => False
def dEq : R2d := fun x y Q => match x, y with
  | .int i, .int j => Q (.bool (decide (i = j)))
  | .str i, .str j => Q (.bool (decide (i = j)))
  | .bool i, .bool j => Q (.bool (decide (i = j)))
  | .none, .none => Q (.bool true)
  | x, y => SeqAt.shaped x = true ∧ SeqAt.shaped y = true ∧ Q (.bool (PyData.eqv x y))
def dNe : R2d := fun x y Q => match x, y with
  | .int i, .int j => Q (.bool (!decide (i = j)))
  | .str i, .str j => Q (.bool (!decide (i = j)))
  | .bool i, .bool j => Q (.bool (!decide (i = j)))
  | .none, .none => Q (.bool false)
  | x, y => SeqAt.shaped x = true ∧ SeqAt.shaped y = true ∧ Q (.bool (!PyData.eqv x y))
def isNone : D → Bool
  | .none => true
  | _ => false
def dIsN : R2d := fun x y Q => match y with
  | .none => Q (.bool (isNone x))
  | _ => False
def dNotN : R2d := fun x y Q => match y with
  | .none => Q (.bool (!isNone x))
  | _ => False
def dIsB : R2d := fun x y Q => match x, y with
  | .bool a, .bool b => Q (.bool (decide (a = b)))
  | _, _ => False
def dNotB : R2d := fun x y Q => match x, y with
  | .bool a, .bool b => Q (.bool (!decide (a = b)))
  | _, _ => False
theorem no_tup {K : Frag} {F : Hp} {v : V} {ds : List D} (h : Rp K F v (.tuple ds)) : ∃ a xs, v = .ref a ∧ SqT K F a xs ∧ Rps K F xs ds := by
  cases h with
  | tup a b => exact ⟨_, _, rfl, a, b⟩
theorem no_lst {K : Frag} {F : Hp} {v : V} {ds : List D} (h : Rp K F v (.list ds)) : ∃ a xs, v = .ref a ∧ F a = some (.lst xs) ∧ Rps K F xs ds := by
  cases h with
  | lst a b => exact ⟨_, _, rfl, a, b⟩
theorem no_int {K : Frag} {F : Hp} {v : V} {i : Int} (h : Rp K F v (.int i)) : v = .int i := by cases h; rfl
theorem no_str {K : Frag} {F : Hp} {v : V} {i : Str} (h : Rp K F v (.str i)) : v = .str i := by cases h; rfl
theorem no_bl {K : Frag} {F : Hp} {v : V} {i : Bool} (h : Rp K F v (.bool i)) : v = .bl i := by cases h; rfl
theorem no_non {K : Frag} {F : Hp} {v : V} (h : Rp K F v .none) : v = .non := by cases h; rfl
theorem nil_of {K : Frag} {F : Hp} {vs : List V} (h : Rps K F vs []) : vs = [] := by cases h; rfl
abbrev qInt (g : Int → Int → V) : R2 := rI0 g
def qAdd (K : Frag) : R2 := fun x y H Q => rI0 (fun i j => .int (i + j)) x y H Q ∨ (∃ i j, x = .str i ∧ y = .str j ∧ i.length + j.length ≤ sizeLine ∧ Q (.str (i ++ j)) H) ∨ rCat x y H Q ∨ rCatA K x y H Q
theorem op_qAdd {X : Cx} : OpR X (binaryOp .Add) (qAdd X.K) := op_add.or (op_add_str.or (op_cat.or op_catA))
theorem od_add {K : Frag} : OpD K dAdd (qAdd K) where
  mr := fun x y Q Q' h q => by
    unfold dAdd at q ⊢
    split at q <;> first | exact h _ q | exact ⟨q.1, h _ q.2⟩ | exact q.elim
  ok := fun x y F H d e Q R s rx ry q k => by
    unfold dAdd at q
    split at q
    · rw [no_int rx, no_int ry]; exact .inl ⟨_, _, rfl, rfl, k _ F H _ (.refl s) (.int _) q⟩
    · rw [no_str rx, no_str ry]; exact .inr (.inl ⟨_, _, rfl, rfl, q.1, k _ F H _ (.refl s) (.str _) q.2⟩)
    · obtain ⟨a, xs, rfl, ha, ra⟩ := no_lst rx
      obtain ⟨b, ys, rfl, hb, rb⟩ := no_lst ry
      refine .inr (.inr (.inl ⟨a, b, xs, ys, rfl, rfl, s _ _ ha, s _ _ hb, by rw [ra.length, rb.length]; exact q.1, fun p hp => ?_⟩))
      exact k _ _ _ _ (.new s hp) (rp_newL (s.none hp) (ra.append rb)) q.2
    · obtain ⟨a, xs, rfl, ha, ra⟩ := no_tup rx
      obtain ⟨b, ys, rfl, hb, rb⟩ := no_tup ry
      refine .inr (.inr (.inr ⟨a, b, xs, ys, rfl, rfl, sqT_mono s ha, sqT_mono s hb, by rw [ra.length, rb.length]; exact q.1, fun e => ?_, fun _ e => ?_, fun _ _ p hp => ?_⟩))
      · subst e
        cases ra
        exact k _ F H _ (.refl s) (.tup hb rb) q.2
      · subst e
        cases rb
        refine k _ F H _ (.refl s) (.tup ha ?_) q.2
        rw [List.append_nil]; exact ra
      · exact k _ _ _ _ (.new s hp) (rp_newT (s.none hp) (ra.append rb)) q.2
    · exact q.elim
theorem od_sub {K : Frag} : OpD K dSub (rI0 fun i j => .int (i - j)) where
  mr := fun x y Q Q' h q => by
    unfold dSub at q ⊢
    split at q <;> first | exact h _ q | exact q.elim
  ok := fun x y F H d e Q R s rx ry q k => by
    unfold dSub at q
    split at q
    · rw [no_int rx, no_int ry]; exact ⟨_, _, rfl, rfl, k _ F H _ (.refl s) (.int _) q⟩
    · exact q.elim
def qMul : R2 := fun x y H Q => rI CMul (fun i j => .int (i * j)) x y H Q ∨ rI CMulW (fun i j => .int (i * j)) x y H Q ∨ rRep x y H Q
theorem op_qMul {X : Cx} : OpR X (binaryOp .Mult) qMul := op_mul.or (op_mulW.or op_rep)
theorem Rps.rep {K : Frag} {F : Hp} {xs : List V} {ds : List D} (h : Rps K F xs ds) : ∀ n : Nat, Rps K F (List.replicate n xs).flatten (List.replicate n ds).flatten
  | 0 => .nil
  | n + 1 => by
    rw [List.replicate_succ, List.replicate_succ, List.flatten_cons, List.flatten_cons]
    exact h.append (h.rep n)
theorem od_mul {K : Frag} : OpD K dMul qMul where
  mr := fun x y Q Q' h q => by
    unfold dMul at q ⊢
    split at q <;> first | exact ⟨q.1, h _ q.2⟩ | exact q.elim
  ok := fun x y F H d e Q R s rx ry q k => by
    unfold dMul at q
    split at q
    · rw [no_int rx, no_int ry]
      obtain ⟨z | z, q⟩ := q
      · exact .inl ⟨_, _, rfl, rfl, z, k _ F H _ (.refl s) (.int _) q⟩
      · exact .inr (.inl ⟨_, _, rfl, rfl, z, k _ F H _ (.refl s) (.int _) q⟩)
    · obtain ⟨a, xs, rfl, ha, ra⟩ := no_lst rx
      rw [no_int ry]
      obtain ⟨⟨z1, z2, z3⟩, q⟩ := q
      refine .inr (.inr ⟨a, _, xs, rfl, rfl, s _ _ ha, z1, z2, by rw [ra.length]; exact z3, fun p hp => ?_⟩)
      exact k _ _ _ _ (.new s hp) (rp_newL (s.none hp) (ra.rep _)) q
    · exact q.elim
theorem od_mod {K : Frag} : OpD K dMod (rI (fun _ j => 0 < j) fun i j => .int (i % j)) where
  mr := fun x y Q Q' h q => by
    unfold dMod at q ⊢
    split at q <;> first | exact ⟨q.1, h _ q.2⟩ | exact q.elim
  ok := fun x y F H d e Q R s rx ry q k => by
    unfold dMod at q
    split at q
    · rw [no_int rx, no_int ry]; exact ⟨_, _, rfl, rfl, q.1, k _ F H _ (.refl s) (.int _) q.2⟩
    · exact q.elim
theorem od_div {K : Frag} : OpD K dDiv (rI CDivW fun i j => .int (i / j)) where
  mr := fun x y Q Q' h q => by
    unfold dDiv at q ⊢
    split at q <;> first | exact ⟨q.1, h _ q.2⟩ | exact q.elim
  ok := fun x y F H d e Q R s rx ry q k => by
    unfold dDiv at q
    split at q
    · rw [no_int rx, no_int ry]; exact ⟨_, _, rfl, rfl, q.1, k _ F H _ (.refl s) (.int _) q.2⟩
    · exact q.elim
theorem od_pow {K : Frag} : OpD K dPow (rI CPow fun i j => .int (i ^ j.toNat)) where
  mr := fun x y Q Q' h q => by
    unfold dPow at q ⊢
    split at q <;> first | exact ⟨q.1, h _ q.2⟩ | exact q.elim
  ok := fun x y F H d e Q R s rx ry q k => by
    unfold dPow at q
    split at q
    · rw [no_int rx, no_int ry]; exact ⟨_, _, rfl, rfl, q.1, k _ F H _ (.refl s) (.int _) q.2⟩
    · exact q.elim
theorem ud_neg {K : Frag} : UnD K dNeg (rU fun i => .int (-i)) where
  mr := fun x Q Q' h q => by
    unfold dNeg at q ⊢
    split at q <;> first | exact h _ q | exact q.elim
  ok := fun x F H d Q R s rx q k => by
    unfold dNeg at q
    split at q
    · rw [no_int rx]; exact ⟨_, rfl, k _ F H _ (.refl s) (.int _) q⟩
    · exact q.elim
theorem od_cmp {K : Frag} {p : Int → Int → Bool} : OpD K (dCmp p) (rI0 fun i j => .bl (p i j)) where
  mr := fun x y Q Q' h q => by
    unfold dCmp at q ⊢
    split at q <;> first | exact h _ q | exact q.elim
  ok := fun x y F H d e Q R s rx ry q k => by
    unfold dCmp at q
    split at q
    · rw [no_int rx, no_int ry]; exact ⟨_, _, rfl, rfl, k _ F H _ (.refl s) (.bl _) q⟩
    · exact q.elim
/-! == of data at any depth -/
mutual
theorem Rp.dp {K : Frag} {F H : Hp} (s : Sub F H) : ∀ (d : D) (v : V), Rp K F v d → d.canLay0 = true → Dp K H v d
  | .none, _, h, _ => by cases h; exact .non
  | .bool b, _, h, _ => by cases h; exact .bl b
  | .int i, _, h, _ => by cases h; exact .int i
  | .str x, _, h, _ => by cases h; exact .str x
  | .list ds, _, h, c => by
    cases h with
    | lst a b => exact .lst (.of (s _ _ a)) (Rps.dp s ds _ b (by simpa [PyData.canLay0] using c))
  | .tuple ds, _, h, c => by
    cases h with
    | tup a b => exact .tup (sqT_mono s a) (Rps.dp s ds _ b (by simpa [PyData.canLay0] using c))
  | .dict _, _, _, c => by simp [PyData.canLay0] at c
theorem Rps.dp {K : Frag} {F H : Hp} (s : Sub F H) : ∀ (ds : List D) (vs : List V), Rps K F vs ds → PyData.canLayAll0 ds = true → DpAll K H vs ds
  | [], _, h, _ => by cases h; exact .nil
  | d :: ds, _, h, c => by
    have c' : d.canLay0 = true ∧ PyData.canLayAll0 ds = true := by simpa [PyData.canLayAll0] using c
    cases h with
    | cons a b => exact .cons (Rp.dp s d _ a c'.1) (Rps.dp s ds _ b c'.2)
end
def qEq (K : Frag) : R2 := fun x y H Q => rEq x y H Q ∨ rEqD K x y H Q
theorem op_qEq {X : Cx} (hu : X.A.units + 64 < cLine) : OpR X (compareOp .Eq) (qEq X.K) := op_eq.or (op_eqD hu)
def qNe (K : Frag) : R2 := fun x y H Q => rNe x y H Q ∨ rNeD K x y H Q
theorem op_qNe {X : Cx} (hu : X.A.units + 64 < cLine) : OpR X (compareOp .NotEq) (qNe X.K) := op_ne.or (op_neD hu)
theorem dec_inj {α : Type} [DecidableEq α] {f : α → V} (hf : ∀ a b, f a = f b → a = b) (a b : α) : decide (f a = f b) = decide (a = b) := by
  by_cases h : a = b
  · subst h; simp
  · rw [decide_eq_false h, decide_eq_false fun z => h (hf _ _ z)]
theorem od_eq {K : Frag} : OpD K dEq (qEq K) where
  mr := fun x y Q Q' h q => by
    unfold dEq at q ⊢
    split at q <;> first | exact h _ q | exact ⟨q.1, q.2.1, h _ q.2.2⟩
  ok := fun x y F H d e Q R s rx ry q k => by
    unfold dEq at q
    split at q
    · rw [no_int rx, no_int ry]
      exact .inl ⟨rfl, by rw [dec_inj (f := V.int) (fun _ _ z => V.int.inj z)]; exact k _ F H _ (.refl s) (.bl _) q⟩
    · rw [no_str rx, no_str ry]
      exact .inl ⟨rfl, by rw [dec_inj (f := V.str) (fun _ _ z => V.str.inj z)]; exact k _ F H _ (.refl s) (.bl _) q⟩
    · rw [no_bl rx, no_bl ry]
      exact .inl ⟨rfl, by rw [dec_inj (f := V.bl) (fun _ _ z => V.bl.inj z)]; exact k _ F H _ (.refl s) (.bl _) q⟩
    · rw [no_non rx, no_non ry]
      exact .inl ⟨rfl, k _ F H _ (.refl s) (.bl _) q⟩
    · exact .inr ⟨_, _, Rp.dp s _ _ rx (SeqAt.canLay_of_shaped q.1), Rp.dp s _ _ ry (SeqAt.canLay_of_shaped q.2.1), q.1, q.2.1, k _ F H _ (.refl s) (.bl _) q.2.2⟩
theorem od_ne {K : Frag} : OpD K dNe (qNe K) where
  mr := fun x y Q Q' h q => by
    unfold dNe at q ⊢
    split at q <;> first | exact h _ q | exact ⟨q.1, q.2.1, h _ q.2.2⟩
  ok := fun x y F H d e Q R s rx ry q k => by
    unfold dNe at q
    split at q
    · rw [no_int rx, no_int ry]
      exact .inl ⟨rfl, by rw [dec_inj (f := V.int) (fun _ _ z => V.int.inj z)]; exact k _ F H _ (.refl s) (.bl _) q⟩
    · rw [no_str rx, no_str ry]
      exact .inl ⟨rfl, by rw [dec_inj (f := V.str) (fun _ _ z => V.str.inj z)]; exact k _ F H _ (.refl s) (.bl _) q⟩
    · rw [no_bl rx, no_bl ry]
      exact .inl ⟨rfl, by rw [dec_inj (f := V.bl) (fun _ _ z => V.bl.inj z)]; exact k _ F H _ (.refl s) (.bl _) q⟩
    · rw [no_non rx, no_non ry]
      exact .inl ⟨rfl, k _ F H _ (.refl s) (.bl _) q⟩
    · exact .inr ⟨_, _, Rp.dp s _ _ rx (SeqAt.canLay_of_shaped q.1), Rp.dp s _ _ ry (SeqAt.canLay_of_shaped q.2.1), q.1, q.2.1, k _ F H _ (.refl s) (.bl _) q.2.2⟩
theorem isNone_of {K : Frag} {F : Hp} {v : V} {d : D} (h : Rp K F v d) : decide (v = .non) = isNone d := by
  cases h <;> rfl
theorem od_isN {K : Frag} : OpD K dIsN (fun x y H Q => y = .non ∧ Q (.bl (decide (x = .non))) H) where
  mr := fun x y Q Q' h q => by
    unfold dIsN at q ⊢
    split at q <;> first | exact h _ q | exact q.elim
  ok := fun x y F H d e Q R s rx ry q k => by
    unfold dIsN at q
    split at q
    · exact ⟨no_non ry, by rw [isNone_of rx]; exact k _ F H _ (.refl s) (.bl _) q⟩
    · exact q.elim
theorem od_notN {K : Frag} : OpD K dNotN (fun x y H Q => y = .non ∧ Q (.bl (!decide (x = .non))) H) where
  mr := fun x y Q Q' h q => by
    unfold dNotN at q ⊢
    split at q <;> first | exact h _ q | exact q.elim
  ok := fun x y F H d e Q R s rx ry q k => by
    unfold dNotN at q
    split at q
    · exact ⟨no_non ry, by rw [isNone_of rx]; exact k _ F H _ (.refl s) (.bl _) q⟩
    · exact q.elim
theorem od_isB {K : Frag} : OpD K dIsB rIsB where
  mr := fun x y Q Q' h q => by
    unfold dIsB at q ⊢
    split at q <;> first | exact h _ q | exact q.elim
  ok := fun x y F H d e Q R s rx ry q k => by
    unfold dIsB at q
    split at q
    · exact ⟨_, _, no_bl rx, no_bl ry, k _ F H _ (.refl s) (.bl _) q⟩
    · exact q.elim
theorem od_notB {K : Frag} : OpD K dNotB rNotB where
  mr := fun x y Q Q' h q => by
    unfold dNotB at q ⊢
    split at q <;> first | exact h _ q | exact q.elim
  ok := fun x y F H d e Q R s rx ry q k => by
    unfold dNotB at q
    split at q
    · exact ⟨_, _, no_bl rx, no_bl ry, k _ F H _ (.refl s) (.bl _) q⟩
    · exact q.elim
/-! ### in, not in -/
def flatD : D → Bool
  | .none => true
  | .bool _ => true
  | .int _ => true
  | .str _ => true
  | _ => false
def inD (x : D) (ds : List D) : Bool := ds.any fun y => PyData.eqv y x
def strIn (a b : Str) : Bool := !(Builtin.Str.occurrences b a 0 b.length 1).isEmpty
def dIn (neg : Bool) : R2d := fun x y Q => match y with
  | .list ds => (flatD x = true ∧ ds.all flatD = true) ∧ Q (.bool (if neg then !inD x ds else inD x ds))
  | .tuple ds => (flatD x = true ∧ ds.all flatD = true) ∧ Q (.bool (if neg then !inD x ds else inD x ds))
  | .str b => match x with
    | .str a => Q (.bool (if neg then !strIn a b else strIn a b))
    | _ => False
  | _ => False
theorem Mr.in (neg : Bool) (x y : D) : Mr (dIn neg x y) := fun Q Q' h q => by
  unfold dIn at q ⊢
  split at q
  · exact ⟨q.1, h _ q.2⟩
  · exact ⟨q.1, h _ q.2⟩
  · split at q
    · exact h _ q
    · exact q.elim
  · exact q.elim
theorem flat_of {K : Frag} {F : Hp} {v : V} {d : D} (h : Rp K F v d) (f : flatD d = true) : flatV v = true := by
  cases h <;> first | rfl | cases f
theorem eqV_of {K : Frag} {F : Hp} {v w : V} {d e : D} (h : Rp K F v d) (h' : Rp K F w e) (f : flatD d = true) (f' : flatD e = true) : eqV v w = PyData.eqv d e := by
  cases h <;> first | cases f | skip
  all_goals cases h' <;> first | cases f' | skip
  all_goals simp [eqV, PyData.eqv]
theorem inV_of {K : Frag} {F : Hp} {v : V} {d : D} (h : Rp K F v d) (f : flatD d = true) : ∀ {vs : List V} {ds : List D}, Rps K F vs ds → ds.all flatD = true → inV v vs = inD d ds ∧ vs.all flatV = true
  | _, _, .nil, _ => ⟨rfl, rfl⟩
  | _, _, .cons r t, g => by
    rw [List.all_cons, Bool.and_eq_true] at g
    obtain ⟨i1, i2⟩ := inV_of h f t g.2
    constructor
    · show (eqV _ v || inV v _) = (PyData.eqv _ d || inD d _)
      rw [eqV_of r h g.1 f, i1]
    · rw [List.all_cons, flat_of r g.1, i2]; rfl
def qIn (K : Frag) : R2 := fun x y H Q => rIn K false x y H Q ∨ ∃ i j, x = .str i ∧ y = .str j ∧ Q (.bl (!(Builtin.Str.occurrences j i 0 j.length 1).isEmpty)) H
theorem op_qIn {X : Cx} : OpR X (compareOp .In) (qIn X.K) := op_in_seq.or op_in_str
def qNotIn (K : Frag) : R2 := fun x y H Q => rIn K true x y H Q ∨ ∃ i j, x = .str i ∧ y = .str j ∧ Q (.bl (!(!(Builtin.Str.occurrences j i 0 j.length 1).isEmpty))) H
theorem op_qNotIn {X : Cx} : OpR X (compareOp .NotIn) (qNotIn X.K) := op_notIn_seq.or op_notIn_str
theorem od_in {K : Frag} : OpD K (dIn false) (qIn K) where
  mr := Mr.in false
  ok := fun x y F H d e Q R s rx ry q k => by
    unfold dIn at q
    split at q
    · obtain ⟨a, xs, rfl, ha, ra⟩ := no_lst ry
      obtain ⟨i1, i2⟩ := inV_of rx q.1.1 ra q.1.2
      refine .inl ⟨a, xs, rfl, .inl (.of (s _ _ ha)), flat_of rx q.1.1, i2, ?_⟩
      rw [if_neg Bool.false_ne_true, i1]
      exact k _ F H _ (.refl s) (.bl _) q.2
    · obtain ⟨a, xs, rfl, ha, ra⟩ := no_tup ry
      obtain ⟨i1, i2⟩ := inV_of rx q.1.1 ra q.1.2
      refine .inl ⟨a, xs, rfl, .inr (sqT_mono s ha), flat_of rx q.1.1, i2, ?_⟩
      rw [if_neg Bool.false_ne_true, i1]
      exact k _ F H _ (.refl s) (.bl _) q.2
    · split at q
      · exact .inr ⟨_, _, no_str rx, no_str ry, k _ F H _ (.refl s) (.bl _) q⟩
      · exact q.elim
    · exact q.elim
theorem od_notIn {K : Frag} : OpD K (dIn true) (qNotIn K) where
  mr := Mr.in true
  ok := fun x y F H d e Q R s rx ry q k => by
    unfold dIn at q
    split at q
    · obtain ⟨a, xs, rfl, ha, ra⟩ := no_lst ry
      obtain ⟨i1, i2⟩ := inV_of rx q.1.1 ra q.1.2
      refine .inl ⟨a, xs, rfl, .inl (.of (s _ _ ha)), flat_of rx q.1.1, i2, ?_⟩
      rw [if_pos rfl, i1]
      exact k _ F H _ (.refl s) (.bl _) q.2
    · obtain ⟨a, xs, rfl, ha, ra⟩ := no_tup ry
      obtain ⟨i1, i2⟩ := inV_of rx q.1.1 ra q.1.2
      refine .inl ⟨a, xs, rfl, .inr (sqT_mono s ha), flat_of rx q.1.1, i2, ?_⟩
      rw [if_pos rfl, i1]
      exact k _ F H _ (.refl s) (.bl _) q.2
    · split at q
      · exact .inr ⟨_, _, no_str rx, no_str ry, k _ F H _ (.refl s) (.bl _) q⟩
      · exact q.elim
    · exact q.elim
/-! ### subscripts -/
def dIx : R2d := fun x y Q => match x, y with
  | .list ds, .int i => match atI ds i with
    | some d => Q d
    | none => False
  | .tuple ds, .int i => match atI ds i with
    | some d => Q d
    | none => False
  | .str z, .int i => z.length ≤ sizeLine ∧ match atI z.cps.toList i with
    | some c => Q (.str ⟨#[c]⟩)
    | none => False
  | _, _ => False
theorem atI_rps {K : Frag} {F : Hp} {vs : List V} {ds : List D} (h : Rps K F vs ds) {i : Int} {d : D} (e : atI ds i = some d) : ∃ v, atI vs i = some v ∧ Rp K F v d := by
  unfold atI at e ⊢
  rw [h.length]
  cases q : ixN ds.length i with
  | none => rw [q] at e; cases e
  | some j =>
    rw [q] at e
    obtain ⟨v, h1, h2⟩ := h.get (i := j) e
    exact ⟨v, h1, h2⟩
theorem Mr.ix (x y : D) : Mr (dIx x y) := fun Q Q' h q => by
  unfold dIx at q ⊢
  split at q
  · split at q
    · exact h _ q
    · exact q.elim
  · split at q
    · exact h _ q
    · exact q.elim
  · refine ⟨q.1, ?_⟩
    have q := q.2
    split at q
    · exact h _ q
    · exact q.elim
  · exact q.elim
theorem od_ix {K : Frag} : OpD K dIx (rIx K) where
  mr := Mr.ix
  ok := fun x y F H d e Q R s rx ry q k => by
    unfold dIx at q
    split at q
    · obtain ⟨a, xs, rfl, ha, ra⟩ := no_lst rx
      rw [no_int ry]
      split at q
      · rename_i d he
        obtain ⟨v, h1, h2⟩ := atI_rps ra he
        exact .inl ⟨a, xs, _, v, rfl, rfl, .of (s _ _ ha), h1, k _ F H _ (.refl s) h2 q⟩
      · exact q.elim
    · obtain ⟨a, xs, rfl, ha, ra⟩ := no_tup rx
      rw [no_int ry]
      split at q
      · rename_i d he
        obtain ⟨v, h1, h2⟩ := atI_rps ra he
        exact .inr (.inl ⟨a, xs, _, v, rfl, rfl, sqT_mono s ha, h1, k _ F H _ (.refl s) h2 q⟩)
      · exact q.elim
    · rw [no_str rx, no_int ry]
      obtain ⟨z, q⟩ := q
      split at q
      · rename_i c he
        exact .inr (.inr ⟨_, _, c, rfl, rfl, z, he, k _ F H _ (.refl s) (.str _) q⟩)
      · exact q.elim
    · exact q.elim
/-! slices -/
def cutD {α : Type} (xs : List α) (lo hi : Option Int) : List α := (xs.drop (HT.sIx xs.length 0 lo)).take (HT.sIx xs.length xs.length hi - HT.sIx xs.length 0 lo)
def dSl (lo hi : Option Int) : R1d := fun x Q => match x with
  | .list ds => Q (.list (cutD ds lo hi))
  | .tuple ds => Q (.tuple (cutD ds lo hi))
  | .str z => z.length ≤ sizeLine ∧ Q (.str (cutS z lo hi))
  | _ => False
theorem Mr.sl (lo hi : Option Int) (x : D) : Mr (dSl lo hi x) := fun Q Q' h q => by
  unfold dSl at q ⊢
  split at q <;> first | exact h _ q | exact ⟨q.1, h _ q.2⟩ | exact q.elim
theorem Rps.cut {K : Frag} {F : Hp} {vs : List V} {ds : List D} (h : Rps K F vs ds) (lo hi : Option Int) : Rps K F (cutV vs lo hi) (cutD ds lo hi) := by
  unfold cutV cutD
  rw [h.length]
  exact (h.drop _).take _
theorem cutD_all {α : Type} {xs : List α} {lo hi : Option Int} (h : HT.sIx xs.length 0 lo = 0 ∧ HT.sIx xs.length xs.length hi = xs.length) : cutD xs lo hi = xs := by
  unfold cutD
  rw [h.1, h.2]
  simp
abbrev TOd := En → (Option Int → En → Prop) → Prop
def liftO (K : Frag) (W : Wd) (t : TOd) : TO := fun σ H Q => ∃ F ρ, Rel K W F ρ σ H ∧ t ρ fun o ρ' => ∀ F' H', Sub F F' → Rel K W F' ρ' σ H' → Q o H'
structure PDO (X : Cx) (W : Wd) (e : Option Expr) (t : TOd) : Prop where
  mo : Mo t
  po : PO X e (liftO X.K W t)
theorem POimp {X : Cx} {e : Option Expr} {t t' : TO} (h : PO X e t) (i : ∀ σ H Q, t' σ H Q → t σ H Q) : PO X e t' := ⟨fun pins s σ H Q I q => h.run pins s σ H Q I (i σ H Q q)⟩
def oNone : TOd := fun ρ Q => Q none ρ
def oSome (t : TEd) : TOd := fun ρ Q => t ρ fun d ρ' => match d with
  | .int i => Q (some i) ρ'
  | _ => False
def dSlice (te : TEd) (tl th : TOd) : TEd := fun ρ Q => te ρ fun x ρ1 => tl ρ1 fun lo ρ2 => th ρ2 fun hi ρ3 => dSl lo hi x fun z => Q z ρ3
def rSlQ (K : Frag) : V → Option Int → Option Int → Hp → VK → Prop := fun x lo hi H Q => rSlL K x lo hi H Q ∨ rSlA K x lo hi H Q ∨ rSlS x lo hi H Q
section
variable {X : Cx} {W : Wd} {pos : Pos}
theorem sl_Q : SlR X (rSlQ X.K) := sl_list.or (sl_tupA.or sl_str)
theorem pdo_none : PDO X W none oNone := ⟨fun _ _ _ k q => k _ _ q, POimp po_none fun σ H Q h => by
  obtain ⟨F, ρ, R, h⟩ := h
  exact h F H (.refl F) R⟩
theorem pdo_some {e : Expr} {t : TEd} (he : PD X W e t) : PDO X W (some e) (oSome t) :=
  ⟨fun ρ Q Q' k q => he.mo _ _ _ (fun d ρ' q => by cases d <;> first | exact q.elim | exact k _ _ q) q, POimp (po_some he.pe) fun σ H Q h => by
    obtain ⟨F, ρ, R, h⟩ := h
    refine ⟨F, ρ, R, he.mo _ _ _ (fun d ρ' q F' H' v s R' r => ?_) h⟩
    cases d with
    | int i => cases r; exact ⟨i, rfl, q F' H' s R'⟩
    | _ => exact q.elim⟩
theorem sl_step {K : Frag} {F H : Hp} {x : V} {d : D} {lo hi : Option Int} {Q : D → Prop} {R : VK} (s : Sub F H) (r : Rp K F x d) (q : dSl lo hi d Q) (k : ∀ z F' H' v, Ext F H F' H' → Rp K F' v z → Q z → R v H') : rSlQ K x lo hi H R := by
  unfold dSl at q
  split at q
  · obtain ⟨a, xs, rfl, ha, ra⟩ := no_lst r
    exact .inl ⟨a, xs, rfl, .of (s _ _ ha), fun p hp => k _ _ _ _ (.new s hp) (rp_newL (s.none hp) (ra.cut lo hi)) q⟩
  · obtain ⟨a, xs, rfl, ha, ra⟩ := no_tup r
    refine .inr (.inl ⟨a, xs, rfl, sqT_mono s ha, fun e => ?_, fun _ p hp => k _ _ _ _ (.new s hp) (rp_newT (s.none hp) (ra.cut lo hi)) q⟩)
    rw [ra.length] at e
    rw [cutD_all e] at q
    exact k _ F H _ (.refl s) (.tup ha ra) q
  · rw [no_str r]
    exact .inr (.inr ⟨_, rfl, q.1, k _ F H _ (.refl s) (.str _) q.2⟩)
  · exact q.elim
theorem pd_slice {e : Expr} {lo hi : Option Expr} {te : TEd} {tl th : TOd} {p2 : Pos} (he : PD X W e te) (hl : PDO X W lo tl) (hu : PDO X W hi th) : PD X W (.Subscript e (.Slice lo hi none p2) pos) (dSlice te tl th) :=
  ⟨fun ρ Q Q' k q => he.mo _ _ _ (fun x ρ1 q => hl.mo _ _ _ (fun lo ρ2 q => hu.mo _ _ _ (fun hi ρ3 q => Mr.sl _ _ _ _ _ (fun z q => k _ _ q) q) q) q) q, PEimp (pe_slice sl_Q he.pe hl.po hu.po) fun σ H Q h => by
    obtain ⟨F, ρ, R, h⟩ := h
    refine ⟨F, ρ, R, he.mo _ _ _ (fun x ρ1 q1 F1 H1 vx s1 R1 rx => ?_) h⟩
    refine ⟨F1, ρ1, R1, hl.mo _ _ _ (fun lo ρ2 q2 F2 H2 s2 R2 => ?_) q1⟩
    refine ⟨F2, ρ2, R2, hu.mo _ _ _ (fun hi ρ3 q3 F3 H3 s3 R3 => ?_) q2⟩
    exact sl_step R3.core.fh ((rx.mn s2).mn s3) q3 fun z F' H' v e rz q => q F' H' v (((s1.trans s2).trans s3).trans e.ff) (R3.ext e) rz⟩
end
end KD
namespace KD
open PySem PySem.Spec PyProof.Rows L2
/-! ### built-in functions over data -/
abbrev RCd := List D → (D → Prop) → Prop
def dCB (r : RCd) (t : TAd) : TEd := fun ρ Q => t ρ fun ds ρ' => r ds fun z => Q z ρ'
structure CaD (K : Frag) (r : RCd) (q : List V → Hp → VK → Prop) : Prop where
  mr : ∀ ds, Mr (r ds)
  ok : ∀ vs F H ds (Q : D → Prop) (R : VK), Sub F H → Rps K F vs ds → r ds Q → (∀ z F' H' v, Ext F H F' H' → Rp K F' v z → Q z → R v H') → q vs H R
theorem Mo.cb {r : RCd} {t : TAd} (hr : ∀ ds, Mr (r ds)) (h : Mo t) : Mo (dCB r t) := fun ρ Q Q' k q => h _ _ _ (fun ds ρ' q => hr ds _ _ (fun z q => k _ _ q) q) q
section
variable {X : Cx} {W : Wd} {pos : Pos}
theorem lift_cb {r : RCd} {q : List V → Hp → VK → Prop} {t : TAd} (o : CaD X.K r q) (ha : Mo t) {σ : L2.St} {H : Hp} {Q : VK} (h : lift X.K W (dCB r t) σ H Q) : tCB q (liftS X.K W t) σ H Q := by
  obtain ⟨F, ρ, R, h⟩ := h
  refine ⟨F, ρ, R, ha _ _ _ (fun ds ρ1 q1 F1 H1 vs s1 R1 rs => ?_) h⟩
  exact o.ok vs F1 H1 ds _ Q R1.core.fh rs q1 fun z F' H' v e rz q => q F' H' v (s1.trans e.ff) (R1.ext e) rz
theorem pd_callB {r : RCd} {q : List V → Hp → VK → Prop} {id : String} {x : Str} {p : Pos} {e : Expr} {es : List Expr} {t : TAd} (o : CaD X.K r q) (hc : CallR X (.builtin id) q) (hg : Gl X x) (hm : X.mg x = none) (hv : bootBuiltins x = some (.builtin id)) (ha : PDs X W (e :: es) t) (hn : x ≠ "__name__" := by decide) (hdb : (x == ("__debug__" : Str)) = false := by decide)
    (he : starEach (e :: es) X.env = (false, eval e X.env) :: starEach es X.env := by rfl) (hpl : (backTo pos (starEach es X.env)).any (·.1) = false := by rfl) : PD X W (.Call (.Name x p) (e :: es) [] pos) (dCB r t) :=
  ⟨.cb o.mr ha.mo, PEimp (pe_callB hc hg hm hv ha.pa hn hdb he hpl) fun _ _ _ h => lift_cb o ha.mo h⟩
theorem pd_callTy {r : RCd} {q : List V → Hp → VK → Prop} {id : String} {x : Str} {p : Pos} {e : Expr} {es : List Expr} {t : TAd} (o : CaD X.K r q) (hc : CallR X (.type id) q) (hg : Gl X x) (hm : X.mg x = none) (hv : bootBuiltins x = some (.type id)) (ha : PDs X W (e :: es) t) (hn : x ≠ "__name__" := by decide) (hdb : (x == ("__debug__" : Str)) = false := by decide)
    (he : starEach (e :: es) X.env = (false, eval e X.env) :: starEach es X.env := by rfl) (hpl : (backTo pos (starEach es X.env)).any (·.1) = false := by rfl) : PD X W (.Call (.Name x p) (e :: es) [] pos) (dCB r t) :=
  ⟨.cb o.mr ha.mo, PEimp (pe_callTy hc hg hm hv ha.pa hn hdb he hpl) fun _ _ _ h => lift_cb o ha.mo h⟩
end
def dLen : RCd := fun ds Q => match ds with
  | [.list xs] => Q (.int xs.length)
  | [.tuple xs] => Q (.int xs.length)
  | [.str z] => z.length ≤ sizeLine ∧ Q (.int z.length)
  | _ => False
theorem one_of {K : Frag} {F : Hp} {vs : List V} {d : D} (h : Rps K F vs [d]) : ∃ v, vs = [v] ∧ Rp K F v d := by
  cases h with
  | cons a b => cases b; exact ⟨_, rfl, a⟩
theorem two_of {K : Frag} {F : Hp} {vs : List V} {d e : D} (h : Rps K F vs [d, e]) : ∃ v w, vs = [v, w] ∧ Rp K F v d ∧ Rp K F w e := by
  cases h with
  | cons a b =>
    obtain ⟨w, rfl, r⟩ := one_of b
    exact ⟨_, w, rfl, a, r⟩
def qLen (K : Frag) : List V → Hp → VK → Prop := fun xs H Q => (∃ p ys, xs = [.ref p] ∧ (SqL K H p ys ∨ SqT K H p ys) ∧ Q (.int ys.length) H) ∨ ∃ z, xs = [.str z] ∧ z.length ≤ sizeLine ∧ Q (.int z.length) H
theorem cr_qLen {X : Cx} : CallR X (.builtin "len") (qLen X.K) := call_len_seq.or call_len_str
theorem cd_len {K : Frag} : CaD K dLen (qLen K) where
  mr := fun ds Q Q' h q => by
    unfold dLen at q ⊢
    split at q <;> first | exact h _ q | exact ⟨q.1, h _ q.2⟩ | exact q.elim
  ok := fun vs F H ds Q R s rs q k => by
    unfold dLen at q
    split at q
    · obtain ⟨v, rfl, r⟩ := one_of rs
      obtain ⟨a, xs, rfl, ha, ra⟩ := no_lst r
      exact .inl ⟨a, xs, rfl, .inl (.of (s _ _ ha)), by rw [ra.length]; exact k _ F H _ (.refl s) (.int _) q⟩
    · obtain ⟨v, rfl, r⟩ := one_of rs
      obtain ⟨a, xs, rfl, ha, ra⟩ := no_tup r
      exact .inl ⟨a, xs, rfl, .inr (sqT_mono s ha), by rw [ra.length]; exact k _ F H _ (.refl s) (.int _) q⟩
    · obtain ⟨v, rfl, r⟩ := one_of rs
      rw [no_str r]
      exact .inr ⟨_, rfl, q.1, k _ F H _ (.refl s) (.int _) q.2⟩
    · exact q.elim
def dAbs : RCd := fun ds Q => match ds with
  | [.int i] => Q (.int (if i < 0 then -i else i))
  | _ => False
theorem cd_abs {K : Frag} : CaD K dAbs (fun xs H Q => ∃ i, xs = [.int i] ∧ Q (.int (if i < 0 then -i else i)) H) where
  mr := fun ds Q Q' h q => by
    unfold dAbs at q ⊢
    split at q <;> first | exact h _ q | exact q.elim
  ok := fun vs F H ds Q R s rs q k => by
    unfold dAbs at q
    split at q
    · obtain ⟨v, rfl, r⟩ := one_of rs
      rw [no_int r]
      exact ⟨_, rfl, k _ F H _ (.refl s) (.int _) q⟩
    · exact q.elim
def dMax2 : RCd := fun ds Q => match ds with
  | [.int i, .int j] => Q (.int (if j > i then j else i))
  | _ => False
def dMin2 : RCd := fun ds Q => match ds with
  | [.int i, .int j] => Q (.int (if j < i then j else i))
  | _ => False
theorem cd_max2 {K : Frag} : CaD K dMax2 (fun xs H Q => ∃ i j, xs = [.int i, .int j] ∧ Q (.int (if j > i then j else i)) H) where
  mr := fun ds Q Q' h q => by
    unfold dMax2 at q ⊢
    split at q <;> first | exact h _ q | exact q.elim
  ok := fun vs F H ds Q R s rs q k => by
    unfold dMax2 at q
    split at q
    · obtain ⟨v, w, rfl, r, r'⟩ := two_of rs
      rw [no_int r, no_int r']
      exact ⟨_, _, rfl, k _ F H _ (.refl s) (.int _) q⟩
    · exact q.elim
theorem cd_min2 {K : Frag} : CaD K dMin2 (fun xs H Q => ∃ i j, xs = [.int i, .int j] ∧ Q (.int (if j < i then j else i)) H) where
  mr := fun ds Q Q' h q => by
    unfold dMin2 at q ⊢
    split at q <;> first | exact h _ q | exact q.elim
  ok := fun vs F H ds Q R s rs q k => by
    unfold dMin2 at q
    split at q
    · obtain ⟨v, w, rfl, r, r'⟩ := two_of rs
      rw [no_int r, no_int r']
      exact ⟨_, _, rfl, k _ F H _ (.refl s) (.int _) q⟩
    · exact q.elim
def dInt : RCd := fun ds Q => match ds with
  | [.int i] => Q (.int i)
  | [.bool b] => Q (.int (if b then 1 else 0))
  | _ => False
theorem cd_int {K : Frag} : CaD K dInt (fun xs H Q => (∃ i, xs = [.int i] ∧ Q (.int i) H) ∨ ∃ k, xs = [.bl k] ∧ Q (.int (if k then 1 else 0)) H) where
  mr := fun ds Q Q' h q => by
    unfold dInt at q ⊢
    split at q <;> first | exact h _ q | exact q.elim
  ok := fun vs F H ds Q R s rs q k => by
    unfold dInt at q
    split at q
    · obtain ⟨v, rfl, r⟩ := one_of rs
      rw [no_int r]
      exact .inl ⟨_, rfl, k _ F H _ (.refl s) (.int _) q⟩
    · obtain ⟨v, rfl, r⟩ := one_of rs
      rw [no_bl r]
      exact .inr ⟨_, rfl, k _ F H _ (.refl s) (.int _) q⟩
    · exact q.elim
def dStr : RCd := fun ds Q => match ds with
  | [.int i] => i.natAbs.log2 < 1920 ∧ Q (.str (toString i))
  | _ => False
theorem cd_str {K : Frag} : CaD K dStr (fun xs H Q => ∃ i, xs = [.int i] ∧ i.natAbs.log2 < 1920 ∧ Q (.str (toString i)) H) where
  mr := fun ds Q Q' h q => by
    unfold dStr at q ⊢
    split at q <;> first | exact ⟨q.1, h _ q.2⟩ | exact q.elim
  ok := fun vs F H ds Q R s rs q k => by
    unfold dStr at q
    split at q
    · obtain ⟨v, rfl, r⟩ := one_of rs
      rw [no_int r]
      exact ⟨_, rfl, q.1, k _ F H _ (.refl s) (.str _) q.2⟩
    · exact q.elim
/-! lists of ints, of bools -/
def dSum : RCd := fun ds Q => match ds with
  | [.list xs] => ∃ ns : List Int, xs = ns.map PyData.int ∧ Q (.int ns.sum)
  | _ => False
theorem cd_sum {K : Frag} : CaD K dSum (rSum K) where
  mr := fun ds Q Q' h q => by
    unfold dSum at q ⊢
    split at q <;> first | (obtain ⟨ns, e, q⟩ := q; exact ⟨ns, e, h _ q⟩) | exact q.elim
  ok := fun vs F H ds Q R s rs q k => by
    unfold dSum at q
    split at q
    · obtain ⟨v, rfl, r⟩ := one_of rs
      obtain ⟨a, xs, rfl, ha, ra⟩ := no_lst r
      obtain ⟨ns, rfl, q⟩ := q
      have := ra.ints
      subst this
      exact ⟨a, ns, rfl, .of (s _ _ ha), k _ F H _ (.refl s) (.int _) q⟩
    · exact q.elim
def dMaxL : RCd := fun ds Q => match ds with
  | [.list xs] => ∃ ns : List Int, xs = ns.map PyData.int ∧ 0 < ns.length ∧ ∀ m, m ∈ ns → (∀ y, y ∈ ns → y ≤ m) → Q (.int m)
  | _ => False
def dMinL : RCd := fun ds Q => match ds with
  | [.list xs] => ∃ ns : List Int, xs = ns.map PyData.int ∧ 0 < ns.length ∧ ∀ m, m ∈ ns → (∀ y, y ∈ ns → m ≤ y) → Q (.int m)
  | _ => False
theorem cd_maxL {K : Frag} : CaD K dMaxL (rMax K) where
  mr := fun ds Q Q' h q => by
    unfold dMaxL at q ⊢
    split at q <;> first | (obtain ⟨ns, e, l, q⟩ := q; exact ⟨ns, e, l, fun m h1 h2 => h _ (q m h1 h2)⟩) | exact q.elim
  ok := fun vs F H ds Q R s rs q k => by
    unfold dMaxL at q
    split at q
    · obtain ⟨v, rfl, r⟩ := one_of rs
      obtain ⟨a, xs, rfl, ha, ra⟩ := no_lst r
      obtain ⟨ns, rfl, l, q⟩ := q
      have := ra.ints
      subst this
      exact ⟨a, ns, rfl, .of (s _ _ ha), l, fun m h1 h2 => k _ F H _ (.refl s) (.int _) (q m h1 h2)⟩
    · exact q.elim
theorem cd_minL {K : Frag} : CaD K dMinL (rMin K) where
  mr := fun ds Q Q' h q => by
    unfold dMinL at q ⊢
    split at q <;> first | (obtain ⟨ns, e, l, q⟩ := q; exact ⟨ns, e, l, fun m h1 h2 => h _ (q m h1 h2)⟩) | exact q.elim
  ok := fun vs F H ds Q R s rs q k => by
    unfold dMinL at q
    split at q
    · obtain ⟨v, rfl, r⟩ := one_of rs
      obtain ⟨a, xs, rfl, ha, ra⟩ := no_lst r
      obtain ⟨ns, rfl, l, q⟩ := q
      have := ra.ints
      subst this
      exact ⟨a, ns, rfl, .of (s _ _ ha), l, fun m h1 h2 => k _ F H _ (.refl s) (.int _) (q m h1 h2)⟩
    · exact q.elim
def dAny : RCd := fun ds Q => match ds with
  | [.list xs] => ∃ bs : List Bool, xs = bs.map PyData.bool ∧ Q (.bool (bs.any id))
  | _ => False
def dAll : RCd := fun ds Q => match ds with
  | [.list xs] => ∃ bs : List Bool, xs = bs.map PyData.bool ∧ Q (.bool (bs.all id))
  | _ => False
theorem cd_any {K : Frag} : CaD K dAny (rAny K) where
  mr := fun ds Q Q' h q => by
    unfold dAny at q ⊢
    split at q <;> first | (obtain ⟨ns, e, q⟩ := q; exact ⟨ns, e, h _ q⟩) | exact q.elim
  ok := fun vs F H ds Q R s rs q k => by
    unfold dAny at q
    split at q
    · obtain ⟨v, rfl, r⟩ := one_of rs
      obtain ⟨a, xs, rfl, ha, ra⟩ := no_lst r
      obtain ⟨ns, rfl, q⟩ := q
      have := ra.bls
      subst this
      exact ⟨a, ns, rfl, .of (s _ _ ha), k _ F H _ (.refl s) (.bl _) q⟩
    · exact q.elim
theorem cd_all {K : Frag} : CaD K dAll (rAll K) where
  mr := fun ds Q Q' h q => by
    unfold dAll at q ⊢
    split at q <;> first | (obtain ⟨ns, e, q⟩ := q; exact ⟨ns, e, h _ q⟩) | exact q.elim
  ok := fun vs F H ds Q R s rs q k => by
    unfold dAll at q
    split at q
    · obtain ⟨v, rfl, r⟩ := one_of rs
      obtain ⟨a, xs, rfl, ha, ra⟩ := no_lst r
      obtain ⟨ns, rfl, q⟩ := q
      have := ra.bls
      subst this
      exact ⟨a, ns, rfl, .of (s _ _ ha), k _ F H _ (.refl s) (.bl _) q⟩
    · exact q.elim
/-! list(x), tuple(x) -/
def dList : RCd := fun ds Q => match ds with
  | [.list xs] => Q (.list xs)
  | [.tuple xs] => Q (.list xs)
  | _ => False
def dTuple : RCd := fun ds Q => match ds with
  | [.list xs] => Q (.tuple xs)
  | [.tuple xs] => Q (.tuple xs)
  | _ => False
theorem cd_list {K : Frag} : CaD K dList (fun xs H Q => ∃ p ys, xs = [.ref p] ∧ (SqL K H p ys ∨ SqT K H p ys) ∧ ∀ l, H l = none → Q (.ref l) (upd H l (.lst ys))) where
  mr := fun ds Q Q' h q => by
    unfold dList at q ⊢
    split at q <;> first | exact h _ q | exact q.elim
  ok := fun vs F H ds Q R s rs q k => by
    unfold dList at q
    split at q
    · obtain ⟨v, rfl, r⟩ := one_of rs
      obtain ⟨a, xs, rfl, ha, ra⟩ := no_lst r
      exact ⟨a, xs, rfl, .inl (.of (s _ _ ha)), fun l hl => k _ _ _ _ (.new s hl) (rp_newL (s.none hl) ra) q⟩
    · obtain ⟨v, rfl, r⟩ := one_of rs
      obtain ⟨a, xs, rfl, ha, ra⟩ := no_tup r
      exact ⟨a, xs, rfl, .inr (sqT_mono s ha), fun l hl => k _ _ _ _ (.new s hl) (rp_newL (s.none hl) ra) q⟩
    · exact q.elim
theorem cd_tuple {K : Frag} : CaD K dTuple (fun xs H Q => ∃ p ys, xs = [.ref p] ∧ ((SqL K H p ys ∧ ∀ l, H l = none → Q (.ref l) (upd H l (.tup ys))) ∨ (SqT K H p ys ∧ Q (.ref p) H))) where
  mr := fun ds Q Q' h q => by
    unfold dTuple at q ⊢
    split at q <;> first | exact h _ q | exact q.elim
  ok := fun vs F H ds Q R s rs q k => by
    unfold dTuple at q
    split at q
    · obtain ⟨v, rfl, r⟩ := one_of rs
      obtain ⟨a, xs, rfl, ha, ra⟩ := no_lst r
      exact ⟨a, xs, rfl, .inl ⟨.of (s _ _ ha), fun l hl => k _ _ _ _ (.new s hl) (rp_newT (s.none hl) ra) q⟩⟩
    · obtain ⟨v, rfl, r⟩ := one_of rs
      obtain ⟨a, xs, rfl, ha, ra⟩ := no_tup r
      exact ⟨a, xs, rfl, .inr ⟨sqT_mono s ha, k _ F H _ (.refl s) (.tup ha ra) q⟩⟩
    · exact q.elim
/-! sorted -/
def dSorted : RCd := fun ds Q => match ds with
  | [.list xs] => ∃ ns : List Int, xs = ns.map PyData.int ∧ ∀ ns' : List Int, ns'.Perm ns → ns'.Pairwise (· ≤ ·) → Q (.list (ns'.map PyData.int))
  | _ => False
theorem cd_sorted {K : Frag} : CaD K dSorted (rSortedI K) where
  mr := fun ds Q Q' h q => by
    unfold dSorted at q ⊢
    split at q <;> first | (obtain ⟨ns, e, q⟩ := q; exact ⟨ns, e, fun m h1 h2 => h _ (q m h1 h2)⟩) | exact q.elim
  ok := fun vs F H ds Q R s rs q k => by
    unfold dSorted at q
    split at q
    · obtain ⟨v, rfl, r⟩ := one_of rs
      obtain ⟨a, xs, rfl, ha, ra⟩ := no_lst r
      obtain ⟨ns, rfl, q⟩ := q
      have := ra.ints
      subst this
      exact ⟨a, ns, rfl, .of (s _ _ ha), fun ns' p h1 h2 hp => k _ _ _ _ (.new s hp) (rp_newL (s.none hp) (.ofInts _)) (q ns' h1 h2)⟩
    · exact q.elim
def dSortedS : RCd := fun ds Q => match ds with
  | [.list xs] => ∃ ns : List Str, xs = ns.map PyData.str ∧ ns.length < 64 ∧ ∀ ns' : List Str, ns'.Perm ns → sortedS ns' = true → Q (.list (ns'.map PyData.str))
  | _ => False
theorem cd_sortedS {K : Frag} : CaD K dSortedS (rSortedS K) where
  mr := fun ds Q Q' h q => by
    unfold dSortedS at q ⊢
    split at q <;> first | (obtain ⟨ns, e, l, q⟩ := q; exact ⟨ns, e, l, fun m h1 h2 => h _ (q m h1 h2)⟩) | exact q.elim
  ok := fun vs F H ds Q R s rs q k => by
    unfold dSortedS at q
    split at q
    · obtain ⟨v, rfl, r⟩ := one_of rs
      obtain ⟨a, xs, rfl, ha, ra⟩ := no_lst r
      obtain ⟨ns, rfl, l, q⟩ := q
      have := ra.strs
      subst this
      exact ⟨a, ns, rfl, .of (s _ _ ha), l, fun ns' p h1 h2 hp => k _ _ _ _ (.new s hp) (rp_newL (s.none hp) (.ofStrs _)) (q ns' h1 h2)⟩
    · exact q.elim
/-! ### isinstance -/
/-- the types of data -/
inductive Ty where
  | non | bool | int | str | list | tuple | dict
def Ty.nm : Ty → String
  | .non => "NoneType"
  | .bool => "bool"
  | .int => "int"
  | .str => "str"
  | .list => "list"
  | .tuple => "tuple"
  | .dict => "dict"
def tyD : D → Option Ty
  | .none => some .non
  | .bool _ => some .bool
  | .int _ => some .int
  | .str _ => some .str
  | .list _ => some .list
  | .tuple _ => some .tuple
  | .dict [] => some .dict
  | .dict ((.int _, _) :: _) => some .dict
  | .dict ((.str _, _) :: _) => some .dict
  | .dict _ => none
theorem ty_of {K : Frag} {F H : Hp} {v : V} {d : D} {n : Ty} (s : Sub F H) (r : Rp K F v d) (h : tyD d = some n) : TyX K H v (.type n.nm) := by
  cases r with
  | non => cases h; exact .base .non
  | bl b => cases h; exact .base (.bl b)
  | int b => cases h; exact .base (.int b)
  | str b => cases h; exact .base (.str b)
  | lst a b => cases h; exact .base (.lst (s _ _ a))
  | tup a b =>
    cases h
    rcases a with (a | ⟨o, a⟩) | ⟨o, its, k, a, c, _⟩
    · exact .base (.tup (s _ _ a))
    · exact .fTuple (s _ _ a)
    · exact .kTuple a c
  | dct a b =>
    cases b with
    | nil => cases h; exact .base (.dK (s _ _ a))
    | @cons k v kvs d es b c =>
      cases k <;> (cases h; exact .base (.dK (s _ _ a)))
  | opq a => cases h
  | scr a => cases h
def isiT : Ty → Ty → Bool
  | .bool, .int => true
  | .non, .non => true
  | .bool, .bool => true
  | .int, .int => true
  | .str, .str => true
  | .list, .list => true
  | .tuple, .tuple => true
  | .dict, .dict => true
  | _, _ => false
theorem isiT_ok (a b : Ty) : kitB a.nm b.nm = some (isiT a b) := by
  cases a <;> cases b <;> decide +kernel
theorem isiT_any {K : Frag} {n : Ty} : ∀ {ms : List Ty}, PySem.W.kitAny K (.type n.nm) (ms.map fun m => Value.type m.nm) = some (ms.any (isiT n))
  | [] => rfl
  | m :: ms => by
    rw [List.any_cons]
    refine kitAny_cons (kit_ty (isiT_ok n m)) (fun e => ?_) (fun e => ?_)
    · rw [e, Bool.false_or]; exact isiT_any
    · rw [e, Bool.true_or]
/-- isinstance(d, one of these built-in types) -/
def dIsi (ms : List Ty) (te : TEd) : TEd := fun ρ Q => te ρ fun d ρ' => match tyD d with
  | some n => Q (.bool (ms.any (isiT n))) ρ'
  | none => False
theorem Mo.isi {ms : List Ty} {te : TEd} (h : Mo te) : Mo (dIsi ms te) := fun ρ Q Q' k q => h _ _ _ (fun d ρ' q => by
  split at q
  · exact k _ _ q
  · exact q.elim) q
section
variable {X : Cx} {W : Wd} {pos : Pos}
theorem pd_isi {e : Expr} {te : TEd} (m : Ty) {x : Str} {p p2 : Pos} (he : PD X W e te) (hg : Gl X "isinstance") (hm : X.mg "isinstance" = none) (hgx : Gl X x) (hmx : X.mg x = none) (hv : bootBuiltins x = some (.type m.nm)) (hn : x ≠ "__name__" := by decide) (hd : (x == ("__debug__" : Str)) = false := by decide)
    (hs : starEach [e, .Name x p2] X.env = (false, eval e X.env) :: starEach [.Name x p2] X.env := by rfl) (hs2 : starEach [.Name x p2] X.env = [(false, eval (.Name x p2) X.env)] := by rfl)
    (hpl : (backTo pos (starEach [.Name x p2] X.env)).any (·.1) = false := by rfl) : PD X W (.Call (.Name "isinstance" p) [e, .Name x p2] [] pos) (dIsi [m] te) :=
  ⟨.isi he.mo, PEimp (pe_callB call_isi hg hm (by decide +kernel) (pa_cons he.pe (pa_cons (pe_bltn (v := .ty m.nm) hgx hmx hv rfl hn hd) pa_nil hs2) hs) (by decide) (by decide) hs hpl) fun σ H Q h => by
    obtain ⟨F, ρ, R, h⟩ := h
    refine ⟨F, ρ, R, he.mo _ _ _ (fun d ρ' q F' H' v s R' r => ?_) h⟩
    split at q
    · rename_i n hn
      refine ⟨v, .ty m.nm, _, _, isiT n m, rfl, .ty _, ty_of R'.core.fh r hn, kit_ty (isiT_ok n m), ?_⟩
      have e : [m].any (isiT n) = isiT n m := by rw [List.any_cons, List.any_nil, Bool.or_false]
      rw [e] at q
      exact q F' H' _ s R' (.bl _)
    · exact q.elim⟩
theorem pd_isi2 {e : Expr} {te : TEd} (m1 m2 : Ty) {x1 x2 : Str} {p p2 p3 p4 : Pos} {k : Nat} (he : PD X W e te) (hg : Gl X "isinstance") (hm : X.mg "isinstance" = none) (hgx : Gl X x1) (hmx : X.mg x1 = none) (hv : bootBuiltins x1 = some (.type m1.nm)) (hgy : Gl X x2) (hmy : X.mg x2 = none) (hvy : bootBuiltins x2 = some (.type m2.nm))
    (hn : x1 ≠ "__name__" := by decide) (hd : (x1 == ("__debug__" : Str)) = false := by decide) (hn2 : x2 ≠ "__name__" := by decide) (hd2 : (x2 == ("__debug__" : Str)) = false := by decide)
    (hs : starEach [e, .Tuple [.Name x1 p2, .Name x2 p3] k p4] X.env = (false, eval e X.env) :: starEach [.Tuple [.Name x1 p2, .Name x2 p3] k p4] X.env := by rfl)
    (hpl : (backTo pos (starEach [.Tuple [.Name x1 p2, .Name x2 p3] k p4] X.env)).any (·.1) = false := by rfl) : PD X W (.Call (.Name "isinstance" p) [e, .Tuple [.Name x1 p2, .Name x2 p3] k p4] [] pos) (dIsi [m1, m2] te) :=
  ⟨.isi he.mo, PEimp (pe_callB call_isiT hg hm (by decide +kernel) (pa_cons he.pe (pa_cons (pe_tup (pa_cons (pe_bltn (v := .ty m1.nm) hgx hmx hv rfl hn hd) (pa_cons (pe_bltn (v := .ty m2.nm) hgy hmy hvy rfl hn2 hd2) pa_nil))) pa_nil) hs) (by decide) (by decide) hs hpl) fun σ H Q h => by
    obtain ⟨F, ρ, R, h⟩ := h
    refine ⟨F, ρ, R, he.mo _ _ _ (fun d ρ' q F' H' v s R' r => ?_) h⟩
    split at q
    · rename_i n hn
      refine ⟨by show 2 ≤ sizeLine; decide, fun t ht => ?_⟩
      have R2 := R'.ext (Ext.add (o := .tup [.ty m1.nm, .ty m2.nm]) R'.core.fh ht)
      exact ⟨v, t, [.ty m1.nm, .ty m2.nm], _, [.type m1.nm, .type m2.nm], _, rfl, upd_same, .cons (.ty _) (.cons (.ty _) .nil), ty_of R2.core.fh r hn, isiT_any (ms := [m1, m2]), q F' _ _ s R2 (.bl _)⟩
    · exact q.elim⟩
end
end KD
namespace KD
open PySem PySem.Spec PyProof.Rows L2
/-! ### a list, a tuple or a text walked -/
def seqOf : D → Option (List D)
  | .list ds => some ds
  | .tuple ds => some ds
  | .str z => some (z.cps.toList.map fun c => .str ⟨#[c]⟩)
  | _ => none
def dAnySeq (t : TEd) : TAd := fun ρ Q => t ρ fun d ρ' => match d with
  | .list ds => Q ds ρ'
  | .tuple ds => Q ds ρ'
  | .str z => Q (z.cps.toList.map fun c => .str ⟨#[c]⟩) ρ'
  | _ => False
theorem Mo.anySeq {t : TEd} (h : Mo t) : Mo (dAnySeq t) := fun ρ Q Q' k q => h _ _ _ (fun d ρ' q => by cases d <;> first | exact q.elim | exact k _ _ q) q
section
variable {X : Cx} {W : Wd} {pos : Pos}
theorem pi_any {tg l : Expr} {tl : TE} (hl : PE X l tl) : PI X tg l (fun σ H R => tl σ H fun x H1 => (∃ a xs, x = .ref a ∧ SqL X.K H1 a xs ∧ R (Itl X.K a) H1) ∨ (∃ a xs, x = .ref a ∧ SqT X.K H1 a xs ∧ R (Itt X.K a) H1) ∨ ∃ z, x = .str z ∧ R (Its z) H1) := by
  refine ⟨fun pins s σ H R I h => thn (hl.run pins s σ H _ I h) fun v s1 ⟨x, H1, I1, r1, q1⟩ => ?_⟩
  rcases q1 with ⟨a, xs, rfl, hq, q⟩ | ⟨a, xs, rfl, hq, q⟩ | ⟨z, rfl, q⟩
  · cases r1
    obtain ⟨its, _, p, _⟩ := I1.list hq
    exact wpAny_pyIter_list p.isList (pi_one (tk := s1.toks) I1 _ (turn_list a _) ⟨_, Heap.get?_push_size _ rfl, rfl, rfl⟩ q)
  · cases r1
    obtain ⟨its, _, p, _⟩ := I1.tuple hq
    exact wpAny_pyIter_tuple (show s1.heap.IsTuple a its.toArray from p) (pi_one (tk := s1.toks) I1 _ (turn_tuple a _) ⟨_, Heap.get?_push_size _ rfl, rfl, rfl⟩ q)
  · obtain ⟨t, rfl⟩ := r1
    cases ha : z.cps.all (· < 128) with
    | false => exact wpAny_pyIter_wide ha (pi_one (tk := s1.toks) I1 _ (turn_str _ z t "str_iterator" (.inr rfl)) ⟨_, Heap.get?_push_size _ rfl, rfl, rfl⟩ q)
    | true => exact wpAny_pyIter_ascii ha (pi_one (tk := s1.toks) I1 _ (turn_str _ z t "str_ascii_iterator" (.inl rfl)) ⟨_, Heap.get?_push_size _ rfl, rfl, rfl⟩ q)
theorem itOk_list {K : Frag} {F : Hp} {a : Addr} {xs : List V} {ds : List D} (h1 : F a = some (.lst xs)) (h2 : Rps K F xs ds) : ItOk K (Itl K a) ds F := by
  refine ⟨fun i F2 H2 hi s2 f2 => ⟨xs, .of ((s2.trans f2) _ _ h1), by rw [h2.length]; omega⟩, fun i F2 H2 hi s2 f2 => ?_, ?_⟩
  · have : i < xs.length := by rw [h2.length]; exact hi
    exact ⟨xs, xs[i], .of ((s2.trans f2) _ _ h1), by simp [this]⟩
  · rintro i F2 H2 x H3 d hd s2 f2 ⟨rfl, y⟩
    obtain ⟨v, hv, rv⟩ := h2.get hd
    have := y xs (SqL.of ((s2.trans f2) _ _ h1))
    rw [hv] at this; cases this
    exact ⟨F2, Ext.refl f2, rv.mn s2⟩
theorem itOk_tup {K : Frag} {F : Hp} {a : Addr} {xs : List V} {ds : List D} (h1 : SqT K F a xs) (h2 : Rps K F xs ds) : ItOk K (Itt K a) ds F := by
  refine ⟨fun i F2 H2 hi s2 f2 => ⟨xs, sqT_mono (s2.trans f2) h1, by rw [h2.length]; omega⟩, fun i F2 H2 hi s2 f2 => ?_, ?_⟩
  · have : i < xs.length := by rw [h2.length]; exact hi
    exact ⟨xs, xs[i], sqT_mono (s2.trans f2) h1, by simp [this]⟩
  · rintro i F2 H2 x H3 d hd s2 f2 ⟨rfl, y⟩
    obtain ⟨v, hv, rv⟩ := h2.get hd
    have := y xs (sqT_mono (s2.trans f2) h1)
    rw [hv] at this; cases this
    exact ⟨F2, Ext.refl f2, rv.mn s2⟩
theorem itOk_str {K : Frag} {F : Hp} {z : Str} : ItOk K (Its z) (z.cps.toList.map fun c => PyData.str ⟨#[c]⟩) F := by
  refine ⟨fun i F2 H2 hi s2 f2 => ?_, fun i F2 H2 hi s2 f2 => ?_, ?_⟩
  · show z.cps.size ≤ i
    simp at hi; omega
  · show i < z.cps.size
    simpa using hi
  · rintro i F2 H2 x H3 d hd s2 f2 ⟨rfl, c, hc, rfl⟩
    have hc' : z.cps.toList[i]? = some c := by simpa using hc
    rw [List.getElem?_map, hc'] at hd
    cases hd
    exact ⟨F2, Ext.refl f2, .str _⟩
theorem pdi_any {tg e : Expr} {t : TEd} (he : PD X W e t) : PDI X W tg e (dAnySeq t) :=
  ⟨.anySeq he.mo, PIimp (pi_any he.pe) fun σ H Q h => by
    obtain ⟨F, ρ, R, h⟩ := h
    refine ⟨F, ρ, R, he.mo _ _ _ (fun d ρ' q F' H' v s R' r => ?_) h⟩
    cases d with
    | list ds =>
      obtain ⟨a, xs, rfl, h1, h2⟩ := no_lst r
      exact .inl ⟨a, xs, rfl, .of (R'.core.fh _ _ h1), q F' H' _ s R' (itOk_list h1 h2)⟩
    | tuple ds =>
      obtain ⟨a, xs, rfl, h1, h2⟩ := no_tup r
      exact .inr (.inl ⟨a, xs, rfl, sqT_mono R'.core.fh h1, q F' H' _ s R' (itOk_tup h1 h2)⟩)
    | str z =>
      rw [no_str r]
      exact .inr (.inr ⟨z, rfl, q F' H' _ s R' itOk_str⟩)
    | _ => exact q.elim⟩
end
/-! ### the defs of the text -/
/-- the def x of the text, as the top has left it -/
structure DefAt (K : Frag) (mg : Str → Option Value) (x : Str) (st : Stmt) (ps : List Str) (f : Addr) (fd : FuncData) : Prop where
  fn : Fun K x x st f fd
  g : mg x = some (.ref f)
  b : Binds K fd ps []
/-- the def x keeps the promise S -/
structure Sig (P : Program) (w : World) (K : Frag) (mg : Str → Option Value) (base : Heap) (T : List (Addr × Str)) (CX : CXT) (x : Str) (ps : List Str) (k : Nat) (S : Sd) : Prop where
  mo : MoSd S
  ex : ∃ f fd, FnOk P w K mg base CX k f fd ps (spD K T S) ∧ mg x = some (.ref f) ∧ PySem.W.keepIn K (.ref f) = true ∧ Binds K fd ps []
theorem DefAt.sig {P : Program} {w : World} {K : Frag} {mg : Str → Option Value} {base : Heap} {T : List (Addr × Str)} {CX : CXT} {x : Str} {st : Stmt} {ps : List Str} {f : Addr} {fd : FuncData} {k : Nat} {S : Sd} (d : DefAt K mg x st ps f fd) (mo : MoSd S) (h : FnOk P w K mg base CX k f fd ps (spD K T S)) : Sig P w K mg base T CX x ps k S :=
  ⟨mo, f, fd, h, d.g, d.fn.kp, d.b⟩
section
variable {X : Cx} {W : Wd} {pos : Pos}
/-- a call of a def that raises nothing -/
theorem pd_sig {x : Str} {ps : List Str} {k j : Nat} {S : Sd} {p : Pos} {e : Expr} {es : List Expr} {t : TBd} (Sg : Sig X.prog X.w X.K X.mg X.base W.T CX0 x ps k S) (hr : Room j X.A) (hk : k ≤ j) (hg : Gl X x)
    (ha : PDA X W (e :: es) t) (hdb : (x == ("__debug__" : Str)) = false := by decide) (he : starEach (e :: es) X.env = (false, eval e X.env) :: starEach es X.env := by rfl) (hpl : (backTo pos (starEach es X.env)).any (·.1) = false := by rfl) :
    PD X W (.Call (.Name x p) (e :: es) [] pos) (dCall S XD0 t) := by
  obtain ⟨mo, f, fd, h, g, kp, b⟩ := Sg
  exact pd_call h mo (hr.mono hk) hg g kp b pass0 XOk.no ha hdb he hpl
theorem pd_sig0 {x : Str} {ps : List Str} {k j : Nat} {S : Sd} {p : Pos} (Sg : Sig X.prog X.w X.K X.mg X.base W.T CX0 x ps k S) (hr : Room j X.A) (hk : k ≤ j) (hg : Gl X x)
    (hdb : (x == ("__debug__" : Str)) = false := by decide) : PD X W (.Call (.Name x p) [] [] pos) (dCall S XD0 aNil) := by
  obtain ⟨mo, f, fd, h, g, kp, b⟩ := Sg
  exact pd_call0 h mo (hr.mono hk) hg g kp b pass0 XOk.no hdb
end
theorem bt_int : bootBuiltins "int" = some (.type "int") := by decide +kernel
theorem bt_str : bootBuiltins "str" = some (.type "str") := by decide +kernel
theorem bt_bool : bootBuiltins "bool" = some (.type "bool") := by decide +kernel
theorem bt_list : bootBuiltins "list" = some (.type "list") := by decide +kernel
theorem bt_tuple : bootBuiltins "tuple" = some (.type "tuple") := by decide +kernel
theorem bt_dict : bootBuiltins "dict" = some (.type "dict") := by decide +kernel
theorem bt_set : bootBuiltins "set" = some (.type "set") := by decide +kernel
theorem bt_len : bootBuiltins "len" = some (.builtin "len") := by decide +kernel
theorem bt_abs : bootBuiltins "abs" = some (.builtin "abs") := by decide +kernel
theorem bt_max : bootBuiltins "max" = some (.builtin "max") := by decide +kernel
theorem bt_min : bootBuiltins "min" = some (.builtin "min") := by decide +kernel
theorem bt_sum : bootBuiltins "sum" = some (.builtin "sum") := by decide +kernel
theorem bt_any : bootBuiltins "any" = some (.builtin "any") := by decide +kernel
theorem bt_all : bootBuiltins "all" = some (.builtin "all") := by decide +kernel
theorem bt_sorted : bootBuiltins "sorted" = some (.builtin "sorted") := by decide +kernel
theorem bt_isinstance : bootBuiltins "isinstance" = some (.builtin "isinstance") := by decide +kernel
/-- the built-in names are not the text's own -/
structure Blt (mg : Str → Option Value) : Prop where
  len : mg "len" = none
  range : mg "range" = none
  isinstance : mg "isinstance" = none
  list : mg "list" = none
  tuple : mg "tuple" = none
  dict : mg "dict" = none
  int : mg "int" = none
  bool : mg "bool" = none
  str : mg "str" = none
  sum : mg "sum" = none
  min : mg "min" = none
  max : mg "max" = none
  abs : mg "abs" = none
  any : mg "any" = none
  all : mg "all" = none
  sorted : mg "sorted" = none
  enumerate : mg "enumerate" = none
  zip : mg "zip" = none
  set : mg "set" = none
end KD
namespace KD
open PySem PySem.Spec PyProof.Rows L2
/-! ### the script is walked -/
def dScr (i : Nat) : TAd := fun ρ Q => match ρ[i]? with
  | some (.v (.dict [(.dict [], .list ds)])) => Q ds ρ
  | _ => False
/-! ### promises by forms -/
/-- with arguments of a, where pre holds, the answer is res -/
@[irreducible] def fnOf {α : Type} (args : α → List Bd) (pre : α → Prop) (res : α → D) : Sd := fun bs Q _ => ∃ a, bs = args a ∧ pre a ∧ Q (res a)
/-- .. the answer is one of those of post -/
@[irreducible] def relOf {α : Type} (args : α → List Bd) (pre : α → Prop) (post : α → D → Prop) : Sd := fun bs Q _ => ∃ a, bs = args a ∧ pre a ∧ ∀ d, post a d → Q d
theorem mo_fn {α : Type} {args : α → List Bd} {pre : α → Prop} {res : α → D} : MoSd (fnOf args pre res) := fun _ _ _ _ _ h _ z => by
  unfold fnOf at z ⊢
  obtain ⟨a, e, p, q⟩ := z
  exact ⟨a, e, p, h _ q⟩
theorem mo_rel {α : Type} {args : α → List Bd} {pre : α → Prop} {post : α → D → Prop} : MoSd (relOf args pre post) := fun _ _ _ _ _ h _ z => by
  unfold relOf at z ⊢
  obtain ⟨a, e, p, q⟩ := z
  exact ⟨a, e, p, fun d z => h _ (q d z)⟩
theorem len_fn {α : Type} {args : α → List Bd} {pre : α → Prop} {res : α → D} {n : Nat} (h : ∀ a, (args a).length = n) : ∀ bs Q xd, fnOf args pre res bs Q xd → bs.length = n := fun _ _ _ z => by
  unfold fnOf at z
  obtain ⟨a, e, _⟩ := z
  rw [e]; exact h a
theorem len_rel {α : Type} {args : α → List Bd} {pre : α → Prop} {post : α → D → Prop} {n : Nat} (h : ∀ a, (args a).length = n) : ∀ bs Q xd, relOf args pre post bs Q xd → bs.length = n := fun _ _ _ z => by
  unfold relOf at z
  obtain ⟨a, e, _⟩ := z
  rw [e]; exact h a
/-! ### what every law's text has -/
/-- a draw: a number below m -/
abbrev S__law_next : Sd := relOf (α := Int) (fun m => [.bx, .v (.int m)]) (fun m => 0 < m) (fun m d => ∃ n : Int, d = .int n ∧ 0 ≤ n ∧ n < m)
/-- one of the values -/
abbrev S__law_one : Sd := relOf (α := List D) (fun ds => [.bx, .v (.list ds)]) (fun ds => ds ≠ [] ∧ ds.length ≤ sizeLine) (fun ds d => d ∈ ds)
abbrev S__law_draws : Sd := relOf (α := Int × Int × Int) (fun a => [.v (.int a.1), .v (.int a.2.1), .v (.int a.2.2)]) (fun a => 0 < a.2.1 ∧ a.2.1 < 1073741824 ∧ 0 ≤ a.2.2 ∧ a.2.2 ≤ 1000) (fun a d => ∃ ns : List Int, d = .list (ns.map PyData.int) ∧ (ns.length : Int) = a.2.2)
/-- plain data, nested at most n deep -/
def okIs : Nat → D → Prop
  | _, .none => True
  | _, .bool _ => True
  | _, .int _ => True
  | _, .str _ => True
  | n + 1, .list ds => ds.length ≤ sizeLine ∧ ∀ d ∈ ds, okIs n d
  | n + 1, .tuple ds => ds.length ≤ sizeLine ∧ ∀ d ∈ ds, okIs n d
  | _, _ => False
/-- the same data twice: True -/
def S__law_isN (n : Nat) : Sd := fnOf (α := D) (fun d => [.v d, .v d]) (fun d => okIs n d) (fun _ => .bool true)
abbrev S__law_is : Sd := S__law_isN 6
/-! ### a box is made -/
/-- the promise of a def that gives out a new box -/
def spBox (K : Frag) (T : List (Addr × Str)) : Sp := fun vs H Q _ => ∃ (F : Hp) (v : V) (ns : List Int), vs = [v] ∧ Sub F H ∧ (∀ p ∈ T, F p.1 = none) ∧ LamX.Tabs T H ∧ Rp K F v (scr ns) ∧ ns.length ≤ 63 ∧
  ∀ F' H' b, ExtB [] T F H F' H' → BoxOk F' H' b → H b = none → Q (.ref b) H'
structure SigBox (P : Program) (w : World) (K : Frag) (mg : Str → Option Value) (base : Heap) (T : List (Addr × Str)) (x : Str) (ps : List Str) (k : Nat) : Prop where
  ex : ∃ f fd, FnOk P w K mg base CX0 k f fd ps (spBox K T) ∧ mg x = some (.ref f) ∧ PySem.W.keepIn K (.ref f) = true ∧ Binds K fd ps []
/-- name = the new box -/
def sBox (i j : Nat) : TSd := fun D ρ => match ρ[j]? with
  | some (.v (.dict [(.dict [], .list ds)])) => (∃ ns : List Int, ds = ns.map PyData.int ∧ ns.length ≤ 63) ∧ D.nx (ρ.set i .bx)
  | _ => False
section
variable {X : Cx} {W : Wd} {pos : Pos}
theorem no_scr {K : Frag} {F : Hp} {v : V} {ds : List D} (h : Rp K F v (.dict [(.dict [], .list ds)])) : ∃ ns : List Int, ds = ns.map PyData.int ∧ Rp K F v (scr ns) := by
  generalize hd : PyData.dict [(.dict [], .list ds)] = d at h
  cases h with
  | scr a =>
    rename_i ns
    unfold scr at hd
    injection hd with hd
    injection hd with h1 h2
    injection h1 with h3 h4
    injection h4 with h5
    exact ⟨ns, h5, .scr a⟩
  | dct a b =>
    cases b with
    | nil => cases hd
    | @cons k v kvs d es b c => cases k <;> cases hd
  | opq a =>
    unfold opq at hd
    injection hd with hd
    injection hd with h1 h2
    injection h1 with h3 h4
    cases h4
  | _ => cases hd
theorem Mo.scr {i : Nat} : Mo (dScr i) := fun ρ Q Q' k q => by
  unfold dScr at q ⊢
  split at q
  · exact k _ _ q
  · exact q.elim
theorem itOk_sq {K : Frag} {F : Hp} {a : Addr} {xs : List V} {ds : List D} (h1 : SqL K F a xs) (h2 : Rps K F xs ds) : ItOk K (Itl K a) ds F := by
  refine ⟨fun i F2 H2 hi s2 f2 => ⟨xs, sqL_mono (s2.trans f2) h1, by rw [h2.length]; omega⟩, fun i F2 H2 hi s2 f2 => ?_, ?_⟩
  · have : i < xs.length := by rw [h2.length]; exact hi
    exact ⟨xs, xs[i], sqL_mono (s2.trans f2) h1, by simp [this]⟩
  · rintro i F2 H2 x H3 d hd s2 f2 ⟨rfl, y⟩
    obtain ⟨v, hv, rv⟩ := h2.get hd
    have := y xs (sqL_mono (s2.trans f2) h1)
    rw [hv] at this; cases this
    exact ⟨F2, Ext.refl f2, rv.mn s2⟩
theorem pdi_scr {tg : Expr} (i : Nat) {x : Str} (hN : X.N[i]? = some x := by rfl) (hv : Vis X.env.scope x := by first | exact Or.inl rfl | exact Or.inr (Or.inl rfl) | exact Or.inr (Or.inr rfl)) (hd : (x == ("__debug__" : Str)) = false := by decide)
    (hcd : (x == ("__classdict__" : Str)) = false := by decide) : PDI X W tg (.Name x pos) (dScr i) :=
  ⟨.scr, PIimp (pi_any (pv i hN hv hd hcd)) fun σ H Q h => by
    obtain ⟨F, ρ, R, h⟩ := h
    unfold dScr at h
    split at h
    · rename_i ds hd
      have hl : i < σ.length := by rw [← R.len]; exact (List.getElem?_eq_some_iff.mp hd).1
      have ho := List.getElem?_eq_getElem hl
      obtain ⟨v, e, r⟩ := R.ok i _ _ hd ho
      obtain ⟨ns, rfl, r'⟩ := no_scr r
      generalize hs : scr ns = d at r'
      cases r' with
      | @scr a ns' h1 =>
        unfold scr at hs
        injection hs with hs
        injection hs with hs1 hs2
        injection hs1 with hs3 hs4
        injection hs4 with hs5
        exact ⟨.ref a, by rw [ho, e], .inl ⟨a, _, rfl, sqL_mono R.core.fh h1, h F H _ (.refl F) R (itOk_sq h1 (by rw [hs5]; exact Rps.ofInts ns'))⟩⟩
      | dct a b =>
        unfold scr at hs
        cases b with
        | nil => cases hs
        | @cons k v kvs d es b c => cases k <;> cases hs
      | opq a => unfold scr opq at hs; cases hs
      | _ => cases hs
    · exact h.elim⟩
theorem pds_box {i j k m : Nat} {x y z : Str} {ps : List Str} {p p2 p3 : Pos} (Sg : SigBox X.prog X.w X.K X.mg X.base W.T x ps k) (hr : Room m X.A) (hk : k ≤ m) (hg : Gl X x) (hN : X.N.Nodup) (hi : X.N[i]? = some y) (hy : Loc X.env.scope y) (hj : X.N[j]? = some z)
    (hv : Vis X.env.scope z := by first | exact Or.inl rfl | exact Or.inr (Or.inl rfl) | exact Or.inr (Or.inr rfl)) (hd : (z == ("__debug__" : Str)) = false := by decide) (hcd : (z == ("__classdict__" : Str)) = false := by decide)
    (hdb : (x == ("__debug__" : Str)) = false := by decide) (he : starEach [.Name z p2] X.env = (false, eval (.Name z p2) X.env) :: starEach [] X.env := by rfl) (hpl : (backTo p3 (starEach [] X.env)).any (·.1) = false := by rfl)
    (hs : swapsWith (.Call (.Name x p) [.Name z p2] [] p3) (some (.Name y pos)) pos.line X.env = pure false := by rfl) (hf : X.fn y = true ∨ X.env.scope.names.lookup y = some .local := by first | exact .inl rfl | exact .inr rfl | assumption) {spos : Pos} (hs2 : swapsWith (.Call (.Name x p) [.Name z p2] [] p3) (some (.Name y pos)) spos.line X.env = pure false := by rfl) :
    PDS X W (.Assign [.Name y pos] (.Call (.Name x p) [.Name z p2] [] p3) spos) (sBox i j) := by
  obtain ⟨f, fd, h, g, kp, b⟩ := Sg
  refine ⟨fun ρ A B l h => ?_, PSimp (ps_set hN hi hy (pe_call h (hr.mono hk) hg g kp b .nil pass0 (pa_cons (pv j hj hv hd hcd) pa_nil he) hdb he hpl) hs2 hf) fun D σ H h => ?_⟩
  · unfold sBox at h ⊢
    split at h
    · exact ⟨h.1, l.nx _ h.2⟩
    · exact h.elim
  · obtain ⟨F, ρ, R, h⟩ := h
    unfold sBox at h
    split at h
    · rename_i ds hd
      obtain ⟨⟨ns, e, hl⟩, q⟩ := h
      have hlj : j < σ.length := by rw [← R.len]; exact (List.getElem?_eq_some_iff.mp hd).1
      have ho := List.getElem?_eq_getElem hlj
      obtain ⟨v, ev, r⟩ := R.ok j _ _ hd ho
      obtain ⟨ns', e', r'⟩ := no_scr r
      refine ⟨v, by rw [ho, ev], F, v, ns', rfl, R.core.fh, fun q hq => ?_, R.core.tabs, r', ?_, fun F' H' b ex hb hn => ?_⟩
      · obtain ⟨o, e⟩ := W.tg q hq
        exact (R.core.prot _ _ e).1
      · have := congrArg List.length (e'.symm.trans e)
        rw [List.length_map, List.length_map] at this
        omega
      · have fr := R.fresh hn
        exact q F' _ H' ex.ff ((R.step ex (fun _ z => nomatch z) (fun _ z => nomatch z)).setOwn rfl ⟨b, rfl, hb⟩ fr)
    · exact h.elim
end
end KD
namespace KD
open PySem PySem.Spec PyProof.Rows L2
/-! ### the great readings are sealed: they open by a rule alone -/
@[irreducible] def sFor (ti : TAd) (g : TGd) (tb : TSd) : TSd := sFor0 ti g tb
@[irreducible] def sWhile (c : TTd) (tb : TSd) : TSd := sWhile0 c tb
@[irreducible] def dLc (ti : TAd) (g : TGd) (tt : TTd) (te : TEd) (vs : List Nat) : TAd := dLc0 ti g tt te vs
section
variable {X : Cx} {W : Wd} {st : Stmt} {e : Expr} {ti : TAd} {g : TGd} {tb : TSd} {c : TTd} {te : TEd} {vs : List Nat}
theorem PDS.slF (h : PDS X W st (sFor0 ti g tb)) : PDS X W st (sFor ti g tb) := by unfold sFor; exact h
theorem PDS.slW (h : PDS X W st (sWhile0 c tb)) : PDS X W st (sWhile c tb) := by unfold sWhile; exact h
theorem PF.sl (h : PF X W e (dLc0 ti g c te vs)) : PF X W e (dLc ti g c te vs) := by unfold dLc; exact h
theorem PDS.slL {i : Nat} (h : PDS X W st (sSetF i (dLc0 ti g c te vs))) : PDS X W st (sSetF i (dLc ti g c te vs)) := by unfold dLc; exact h
theorem PDS.slM {i : TGd} (h : PDS X W st (sAsg (dF (dLc0 ti g c te vs)) i)) : PDS X W st (sAsg (dF (dLc ti g c te vs)) i) := by unfold dLc; exact h
end
/-! ### loops and comprehensions in the forms one uses -/
theorem rng_length (lo hi : Int) : (rng lo hi).length = (hi - lo).toNat := by unfold rng; simp
theorem rng_get {lo hi : Int} {i : Nat} {d : D} (h : (rng lo hi)[i]? = some d) : d = .int (lo + i) ∧ lo + i < hi := by
  unfold rng at h
  rw [List.getElem?_map] at h
  cases e : (List.range (hi - lo).toNat)[i]? with
  | none => rw [e] at h; cases h
  | some k =>
    rw [e] at h
    obtain ⟨h1, h2⟩ := List.getElem?_eq_some_iff.mp e
    have hk : k = i := by simpa using h2.symm
    subst hk
    rw [List.length_range] at h1
    cases h
    exact ⟨rfl, by omega⟩
section
variable {g : TGd} {tb : TSd} {D' : Ed} {ρ ρ1 : En}
theorem for_rng1 {n : Int} {ta : TAd} (ht : ∀ Q : List D → En → Prop, Q [.int n] ρ1 → ta ρ Q) (h62 : -(2 ^ 62) ≤ n ∧ n < 2 ^ 62) (I : Nat → En → Prop) (h0 : I 0 ρ1)
    (hs : ∀ (i : Nat) ρ', (i : Int) < n → I i ρ' → g (.int i) ρ' fun ρ2 => tb { D' with nx := I (i + 1), ct := I (i + 1), bk := D'.nx } ρ2) (hd : ∀ ρ', I n.toNat ρ' → D'.nx ρ') : sFor (dRng1 ta) g tb D' ρ := by
  unfold sFor
  refine ht _ ⟨h62, I, h0, fun i d ρ' hi q => ?_, fun ρ' q => ?_⟩
  · obtain ⟨rfl, h⟩ := rng_get hi
    rw [Int.zero_add] at h ⊢
    exact hs i ρ' h q
  · rw [rng_length, Int.sub_zero] at q
    exact hd ρ' q
theorem for_rng2 {lo hi : Int} {ta : TAd} (ht : ∀ Q : List D → En → Prop, Q [.int lo, .int hi] ρ1 → ta ρ Q) (h62 : -(2 ^ 62) ≤ lo ∧ lo < 2 ^ 62 ∧ -(2 ^ 62) ≤ hi ∧ hi < 2 ^ 62) (I : Nat → En → Prop) (h0 : I 0 ρ1)
    (hs : ∀ (i : Nat) ρ', lo + i < hi → I i ρ' → g (.int (lo + i)) ρ' fun ρ2 => tb { D' with nx := I (i + 1), ct := I (i + 1), bk := D'.nx } ρ2) (hd : ∀ ρ', I (hi - lo).toNat ρ' → D'.nx ρ') : sFor (dRng2 ta) g tb D' ρ := by
  unfold sFor
  refine ht _ ⟨h62, I, h0, fun i d ρ' hi q => ?_, fun ρ' q => ?_⟩
  · obtain ⟨rfl, h⟩ := rng_get hi
    exact hs i ρ' h q
  · rw [rng_length] at q
    exact hd ρ' q
theorem for_any {ds : List D} {ta : TAd} (ht : ∀ Q : List D → En → Prop, Q ds ρ1 → ta ρ Q) (I : Nat → En → Prop) (h0 : I 0 ρ1)
    (hs : ∀ (i : Nat) d ρ', ds[i]? = some d → I i ρ' → g d ρ' fun ρ2 => tb { D' with nx := I (i + 1), ct := I (i + 1), bk := D'.nx } ρ2) (hd : ∀ ρ', I ds.length ρ' → D'.nx ρ') : sFor ta g tb D' ρ := by unfold sFor; exact ht _ ⟨I, h0, hs, hd⟩
theorem for_list {ds : List D} {te : TEd} (ht : ∀ Q : D → En → Prop, Q (.list ds) ρ1 → te ρ Q) (I : Nat → En → Prop) (h0 : I 0 ρ1)
    (hs : ∀ (i : Nat) d ρ', ds[i]? = some d → I i ρ' → g d ρ' fun ρ2 => tb { D' with nx := I (i + 1), ct := I (i + 1), bk := D'.nx } ρ2) (hd : ∀ ρ', I ds.length ρ' → D'.nx ρ') : sFor (dAnySeq te) g tb D' ρ := by unfold sFor; exact ht _ ⟨I, h0, hs, hd⟩
theorem for_tup {ds : List D} {te : TEd} (ht : ∀ Q : D → En → Prop, Q (.tuple ds) ρ1 → te ρ Q) (I : Nat → En → Prop) (h0 : I 0 ρ1)
    (hs : ∀ (i : Nat) d ρ', ds[i]? = some d → I i ρ' → g d ρ' fun ρ2 => tb { D' with nx := I (i + 1), ct := I (i + 1), bk := D'.nx } ρ2) (hd : ∀ ρ', I ds.length ρ' → D'.nx ρ') : sFor (dAnySeq te) g tb D' ρ := by unfold sFor; exact ht _ ⟨I, h0, hs, hd⟩
theorem while_by {c : TTd} (I : En → Prop) (μ : En → Nat) (h0 : I ρ)
    (hs : ∀ ρ' (N : En → Prop), I ρ' → (∀ ρ3, I ρ3 → μ ρ3 < μ ρ' → N ρ3) → c ρ' fun b ρ2 => if b = true then tb { D' with nx := N, ct := N, bk := D'.nx } ρ2 else D'.nx ρ2) : sWhile c tb D' ρ := by
  unfold sWhile
  refine ⟨fun m ρ' => m = μ ρ' ∧ I ρ', ⟨_, rfl, h0⟩, ?_⟩
  rintro m ρ' ⟨rfl, i⟩
  exact hs ρ' _ i fun ρ3 h1 h2 => ⟨_, h2, rfl, h1⟩
end
section
variable {ti : TAd} {g : TGd} {tt : TTd} {te : TEd} {vs : List Nat} {ρ ρ1 : En} {Q : List D → En → Prop}
/-- a comprehension of elements f d -/
theorem lc_map {ds : List D} (f : D → D) (ht : ∀ Q : List D → En → Prop, Q ds ρ1 → ti ρ Q) (hpl : plainE ρ1 vs) (hl : ds.length ≤ sizeLine)
    (he : ∀ (i : Nat) d (Z : D → En → Prop), ds[i]? = some d → (∀ ρ4, mixE ρ1 ρ4 vs = ρ1 → Z (f d) ρ4) → g d (wipeE ρ1 vs) fun ρ2 => te ρ2 Z) (h : Q (ds.map f) ρ1) : dLc ti g dYes te vs ρ Q := by
  unfold dLc
  refine ht _ ⟨fun i acc ρ' => ρ' = ρ1 ∧ acc = (ds.take i).map f, ⟨rfl, rfl⟩, ?_, ?_⟩
  · rintro i d acc ρ' hd ⟨rfl, rfl⟩
    have hi := (List.getElem?_eq_some_iff.mp hd).1
    refine ⟨hpl, by rw [List.length_map, List.length_take]; omega, ?_⟩
    simp only [dYes, if_true]
    refine he i d _ hd fun ρ4 e => ⟨e, ?_⟩
    rw [List.take_add_one, hd, List.map_append]
    rfl
  · rintro acc ρ' ⟨rfl, rfl⟩
    rw [List.take_length]
    exact h
/-- .. of those that p keeps -/
theorem lc_filter {ds : List D} (f : D → D) (p : D → Bool) (ht : ∀ Q : List D → En → Prop, Q ds ρ1 → ti ρ Q) (hpl : plainE ρ1 vs) (hl : ds.length ≤ sizeLine)
    (he : ∀ (i : Nat) d (Z : D → En → Prop) (N : En → Prop), ds[i]? = some d → (p d = true → ∀ ρ4, mixE ρ1 ρ4 vs = ρ1 → Z (f d) ρ4) → (p d = false → ∀ ρ4, mixE ρ1 ρ4 vs = ρ1 → N ρ4) → g d (wipeE ρ1 vs) fun ρ2 => tt ρ2 fun b ρ3 => if b = true then te ρ3 Z else N ρ3) (h : Q ((ds.filter p).map f) ρ1) : dLc ti g tt te vs ρ Q := by
  unfold dLc
  refine ht _ ⟨fun i acc ρ' => ρ' = ρ1 ∧ acc = ((ds.take i).filter p).map f, ⟨rfl, rfl⟩, ?_, ?_⟩
  · rintro i d acc ρ' hd ⟨rfl, rfl⟩
    have hi := (List.getElem?_eq_some_iff.mp hd).1
    have hf : ((ds.take i).filter p).length ≤ i := Nat.le_trans (List.length_filter_le _ _) (by rw [List.length_take]; omega)
    refine ⟨hpl, by rw [List.length_map]; omega, ?_⟩
    refine he i d _ _ hd (fun e ρ4 e2 => ⟨e2, ?_⟩) fun e ρ4 e2 => ⟨e2, ?_⟩
    · rw [List.take_add_one, hd, List.filter_append, List.map_append]
      simp [e]
    · rw [List.take_add_one, hd, List.filter_append, List.map_append]
      simp [e]
  · rintro acc ρ' ⟨rfl, rfl⟩
    rw [List.take_length]
    exact h
/-- .. of elements in relation -/
theorem lc_rel {ds : List D} (Rr : Nat → D → D → Prop) (ht : ∀ Q : List D → En → Prop, Q ds ρ1 → ti ρ Q) (hpl : plainE ρ1 vs) (hl : ds.length ≤ sizeLine)
    (he : ∀ (i : Nat) d (Z : D → En → Prop), ds[i]? = some d → (∀ y ρ4, Rr i d y → mixE ρ1 ρ4 vs = ρ1 → Z y ρ4) → g d (wipeE ρ1 vs) fun ρ2 => te ρ2 Z)
    (h : ∀ ys : List D, ys.length = ds.length → (∀ (i : Nat) d y, ds[i]? = some d → ys[i]? = some y → Rr i d y) → Q ys ρ1) : dLc ti g dYes te vs ρ Q := by
  unfold dLc
  refine ht _ ⟨fun i acc ρ' => ρ' = ρ1 ∧ acc.length = i ∧ ∀ (j : Nat) d y, ds[j]? = some d → acc[j]? = some y → Rr j d y, ⟨rfl, rfl, fun j d y _ z => by simp at z⟩, ?_, ?_⟩
  · rintro i d acc ρ' hd ⟨rfl, e0, r⟩
    have hi := (List.getElem?_eq_some_iff.mp hd).1
    refine ⟨hpl, by omega, ?_⟩
    simp only [dYes, if_true]
    refine he i d _ hd fun y ρ4 e1 e2 => ⟨e2, by rw [List.length_append, e0]; rfl, fun j d' y' h1 h2 => ?_⟩
    by_cases hj : j < acc.length
    · rw [List.getElem?_append_left hj] at h2
      exact r j d' y' h1 h2
    · rw [List.getElem?_append_right (by omega)] at h2
      have hj' : j - acc.length = 0 := by
        have := (List.getElem?_eq_some_iff.mp h2).1
        simp at this; omega
      rw [hj'] at h2
      have : j = i := by omega
      subst this
      rw [hd] at h1
      cases h1
      cases h2
      exact e1
  · rintro acc ρ' ⟨rfl, e0, r⟩
    exact h acc e0 r
end
/-- code that is never reached -/
def sNever : TSd := fun _ _ => False
theorem pds_never {X : Cx} {W : Wd} {st : Stmt} : PDS X W st sNever := ⟨fun _ _ _ _ h => h.elim, PSimp ps_never fun _ _ _ h => by
  obtain ⟨_, _, _, h⟩ := h
  exact h.elim⟩
/-- a def that is never called so -/
def SNo : Sd := fun _ _ _ => False
theorem DefAt.no {P : Program} {w : World} {K : Frag} {mg : Str → Option Value} {base : Heap} {T : List (Addr × Str)} {CX : CXT} {x : Str} {st : Stmt} {ps : List Str} {f : Addr} {fd : FuncData} {k : Nat} (d : DefAt K mg x st ps f fd) : Sig P w K mg base T CX x ps k SNo :=
  d.sig (fun _ _ _ _ _ _ _ h => h) ⟨fun _ _ _ _ ⟨_, _, _, _, _, _, _, _, h, _⟩ => h.elim, fun _ _ _ _ _ _ _ _ _ _ _ _ _ ⟨_, _, _, _, _, _, _, _, h, _⟩ => h.elim⟩
/-- _law_is of data one level less deep -/
def SisRec : Nat → Sd
  | 0 => SNo
  | n + 1 => S__law_isN n
end KD
namespace KD
open PySem PySem.Spec PyProof.Rows L2
/-! ### one statement at a time: what follows is hidden behind N -/
section
variable {t u : TSd} {D' : Ed} {ρ ρ1 : En}
theorem seqI (h : ∀ N : En → Prop, (∀ ρ', u D' ρ' → N ρ') → t { D' with nx := N } ρ) : sSeq t u D' ρ := h _ fun _ z => z
theorem ifI {c : TTd} (h : ∀ N M : En → Prop, (∀ ρ', t D' ρ' → N ρ') → (∀ ρ', u D' ρ' → M ρ') → c ρ fun b ρ' => if b = true then N ρ' else M ρ') : sIf c t u D' ρ := h _ _ (fun _ z => z) fun _ z => z
/-- a test whose outcome is p -/
theorem ifP {c : TTd} (p : Prop) [Decidable p] (ρ' : En) (h : ∀ Q : Bool → En → Prop, Q (decide p) ρ' → c ρ Q) (ht : p → t D' ρ') (he : ¬ p → u D' ρ') : sIf c t u D' ρ := h _ (by
  by_cases hp : p
  · rw [decide_eq_true hp]; exact iteT (ht hp)
  · rw [decide_eq_false hp]; exact iteF (he hp))
theorem ifB {c : TTd} (b : Bool) (ρ' : En) (h : ∀ Q : Bool → En → Prop, Q b ρ' → c ρ Q) (ht : b = true → t D' ρ') (he : b = false → u D' ρ') : sIf c t u D' ρ := h _ (by
  cases b with
  | true => exact iteT (ht rfl)
  | false => exact iteF (he rfl))
end
end KD
namespace KD
open PySem PySem.Spec PyProof.Rows L2
/-- the def that makes the box, from its statements -/
theorem okBox {P : Program} {w : World} {K : Frag} {mg : Str → Option Value} {base : Heap} {T : List (Addr × Str)} {st : Stmt} {f : Addr} {fd : FuncData} {a b c d : Stmt} (D : DefAt K mg "_law_box" st ["script"] f fd) (Sc : FnScope ["script", "row", "cell"] ["script"] (defScope st)) (hb : defBody st = [a, b, c, d])
    (hbody : ∀ (cdv : Value) (A : Around) (outer : List Env) (s : Shared) (H : Hp) (E : XK) (W : Wd), W.T = T → Room 1 (A.deeper (envOfC "_law_box" (defScope st) s.heap.objs.size f cdv)) →
      ∃ t1 t2 t3, PDS (cxOf CX0 P w K mg base ["script", "row", "cell"] "_law_box" (defScope st) f cdv A outer s H E).nox W a t1 ∧ PDS (cxOf CX0 P w K mg base ["script", "row", "cell"] "_law_box" (defScope st) f cdv A outer s H E).nox W b t2 ∧ PDS (cxOf CX0 P w K mg base ["script", "row", "cell"] "_law_box" (defScope st) f cdv A outer s H E).nox W c t3 ∧
        PSs (cxOf CX0 P w K mg base ["script", "row", "cell"] "_law_box" (defScope st) f cdv A outer s H E).nox [d] (fun D σ H => tDisp [(tC (.str "row"), tVar 1), (tC (.str "at"), tC (.int 0))] σ H D.rt) ∧
        ∀ (ns : List Int), ns.length ≤ 63 → ∀ Q : En → Prop, (∀ (b : Bd) (ms : List Int), 0 < ms.length → ms.length < 100000 → Q [.v (scr ns), .v (.list (ms.map PyData.int)), b]) → sSeq t1 (sSeq t2 t3) { nx := Q, rt := fun _ => False } [.v (scr ns), .un, .un]) : SigBox P w K mg base T "_law_box" ["script"] 2 := by
  refine ⟨f, fd, D.fn.ok Sc (fun vs H Q E ⟨F, v, ns, e, _⟩ => by rw [e]; rfl) fun cdv A outer s H vs Q E hr ⟨F, v, ns, e, hs, hT, tb, r, hl, k⟩ => ?_, D.g, D.fn.kp, D.b⟩
  subst e
  have hT' : ∀ p ∈ T, F p.1 = none ∧ p.1 ∉ ([] : List Addr) ∧ ∃ o, H p.1 = some o := fun p hp => by
    obtain ⟨ps, e, _⟩ := tb p hp
    exact ⟨hT p hp, fun z => (nomatch z), _, e⟩
  obtain ⟨t1, t2, t3, p1, p2, p3, p4, hq⟩ := hbody cdv A outer s H E (wdOf F H [] T hT') rfl hr
  have pp := pss_cons p1.ps (pss_cons p2.ps (pss_cons p3.ps p4))
  rw [← hb] at pp
  refine ⟨_, pp, F, _, rel_start (N := ["script", "row", "cell"]) (bs := [.v (scr ns)]) hT' hs tb (.v r .nil), ?_⟩
  have fin : ∀ F' σ' H' (b : Bd) (ms : List Int), 0 < ms.length → ms.length < 100000 → Rel K (wdOf F H [] T hT') F' [.v (scr ns), .v (.list (ms.map PyData.int)), b] σ' H' → tDisp [(tC (.str "row"), tVar 1), (tC (.str "at"), tC (.int 0))] σ' H' Q := by
    intro F' σ' H' b ms h1 h2 R p hp
    have hl : 1 < σ'.length := by rw [← R.len]; exact (by decide : 1 < 3)
    have ho := List.getElem?_eq_getElem hl
    obtain ⟨u, eu, ru⟩ := R.ok 1 _ _ rfl ho
    obtain ⟨a, xs, rfl, ha, rx⟩ := no_lst ru
    have hx : xs = ms.map V.int := rx.ints
    subst hx
    refine ⟨.ref a, by rw [ho, eu], upd_same, [(.inr "row", .ref a), (.inr "at", .int 0)], rfl, (by show 2 ≤ 15; decide), ?_⟩
    have em : mergeK [] [(.inr "row", V.ref a), (.inr "at", V.int 0)] = ([(.inr "row", V.ref a), (.inr "at", V.int 0)] : List (Key × V)) := by
      have kne : ¬ ((Sum.inr ("row" : Str) : Key) = Sum.inr ("at" : Str)) := by decide +kernel
      unfold mergeK putK
      simp [kne, putK]
    rw [em, upd_upd]
    obtain ⟨ex, _⟩ := rel_exit (B := []) (fun _ z => nomatch z) R
    have hF : F' p = none := by
      cases e : F' p with
      | none => rfl
      | some o => have := R.core.fh _ _ e; rw [hp] at this; cases this
    refine k F' _ p ⟨ex.ff, fun c o z => ?_, fun c o z1 z2 => ?_, fun c o z1 z2 z3 z4 => ?_, fun t => (ex.tab t).ext fun c o z => by rw [upd_ne (ne_of_none z hp)]; exact z⟩ ⟨⟨a, ms, 0, upd_same, ha, h1, h2⟩, hF⟩ ?_
    · rw [upd_ne (ne_of_none (R.core.fh _ _ z) hp)]; exact R.core.fh _ _ z
    · obtain ⟨y1, u, y2⟩ := ex.keepF c o z1 z2
      exact ⟨y1, u, by rw [upd_ne (ne_of_none y2 hp)]; exact y2⟩
    · have y := ex.keep c o z1 z2 z3 z4
      rw [upd_ne (ne_of_none y hp)]; exact y
    · cases e : H p with
      | none => rfl
      | some o =>
        exfalso
        cases e2 : F p with
        | none =>
          obtain ⟨_, u, y2⟩ := ex.keepF p o e e2
          rw [hp] at y2; cases y2
        | some u => rw [ex.ff _ _ e2] at hF; cases hF
  have h0 := hq ns hl (fun ρ => ∀ F' σ' H', Rel K (wdOf F H [] T hT') F' ρ σ' H' → tDisp [(tC (.str "row"), tVar 1), (tC (.str "at"), tC (.int 0))] σ' H' Q) fun b ms h1 h2 F' σ' H' R => fin F' σ' H' b ms h1 h2 R
  refine p1.mo _ _ _ ?_ h0
  refine ⟨fun ρ q F1 σ1 H1 s1 R1 => ⟨F1, ρ, R1, ?_⟩, fun _ (z : False) => z.elim, fun _ (z : False) => z.elim, fun _ (z : False) => z.elim⟩
  refine p2.mo _ _ _ ?_ q
  refine ⟨fun ρ q F2 σ2 H2 s2 R2 => ⟨F2, ρ, R2, ?_⟩, fun _ (z : False) => z.elim, fun _ (z : False) => z.elim, fun _ (z : False) => z.elim⟩
  refine p3.mo _ _ _ ?_ q
  exact ⟨fun ρ q F3 σ3 H3 s3 R3 => q F3 σ3 H3 R3, fun _ (z : False) => z.elim, fun _ (z : False) => z.elim, fun _ (z : False) => z.elim⟩
/-! ### calls of known promises -/
section
variable {α : Type} {args : α → List Bd} {pre : α → Prop} {Q : D → Prop} {xd : XD}
theorem fnI {res : α → D} (a : α) (h : pre a) (q : Q (res a)) : fnOf args pre res (args a) Q xd := by unfold fnOf; exact ⟨a, rfl, h, q⟩
theorem relI {post : α → D → Prop} (a : α) (h : pre a) (q : ∀ d, post a d → Q d) : relOf args pre post (args a) Q xd := by unfold relOf; exact ⟨a, rfl, h, q⟩
/-- a condition that holds, that fails -/
theorem ifT {p : Prop} [Decidable p] {a b : Prop} (h : p) (q : a) : if p then a else b := by rw [if_pos h]; exact q
theorem ifF {p : Prop} [Decidable p] {a b : Prop} (h : ¬ p) (q : b) : if p then a else b := by rw [if_neg h]; exact q
theorem ifDT {p : Prop} [Decidable p] {a b : Prop} (h : p) (q : a) : if decide p = true then a else b := ifT (decide_eq_true h) q
theorem ifDF {p : Prop} [Decidable p] {a b : Prop} (h : ¬ p) (q : b) : if decide p = true then a else b := ifF (by rw [decide_eq_false h]; exact Bool.false_ne_true) q
end
/-- the element at a known place -/
theorem ixL {ds : List D} {i : Int} {d : D} {Q : D → Prop} (e : atI ds i = some d) (q : Q d) : dIx (.list ds) (.int i) Q := by unfold dIx; simp only [e]; exact q
theorem ixT {ds : List D} {i : Int} {d : D} {Q : D → Prop} (e : atI ds i = some d) (q : Q d) : dIx (.tuple ds) (.int i) Q := by unfold dIx; simp only [e]; exact q
theorem atI_of {α : Type} {ds : List α} {i : Nat} (h : i < ds.length) : atI ds (i : Int) = some ds[i] := atI_nat (by simp [h])
/-! ### loops whose walked thing is made by calls -/
def ForOk (ds : List D) (g : TGd) (tb : TSd) (D' : Ed) (ρ1 : En) : Prop := ∃ I : Nat → En → Prop, I 0 ρ1 ∧
  (∀ i d ρ', ds[i]? = some d → I i ρ' → g d ρ' fun ρ2 => tb { D' with nx := I (i + 1), ct := I (i + 1), bk := D'.nx } ρ2) ∧ ∀ ρ', I ds.length ρ' → D'.nx ρ'
section
variable {ti : TAd} {g : TGd} {tb : TSd} {D' : Ed} {ρ ρ1 : En}
theorem for_open (h : ti ρ fun ds ρ1 => ForOk ds g tb D' ρ1) : sFor ti g tb D' ρ := by unfold sFor; exact h
theorem okRng {lo hi : Int} (I : Nat → En → Prop) (h0 : I 0 ρ1)
    (hs : ∀ (i : Nat) ρ', lo + i < hi → I i ρ' → g (.int (lo + i)) ρ' fun ρ2 => tb { D' with nx := I (i + 1), ct := I (i + 1), bk := D'.nx } ρ2) (hd : ∀ ρ', I (hi - lo).toNat ρ' → D'.nx ρ') : ForOk (rng lo hi) g tb D' ρ1 := by
  refine ⟨I, h0, fun i d ρ' hi q => ?_, fun ρ' q => ?_⟩
  · obtain ⟨rfl, h⟩ := rng_get hi
    exact hs i ρ' h q
  · rw [rng_length] at q
    exact hd ρ' q
theorem okSeq {ds : List D} (I : Nat → En → Prop) (h0 : I 0 ρ1)
    (hs : ∀ (i : Nat) d ρ', ds[i]? = some d → I i ρ' → g d ρ' fun ρ2 => tb { D' with nx := I (i + 1), ct := I (i + 1), bk := D'.nx } ρ2) (hd : ∀ ρ', I ds.length ρ' → D'.nx ρ') : ForOk ds g tb D' ρ1 := ⟨I, h0, hs, hd⟩
end
/-! ### the defs of every law, called -/
section
variable {Q : D → Prop} {xd : XD}
theorem nextI {m : Int} (h : 0 < m) (q : ∀ n : Int, 0 ≤ n → n < m → Q (.int n)) : noBx [.v (.int m)] ∧ S__law_next [.bx, .v (.int m)] Q xd := by
  unfold S__law_next relOf
  refine ⟨trivial, m, rfl, h, ?_⟩
  rintro _ ⟨n, rfl, h1, h2⟩
  exact q n h1 h2
theorem oneI {ds : List D} (h : ds ≠ []) (hl : ds.length ≤ sizeLine) (q : ∀ d ∈ ds, Q d) : noBx [.v (.list ds)] ∧ S__law_one [.bx, .v (.list ds)] Q xd := by
  unfold S__law_one relOf
  exact ⟨trivial, ds, rfl, ⟨h, hl⟩, q⟩
theorem isI {d e : D} (he : d = e) (h : okIs 6 d) (q : Q (.bool true)) : S__law_is [.v d, .v e] Q xd := by
  subst he
  unfold S__law_is S__law_isN fnOf
  exact ⟨d, rfl, h, q⟩
/-- a box alone -/
theorem bxI {S : List Bd → (D → Prop) → XD → Prop} (h : S [.bx] Q xd) : noBx [] ∧ S [.bx] Q xd := ⟨trivial, h⟩
end
def okB : Nat → D → Bool
  | _, .none => true
  | _, .bool _ => true
  | _, .int _ => true
  | _, .str _ => true
  | n + 1, .list ds => Nat.ble ds.length 1000 && ds.all (okB n)
  | n + 1, .tuple ds => Nat.ble ds.length 1000 && ds.all (okB n)
  | _, _ => false
theorem okIs_of : ∀ {n : Nat} {d : D}, okB n d = true → okIs n d
  | n, .none, _ => by cases n <;> trivial
  | n, .bool _, _ => by cases n <;> trivial
  | n, .int _, _ => by cases n <;> trivial
  | n, .str _, _ => by cases n <;> trivial
  | n + 1, .list ds, h => by
    unfold okB at h
    rw [Bool.and_eq_true, List.all_eq_true] at h
    have := Nat.le_of_ble_eq_true h.1
    exact ⟨by rw [sizeLine_eq]; omega, fun d hd => okIs_of (h.2 d hd)⟩
  | n + 1, .tuple ds, h => by
    unfold okB at h
    rw [Bool.and_eq_true, List.all_eq_true] at h
    have := Nat.le_of_ble_eq_true h.1
    exact ⟨by rw [sizeLine_eq]; omega, fun d hd => okIs_of (h.2 d hd)⟩
  | 0, .list _, h => by unfold okB at h; cases h
  | 0, .tuple _, h => by unfold okB at h; cases h
  | n, .dict _, h => by cases n <;> (unfold okB at h; cases h)
/-! ### numbers of few bits -/
def bd (n : Nat) (x : Int) : Prop := x.natAbs < 2 ^ n
instance {n : Nat} {x : Int} : Decidable (bd n x) := inferInstanceAs (Decidable (x.natAbs < 2 ^ n))
theorem bd_mono {n m : Nat} {x : Int} (h : bd n x) (l : n ≤ m) : bd m x := Nat.lt_of_lt_of_le h (Nat.pow_le_pow_right (by decide) l)
theorem bd_mul {n m : Nat} {x y : Int} (h : bd n x) (h' : bd m y) : bd (n + m) (x * y) := by
  unfold bd at *
  rw [Int.natAbs_mul, Nat.pow_add]
  exact Nat.mul_lt_mul'' h h'
theorem bd_add {n : Nat} {x y : Int} (h : bd n x) (h' : bd n y) : bd (n + 1) (x + y) := by
  unfold bd at *
  rw [Nat.pow_succ]; omega
theorem bd_sub {n : Nat} {x y : Int} (h : bd n x) (h' : bd n y) : bd (n + 1) (x - y) := by
  unfold bd at *
  rw [Nat.pow_succ]; omega
theorem bd_neg {n : Nat} {x : Int} (h : bd n x) : bd n (-x) := by unfold bd at *; omega
theorem bd_le {n : Nat} {x y : Int} (h : bd n x) (l : y.natAbs ≤ x.natAbs) : bd n y := Nat.lt_of_le_of_lt l h
theorem bd_ediv {n : Nat} {x : Int} (h : bd n x) (g : Int) : bd n (x / g) := bd_le h (Int.natAbs_ediv_le_natAbs _ _)
theorem mulOk_of {n m : Nat} {x y : Int} (hx : bd n x) (hy : bd m y) (h0 : 0 < n := by decide) (h1 : 0 < m := by decide) (h : n + m ≤ 1000000 := by decide) : mulOk x y := .inr (wide_mul hx hy h0 h1 h)
theorem mulOk_l {x y : Int} (h : bd 63 x) : mulOk x y := .inl (.inl (by unfold bd at h; omega))
theorem mulOk_r {x y : Int} (h : bd 63 y) : mulOk x y := .inl (.inr (by unfold bd at h; omega))
theorem divOk_of {m : Nat} {x y : Int} (h : 0 < y) (hy : bd m y) (h1 : 0 < m := by decide) (h9 : m ≤ 9000 := by decide) : CDivW x y := wide_div h hy h1 h9
/-! ### the law's own promise -/
def spLaw (K : Frag) : Sp := fun vs H Q _ => ∃ (a : Addr) (ns : List Int), vs = [.ref a] ∧ SqL K H a (ns.map V.int) ∧ ns.length ≤ 63 ∧ ∀ H', Q (.bl true) H'
theorem law_sp {K : Frag} : ∀ vs H Q E, spLaw K vs H Q E → spD K [] (fnOf (α := List Int) (fun ns => [.v (scr ns)]) (fun ns => ns.length ≤ 63) (fun _ => .bool true)) vs H Q E := by
  rintro _ H Q E ⟨a, ns, rfl, hs, hl, q⟩
  refine ⟨H, [.v (scr ns)], [], XD0, .refl H, (by intro _ z; cases z), (by intro _ z; cases z), .v (.scr hs) .nil, ?_, fun _ _ z => z.elim⟩
  unfold fnOf
  refine ⟨ns, rfl, hl, fun F' H' v _ _ r => ?_⟩
  rw [no_bl r]
  exact q H'
end KD
namespace LW
open PySem PySem.Spec PyProof.Rows L2 KD
def top (i : Nat) : Stmt := PySem.Challenge.pw_knittold_k00_fractions_through_long_sums.main.body.getD i (.Pass ⟨0, 0, 0, 0⟩)
abbrev s_common_divisor : Stmt := top 1
abbrev N_common_divisor : List Str := ["one", "two"]
theorem sc_common_divisor : FnScope N_common_divisor ["one", "two"] (defScope s_common_divisor) := ⟨rfl, rfl, rfl, by decide +kernel, rfl, by decide +kernel, by decide +kernel⟩
abbrev s_fraction : Stmt := top 2
abbrev N_fraction : List Str := ["above", "below", "common"]
theorem sc_fraction : FnScope N_fraction ["above", "below"] (defScope s_fraction) := ⟨rfl, rfl, rfl, by decide +kernel, rfl, by decide +kernel, by decide +kernel⟩
abbrev s_plus : Stmt := top 3
abbrev N_plus : List Str := ["one", "two"]
theorem sc_plus : FnScope N_plus ["one", "two"] (defScope s_plus) := ⟨rfl, rfl, rfl, by decide +kernel, rfl, by decide +kernel, by decide +kernel⟩
abbrev s_minus : Stmt := top 4
abbrev N_minus : List Str := ["one", "two"]
theorem sc_minus : FnScope N_minus ["one", "two"] (defScope s_minus) := ⟨rfl, rfl, rfl, by decide +kernel, rfl, by decide +kernel, by decide +kernel⟩
abbrev s_times : Stmt := top 5
abbrev N_times : List Str := ["one", "two"]
theorem sc_times : FnScope N_times ["one", "two"] (defScope s_times) := ⟨rfl, rfl, rfl, by decide +kernel, rfl, by decide +kernel, by decide +kernel⟩
abbrev s_over : Stmt := top 6
abbrev N_over : List Str := ["one", "two"]
theorem sc_over : FnScope N_over ["one", "two"] (defScope s_over) := ⟨rfl, rfl, rfl, by decide +kernel, rfl, by decide +kernel, by decide +kernel⟩
abbrev s_is_less : Stmt := top 7
abbrev N_is_less : List Str := ["one", "two"]
theorem sc_is_less : FnScope N_is_less ["one", "two"] (defScope s_is_less) := ⟨rfl, rfl, rfl, by decide +kernel, rfl, by decide +kernel, by decide +kernel⟩
abbrev s_nearest : Stmt := top 8
abbrev N_nearest : List Str := ["one"]
theorem sc_nearest : FnScope N_nearest ["one"] (defScope s_nearest) := ⟨rfl, rfl, rfl, by decide +kernel, rfl, by decide +kernel, by decide +kernel⟩
abbrev s__law_draws : Stmt := top 10
abbrev N__law_draws : List Str := ["cell", "modulus", "count", "number", "row", "k", "mixed"]
theorem sc__law_draws : FnScope N__law_draws ["cell", "modulus", "count"] (defScope s__law_draws) := ⟨rfl, rfl, rfl, by decide +kernel, rfl, by decide +kernel, by decide +kernel⟩
abbrev s__law_box : Stmt := top 11
abbrev N__law_box : List Str := ["script", "row", "cell"]
theorem sc__law_box : FnScope N__law_box ["script"] (defScope s__law_box) := ⟨rfl, rfl, rfl, by decide +kernel, rfl, by decide +kernel, by decide +kernel⟩
abbrev s__law_next : Stmt := top 12
abbrev N__law_next : List Str := ["box", "modulus", "at", "number"]
theorem sc__law_next : FnScope N__law_next ["box", "modulus"] (defScope s__law_next) := ⟨rfl, rfl, rfl, by decide +kernel, rfl, by decide +kernel, by decide +kernel⟩
abbrev s__law_one : Stmt := top 13
abbrev N__law_one : List Str := ["box", "values"]
theorem sc__law_one : FnScope N__law_one ["box", "values"] (defScope s__law_one) := ⟨rfl, rfl, rfl, by decide +kernel, rfl, by decide +kernel, by decide +kernel⟩
abbrev s__law_is : Stmt := top 14
abbrev N__law_is : List Str := ["got", "due", "same", "k"]
theorem sc__law_is : FnScope N__law_is ["got", "due"] (defScope s__law_is) := ⟨rfl, rfl, rfl, by decide +kernel, rfl, by decide +kernel, by decide +kernel⟩
abbrev s__law_least : Stmt := top 15
abbrev N__law_least : List Str := ["above", "below", "a", "b", "sign"]
theorem sc__law_least : FnScope N__law_least ["above", "below"] (defScope s__law_least) := ⟨rfl, rfl, rfl, by decide +kernel, rfl, by decide +kernel, by decide +kernel⟩
abbrev s__law_drawn : Stmt := top 16
abbrev N__law_drawn : List Str := ["box", "above", "below"]
theorem sc__law_drawn : FnScope N__law_drawn ["box"] (defScope s__law_drawn) := ⟨rfl, rfl, rfl, by decide +kernel, rfl, by decide +kernel, by decide +kernel⟩
abbrev s_law : Stmt := top 17
abbrev N_law : List Str := ["script", "box", "here", "due", "k", "other", "way", "near", "great", "factor", "pair", "half"]
theorem sc_law : FnScope N_law ["script"] (defScope s_law) := ⟨rfl, rfl, rfl, by decide +kernel, rfl, by decide +kernel, by decide +kernel⟩
/-! ### fractions in plain numbers -/
def nrm (a b : Int) : Int × Int := if b < 0 then (-a / (Int.gcd a b : Int), -b / (Int.gcd a b : Int)) else (a / (Int.gcd a b : Int), b / (Int.gcd a b : Int))
theorem gcd_pos {a b : Int} (h : b ≠ 0) : (0 : Int) < (Int.gcd a b : Int) := by
  have := Int.gcd_pos_of_ne_zero_right a h
  omega
theorem nrm_pos {a b : Int} (h : b ≠ 0) : 0 < (nrm a b).2 := by
  have hg := gcd_pos (a := a) h
  have hd := Int.gcd_dvd_right a b
  unfold nrm
  split
  · exact Int.ediv_pos_of_pos_of_dvd (by omega) (Int.le_of_lt hg) ((Int.dvd_neg).mpr hd)
  · exact Int.ediv_pos_of_pos_of_dvd (by omega) (Int.le_of_lt hg) hd
theorem nrm_bd1 {n : Nat} {a b : Int} (h : bd n a) : bd n (nrm a b).1 := by
  unfold nrm
  split
  · exact bd_ediv (bd_neg h) _
  · exact bd_ediv h _
theorem nrm_bd2 {n : Nat} {a b : Int} (h : bd n b) : bd n (nrm a b).2 := by
  unfold nrm
  split
  · exact bd_ediv (bd_neg h) _
  · exact bd_ediv h _
theorem nrm_neg {a b : Int} (hb : b ≠ 0) : nrm (-a) (-b) = nrm a b := by
  unfold nrm
  rw [Int.gcd_neg, Int.neg_gcd]
  by_cases h : b < 0
  · rw [if_neg (by omega), if_pos h]
  · rw [if_pos (by omega), if_neg h, Int.neg_neg, Int.neg_neg]
theorem nrm_scale {a b k : Int} (hk : 0 < k) : nrm (a * k) (b * k) = nrm a b := by
  unfold nrm
  have hg : (Int.gcd (a * k) (b * k) : Int) = (Int.gcd a b : Int) * k := by
    rw [Int.gcd_mul_right, Int.natCast_mul, Int.natAbs_of_nonneg (Int.le_of_lt hk)]
  rw [hg]
  by_cases h : b < 0
  · rw [if_pos (Int.mul_neg_of_neg_of_pos h hk), if_pos h, ← Int.neg_mul, ← Int.neg_mul, Int.mul_ediv_mul_of_pos_left _ _ hk, Int.mul_ediv_mul_of_pos_left _ _ hk]
  · rw [if_neg (by have := Int.mul_nonneg (show 0 ≤ b by omega) (Int.le_of_lt hk); omega), if_neg h, Int.mul_ediv_mul_of_pos_left _ _ hk, Int.mul_ediv_mul_of_pos_left _ _ hk]
theorem nrm_flip {a b : Int} (hb : 0 < b) : nrm a (-b) = (-(nrm a b).1, (nrm a b).2) := by
  unfold nrm
  rw [if_pos (by omega), if_neg (by omega), Int.gcd_neg, Int.neg_neg, Int.neg_ediv_of_dvd (Int.gcd_dvd_left a b)]
theorem nrm_zero {b : Int} (hb : b ≠ 0) : nrm 0 b = (0, 1) := by
  unfold nrm
  rw [Int.gcd_zero_left]
  by_cases h : b < 0
  · rw [if_pos h]
    have e : (b.natAbs : Int) = -b := by omega
    rw [e, Int.ediv_self (by omega)]; simp
  · rw [if_neg h]
    have e : (b.natAbs : Int) = b := by omega
    rw [e, Int.ediv_self (by omega)]; simp
theorem gcd_mod (x y : Int) : Int.gcd y (x % y) = Int.gcd x y := by rw [Int.emod_def, Int.gcd_comm, Int.gcd_sub_mul_left_left]
theorem gcd_sub (x y : Int) : Int.gcd y (x - x / y * y) = Int.gcd x y := by rw [Int.gcd_comm, Int.gcd_sub_mul_right_left]
def fr (p : Int × Int) : PyData := .tuple [.int p.1, .int p.2]
abbrev two : Int × Int → List Bd := fun a => [.v (.int a.1), .v (.int a.2)]
abbrev twoF : (Int × Int) × (Int × Int) → List Bd := fun a => [.v (fr a.1), .v (fr a.2)]
abbrev S_common_divisor : Sd := fnOf (α := Int × Int) two (fun a => 0 ≤ a.2) (fun a => .int (Int.gcd a.1 a.2 : Nat))
abbrev S_fraction : Sd := fnOf (α := Int × Int) two (fun a => a.2 ≠ 0 ∧ bd 2000 a.2) (fun a => fr (nrm a.1 a.2))
abbrev sm (p : Int × Int) : Prop := bd 900 p.1 ∧ bd 900 p.2
abbrev S_plus : Sd := fnOf (α := (Int × Int) × (Int × Int)) twoF (fun a => a.1.2 ≠ 0 ∧ a.2.2 ≠ 0 ∧ sm a.1 ∧ sm a.2) (fun a => fr (nrm (a.1.1 * a.2.2 + a.2.1 * a.1.2) (a.1.2 * a.2.2)))
abbrev S_minus : Sd := fnOf (α := (Int × Int) × (Int × Int)) twoF (fun a => a.1.2 ≠ 0 ∧ a.2.2 ≠ 0 ∧ sm a.1 ∧ sm a.2) (fun a => fr (nrm (a.1.1 * a.2.2 - a.2.1 * a.1.2) (a.1.2 * a.2.2)))
abbrev S_times : Sd := fnOf (α := (Int × Int) × (Int × Int)) twoF (fun a => a.1.2 ≠ 0 ∧ a.2.2 ≠ 0 ∧ sm a.1 ∧ sm a.2) (fun a => fr (nrm (a.1.1 * a.2.1) (a.1.2 * a.2.2)))
abbrev S_over : Sd := fnOf (α := (Int × Int) × (Int × Int)) twoF (fun a => a.1.2 ≠ 0 ∧ a.2.1 ≠ 0 ∧ sm a.1 ∧ sm a.2) (fun a => fr (nrm (a.1.1 * a.2.2) (a.1.2 * a.2.1)))
abbrev S_is_less : Sd := fnOf (α := (Int × Int) × (Int × Int)) twoF (fun a => sm a.1 ∧ sm a.2) (fun a => .bool (decide (a.1.1 * a.2.2 < a.2.1 * a.1.2)))
abbrev S_nearest : Sd := fnOf (α := Int × Int) (fun a => [.v (fr a)]) (fun a => 0 < a.2 ∧ sm a) (fun a => .int ((2 * a.1 + a.2) / (2 * a.2)))
abbrev S__law_least : Sd := fnOf (α := Int × Int) two (fun a => a.2 ≠ 0 ∧ bd 2000 a.1 ∧ bd 2000 a.2) (fun a => fr (nrm a.1 a.2))
abbrev S__law_drawn : Sd := relOf (α := Unit) (fun _ => [.bx]) (fun _ => True) (fun _ d => ∃ p : Int × Int, d = fr p ∧ 0 < p.2 ∧ bd 12 p.1 ∧ bd 12 p.2)
abbrev S_law : Sd := fnOf (α := List Int) (fun ns => [.v (scr ns)]) (fun ns => ns.length ≤ 63) (fun _ => .bool true)
section
variable {P : Program} {w : World} {K : PySem.W.Frag} {mg : Str → Option Value} {base : Heap} {T : List (Addr × Str)}
theorem cpow18 : CPow 10 18 := ⟨by decide, by decide, by decide⟩
theorem mo__law_draws : MoSd S__law_draws := mo_rel
theorem len__law_draws : ∀ bs Q xd, S__law_draws bs Q xd → bs.length = 3 := len_rel fun _ => rfl
theorem ok__law_draws {f : Addr} {fd : FuncData} (D : DefAt K mg "_law_draws" s__law_draws ["cell", "modulus", "count"] f fd) (B : Blt mg) : Sig P w K mg base T CX0 "_law_draws" ["cell", "modulus", "count"] 1 S__law_draws := by
  refine D.sig mo__law_draws (fnD_of D.fn sc__law_draws mo__law_draws len__law_draws fun cdv A outer s H E W hT hr => ?_)
  subst hT
  refine ⟨_, (pdb_cons (pds_set (i := 3) sc__law_draws.nd rfl (by first | exact Or.inl rfl | exact Or.inr rfl) (pd_var 0))
      (pdb_cons (pds_if (pdt_cmp od_cmp op_lt (pd_var 3) pd_int (nomark _)) (pdb_one (pds_set (i := 3) sc__law_draws.nd rfl (by first | exact Or.inl rfl | exact Or.inr rfl) (pd_op od_sub op_sub (pd_op od_sub op_sub pd_int pd_int) (pd_var 3)))) pdb_nil)
      (pdb_cons (pds_setF (i := 4) sc__law_draws.nd rfl (by first | exact Or.inl rfl | exact Or.inr rfl) (pf_lst pds_nil))
      (pdb_cons (pds_if (pdt_cmp od_cmp op_ge (pd_var 3) (pd_op od_pow op_pow pd_int pd_int) (nomark _)) (pdb_cons (pds_for PassesOwn.never rfl (pdi_rng1 (by rfl) B.range (pds_cons (pd_var 2) pds_nil)) (pdg_name (i := 5) sc__law_draws.nd rfl (by first | exact Or.inl rfl | exact Or.inr rfl)) (pdb_cons (pds_expr (pd_app (i := 4) (pd_op od_mod op_mod (pd_callTy cd_int call_int1 (by rfl) B.int bt_int (pds_cons (pd_var 3) pds_nil)) (pd_var 1))))
      (pdb_one (pds_set (i := 3) sc__law_draws.nd rfl (by first | exact Or.inl rfl | exact Or.inr rfl) (pd_op od_div op_fdivW (pd_var 3) (pd_var 1)))))).slF
      (pdb_one (pds_ret (pd_var 4)))) pdb_nil)
      (pdb_cons (pds_for PassesOwn.never rfl (pdi_rng1 (by rfl) B.range (pds_cons (pd_var 2) pds_nil)) (pdg_name (i := 5) sc__law_draws.nd rfl (by first | exact Or.inl rfl | exact Or.inr rfl)) (pdb_cons (pds_set (i := 6) sc__law_draws.nd rfl (by first | exact Or.inl rfl | exact Or.inr rfl) (pd_op od_mod op_mod (pd_callTy cd_int call_int1 (by rfl) B.int bt_int (pds_cons (pd_op od_mul op_qMul (pd_op od_add op_qAdd (pd_op od_add op_qAdd (pd_var 3) (pd_op od_mul op_qMul pd_int (pd_var 5))) pd_int) pd_int) pds_nil)) pd_int))
      (pdb_cons (pds_set (i := 6) sc__law_draws.nd rfl (by first | exact Or.inl rfl | exact Or.inr rfl) (pd_op od_mod op_mod (pd_callTy cd_int call_int1 (by rfl) B.int bt_int (pds_cons (pd_op od_add op_qAdd (pd_op od_mul op_qMul (pd_var 6) pd_int) (pd_op od_mul op_qMul pd_int (pd_var 5))) pds_nil)) pd_int))
      (pdb_one (pds_expr (pd_app (i := 4) (pd_op od_mod op_mod (pd_callTy cd_int call_int1 (by rfl) B.int bt_int (pds_cons (pd_op od_div op_fdivW (pd_var 6) pd_int) pds_nil)) (pd_var 1)))))))).slF
      (pdb_one (pds_ret (pd_var 4)))))))), fun bs Q xd h => ?_⟩
  unfold S__law_draws relOf at h
  obtain ⟨⟨c, m, n⟩, rfl, ⟨hm, hm2, hn, hn2⟩, q⟩ := h
  dsimp only at hm hm2 hn hn2 q
  have fin : ∀ ns : List Int, (ns.length : Int) = n → Q (.list (ns.map PyData.int)) := fun ns e => q _ ⟨ns, rfl, e⟩
  refine seqI fun N1 h1 => h1 [.v (.int c), .v (.int m), .v (.int n), .v (.int c), .un, .un, .un] ?_
  refine seqI fun N2 h2 => ?_
  have key : ∀ x : Int, N2 [.v (.int c), .v (.int m), .v (.int n), .v (.int x), .un, .un, .un] := by
    intro x
    refine h2 _ ?_
    refine seqI fun N3 h3 => h3 [.v (.int c), .v (.int m), .v (.int n), .v (.int x), .own [], .un, .un] ?_
    refine seqI fun N4 h4 => ?_
    refine ifP (x ≥ 10 ^ 18) [.v (.int c), .v (.int m), .v (.int n), .v (.int x), .own [], .un, .un] (fun _ h => And.intro cpow18 h) (fun _ => ?_) (fun _ => ?_)
    · refine seqI fun N5 h5 => ?_
      refine for_rng1 (fun _ h => h) ⟨by omega, by omega⟩ (fun i ρ => ∃ (ns : List Int) (b1 b2 : Bd) (y : Int), ns.length = i ∧ ρ = [.v (.int c), .v (.int m), .v (.int n), .v (.int y), .own (ns.map .int), b1, b2]) ⟨[], .un, .un, _, rfl, rfl⟩ ?_ ?_
      · rintro i ρ hi ⟨ns, b1, b2, y, e, rfl⟩
        refine seqI fun N6 h6 => ?_
        refine And.intro hm (And.intro (by rw [List.length_map, sizeLine_eq]; omega) (h6 _ ?_))
        refine And.intro (wide_div hm (b := 30) (by omega) (by decide) (by decide)) ⟨ns ++ [y % m], _, _, y / m, by rw [List.length_append, e]; rfl, by rw [List.map_append]; rfl⟩
      · rintro ρ ⟨ns, b1, b2, y, e, rfl⟩
        exact h5 _ (fin ns (by omega))
    · refine h4 _ ?_
      refine seqI fun N5 h5 => ?_
      refine for_rng1 (fun _ h => h) ⟨by omega, by omega⟩ (fun i ρ => ∃ (ns : List Int) (b1 b2 : Bd) (y : Int), ns.length = i ∧ ρ = [.v (.int c), .v (.int m), .v (.int n), .v (.int y), .own (ns.map .int), b1, b2]) ⟨[], .un, .un, _, rfl, rfl⟩ ?_ ?_
      · rintro i ρ hi ⟨ns, b1, b2, y, e, rfl⟩
        refine seqI fun N6 h6 => ?_
        refine And.intro (.inl (.inl ⟨by decide, by decide⟩)) (And.intro (.inl (.inr ⟨by decide, by decide⟩)) (And.intro (by decide) (h6 _ ?_)))
        refine seqI fun N7 h7 => ?_
        refine And.intro (.inl (.inr ⟨by decide, by decide⟩)) (And.intro (.inl (.inl ⟨by decide, by decide⟩)) (And.intro (by decide) (h7 _ ?_)))
        refine And.intro (wide_div (by decide) (b := 3) (by decide) (by decide) (by decide)) (And.intro hm (And.intro (by rw [List.length_map, sizeLine_eq]; omega) ⟨ns ++ [_], _, _, y, by rw [List.length_append, e]; rfl, by rw [List.map_append]; rfl⟩))
      · rintro ρ ⟨ns, b1, b2, y, e, rfl⟩
        exact h5 _ (fin ns (by omega))
  exact ifP (c < 0) [.v (.int c), .v (.int m), .v (.int n), .v (.int c), .un, .un, .un] (fun _ h => h) (fun _ => key _) fun _ => key _
theorem ok__law_box {f : Addr} {fd : FuncData} (D : DefAt K mg "_law_box" s__law_box ["script"] f fd) (B : Blt mg) (G__law_draws : Sig P w K mg base T CX0 "_law_draws" ["cell", "modulus", "count"] 1 S__law_draws) : SigBox P w K mg base T "_law_box" ["script"] 2 := by
  refine okBox D sc__law_box rfl fun cdv A outer s H E W hT hr => ?_
  subst hT
  refine ⟨_, _, _, (pds_set (i := 1) sc__law_box.nd rfl (by first | exact Or.inl rfl | exact Or.inr rfl) (pd_lst pds_nil)), (pds_for PassesOwn.never rfl (pdi_scr 0) (pdg_name (i := 2) sc__law_box.nd rfl (by first | exact Or.inl rfl | exact Or.inr rfl)) (pdb_one (pds_set (i := 1) sc__law_box.nd rfl (by first | exact Or.inl rfl | exact Or.inr rfl) (pd_op od_add op_qAdd (pd_var 1) (pd_sig G__law_draws hr (by decide) (by rfl) (pda_cons (pd_var 2) (pda_cons pd_int (pda_cons pd_int pda_nil)))))))).slF, (pds_if (pdt_cmp od_eq (op_qEq hr.units) (pd_callB cd_len cr_qLen (by rfl) B.len bt_len (pds_cons (pd_var 1) pds_nil)) pd_int (nomark _)) (pdb_one (pds_set (i := 1) sc__law_box.nd rfl (by first | exact Or.inl rfl | exact Or.inr rfl) (pd_lst (pds_cons pd_int (pds_cons pd_int (pds_cons pd_int (pds_cons pd_int (pds_cons pd_int (pds_cons pd_int (pds_cons pd_int pds_nil)))))))))) pdb_nil), pss_one (ps_ret (pe_disp (pps_cons pe_str (pv 1) (pps_cons pe_str pe_int pps_nil)) rfl rfl (by intro z; cases z) (by decide))), fun ns hl Q h => ?_⟩
  refine seqI fun N1 h1 => ?_
  refine h1 [.v (scr ns), .v (.list []), .un] ?_
  refine seqI fun N2 h2 => ?_
  refine for_any (ds := ns.map PyData.int) (fun _ h => h) (fun i ρ => ∃ (ms : List Int) (b : Bd), ms.length = 6 * i ∧ ρ = [.v (scr ns), .v (.list (ms.map PyData.int)), b]) ⟨[], .un, rfl, rfl⟩ ?_ ?_
  · rintro i d ρ hd ⟨ms, b, hm, rfl⟩
    have hi : i < ns.length := by have := (List.getElem?_eq_some_iff.mp hd).1; rwa [List.length_map] at this
    rw [List.getElem?_map, List.getElem?_eq_getElem hi] at hd
    cases hd
    refine relI (α := Int × Int × Int) (args := fun a => [.v (.int a.1), .v (.int a.2.1), .v (.int a.2.2)]) (ns[i], 1000003, 6) (show (0 : Int) < 1000003 ∧ (1000003 : Int) < 1073741824 ∧ (0 : Int) ≤ 6 ∧ (6 : Int) ≤ 1000 by decide) ?_
    rintro _ ⟨xs, rfl, hx⟩
    have hx' : xs.length = 6 := by have : (xs.length : Int) = 6 := hx; omega
    refine And.intro (by rw [List.length_map, List.length_map, sizeLine_eq]; omega) ⟨ms ++ xs, .v (.int ns[i]), by rw [List.length_append]; omega, ?_⟩
    rw [List.map_append]
    rfl
  · rintro ρ ⟨ms, b, hm, rfl⟩
    refine h2 _ ?_
    rw [List.length_map] at hm
    refine ifP ((ms.length : Int) = 0) [.v (scr ns), .v (.list (ms.map PyData.int)), b] (fun Q h => ?_) (fun e => ?_) fun e => ?_
    · rw [show (ms.length : Int) = ((ms.map PyData.int).length : Int) by rw [List.length_map]] at h
      exact h
    · exact h b [11, 5, 2, 7, 31, 101, 997] (by decide) (by decide)
    · exact h b ms (by omega) (by omega)
theorem mo__law_next : MoSd S__law_next := mo_rel
theorem len__law_next : ∀ bs Q xd, S__law_next bs Q xd → bs.length = 2 := len_rel fun _ => rfl
theorem ok__law_next {f : Addr} {fd : FuncData} (D : DefAt K mg "_law_next" s__law_next ["box", "modulus"] f fd) (B : Blt mg) : Sig P w K mg base T CX0 "_law_next" ["box", "modulus"] 1 S__law_next := by
  refine D.sig mo__law_next (D.fn.ok sc__law_next (fun vs H Q E ⟨F, bs, B, xd, _, _, _, r, h, _⟩ => r.length.trans (len__law_next _ _ _ h)) fun cdv A outer s H vs Q E hr ⟨F, bs, Bx, xd, hs, hT, tb, r, h, hE⟩ => ?_)
  unfold S__law_next relOf at h
  obtain ⟨m, rfl, hm, q⟩ := h
  cases r with
  | @bx b _ _ _ hb hn r =>
    cases r with
    | v rm r =>
      cases r
      cases rm
      obtain ⟨⟨a, ns, k, h1, h2, h3, h4⟩, hf⟩ := hb
      have hu := hu_of hr
      have ha : H a = some (.lst (ns.map V.int)) := hs _ _ h2
      have kne : ¬ ((Sum.inr ("at" : Str) : Key) = Sum.inr ("row" : Str)) := by decide +kernel
      refine ⟨_, pss_cons (ps_set (i := 2) sc__law_next.nd rfl (Or.inl rfl) (pe_dget hu (pv 0) pe_str (fun _ _ => rfl)))
        (pss_cons (ps_dput hu (pv 0) pe_str (pe_op op_add (pv 2) pe_int) rfl)
        (pss_cons (ps_set (i := 3) sc__law_next.nd rfl (Or.inl rfl) (pe_ix ix_list (pe_dget hu (pv 0) pe_str (fun _ _ => rfl)) (pe_op op_mod (pv 2) (pe_callB call_len_seq (by rfl) B.len PySem.boot_len (pa_cons (pe_dget hu (pv 0) pe_str (fun _ _ => rfl)) pa_nil))) (fun _ _ => rfl)))
        (pss_one (ps_ret (pe_op op_mod (pe_callTy call_int1 (by rfl) B.int (by decide +kernel) (pa_cons (pe_op op_add (pv 3) (pe_op op_mul pe_int (pe_op op_fdiv (pv 2) (pe_callB call_len_seq (by rfl) B.len PySem.boot_len (pa_cons (pe_dget hu (pv 0) pe_str (fun _ _ => rfl)) pa_nil))))) pa_nil)) (pv 1)))))), ?_⟩
      have e1 : putK [((Sum.inr ("row" : Str) : Key), V.ref a), (Sum.inr ("at" : Str), V.int k)] (Sum.inr ("at" : Str)) (V.int (k + 1)) = [((Sum.inr ("row" : Str) : Key), V.ref a), (Sum.inr ("at" : Str), V.int (k + 1))] := by
        unfold putK
        simp only [List.any_cons, List.any_nil, List.map_cons, List.map_nil, decide_true, Bool.or_true, Bool.or_false, if_true]
        rw [if_neg (fun z => kne z.symm)]
      have dg : DGet H b (.str "at") (some (.int k)) := by
        have := DGet.k (k := Sum.inr ("at" : Str)) h1
        rwa [valV_neg (fun z => kne z.symm), valV_pos rfl] at this
      have h1' : ∀ o, upd H b o b = some o := fun o => upd_same
      have dg2 : DGet (upd H b (.dK [((Sum.inr ("row" : Str) : Key), V.ref a), (Sum.inr ("at" : Str), V.int (k + 1))])) b (.str "row") (some (.ref a)) := by
        have := DGet.k (k := Sum.inr ("row" : Str)) (h1' (.dK [((Sum.inr ("row" : Str) : Key), V.ref a), (Sum.inr ("at" : Str), V.int (k + 1))]))
        rwa [valV_pos rfl] at this
      have hab : a ≠ b := fun z => by rw [z, h1] at ha; cases ha
      have sa : SqL K (upd H b (.dK [((Sum.inr ("row" : Str) : Key), V.ref a), (Sum.inr ("at" : Str), V.int (k + 1))])) a (ns.map V.int) := .of (by rw [upd_ne hab]; exact ha)
      have hl : (0 : Int) < ((ns.map V.int).length : Int) := by rw [List.length_map]; omega
      have hl2 : ((ns.map V.int).length : Int) < 1073741824 := by rw [List.length_map]; omega
      obtain ⟨x, hx⟩ : ∃ x, atI (ns.map V.int) (k % ((ns.map V.int).length : Int)) = some (V.int x) := by
        have g1 := Int.emod_nonneg k (by omega : ((ns.map V.int).length : Int) ≠ 0)
        have g2 := Int.emod_lt_of_pos k hl
        generalize k % ((ns.map V.int).length : Int) = j at g1 g2
        obtain ⟨n, rfl⟩ := Int.eq_ofNat_of_zero_le g1
        have g3 : n < ns.length := by rw [List.length_map] at g2; omega
        exact ⟨ns[n], atI_nat (by simp [g3])⟩
      refine ⟨_, rfl, b, _, rfl, dg, _, rfl, _, _, rfl, rfl, _, rfl, b, _, rfl, DPut.k (k := Sum.inr ("at" : Str)) h1 (by show 2 < sizeLine; decide), ?_⟩
      rw [e1]
      refine ⟨_, rfl, b, _, rfl, dg2, _, rfl, _, rfl, b, _, rfl, dg2, a, _, rfl, .inl sa, _, _, rfl, rfl, hl, a, _, _, _, rfl, rfl, sa, hx, ?_⟩
      refine ⟨_, rfl, _, rfl, _, rfl, b, _, rfl, dg2, a, _, rfl, .inl sa, _, _, rfl, rfl, ⟨hl, hl2⟩, _, _, rfl, rfl, .inl ⟨by decide, by decide⟩, _, _, rfl, rfl, .inl ⟨_, rfl, _, rfl, _, _, rfl, rfl, hm, ?_⟩⟩
      refine q _ ⟨_, rfl, Int.emod_nonneg _ (by omega), Int.emod_lt_of_pos _ hm⟩ F _ _ ⟨.refl F, fun c o e => ?_, fun c o e1 e2 => ?_, fun c o e1 e2 e3 e4 => ?_, fun t => tabs_write t (by rw [h1]; trivial) (fun φ z => by rw [h1] at z; cases z)⟩ (fun c z => ?_) (.int _)
      · have hc : c ≠ b := fun z => by rw [z, hf] at e; cases e
        rw [upd_ne hc]; exact hs c o e
      · by_cases hc : c = b
        · subst hc; exact ⟨e2, _, upd_same⟩
        · exact ⟨e2, o, by rw [upd_ne hc]; exact e1⟩
      · have hc : c ≠ b := fun z => e3 (by rw [z]; exact List.mem_singleton.mpr rfl)
        rw [upd_ne hc]; exact e1
      · rw [List.mem_singleton] at z
        subst z
        exact ⟨⟨a, ns, k + 1, upd_same, h2, h3, h4⟩, hf⟩
theorem mo__law_one : MoSd S__law_one := mo_rel
theorem len__law_one : ∀ bs Q xd, S__law_one bs Q xd → bs.length = 2 := len_rel fun _ => rfl
theorem ok__law_one {f : Addr} {fd : FuncData} (D : DefAt K mg "_law_one" s__law_one ["box", "values"] f fd) (B : Blt mg) (G__law_next : Sig P w K mg base T CX0 "_law_next" ["box", "modulus"] 1 S__law_next) : Sig P w K mg base T CX0 "_law_one" ["box", "values"] 2 S__law_one := by
  refine D.sig mo__law_one (fnD_of D.fn sc__law_one mo__law_one len__law_one fun cdv A outer s H E W hT hr => ?_)
  subst hT
  refine ⟨_, (pdb_one (pds_ret (pd_ix od_ix ix_seq (pd_var 1) (pd_sig G__law_next hr (by decide) (by rfl) (pda_bx (i := 0) (pda_cons (pd_callB cd_len cr_qLen (by rfl) B.len bt_len (pds_cons (pd_var 1) pds_nil)) pda_nil))) (fun _ _ => rfl)))), fun bs Q xd h => ?_⟩
  unfold S__law_one relOf at h
  obtain ⟨ds, rfl, ⟨h1, h2⟩, q⟩ := h
  dsimp only at h1 h2 q
  have hl : 0 < ds.length := List.length_pos_iff.mpr h1
  refine And.intro trivial (relI (α := Int) (args := fun m => [.bx, .v (.int m)]) (ds.length : Int) (show (0 : Int) < ds.length by omega) ?_)
  rintro _ ⟨n, rfl, g1, g2⟩
  obtain ⟨j, rfl⟩ := Int.eq_ofNat_of_zero_le g1
  have hj : j < ds.length := by omega
  exact ixL (atI_of hj) (q _ (List.getElem_mem hj))
theorem mo__law_is (n : Nat) : MoSd (S__law_isN n) := mo_fn
theorem len__law_is (n : Nat) : ∀ bs Q xd, S__law_isN n bs Q xd → bs.length = 2 := len_fn fun _ => rfl
theorem is_rec {f : Addr} {fd : FuncData} (D : DefAt K mg "_law_is" s__law_is ["got", "due"] f fd) (B : Blt mg) (n : Nat) (G__law_is : Sig P w K mg base T CX0 "_law_is" ["got", "due"] n (SisRec n)) : Sig P w K mg base T CX0 "_law_is" ["got", "due"] (n + 1) (S__law_isN n) := by
  refine D.sig (mo__law_is n) (fnD_of D.fn sc__law_is (mo__law_is n) (len__law_is n) fun cdv A outer s H E W hT hr => ?_)
  subst hT
  refine ⟨_, (pdb_cons (pds_if (pdt_truth (pd_isi2 .list .tuple (pd_var 1) (by rfl) B.isinstance (by rfl) B.list bt_list (by rfl) B.tuple bt_tuple)) (pdb_cons (pds_set (i := 2) sc__law_is.nd rfl (by first | exact Or.inl rfl | exact Or.inr rfl) (pd_if (pdt_truth (pd_isi .list (pd_var 1) (by rfl) B.isinstance (by rfl) B.list bt_list)) (pd_isi .list (pd_var 0) (by rfl) B.isinstance (by rfl) B.list bt_list) (pd_isi .tuple (pd_var 0) (by rfl) B.isinstance (by rfl) B.tuple bt_tuple)))
      (pdb_one (pds_ret (pd_and (pd_var 2) (pd_and (pd_cmp od_eq (op_qEq hr.units) (pd_callB cd_len cr_qLen (by rfl) B.len bt_len (pds_cons (pd_var 0) pds_nil)) (pd_callB cd_len cr_qLen (by rfl) B.len bt_len (pds_cons (pd_var 1) pds_nil)) (nomark _)) (pd_one (pd_callB cd_all (cr_all rfl) (by rfl) B.all bt_all (pds_cons (pf_lc (own := [("k", 3)]) rfl sc__law_is.nd (pdi_rng1 (by rfl) B.range (pds_cons (pd_callB cd_len cr_qLen (by rfl) B.len bt_len (pds_cons (pd_var 1) pds_nil)) pds_nil)) (blkOk_by (own := [("k", 3)]) (N := N__law_is) (sc := defScope s__law_is) (by decide +kernel)) (by decide) (fun _ _ _ _ _ _ _ => (pdg_name (i := 3) sc__law_is.nd rfl (by first | exact Or.inl rfl | exact Or.inr rfl))) (fun _ _ _ _ _ _ _ => pdts_nil) (fun _ _ _ _ _ W1 eW => (pd_sig (eW.symm ▸ G__law_is) hr (Nat.le_refl n) (by rfl) (pda_cons (pd_ix od_ix ix_seq (pd_var 0) (pd_var 3) (fun _ _ => rfl)) (pda_cons (pd_ix od_ix ix_seq (pd_var 1) (pd_var 3) (fun _ _ => rfl)) pda_nil))))).sl.pd pds_nil)))))))) pdb_nil)
      (pdb_cons (pds_if (pdt_truth (pd_isi .dict (pd_var 1) (by rfl) B.isinstance (by rfl) B.dict bt_dict)) (pdb_one pds_never) pdb_nil)
      (pdb_cons (pds_if (pdt_cmp od_isN op_isN (pd_var 1) pd_non (nomark _)) (pdb_one (pds_ret (pd_cmp od_isN op_isN (pd_var 0) pd_non (nomark _)))) pdb_nil)
      (pdb_cons (pds_if (pdt_truth (pd_isi .bool (pd_var 1) (by rfl) B.isinstance (by rfl) B.bool bt_bool)) (pdb_one (pds_ret (pd_and (pd_isi .bool (pd_var 0) (by rfl) B.isinstance (by rfl) B.bool bt_bool) (pd_one (pd_cmp od_eq (op_qEq hr.units) (pd_var 0) (pd_var 1) (nomark _)))))) pdb_nil)
      (pdb_cons (pds_if (pdt_truth (pd_isi .int (pd_var 1) (by rfl) B.isinstance (by rfl) B.int bt_int)) (pdb_one (pds_ret (pd_and (pd_isi .int (pd_var 0) (by rfl) B.isinstance (by rfl) B.int bt_int) (pd_and (pd_not (pd_isi .bool (pd_var 0) (by rfl) B.isinstance (by rfl) B.bool bt_bool)) (pd_one (pd_cmp od_eq (op_qEq hr.units) (pd_var 0) (pd_var 1) (nomark _))))))) pdb_nil)
      (pdb_one (pds_ret (pd_and (pd_isi .str (pd_var 0) (by rfl) B.isinstance (by rfl) B.str bt_str) (pd_one (pd_cmp od_eq (op_qEq hr.units) (pd_var 0) (pd_var 1) (nomark _))))))))))), fun bs Q xd h => ?_⟩
  unfold S__law_isN fnOf at h
  obtain ⟨d, rfl, hd, q⟩ := h
  cases d with
  | none => exact q
  | bool b => cases b <;> exact q
  | int i => rw [show true = decide (i = i) from (decide_eq_true rfl).symm] at q; exact q
  | str z => rw [show true = decide (z = z) from (decide_eq_true rfl).symm] at q; exact q
  | list ds =>
    obtain ⟨m, rfl, hl, hm⟩ : ∃ m, n = m + 1 ∧ ds.length ≤ sizeLine ∧ ∀ d ∈ ds, okIs m d := by
      cases n with
      | zero => exact hd.elim
      | succ m => exact ⟨m, rfl, hd.1, hd.2⟩
    rw [sizeLine_eq] at hl
    refine seqI fun N hN => ?_
    refine ifB true _ (fun Q h => h) (fun _ => ?_) (fun e => nomatch e)
    refine seqI fun M hM => ?_
    refine hM [.v (.list ds), .v (.list ds), .v (.bool true), .un] ?_
    refine ifDT (p := (ds.length : Int) = ds.length) rfl ?_
    refine lc_map (ds := rng 0 ds.length) (fun _ => .bool true) (fun Q h => And.intro ⟨by omega, by omega⟩ h) rfl (by rw [rng_length, sizeLine_eq]; omega) ?_ (Exists.intro (List.map (fun _ => true) (rng 0 ds.length)) ⟨by rw [List.map_map]; rfl, ?_⟩)
    · intro i d Z hi hZ
      obtain ⟨rfl, h⟩ := rng_get hi
      have hj : i < ds.length := by omega
      have e : atI ds (0 + (i : Int)) = some ds[i] := by rw [Int.zero_add]; exact atI_of hj
      refine ixL e (ixL e ?_)
      exact fnI (α := PyData) ds[i] (hm _ (List.getElem_mem hj)) (hZ _ rfl)
    · rw [show ((rng 0 (ds.length : Int)).map fun _ => true).all id = true from by simp]
      exact q
  | tuple ds =>
    obtain ⟨m, rfl, hl, hm⟩ : ∃ m, n = m + 1 ∧ ds.length ≤ sizeLine ∧ ∀ d ∈ ds, okIs m d := by
      cases n with
      | zero => exact hd.elim
      | succ m => exact ⟨m, rfl, hd.1, hd.2⟩
    rw [sizeLine_eq] at hl
    refine seqI fun N hN => ?_
    refine ifB true _ (fun Q h => h) (fun _ => ?_) (fun e => nomatch e)
    refine seqI fun M hM => ?_
    refine hM [.v (.tuple ds), .v (.tuple ds), .v (.bool true), .un] ?_
    refine ifDT (p := (ds.length : Int) = ds.length) rfl ?_
    refine lc_map (ds := rng 0 ds.length) (fun _ => .bool true) (fun Q h => And.intro ⟨by omega, by omega⟩ h) rfl (by rw [rng_length, sizeLine_eq]; omega) ?_ (Exists.intro (List.map (fun _ => true) (rng 0 ds.length)) ⟨by rw [List.map_map]; rfl, ?_⟩)
    · intro i d Z hi hZ
      obtain ⟨rfl, h⟩ := rng_get hi
      have hj : i < ds.length := by omega
      have e : atI ds (0 + (i : Int)) = some ds[i] := by rw [Int.zero_add]; exact atI_of hj
      refine ixT e (ixT e ?_)
      exact fnI (α := PyData) ds[i] (hm _ (List.getElem_mem hj)) (hZ _ rfl)
    · rw [show ((rng 0 (ds.length : Int)).map fun _ => true).all id = true from by simp]
      exact q
  | dict es => cases n <;> exact hd.elim
theorem is_all {f : Addr} {fd : FuncData} (D : DefAt K mg "_law_is" s__law_is ["got", "due"] f fd) (B : Blt mg) : ∀ n, Sig P w K mg base T CX0 "_law_is" ["got", "due"] (n + 1) (S__law_isN n)
  | 0 => is_rec D B 0 D.no
  | n + 1 => is_rec D B (n + 1) (is_all D B n)
theorem mo_common_divisor : MoSd S_common_divisor := mo_fn
theorem len_common_divisor : ∀ bs Q xd, S_common_divisor bs Q xd → bs.length = 2 := len_fn fun _ => rfl
theorem mo_fraction : MoSd S_fraction := mo_fn
theorem len_fraction : ∀ bs Q xd, S_fraction bs Q xd → bs.length = 2 := len_fn fun _ => rfl
theorem mo_plus : MoSd S_plus := mo_fn
theorem len_plus : ∀ bs Q xd, S_plus bs Q xd → bs.length = 2 := len_fn fun _ => rfl
theorem mo_minus : MoSd S_minus := mo_fn
theorem len_minus : ∀ bs Q xd, S_minus bs Q xd → bs.length = 2 := len_fn fun _ => rfl
theorem mo_times : MoSd S_times := mo_fn
theorem len_times : ∀ bs Q xd, S_times bs Q xd → bs.length = 2 := len_fn fun _ => rfl
theorem mo_over : MoSd S_over := mo_fn
theorem len_over : ∀ bs Q xd, S_over bs Q xd → bs.length = 2 := len_fn fun _ => rfl
theorem mo_is_less : MoSd S_is_less := mo_fn
theorem len_is_less : ∀ bs Q xd, S_is_less bs Q xd → bs.length = 2 := len_fn fun _ => rfl
theorem mo_nearest : MoSd S_nearest := mo_fn
theorem len_nearest : ∀ bs Q xd, S_nearest bs Q xd → bs.length = 1 := len_fn fun _ => rfl
theorem mo__law_least : MoSd S__law_least := mo_fn
theorem len__law_least : ∀ bs Q xd, S__law_least bs Q xd → bs.length = 2 := len_fn fun _ => rfl
theorem mo__law_drawn : MoSd S__law_drawn := mo_rel
theorem len__law_drawn : ∀ bs Q xd, S__law_drawn bs Q xd → bs.length = 1 := len_rel fun _ => rfl
theorem mo_law : MoSd S_law := mo_fn
theorem len_law : ∀ bs Q xd, S_law bs Q xd → bs.length = 1 := len_fn fun _ => rfl
theorem ok_common_divisor {f : Addr} {fd : FuncData} (D : DefAt K mg "common_divisor" s_common_divisor ["one", "two"] f fd) (B : Blt mg) : Sig P w K mg base T CX0 "common_divisor" ["one", "two"] 1 S_common_divisor := by
  refine D.sig mo_common_divisor (fnD_of D.fn sc_common_divisor mo_common_divisor len_common_divisor fun cdv A outer s H E W hT hr => ?_)
  subst hT
  refine ⟨_, (pdb_cons (pds_while PassesOwn.never (pdt_truth (pd_var 1)) (pdb_one (pds_par (i := 0) (j := 1) rfl sc_common_divisor.nd rfl rfl (by decide) rfl rfl (pds_cons (pd_var 1) (pds_cons (pd_op od_mod op_mod (pd_var 0) (pd_var 1)) pds_nil)) (by rfl)))).slW
      (pdb_one (pds_ret (pd_callB cd_abs call_abs (by rfl) B.abs bt_abs (pds_cons (pd_var 0) pds_nil))))), fun bs Q xd h => ?_⟩
  unfold S_common_divisor fnOf at h
  obtain ⟨⟨a, b⟩, rfl, hb, q⟩ := h
  dsimp only at hb q
  refine seqI fun N hN => ?_
  refine while_by (fun ρ => ∃ x y : Int, ρ = [.v (.int x), .v (.int y)] ∧ 0 ≤ y ∧ Int.gcd x y = Int.gcd a b) (fun ρ => match ρ with | [_, .v (.int y)] => y.toNat | _ => 0) ⟨a, b, rfl, hb, rfl⟩ ?_
  rintro ρ M ⟨x, y, rfl, hy, hg⟩ hM
  by_cases h0 : y = 0
  · subst h0
    refine hN [.v (.int x), .v (.int 0)] ?_
    have : (if x < 0 then -x else x) = (Int.gcd a b : Int) := by
      rw [← hg, Int.gcd_zero_right]; omega
    rw [← this] at q
    exact q
  · have hp : 0 < y := by omega
    have e : (y != 0) = true := by simp [h0]
    refine ifT (p := (y != 0) = true) e ?_
    refine And.intro hp (hM [.v (.int y), .v (.int (x % y))] ⟨y, x % y, rfl, Int.emod_nonneg _ h0, ?_⟩ ?_)
    · rw [← hg]; exact gcd_mod x y
    · have := Int.emod_lt_of_pos x hp
      have := Int.emod_nonneg x h0
      show (x % y).toNat < y.toNat
      omega
theorem ok_fraction {f : Addr} {fd : FuncData} (D : DefAt K mg "fraction" s_fraction ["above", "below"] f fd) (B : Blt mg) (G_common_divisor : Sig P w K mg base T CX0 "common_divisor" ["one", "two"] 1 S_common_divisor) : Sig P w K mg base T CX0 "fraction" ["above", "below"] 2 S_fraction := by
  refine D.sig mo_fraction (fnD_of D.fn sc_fraction mo_fraction len_fraction fun cdv A outer s H E W hT hr => ?_)
  subst hT
  refine ⟨_, (pdb_cons (pds_if (pdt_cmp od_cmp op_lt (pd_var 1) pd_int (nomark _)) (pdb_one (pds_par (i := 0) (j := 1) rfl sc_fraction.nd rfl rfl (by decide) rfl rfl (pds_cons (pd_un ud_neg un_neg (pd_var 0)) (pds_cons (pd_un ud_neg un_neg (pd_var 1)) pds_nil)) (by rfl))) pdb_nil)
      (pdb_cons (pds_set (i := 2) sc_fraction.nd rfl (by first | exact Or.inl rfl | exact Or.inr rfl) (pd_sig G_common_divisor hr (by decide) (by rfl) (pda_cons (pd_var 0) (pda_cons (pd_var 1) pda_nil))))
      (pdb_one (pds_ret (pd_tup (pds_cons (pd_op od_div op_fdivW (pd_var 0) (pd_var 2)) (pds_cons (pd_op od_div op_fdivW (pd_var 1) (pd_var 2)) pds_nil))))))), fun bs Q xd h => ?_⟩
  unfold S_fraction fnOf at h
  obtain ⟨⟨a, b⟩, rfl, ⟨h0, hs⟩, q⟩ := h
  dsimp only at h0 hs q
  refine seqI fun N hN => ?_
  have key : ∀ x y : Int, 0 < y → bd 2000 y → nrm a b = (x / (Int.gcd x y : Int), y / (Int.gcd x y : Int)) → N [.v (.int x), .v (.int y), .un] := by
    intro x y hy hb e
    refine hN _ ?_
    refine seqI fun N1 h1 => fnI (args := two) (x, y) (show 0 ≤ y by omega) (h1 _ ?_)
    have hg : (0 : Int) < (Int.gcd x y : Int) := gcd_pos (by omega)
    have hd : CDivW x (Int.gcd x y : Int) := divOk_of hg (m := 2000) (bd_le hb (by have := Int.gcd_le_natAbs_right x (b := y) (by omega); omega))
    rw [e] at q
    exact And.intro hd (And.intro hd q)
  refine ifP (b < 0) [.v (.int a), .v (.int b), .un] (fun _ h => h) (fun hb => ?_) (fun hb => ?_)
  · refine key (-a) (-b) (by omega) (bd_neg hs) ?_
    unfold nrm
    rw [if_pos hb, Int.gcd_neg, Int.neg_gcd]
  · refine key a b (by omega) hs ?_
    unfold nrm
    rw [if_neg hb]
theorem ok_plus {f : Addr} {fd : FuncData} (D : DefAt K mg "plus" s_plus ["one", "two"] f fd) (B : Blt mg) (G_fraction : Sig P w K mg base T CX0 "fraction" ["above", "below"] 2 S_fraction) : Sig P w K mg base T CX0 "plus" ["one", "two"] 3 S_plus := by
  refine D.sig mo_plus (fnD_of D.fn sc_plus mo_plus len_plus fun cdv A outer s H E W hT hr => ?_)
  subst hT
  refine ⟨_, (pdb_one (pds_ret (pd_sig G_fraction hr (by decide) (by rfl) (pda_cons (pd_op od_add op_qAdd (pd_op od_mul op_qMul (pd_ix od_ix ix_seq (pd_var 0) pd_int (fun _ _ => rfl)) (pd_ix od_ix ix_seq (pd_var 1) pd_int (fun _ _ => rfl))) (pd_op od_mul op_qMul (pd_ix od_ix ix_seq (pd_var 1) pd_int (fun _ _ => rfl)) (pd_ix od_ix ix_seq (pd_var 0) pd_int (fun _ _ => rfl)))) (pda_cons (pd_op od_mul op_qMul (pd_ix od_ix ix_seq (pd_var 0) pd_int (fun _ _ => rfl)) (pd_ix od_ix ix_seq (pd_var 1) pd_int (fun _ _ => rfl))) pda_nil))))), fun bs Q xd h => ?_⟩
  unfold S_plus fnOf at h
  obtain ⟨⟨⟨a, b⟩, ⟨c, d⟩⟩, rfl, ⟨hb, hd, ⟨s1, s2⟩, ⟨s3, s4⟩⟩, q⟩ := h
  dsimp only at hb hd s1 s2 s3 s4 q
  exact And.intro (mulOk_of s1 s4) (And.intro (mulOk_of s3 s2) (And.intro (mulOk_of s2 s4) (fnI (args := two) (a * d + c * b, b * d) ⟨Int.mul_ne_zero hb hd, bd_mono (bd_mul s2 s4) (by decide)⟩ q)))
theorem ok_minus {f : Addr} {fd : FuncData} (D : DefAt K mg "minus" s_minus ["one", "two"] f fd) (B : Blt mg) (G_fraction : Sig P w K mg base T CX0 "fraction" ["above", "below"] 2 S_fraction) : Sig P w K mg base T CX0 "minus" ["one", "two"] 3 S_minus := by
  refine D.sig mo_minus (fnD_of D.fn sc_minus mo_minus len_minus fun cdv A outer s H E W hT hr => ?_)
  subst hT
  refine ⟨_, (pdb_one (pds_ret (pd_sig G_fraction hr (by decide) (by rfl) (pda_cons (pd_op od_sub op_sub (pd_op od_mul op_qMul (pd_ix od_ix ix_seq (pd_var 0) pd_int (fun _ _ => rfl)) (pd_ix od_ix ix_seq (pd_var 1) pd_int (fun _ _ => rfl))) (pd_op od_mul op_qMul (pd_ix od_ix ix_seq (pd_var 1) pd_int (fun _ _ => rfl)) (pd_ix od_ix ix_seq (pd_var 0) pd_int (fun _ _ => rfl)))) (pda_cons (pd_op od_mul op_qMul (pd_ix od_ix ix_seq (pd_var 0) pd_int (fun _ _ => rfl)) (pd_ix od_ix ix_seq (pd_var 1) pd_int (fun _ _ => rfl))) pda_nil))))), fun bs Q xd h => ?_⟩
  unfold S_minus fnOf at h
  obtain ⟨⟨⟨a, b⟩, ⟨c, d⟩⟩, rfl, ⟨hb, hd, ⟨s1, s2⟩, ⟨s3, s4⟩⟩, q⟩ := h
  dsimp only at hb hd s1 s2 s3 s4 q
  exact And.intro (mulOk_of s1 s4) (And.intro (mulOk_of s3 s2) (And.intro (mulOk_of s2 s4) (fnI (args := two) (a * d - c * b, b * d) ⟨Int.mul_ne_zero hb hd, bd_mono (bd_mul s2 s4) (by decide)⟩ q)))
theorem ok_times {f : Addr} {fd : FuncData} (D : DefAt K mg "times" s_times ["one", "two"] f fd) (B : Blt mg) (G_fraction : Sig P w K mg base T CX0 "fraction" ["above", "below"] 2 S_fraction) : Sig P w K mg base T CX0 "times" ["one", "two"] 3 S_times := by
  refine D.sig mo_times (fnD_of D.fn sc_times mo_times len_times fun cdv A outer s H E W hT hr => ?_)
  subst hT
  refine ⟨_, (pdb_one (pds_ret (pd_sig G_fraction hr (by decide) (by rfl) (pda_cons (pd_op od_mul op_qMul (pd_ix od_ix ix_seq (pd_var 0) pd_int (fun _ _ => rfl)) (pd_ix od_ix ix_seq (pd_var 1) pd_int (fun _ _ => rfl))) (pda_cons (pd_op od_mul op_qMul (pd_ix od_ix ix_seq (pd_var 0) pd_int (fun _ _ => rfl)) (pd_ix od_ix ix_seq (pd_var 1) pd_int (fun _ _ => rfl))) pda_nil))))), fun bs Q xd h => ?_⟩
  unfold S_times fnOf at h
  obtain ⟨⟨⟨a, b⟩, ⟨c, d⟩⟩, rfl, ⟨hb, hd, ⟨s1, s2⟩, ⟨s3, s4⟩⟩, q⟩ := h
  dsimp only at hb hd s1 s2 s3 s4 q
  exact And.intro (mulOk_of s1 s3) (And.intro (mulOk_of s2 s4) (fnI (args := two) (a * c, b * d) ⟨Int.mul_ne_zero hb hd, bd_mono (bd_mul s2 s4) (by decide)⟩ q))
theorem ok_over {f : Addr} {fd : FuncData} (D : DefAt K mg "over" s_over ["one", "two"] f fd) (B : Blt mg) (G_fraction : Sig P w K mg base T CX0 "fraction" ["above", "below"] 2 S_fraction) : Sig P w K mg base T CX0 "over" ["one", "two"] 3 S_over := by
  refine D.sig mo_over (fnD_of D.fn sc_over mo_over len_over fun cdv A outer s H E W hT hr => ?_)
  subst hT
  refine ⟨_, (pdb_one (pds_ret (pd_sig G_fraction hr (by decide) (by rfl) (pda_cons (pd_op od_mul op_qMul (pd_ix od_ix ix_seq (pd_var 0) pd_int (fun _ _ => rfl)) (pd_ix od_ix ix_seq (pd_var 1) pd_int (fun _ _ => rfl))) (pda_cons (pd_op od_mul op_qMul (pd_ix od_ix ix_seq (pd_var 0) pd_int (fun _ _ => rfl)) (pd_ix od_ix ix_seq (pd_var 1) pd_int (fun _ _ => rfl))) pda_nil))))), fun bs Q xd h => ?_⟩
  unfold S_over fnOf at h
  obtain ⟨⟨⟨a, b⟩, ⟨c, d⟩⟩, rfl, ⟨hb, hd, ⟨s1, s2⟩, ⟨s3, s4⟩⟩, q⟩ := h
  dsimp only at hb hd s1 s2 s3 s4 q
  exact And.intro (mulOk_of s1 s4) (And.intro (mulOk_of s2 s3) (fnI (args := two) (a * d, b * c) ⟨Int.mul_ne_zero hb hd, bd_mono (bd_mul s2 s3) (by decide)⟩ q))
theorem ok_is_less {f : Addr} {fd : FuncData} (D : DefAt K mg "is_less" s_is_less ["one", "two"] f fd) (B : Blt mg) : Sig P w K mg base T CX0 "is_less" ["one", "two"] 1 S_is_less := by
  refine D.sig mo_is_less (fnD_of D.fn sc_is_less mo_is_less len_is_less fun cdv A outer s H E W hT hr => ?_)
  subst hT
  refine ⟨_, (pdb_one (pds_ret (pd_cmp od_cmp op_lt (pd_op od_mul op_qMul (pd_ix od_ix ix_seq (pd_var 0) pd_int (fun _ _ => rfl)) (pd_ix od_ix ix_seq (pd_var 1) pd_int (fun _ _ => rfl))) (pd_op od_mul op_qMul (pd_ix od_ix ix_seq (pd_var 1) pd_int (fun _ _ => rfl)) (pd_ix od_ix ix_seq (pd_var 0) pd_int (fun _ _ => rfl))) (nomark _)))), fun bs Q xd h => ?_⟩
  unfold S_is_less fnOf at h
  obtain ⟨⟨⟨a, b⟩, ⟨c, d⟩⟩, rfl, ⟨⟨s1, s2⟩, ⟨s3, s4⟩⟩, q⟩ := h
  dsimp only at s1 s2 s3 s4 q
  exact And.intro (mulOk_of s1 s4) (And.intro (mulOk_of s3 s2) q)
theorem ok_nearest {f : Addr} {fd : FuncData} (D : DefAt K mg "nearest" s_nearest ["one"] f fd) (B : Blt mg) : Sig P w K mg base T CX0 "nearest" ["one"] 1 S_nearest := by
  refine D.sig mo_nearest (fnD_of D.fn sc_nearest mo_nearest len_nearest fun cdv A outer s H E W hT hr => ?_)
  subst hT
  refine ⟨_, (pdb_one (pds_ret (pd_op od_div op_fdivW (pd_op od_add op_qAdd (pd_op od_mul op_qMul pd_int (pd_ix od_ix ix_seq (pd_var 0) pd_int (fun _ _ => rfl))) (pd_ix od_ix ix_seq (pd_var 0) pd_int (fun _ _ => rfl))) (pd_op od_mul op_qMul pd_int (pd_ix od_ix ix_seq (pd_var 0) pd_int (fun _ _ => rfl)))))), fun bs Q xd h => ?_⟩
  unfold S_nearest fnOf at h
  obtain ⟨⟨a, b⟩, rfl, ⟨h0, s1, s2⟩, q⟩ := h
  dsimp only at h0 s1 s2 q
  have b2 : bd 63 2 := by decide
  exact And.intro (mulOk_l b2) (And.intro (mulOk_l b2) (And.intro (divOk_of (by omega) (bd_mul b2 s2)) q))
theorem ok__law_least {f : Addr} {fd : FuncData} (D : DefAt K mg "_law_least" s__law_least ["above", "below"] f fd) (B : Blt mg) : Sig P w K mg base T CX0 "_law_least" ["above", "below"] 1 S__law_least := by
  refine D.sig mo__law_least (fnD_of D.fn sc__law_least mo__law_least len__law_least fun cdv A outer s H E W hT hr => ?_)
  subst hT
  refine ⟨_, (pdb_cons (pds_par (i := 2) (j := 3) rfl sc__law_least.nd rfl rfl (by decide) rfl rfl (pds_cons (pd_callB cd_max2 (call_max2 rfl) (by rfl) B.max bt_max (pds_cons (pd_var 0) (pds_cons (pd_op od_sub op_sub pd_int (pd_var 0)) pds_nil))) (pds_cons (pd_callB cd_max2 (call_max2 rfl) (by rfl) B.max bt_max (pds_cons (pd_var 1) (pds_cons (pd_op od_sub op_sub pd_int (pd_var 1)) pds_nil))) pds_nil)) (by rfl))
      (pdb_cons (pds_while PassesOwn.never (pdt_cmp od_cmp op_gt (pd_var 3) pd_int (nomark _)) (pdb_one (pds_par (i := 2) (j := 3) rfl sc__law_least.nd rfl rfl (by decide) rfl rfl (pds_cons (pd_var 3) (pds_cons (pd_op od_sub op_sub (pd_var 2) (pd_op od_mul op_qMul (pd_op od_div op_fdivW (pd_var 2) (pd_var 3)) (pd_var 3))) pds_nil)) (by rfl)))).slW
      (pdb_cons (pds_set (i := 4) sc__law_least.nd rfl (by first | exact Or.inl rfl | exact Or.inr rfl) (pd_if (pdt_cmp od_cmp op_gt (pd_var 1) pd_int (nomark _)) pd_int (pd_op od_sub op_sub pd_int pd_int)))
      (pdb_one (pds_ret (pd_tup (pds_cons (pd_op od_div op_fdivW (pd_op od_mul op_qMul (pd_var 4) (pd_var 0)) (pd_var 2)) (pds_cons (pd_op od_div op_fdivW (pd_op od_mul op_qMul (pd_var 4) (pd_var 1)) (pd_var 2)) pds_nil)))))))), fun bs Q xd h => ?_⟩
  unfold S__law_least fnOf at h
  obtain ⟨⟨a, b⟩, rfl, ⟨h0, s1, s2⟩, q⟩ := h
  dsimp only at h0 s1 s2 q
  refine seqI fun N1 h1 => h1 _ ?_
  refine seqI fun N2 h2 => ?_
  have ab : ∀ x : Int, (if 0 - x > x then 0 - x else x) = (x.natAbs : Int) := by intro x; omega
  refine while_by (fun ρ => ∃ x y : Int, ρ = [.v (.int a), .v (.int b), .v (.int x), .v (.int y), .un] ∧ 0 ≤ x ∧ 0 ≤ y ∧ bd 2000 x ∧ bd 2000 y ∧ Int.gcd x y = Int.gcd a b) (fun ρ => match ρ with | [_, _, _, .v (.int y), _] => y.toNat | _ => 0) ⟨_, _, rfl, ?_, ?_, ?_, ?_, ?_⟩ ?_
  · rw [ab]; omega
  · rw [ab]; omega
  · rw [ab]; exact bd_le s1 (by omega)
  · rw [ab]; exact bd_le s2 (by omega)
  · rw [ab, ab]; exact Int.gcd_eq_natAbs_gcd_natAbs ..
  rintro ρ M ⟨x, y, rfl, hx, hy, bx, by', hg⟩ hM
  by_cases hp : y > 0
  · refine ifDT (p := y > 0) hp ?_
    refine And.intro (divOk_of hp by') (And.intro (mulOk_of (bd_ediv bx y) by') (hM _ ⟨y, x - x / y * y, rfl, hy, ?_, by', ?_, ?_⟩ ?_))
    · have := Int.emod_nonneg x (show y ≠ 0 by omega)
      rw [Int.emod_def, Int.mul_comm] at this; exact this
    · have e : x - x / y * y = x % y := by rw [Int.emod_def, Int.mul_comm]
      have := Int.emod_nonneg x (show y ≠ 0 by omega)
      have := Int.emod_lt_of_pos x hp
      rw [e]; exact bd_le by' (by omega)
    · rw [← hg]; exact gcd_sub x y
    · have e : x - x / y * y = x % y := by rw [Int.emod_def, Int.mul_comm]
      have := Int.emod_nonneg x (show y ≠ 0 by omega)
      have := Int.emod_lt_of_pos x hp
      show (x - x / y * y).toNat < y.toNat
      omega
  · refine ifDF (p := y > 0) hp ?_
    have ey : y = 0 := by omega
    subst ey
    have ex : x = (Int.gcd a b : Int) := by rw [← hg, Int.gcd_zero_right]; omega
    refine h2 _ ?_
    refine seqI fun N3 h3 => ?_
    have hx0 : 0 < x := by rw [ex]; exact gcd_pos h0
    have one : bd 63 1 := by decide
    have mone : bd 63 (0 - 1) := by decide
    have dv : ∀ z : Int, CDivW z x := fun z => divOk_of hx0 bx
    by_cases hb : b > 0
    · refine ifDT (p := b > 0) hb (h3 _ ?_)
      have e : nrm a b = (1 * a / x, 1 * b / x) := by
        unfold nrm; rw [if_neg (by omega), ← ex, Int.one_mul, Int.one_mul]
      rw [e] at q
      exact And.intro (mulOk_l one) (And.intro (dv _) (And.intro (mulOk_l one) (And.intro (dv _) q)))
    · refine ifDF (p := b > 0) hb (h3 _ ?_)
      have e : nrm a b = ((0 - 1) * a / x, (0 - 1) * b / x) := by
        unfold nrm; rw [if_pos (by omega), ← ex, show (0 - 1 : Int) * a = -a by omega, show (0 - 1 : Int) * b = -b by omega]
      rw [e] at q
      exact And.intro (mulOk_l mone) (And.intro (dv _) (And.intro (mulOk_l mone) (And.intro (dv _) q)))
theorem ok__law_drawn {f : Addr} {fd : FuncData} (D : DefAt K mg "_law_drawn" s__law_drawn ["box"] f fd) (B : Blt mg) (G__law_least : Sig P w K mg base T CX0 "_law_least" ["above", "below"] 1 S__law_least) (G__law_next : Sig P w K mg base T CX0 "_law_next" ["box", "modulus"] 1 S__law_next) (G__law_one : Sig P w K mg base T CX0 "_law_one" ["box", "values"] 2 S__law_one) : Sig P w K mg base T CX0 "_law_drawn" ["box"] 3 S__law_drawn := by
  refine D.sig mo__law_drawn (fnD_of D.fn sc__law_drawn mo__law_drawn len__law_drawn fun cdv A outer s H E W hT hr => ?_)
  subst hT
  refine ⟨_, (pdb_cons (pds_par (i := 1) (j := 2) rfl sc__law_drawn.nd rfl rfl (by decide) rfl rfl (pds_cons (pd_op od_sub op_sub (pd_sig G__law_next hr (by decide) (by rfl) (pda_bx (i := 0) (pda_cons pd_int pda_nil))) pd_int) (pds_cons (pd_op od_add op_qAdd pd_int (pd_sig G__law_one hr (by decide) (by rfl) (pda_bx (i := 0) (pda_cons (pd_lst (pds_cons pd_int (pds_cons pd_int (pds_cons pd_int (pds_cons pd_int (pds_cons pd_int (pds_cons pd_int (pds_cons (pd_sig G__law_next hr (by decide) (by rfl) (pda_bx (i := 0) (pda_cons pd_int pda_nil))) pds_nil)))))))) pda_nil)))) pds_nil)) (by rfl))
      (pdb_one (pds_ret (pd_sig G__law_least hr (by decide) (by rfl) (pda_cons (pd_var 1) (pda_cons (pd_var 2) pda_nil)))))), fun bs Q xd h => ?_⟩
  unfold S__law_drawn relOf at h
  obtain ⟨⟨⟩, rfl, -, q⟩ := h
  refine seqI fun N1 h1 => ?_
  refine nextI (by decide) fun n n0 n1 => ?_
  refine nextI (by decide) fun m m0 m1 => ?_
  refine oneI (ds := [.int 0, .int 1, .int 2, .int 5, .int 11, .int 59, .int m]) (by intro z; cases z) (by rw [sizeLine_eq]; show 7 ≤ _; omega) fun d hd => ?_
  obtain ⟨j, rfl, j0, j1⟩ : ∃ j : Int, d = .int j ∧ 0 ≤ j ∧ j < 3000 := by
    simp only [List.mem_cons, List.not_mem_nil, or_false] at hd
    rcases hd with rfl | rfl | rfl | rfl | rfl | rfl | rfl <;> exact ⟨_, rfl, by omega, by omega⟩
  refine h1 _ ?_
  have a1 : bd 12 (n - 2000) := by unfold bd; omega
  have a2 : bd 12 (1 + j) := by unfold bd; omega
  exact fnI (args := two) (n - 2000, 1 + j) ⟨show 1 + j ≠ 0 by omega, bd_mono a1 (by decide), bd_mono a2 (by decide)⟩ (q _ ⟨_, rfl, nrm_pos (by omega), nrm_bd1 a1, nrm_bd2 a2⟩)
theorem near_ok (a b : Int) (hb : 0 < b) : 2 * a < 2 * b * ((2 * a + b) / (2 * b)) + b ∧ 2 * b * ((2 * a + b) / (2 * b)) + b ≤ 2 * a + 2 * b := by
  have h1 := Int.emod_add_mul_ediv (2 * a + b) (2 * b)
  have h2 := Int.emod_nonneg (2 * a + b) (show 2 * b ≠ 0 by omega)
  have h3 := Int.emod_lt_of_pos (2 * a + b) (show 0 < 2 * b by omega)
  generalize (2 * a + b) / (2 * b) = q at *
  generalize (2 * a + b) % (2 * b) = r at *
  omega
abbrev tB : List (PyData) → Bd := fun l => .v (.tuple l)
theorem drawnI {Q : PyData → Prop} {xd : XD} (q : ∀ p : Int × Int, 0 < p.2 → bd 12 p.1 → bd 12 p.2 → Q (fr p)) : noBx [] ∧ S__law_drawn [.bx] Q xd := by
  refine bxI ?_
  unfold S__law_drawn relOf
  refine ⟨(), rfl, trivial, ?_⟩
  rintro _ ⟨p, rfl, h1, h2, h3⟩
  exact q p h1 h2 h3
theorem ok_law {f : Addr} {fd : FuncData} (D : DefAt K mg "law" s_law ["script"] f fd) (B : Blt mg) (G__law_drawn : Sig P w K mg base T CX0 "_law_drawn" ["box"] 3 S__law_drawn) (G__law_least : Sig P w K mg base T CX0 "_law_least" ["above", "below"] 1 S__law_least) (G__law_is : Sig P w K mg base T CX0 "_law_is" ["got", "due"] 7 S__law_is) (G_nearest : Sig P w K mg base T CX0 "nearest" ["one"] 1 S_nearest) (G__law_next : Sig P w K mg base T CX0 "_law_next" ["box", "modulus"] 1 S__law_next) (G_plus : Sig P w K mg base T CX0 "plus" ["one", "two"] 3 S_plus) (G_is_less : Sig P w K mg base T CX0 "is_less" ["one", "two"] 1 S_is_less) (G_fraction : Sig P w K mg base T CX0 "fraction" ["above", "below"] 2 S_fraction) (G_common_divisor : Sig P w K mg base T CX0 "common_divisor" ["one", "two"] 1 S_common_divisor) (G_minus : Sig P w K mg base T CX0 "minus" ["one", "two"] 3 S_minus) (G_times : Sig P w K mg base T CX0 "times" ["one", "two"] 3 S_times) (G_over : Sig P w K mg base T CX0 "over" ["one", "two"] 3 S_over) (G__law_box : SigBox P w K mg base T "_law_box" ["script"] 2) : FnOk P w K mg base CX0 8 f fd ["script"] (spD K T S_law) := by
  refine fnD_of D.fn sc_law mo_law len_law fun cdv A outer s H E W hT hr => ?_
  subst hT
  refine ⟨_, (pdb_cons (pds_box (i := 1) (j := 0) G__law_box hr (by decide) (by rfl) sc_law.nd rfl (by first | exact Or.inl rfl | exact Or.inr rfl) rfl)
      (pdb_cons (pds_set (i := 2) sc_law.nd rfl (by first | exact Or.inl rfl | exact Or.inr rfl) (pd_sig G__law_drawn hr (by decide) (by rfl) (pda_bx (i := 1) pda_nil)))
      (pdb_cons (pds_set (i := 3) sc_law.nd rfl (by first | exact Or.inl rfl | exact Or.inr rfl) (pd_var 2))
      (pdb_cons (pds_for PassesOwn.never rfl (pdi_rng1 (by rfl) B.range (pds_cons (pd_op od_add op_qAdd pd_int (pd_sig G__law_next hr (by decide) (by rfl) (pda_bx (i := 1) (pda_cons pd_int pda_nil)))) pds_nil)) (pdg_name (i := 4) sc_law.nd rfl (by first | exact Or.inl rfl | exact Or.inr rfl)) (pdb_cons (pds_par (i := 5) (j := 6) rfl sc_law.nd rfl rfl (by decide) rfl rfl (pds_cons (pd_sig G__law_drawn hr (by decide) (by rfl) (pda_bx (i := 1) pda_nil)) (pds_cons (pd_sig G__law_next hr (by decide) (by rfl) (pda_bx (i := 1) (pda_cons pd_int pda_nil))) pds_nil)) (by rfl))
      (pdb_cons (pds_if (pdt_cmp od_eq (op_qEq hr.units) (pd_var 6) pd_int (nomark _)) (pdb_one (pds_par (i := 2) (j := 3) rfl sc_law.nd rfl rfl (by decide) rfl rfl (pds_cons (pd_sig G_plus hr (by decide) (by rfl) (pda_cons (pd_var 2) (pda_cons (pd_var 5) pda_nil))) (pds_cons (pd_sig G__law_least hr (by decide) (by rfl) (pda_cons (pd_op od_add op_qAdd (pd_op od_mul op_qMul (pd_ix od_ix ix_seq (pd_var 3) pd_int (fun _ _ => rfl)) (pd_ix od_ix ix_seq (pd_var 5) pd_int (fun _ _ => rfl))) (pd_op od_mul op_qMul (pd_ix od_ix ix_seq (pd_var 5) pd_int (fun _ _ => rfl)) (pd_ix od_ix ix_seq (pd_var 3) pd_int (fun _ _ => rfl)))) (pda_cons (pd_op od_mul op_qMul (pd_ix od_ix ix_seq (pd_var 3) pd_int (fun _ _ => rfl)) (pd_ix od_ix ix_seq (pd_var 5) pd_int (fun _ _ => rfl))) pda_nil))) pds_nil)) (by rfl))) (pdb_one (pds_if (pdt_cmp od_eq (op_qEq hr.units) (pd_var 6) pd_int (nomark _)) (pdb_one (pds_par (i := 2) (j := 3) rfl sc_law.nd rfl rfl (by decide) rfl rfl (pds_cons (pd_sig G_minus hr (by decide) (by rfl) (pda_cons (pd_var 2) (pda_cons (pd_var 5) pda_nil))) (pds_cons (pd_sig G__law_least hr (by decide) (by rfl) (pda_cons (pd_op od_sub op_sub (pd_op od_mul op_qMul (pd_ix od_ix ix_seq (pd_var 3) pd_int (fun _ _ => rfl)) (pd_ix od_ix ix_seq (pd_var 5) pd_int (fun _ _ => rfl))) (pd_op od_mul op_qMul (pd_ix od_ix ix_seq (pd_var 5) pd_int (fun _ _ => rfl)) (pd_ix od_ix ix_seq (pd_var 3) pd_int (fun _ _ => rfl)))) (pda_cons (pd_op od_mul op_qMul (pd_ix od_ix ix_seq (pd_var 3) pd_int (fun _ _ => rfl)) (pd_ix od_ix ix_seq (pd_var 5) pd_int (fun _ _ => rfl))) pda_nil))) pds_nil)) (by rfl))) (pdb_one (pds_if (pdt_cmp od_eq (op_qEq hr.units) (pd_var 6) pd_int (nomark _)) (pdb_one (pds_par (i := 2) (j := 3) rfl sc_law.nd rfl rfl (by decide) rfl rfl (pds_cons (pd_sig G_times hr (by decide) (by rfl) (pda_cons (pd_var 2) (pda_cons (pd_var 5) pda_nil))) (pds_cons (pd_sig G__law_least hr (by decide) (by rfl) (pda_cons (pd_op od_mul op_qMul (pd_ix od_ix ix_seq (pd_var 3) pd_int (fun _ _ => rfl)) (pd_ix od_ix ix_seq (pd_var 5) pd_int (fun _ _ => rfl))) (pda_cons (pd_op od_mul op_qMul (pd_ix od_ix ix_seq (pd_var 3) pd_int (fun _ _ => rfl)) (pd_ix od_ix ix_seq (pd_var 5) pd_int (fun _ _ => rfl))) pda_nil))) pds_nil)) (by rfl))) (pdb_one (pds_if (pdt_cmp od_ne (op_qNe hr.units) (pd_ix od_ix ix_seq (pd_var 5) pd_int (fun _ _ => rfl)) pd_int (nomark _)) (pdb_one (pds_par (i := 2) (j := 3) rfl sc_law.nd rfl rfl (by decide) rfl rfl (pds_cons (pd_sig G_over hr (by decide) (by rfl) (pda_cons (pd_var 2) (pda_cons (pd_var 5) pda_nil))) (pds_cons (pd_sig G__law_least hr (by decide) (by rfl) (pda_cons (pd_op od_mul op_qMul (pd_ix od_ix ix_seq (pd_var 3) pd_int (fun _ _ => rfl)) (pd_ix od_ix ix_seq (pd_var 5) pd_int (fun _ _ => rfl))) (pda_cons (pd_op od_mul op_qMul (pd_ix od_ix ix_seq (pd_var 3) pd_int (fun _ _ => rfl)) (pd_ix od_ix ix_seq (pd_var 5) pd_int (fun _ _ => rfl))) pda_nil))) pds_nil)) (by rfl))) pdb_nil)))))))
      (pdb_cons (pds_if (pdw_or (pdt_not (pdt_truth (pd_sig G__law_is hr (by decide) (by rfl) (pda_cons (pd_var 2) (pda_cons (pd_var 3) pda_nil))))) (pdw_or1 (pdt_cmp od_cmp op_lt (pd_ix od_ix ix_seq (pd_var 3) pd_int (fun _ _ => rfl)) pd_int (nomark _)))).pdt (pdb_one (pds_ret pd_bl)) pdb_nil)
      (pdb_cons (pds_if (pdw_or (pdt_not (pdt_truth (pd_sig G__law_is hr (by decide) (by rfl) (pda_cons (pd_sig G_is_less hr (by decide) (by rfl) (pda_cons (pd_var 2) (pda_cons (pd_var 5) pda_nil))) (pda_cons (pd_cmp od_cmp op_lt (pd_op od_mul op_qMul (pd_ix od_ix ix_seq (pd_var 3) pd_int (fun _ _ => rfl)) (pd_ix od_ix ix_seq (pd_var 5) pd_int (fun _ _ => rfl))) (pd_op od_mul op_qMul (pd_ix od_ix ix_seq (pd_var 5) pd_int (fun _ _ => rfl)) (pd_ix od_ix ix_seq (pd_var 3) pd_int (fun _ _ => rfl))) (nomark _)) pda_nil))))) (pdw_or1 (pdt_cmp od_notB op_notBl (pd_sig G_is_less hr (by decide) (by rfl) (pda_cons (pd_var 2) (pda_cons (pd_var 3) pda_nil))) pd_bl (nomark _)))).pdt (pdb_one (pds_ret pd_bl)) pdb_nil)
      (pdb_cons (pds_set (i := 7) sc_law.nd rfl (by first | exact Or.inl rfl | exact Or.inr rfl) (pd_sig G_nearest hr (by decide) (by rfl) (pda_cons (pd_var 2) pda_nil)))
      (pdb_one (pds_if (pdw_or (pdt_not (pdt_truth (pd_isi .int (pd_var 7) (by rfl) B.isinstance (by rfl) B.int bt_int))) (pdw_or1 (pdt_not (pdt_chain od_cmp od_cmp op_lt op_le (pd_op od_mul op_qMul pd_int (pd_ix od_ix ix_seq (pd_var 3) pd_int (fun _ _ => rfl))) (pd_op od_add op_qAdd (pd_op od_mul op_qMul (pd_op od_mul op_qMul pd_int (pd_ix od_ix ix_seq (pd_var 3) pd_int (fun _ _ => rfl))) (pd_var 7)) (pd_ix od_ix ix_seq (pd_var 3) pd_int (fun _ _ => rfl))) (pd_op od_add op_qAdd (pd_op od_mul op_qMul pd_int (pd_ix od_ix ix_seq (pd_var 3) pd_int (fun _ _ => rfl))) (pd_op od_mul op_qMul pd_int (pd_ix od_ix ix_seq (pd_var 3) pd_int (fun _ _ => rfl)))))))).pdt (pdb_one (pds_ret pd_bl)) pdb_nil)))))))).slF
      (pdb_cons (pds_set (i := 8) sc_law.nd rfl (by first | exact Or.inl rfl | exact Or.inr rfl) (pd_op od_add op_qAdd (pd_op od_pow op_pow pd_int pd_int) (pd_sig G__law_next hr (by decide) (by rfl) (pda_bx (i := 1) (pda_cons pd_int pda_nil)))))
      (pdb_cons (pds_set (i := 9) sc_law.nd rfl (by first | exact Or.inl rfl | exact Or.inr rfl) (pd_op od_add op_qAdd pd_int (pd_sig G__law_next hr (by decide) (by rfl) (pda_bx (i := 1) (pda_cons pd_int pda_nil)))))
      (pdb_cons (pds_set (i := 10) sc_law.nd rfl (by first | exact Or.inl rfl | exact Or.inr rfl) (pd_sig G__law_least hr (by decide) (by rfl) (pda_cons (pd_var 8) (pda_cons (pd_var 9) pda_nil))))
      (pdb_cons (pds_if (pdw_or (pdt_not (pdt_truth (pd_sig G__law_is hr (by decide) (by rfl) (pda_cons (pd_sig G_fraction hr (by decide) (by rfl) (pda_cons (pd_op od_mul op_qMul (pd_var 8) pd_int) (pda_cons (pd_op od_mul op_qMul (pd_var 9) pd_int) pda_nil))) (pda_cons (pd_var 10) pda_nil))))) (pdw_or (pdt_not (pdt_truth (pd_sig G__law_is hr (by decide) (by rfl) (pda_cons (pd_sig G_fraction hr (by decide) (by rfl) (pda_cons (pd_op od_sub op_sub pd_int (pd_op od_mul op_qMul (pd_var 8) pd_int)) (pda_cons (pd_op od_sub op_sub pd_int (pd_op od_mul op_qMul (pd_var 9) pd_int)) pda_nil))) (pda_cons (pd_var 10) pda_nil))))) (pdw_or1 (pdt_not (pdt_truth (pd_sig G__law_is hr (by decide) (by rfl) (pda_cons (pd_sig G_fraction hr (by decide) (by rfl) (pda_cons (pd_var 8) (pda_cons (pd_op od_sub op_sub pd_int (pd_var 9)) pda_nil))) (pda_cons (pd_tup (pds_cons (pd_op od_sub op_sub pd_int (pd_ix od_ix ix_seq (pd_var 10) pd_int (fun _ _ => rfl))) (pds_cons (pd_ix od_ix ix_seq (pd_var 10) pd_int (fun _ _ => rfl)) pds_nil))) pda_nil)))))))).pdt (pdb_one (pds_ret pd_bl)) pdb_nil)
      (pdb_cons (pds_if (pdt_not (pdt_truth (pd_sig G__law_is hr (by decide) (by rfl) (pda_cons (pd_lst (pds_cons (pd_sig G_common_divisor hr (by decide) (by rfl) (pda_cons (pd_op od_mul op_qMul (pd_var 8) pd_int) (pda_cons pd_int pda_nil))) (pds_cons (pd_sig G_common_divisor hr (by decide) (by rfl) (pda_cons pd_int (pda_cons (pd_var 9) pda_nil))) (pds_cons (pd_sig G_common_divisor hr (by decide) (by rfl) (pda_cons (pd_var 9) (pda_cons pd_int pda_nil))) (pds_cons (pd_sig G_common_divisor hr (by decide) (by rfl) (pda_cons (pd_op od_sub op_sub pd_int (pd_var 9)) (pda_cons (pd_op od_mul op_qMul (pd_var 9) pd_int) pda_nil))) pds_nil))))) (pda_cons (pd_lst (pds_cons pd_int (pds_cons (pd_var 9) (pds_cons (pd_var 9) (pds_cons (pd_var 9) pds_nil))))) pda_nil))))) (pdb_one (pds_ret pd_bl)) pdb_nil)
      (pdb_cons (pds_if (pdw_or (pdt_not (pdt_truth (pd_sig G__law_is hr (by decide) (by rfl) (pda_cons (pd_sig G_fraction hr (by decide) (by rfl) (pda_cons pd_int (pda_cons (pd_op od_sub op_sub pd_int (pd_var 9)) pda_nil))) (pda_cons (pd_tup (pds_cons pd_int (pds_cons pd_int pds_nil))) pda_nil))))) (pdw_or (pdt_not (pdt_truth (pd_sig G__law_is hr (by decide) (by rfl) (pda_cons (pd_sig G_plus hr (by decide) (by rfl) (pda_cons (pd_var 3) (pda_cons (pd_tup (pds_cons (pd_op od_sub op_sub pd_int (pd_ix od_ix ix_seq (pd_var 3) pd_int (fun _ _ => rfl))) (pds_cons (pd_ix od_ix ix_seq (pd_var 3) pd_int (fun _ _ => rfl)) pds_nil))) pda_nil))) (pda_cons (pd_tup (pds_cons pd_int (pds_cons pd_int pds_nil))) pda_nil))))) (pdw_or1 (pdt_not (pdt_truth (pd_sig G__law_is hr (by decide) (by rfl) (pda_cons (pd_sig G_minus hr (by decide) (by rfl) (pda_cons (pd_var 3) (pda_cons (pd_var 3) pda_nil))) (pda_cons (pd_tup (pds_cons pd_int (pds_cons pd_int pds_nil))) pda_nil)))))))).pdt (pdb_one (pds_ret pd_bl)) pdb_nil)
      (pdb_cons (pds_set (i := 11) sc_law.nd rfl (by first | exact Or.inl rfl | exact Or.inr rfl) (pd_op od_sub op_sub (pd_sig G__law_next hr (by decide) (by rfl) (pda_bx (i := 1) (pda_cons pd_int pda_nil))) pd_int))
      (pdb_one (pds_ret (pd_sig G__law_is hr (by decide) (by rfl) (pda_cons (pd_lst (pds_cons (pd_sig G_nearest hr (by decide) (by rfl) (pda_cons (pd_tup (pds_cons (pd_op od_add op_qAdd (pd_op od_mul op_qMul pd_int (pd_var 11)) pd_int) (pds_cons pd_int pds_nil))) pda_nil)) (pds_cons (pd_sig G_nearest hr (by decide) (by rfl) (pda_cons (pd_tup (pds_cons (pd_var 11) (pds_cons pd_int pds_nil))) pda_nil)) (pds_cons (pd_sig G_nearest hr (by decide) (by rfl) (pda_cons (pd_tup (pds_cons (pd_op od_add op_qAdd (pd_op od_mul op_qMul pd_int (pd_var 11)) pd_int) (pds_cons pd_int pds_nil))) pda_nil)) (pds_cons (pd_sig G_nearest hr (by decide) (by rfl) (pda_cons (pd_tup (pds_cons (pd_op od_add op_qAdd (pd_op od_mul op_qMul pd_int (pd_var 11)) pd_int) (pds_cons pd_int pds_nil))) pda_nil)) pds_nil))))) (pda_cons (pd_lst (pds_cons (pd_op od_add op_qAdd (pd_var 11) pd_int) (pds_cons (pd_var 11) (pds_cons (pd_var 11) (pds_cons (pd_op od_add op_qAdd (pd_var 11) pd_int) pds_nil))))) pda_nil)))))))))))))))), fun bs Q xd h => ?_⟩
  unfold S_law fnOf at h
  obtain ⟨ns, rfl, hl, q⟩ := h
  dsimp only at hl q
  refine seqI fun N1 h1 => And.intro ⟨ns, rfl, hl⟩ (h1 _ ?_)
  refine seqI fun N2 h2 => drawnI fun p p0 p1 p2 => h2 _ ?_
  refine seqI fun N3 h3 => h3 [.v (scr ns), .bx, .v (fr p), .v (fr p), .un, .un, .un, .un, .un, .un, .un, .un] ?_
  refine seqI fun N4 h4 => for_open ?_
  refine nextI (by decide) fun r r0 r1 => And.intro ⟨by omega, by omega⟩ ?_
  refine okRng (fun i ρ => ∃ (p : Int × Int) (b4 b5 b6 b7 : Bd), ρ = [.v (scr ns), .bx, .v (fr p), .v (fr p), b4, b5, b6, b7, .un, .un, .un, .un] ∧ 0 < p.2 ∧ bd (20 * (i + 1)) p.1 ∧ bd (20 * (i + 1)) p.2) ⟨p, _, _, _, _, rfl, p0, bd_mono p1 (by decide), bd_mono p2 (by decide)⟩ ?_ ?_
  · clear p p0 p1 p2
    rintro i ρ hi ⟨p, b4, b5, b6, b7, rfl, p0, p1, p2⟩
    have hi12 : i < 12 := by omega
    refine seqI fun N5 h5 => drawnI fun o o0 o1 o2 => nextI (by decide) fun y y0 y1 => h5 _ ?_
    have sp : sm p := ⟨bd_mono p1 (by omega), bd_mono p2 (by omega)⟩
    have so : sm o := ⟨bd_mono o1 (by decide), bd_mono o2 (by decide)⟩
    have o1' : bd 63 o.1 := bd_mono o1 (by decide)
    have o2' : bd 63 o.2 := bd_mono o2 (by decide)
    refine seqI fun N6 h6 => ?_
    have key : ∀ x : Int × Int, 0 < x.2 → bd (20 * (i + 1 + 1)) x.1 → bd (20 * (i + 1 + 1)) x.2 → N6 [.v (scr ns), .bx, .v (fr x), .v (fr x), .v (.int (0 + i)), .v (fr o), .v (.int y), b7, .un, .un, .un, .un] := by
      intro x x0 x1 x2
      have sx : sm x := ⟨bd_mono x1 (by omega), bd_mono x2 (by omega)⟩
      have b2 : bd 63 2 := by decide
      refine h6 _ ?_
      refine seqI fun N7 h7 => ?_
      refine isI (d := fr x) rfl (okIs_of rfl) ?_
      refine ifDF (p := x.2 < 1) (by omega) (h7 _ ?_)
      refine seqI fun N8 h8 => ?_
      refine fnI (args := twoF) (x, o) ⟨sx, so⟩ ?_
      refine And.intro (mulOk_r o2') (And.intro (mulOk_l o1') ?_)
      refine isI rfl (okIs_of rfl) ?_
      refine fnI (args := twoF) (x, x) ⟨sx, sx⟩ ?_
      refine ifF (p := (!decide (decide (x.1 * x.2 < x.1 * x.2) = false)) = true) (by simp) (h8 _ ?_)
      refine seqI fun N9 h9 => ?_
      refine fnI (α := Int × Int) (args := fun a => [.v (fr a)]) x ⟨x0, sx⟩ (h9 _ ?_)
      obtain ⟨e1, e2⟩ := near_ok x.1 x.2 x0
      refine And.intro (mulOk_l b2) (And.intro (mulOk_l b2) (And.intro (mulOk_of (bd_mul b2 x2) (bd_ediv (bd_add (bd_mul b2 x1) (bd_mono x2 (show 20 * (i + 1 + 1) ≤ 63 + 20 * (i + 1 + 1) by omega))) _) (by omega) (by omega) (by omega)) ?_))
      refine chT (p := 2 * x.1 < 2 * x.2 * ((2 * x.1 + x.2) / (2 * x.2)) + x.2) e1 ?_
      refine And.intro (mulOk_l b2) (And.intro (mulOk_l b2) ?_)
      refine ifF (p := (!decide (2 * x.2 * ((2 * x.1 + x.2) / (2 * x.2)) + x.2 ≤ 2 * x.1 + 2 * x.2)) = true) (by rw [decide_eq_true e2]; decide) ⟨x, _, _, _, _, rfl, x0, x1, x2⟩
    have le : ∀ {n : Nat} {z : Int}, bd n z → n ≤ 20 * (i + 1) + 13 → bd (20 * (i + 1 + 1)) z := fun h l => bd_mono h (by omega)
    have hi2 : 20 * (i + 1) + 13 ≤ 2000 := by omega
    have k1 : bd (20 * (i + 1) + 12) (p.1 * o.2) := bd_mul p1 o2
    have k2 : bd (20 * (i + 1) + 12) (o.1 * p.2) := by rw [Int.mul_comm]; exact bd_mul p2 o1
    have k3 : bd (20 * (i + 1) + 12) (p.2 * o.2) := bd_mul p2 o2
    have k4 : bd (20 * (i + 1) + 12) (p.1 * o.1) := bd_mul p1 o1
    have k5 : bd (20 * (i + 1) + 12) (p.2 * o.1) := bd_mul p2 o1
    have go : ∀ a b : Int, b ≠ 0 → bd (20 * (i + 1) + 13) a → bd (20 * (i + 1) + 13) b → N6 [.v (scr ns), .bx, .v (fr (nrm a b)), .v (fr (nrm a b)), .v (.int (0 + i)), .v (fr o), .v (.int y), b7, .un, .un, .un, .un] := fun a b hb ha hb' => key _ (nrm_pos hb) (le (nrm_bd1 ha) (Nat.le_refl _)) (le (nrm_bd2 hb') (Nat.le_refl _))
    have up : ∀ {z : Int}, bd (20 * (i + 1) + 12) z → bd (20 * (i + 1) + 13) z := fun h => bd_mono h (by omega)
    have to : ∀ {z : Int}, bd (20 * (i + 1) + 13) z → bd 2000 z := fun h => bd_mono h hi2
    have np : p.2 ≠ 0 := by omega
    have no : o.2 ≠ 0 := by omega
    refine ifP (y = 0) _ (fun _ h => h) (fun _ => ?_) (fun _ => ?_)
    · refine fnI (args := twoF) (p, o) ⟨np, no, sp, so⟩ ?_
      refine And.intro (mulOk_r o2') (And.intro (mulOk_l o1') (And.intro (mulOk_r o2') ?_))
      exact fnI (args := two) (_, _) ⟨Int.mul_ne_zero np no, to (bd_add k1 k2), to (up k3)⟩ (go _ _ (Int.mul_ne_zero np no) (bd_add k1 k2) (up k3))
    refine ifP (y = 1) _ (fun _ h => h) (fun _ => ?_) (fun _ => ?_)
    · refine fnI (args := twoF) (p, o) ⟨np, no, sp, so⟩ ?_
      refine And.intro (mulOk_r o2') (And.intro (mulOk_l o1') (And.intro (mulOk_r o2') ?_))
      exact fnI (args := two) (_, _) ⟨Int.mul_ne_zero np no, to (bd_sub k1 k2), to (up k3)⟩ (go _ _ (Int.mul_ne_zero np no) (bd_sub k1 k2) (up k3))
    refine ifP (y = 2) _ (fun _ h => h) (fun _ => ?_) (fun _ => ?_)
    · refine fnI (args := twoF) (p, o) ⟨np, no, sp, so⟩ ?_
      refine And.intro (mulOk_r o1') (And.intro (mulOk_r o2') ?_)
      exact fnI (args := two) (_, _) ⟨Int.mul_ne_zero np no, to (up k4), to (up k3)⟩ (go _ _ (Int.mul_ne_zero np no) (up k4) (up k3))
    refine ifB (!decide (o.1 = 0)) _ (fun _ h => h) (fun e => ?_) (fun _ => ?_)
    · have nz : o.1 ≠ 0 := by simpa using e
      refine fnI (args := twoF) (p, o) ⟨np, nz, sp, so⟩ ?_
      refine And.intro (mulOk_r o2') (And.intro (mulOk_r o1') ?_)
      exact fnI (args := two) (_, _) ⟨Int.mul_ne_zero np nz, to (up k1), to (up k5)⟩ (go _ _ (Int.mul_ne_zero np nz) (up k1) (up k5))
    · exact key p p0 (bd_mono p1 (by omega)) (bd_mono p2 (by omega))
  · clear p p0 p1 p2
    rintro ρ ⟨p, b4, b5, b6, b7, rfl, p0, p1, p2⟩
    have sp : sm p := ⟨bd_mono p1 (by omega), bd_mono p2 (by omega)⟩
    refine h4 _ ?_
    refine seqI fun N5 h5 => And.intro (show CPow 10 29 from ⟨by decide, by decide, by decide⟩) (nextI (by decide) fun m m0 m1 => ?_)
    have key : ∀ g : Int, 0 < g → bd 97 g → N5 [.v (scr ns), .bx, .v (fr p), .v (fr p), b4, b5, b6, b7, .v (.int g), .un, .un, .un] := by
      intro g g0 gb
      refine h5 _ ?_
      refine seqI fun N6 h6 => nextI (by decide) fun f' f0 f1 => ?_
      have key2 : ∀ f : Int, 0 < f → bd 14 f → N6 [.v (scr ns), .bx, .v (fr p), .v (fr p), b4, b5, b6, b7, .v (.int g), .v (.int f), .un, .un] := by
        intro f f0 fb
        refine h6 _ ?_
        have f63 : bd 63 f := bd_mono fb (by decide)
        have b5' : bd 63 5 := by decide
        have b77 : bd 63 77 := by decide
        refine seqI fun N7 h7 => fnI (args := two) (g, f) ⟨show f ≠ 0 by omega, bd_mono gb (by decide), bd_mono fb (by decide)⟩ (h7 [.v (scr ns), .bx, .v (fr p), .v (fr p), b4, b5, b6, b7, .v (.int g), .v (.int f), .v (fr (nrm g f)), .un] ?_)
        refine seqI fun N8 h8 => ?_
        refine And.intro (mulOk_r b77) (And.intro (mulOk_r b77) ?_)
        refine fnI (args := two) (g * 77, f * 77) ⟨show f * 77 ≠ 0 by omega, bd_mono (bd_mul fb b77) (by decide)⟩ ?_
        refine isI (d := fr (nrm (g * 77) (f * 77))) (by rw [nrm_scale (by decide)]) (okIs_of rfl) ?_
        refine And.intro (mulOk_r b5') (And.intro (mulOk_r b5') ?_)
        refine fnI (args := two) (0 - g * 5, 0 - f * 5) ⟨show 0 - f * 5 ≠ 0 by omega, bd_mono (bd_sub (n := 77) (by decide) (bd_mono (bd_mul fb b5') (by decide))) (by decide)⟩ ?_
        refine isI (d := fr (nrm (0 - g * 5) (0 - f * 5))) (by rw [Int.zero_sub, Int.zero_sub, nrm_neg (by omega), nrm_scale (by decide)]) (okIs_of rfl) ?_
        refine fnI (args := two) (g, 0 - f) ⟨show 0 - f ≠ 0 by omega, bd_mono (bd_sub (n := 77) (by decide) (bd_mono fb (by decide))) (by decide)⟩ ?_
        refine isI (d := fr (nrm g (0 - f))) (e := .tuple [.int (0 - (nrm g f).1), .int (nrm g f).2]) (by rw [Int.zero_sub, nrm_flip (by omega), Int.zero_sub]; rfl) (okIs_of rfl) ?_
        refine h8 _ ?_
        refine seqI fun N9 h9 => ?_
        have b12 : bd 63 12 := by decide
        have b3 : bd 63 3 := by decide
        refine And.intro (mulOk_r b12) (fnI (args := two) (g * 12, 12) (show (0 : Int) ≤ 12 by decide) ?_)
        refine fnI (args := two) (0, f) (show 0 ≤ f by omega) ?_
        refine fnI (args := two) (f, 0) (Int.le_refl 0) ?_
        refine And.intro (mulOk_r b3) (fnI (args := two) (0 - f, f * 3) (show 0 ≤ f * 3 by omega) ?_)
        refine isI (d := .list [.int (Int.gcd (g * 12) 12 : Nat), .int (Int.gcd 0 f : Nat), .int (Int.gcd f 0 : Nat), .int (Int.gcd (0 - f) (f * 3) : Nat)]) (e := .list [.int 12, .int f, .int f, .int f]) ?_ (okIs_of rfl) ?_
        · rw [Int.gcd_mul_left_left, Int.gcd_zero_left, Int.gcd_zero_right, Int.zero_sub, Int.neg_gcd, Int.gcd_mul_right_right, Int.natAbs_of_nonneg (show 0 ≤ f by omega)]
          rfl
        refine h9 _ ?_
        refine seqI fun N10 h10 => ?_
        refine fnI (args := two) (0, 0 - f) ⟨show 0 - f ≠ 0 by omega, bd_mono (bd_sub (n := 77) (by decide) (bd_mono fb (by decide))) (by decide)⟩ ?_
        refine isI (d := fr (nrm 0 (0 - f))) (e := .tuple [.int 0, .int 1]) (by rw [nrm_zero (by omega)]; rfl) (okIs_of rfl) ?_
        have np : p.2 ≠ 0 := by omega
        have sq : sm (0 - p.1, p.2) := ⟨show bd 900 (0 - p.1) by rw [Int.zero_sub]; exact bd_neg sp.1, sp.2⟩
        refine fnI (args := twoF) (p, (0 - p.1, p.2)) ⟨np, np, sp, sq⟩ ?_
        refine isI (d := fr (nrm (p.1 * p.2 + (0 - p.1) * p.2) (p.2 * p.2))) (e := .tuple [.int 0, .int 1]) (by rw [show p.1 * p.2 + (0 - p.1) * p.2 = 0 by rw [Int.zero_sub, Int.neg_mul]; omega, nrm_zero (Int.mul_ne_zero np np)]; rfl) (okIs_of rfl) ?_
        refine fnI (args := twoF) (p, p) ⟨np, np, sp, sp⟩ ?_
        refine isI (d := fr (nrm (p.1 * p.2 - p.1 * p.2) (p.2 * p.2))) (e := .tuple [.int 0, .int 1]) (by rw [Int.sub_self, nrm_zero (Int.mul_ne_zero np np)]; rfl) (okIs_of rfl) ?_
        refine h10 _ ?_
        refine seqI fun N11 h11 => nextI (by decide) fun t t0 t1 => h11 _ ?_
        have b2 : bd 63 2 := by decide
        have bh : bd 12 (t - 1000) := by unfold bd; omega
        have nr : ∀ a b : Int, 0 < b → b ≤ 3 → bd 16 a → (0 < b ∧ sm (a, b)) := fun a b h1 h2 h3 => ⟨h1, bd_mono h3 (by decide), bd_mono (n := 2) (by unfold bd; omega) (by decide)⟩
        refine And.intro (mulOk_l b2) (fnI (α := Int × Int) (args := fun a => [.v (fr a)]) (2 * (t - 1000) + 1, 2) (nr (2 * (t - 1000) + 1) 2 (by decide) (by decide) (by unfold bd; omega)) ?_)
        refine fnI (α := Int × Int) (args := fun a => [.v (fr a)]) (t - 1000, 1) (nr (t - 1000) 1 (by decide) (by decide) (by unfold bd; omega)) ?_
        refine And.intro (mulOk_l b3) (fnI (α := Int × Int) (args := fun a => [.v (fr a)]) (3 * (t - 1000) + 1, 3) (nr (3 * (t - 1000) + 1) 3 (by decide) (by decide) (by unfold bd; omega)) ?_)
        refine And.intro (mulOk_l b3) (fnI (α := Int × Int) (args := fun a => [.v (fr a)]) (3 * (t - 1000) + 2, 3) (nr (3 * (t - 1000) + 2) 3 (by decide) (by decide) (by unfold bd; omega)) ?_)
        refine isI (d := .list [.int ((2 * (2 * (t - 1000) + 1) + 2) / (2 * 2)), .int ((2 * (t - 1000) + 1) / (2 * 1)), .int ((2 * (3 * (t - 1000) + 1) + 3) / (2 * 3)), .int ((2 * (3 * (t - 1000) + 2) + 3) / (2 * 3))]) (e := .list [.int (t - 1000 + 1), .int (t - 1000), .int (t - 1000), .int (t - 1000 + 1)]) ?_ (okIs_of rfl) q
        rw [show (2 * (2 * (t - 1000) + 1) + 2) / (2 * 2) = t - 1000 + 1 by omega, show (2 * (t - 1000) + 1) / (2 * 1) = t - 1000 by omega, show (2 * (3 * (t - 1000) + 1) + 3) / (2 * 3) = t - 1000 by omega, show (2 * (3 * (t - 1000) + 2) + 3) / (2 * 3) = t - 1000 + 1 by omega]
      exact key2 _ (by omega) (by unfold bd; omega)
    refine key _ ?_ ?_
    · show (0 : Int) < 10 ^ 29 + m
      omega
    · show bd 97 (10 ^ 29 + m)
      unfold bd; omega
end
theorem all_mk {l : PySem.W.OpenLaw} {w : World} {K : PySem.W.Frag} {h : Heap} {mg : Str → Option Value} {fa : Addr} (X : K.In h) (G : h.Ns mainGlobals mg) (hfa : mg "law" = some (.ref fa))
    {f1 : Addr} {od1 an1 : Option Addr} {sl1 : Array (Option Value)} {oc1 kV1 dc1 pm1 cd1 ct1 : Value}
    {f2 : Addr} {od2 an2 : Option Addr} {sl2 : Array (Option Value)} {oc2 kV2 dc2 pm2 cd2 ct2 : Value}
    {f3 : Addr} {od3 an3 : Option Addr} {sl3 : Array (Option Value)} {oc3 kV3 dc3 pm3 cd3 ct3 : Value}
    {f4 : Addr} {od4 an4 : Option Addr} {sl4 : Array (Option Value)} {oc4 kV4 dc4 pm4 cd4 ct4 : Value}
    {f5 : Addr} {od5 an5 : Option Addr} {sl5 : Array (Option Value)} {oc5 kV5 dc5 pm5 cd5 ct5 : Value}
    {f6 : Addr} {od6 an6 : Option Addr} {sl6 : Array (Option Value)} {oc6 kV6 dc6 pm6 cd6 ct6 : Value}
    {f7 : Addr} {od7 an7 : Option Addr} {sl7 : Array (Option Value)} {oc7 kV7 dc7 pm7 cd7 ct7 : Value}
    {f8 : Addr} {od8 an8 : Option Addr} {sl8 : Array (Option Value)} {oc8 kV8 dc8 pm8 cd8 ct8 : Value}
    {f10 : Addr} {od10 an10 : Option Addr} {sl10 : Array (Option Value)} {oc10 kV10 dc10 pm10 cd10 ct10 : Value}
    {f11 : Addr} {od11 an11 : Option Addr} {sl11 : Array (Option Value)} {oc11 kV11 dc11 pm11 cd11 ct11 : Value}
    {f12 : Addr} {od12 an12 : Option Addr} {sl12 : Array (Option Value)} {oc12 kV12 dc12 pm12 cd12 ct12 : Value}
    {f13 : Addr} {od13 an13 : Option Addr} {sl13 : Array (Option Value)} {oc13 kV13 dc13 pm13 cd13 ct13 : Value}
    {f14 : Addr} {od14 an14 : Option Addr} {sl14 : Array (Option Value)} {oc14 kV14 dc14 pm14 cd14 ct14 : Value}
    {f15 : Addr} {od15 an15 : Option Addr} {sl15 : Array (Option Value)} {oc15 kV15 dc15 pm15 cd15 ct15 : Value}
    {f16 : Addr} {od16 an16 : Option Addr} {sl16 : Array (Option Value)} {oc16 kV16 dc16 pm16 cd16 ct16 : Value}
    {f17 : Addr} {od17 an17 : Option Addr} {sl17 : Array (Option Value)} {oc17 kV17 dc17 pm17 cd17 ct17 : Value}
    (a1 : PySem.W.nsIn K mainGlobals "common_divisor" = some (some (.ref f1))) (l1 : K.lookup f1 = some ⟨oc1, od1, .func (PySem.W.fnOf "common_divisor" "common_divisor" (defArgs s_common_divisor) (defBody s_common_divisor) (defScope s_common_divisor) .none kV1 dc1 pm1 an1 cd1 ct1), sl1⟩) (c1 : PySem.W.codeIn K cd1 "common_divisor" = true) (k1 : PySem.W.keepIn K (.ref f1) = true)
    (a2 : PySem.W.nsIn K mainGlobals "fraction" = some (some (.ref f2))) (l2 : K.lookup f2 = some ⟨oc2, od2, .func (PySem.W.fnOf "fraction" "fraction" (defArgs s_fraction) (defBody s_fraction) (defScope s_fraction) .none kV2 dc2 pm2 an2 cd2 ct2), sl2⟩) (c2 : PySem.W.codeIn K cd2 "fraction" = true) (k2 : PySem.W.keepIn K (.ref f2) = true)
    (a3 : PySem.W.nsIn K mainGlobals "plus" = some (some (.ref f3))) (l3 : K.lookup f3 = some ⟨oc3, od3, .func (PySem.W.fnOf "plus" "plus" (defArgs s_plus) (defBody s_plus) (defScope s_plus) .none kV3 dc3 pm3 an3 cd3 ct3), sl3⟩) (c3 : PySem.W.codeIn K cd3 "plus" = true) (k3 : PySem.W.keepIn K (.ref f3) = true)
    (a4 : PySem.W.nsIn K mainGlobals "minus" = some (some (.ref f4))) (l4 : K.lookup f4 = some ⟨oc4, od4, .func (PySem.W.fnOf "minus" "minus" (defArgs s_minus) (defBody s_minus) (defScope s_minus) .none kV4 dc4 pm4 an4 cd4 ct4), sl4⟩) (c4 : PySem.W.codeIn K cd4 "minus" = true) (k4 : PySem.W.keepIn K (.ref f4) = true)
    (a5 : PySem.W.nsIn K mainGlobals "times" = some (some (.ref f5))) (l5 : K.lookup f5 = some ⟨oc5, od5, .func (PySem.W.fnOf "times" "times" (defArgs s_times) (defBody s_times) (defScope s_times) .none kV5 dc5 pm5 an5 cd5 ct5), sl5⟩) (c5 : PySem.W.codeIn K cd5 "times" = true) (k5 : PySem.W.keepIn K (.ref f5) = true)
    (a6 : PySem.W.nsIn K mainGlobals "over" = some (some (.ref f6))) (l6 : K.lookup f6 = some ⟨oc6, od6, .func (PySem.W.fnOf "over" "over" (defArgs s_over) (defBody s_over) (defScope s_over) .none kV6 dc6 pm6 an6 cd6 ct6), sl6⟩) (c6 : PySem.W.codeIn K cd6 "over" = true) (k6 : PySem.W.keepIn K (.ref f6) = true)
    (a7 : PySem.W.nsIn K mainGlobals "is_less" = some (some (.ref f7))) (l7 : K.lookup f7 = some ⟨oc7, od7, .func (PySem.W.fnOf "is_less" "is_less" (defArgs s_is_less) (defBody s_is_less) (defScope s_is_less) .none kV7 dc7 pm7 an7 cd7 ct7), sl7⟩) (c7 : PySem.W.codeIn K cd7 "is_less" = true) (k7 : PySem.W.keepIn K (.ref f7) = true)
    (a8 : PySem.W.nsIn K mainGlobals "nearest" = some (some (.ref f8))) (l8 : K.lookup f8 = some ⟨oc8, od8, .func (PySem.W.fnOf "nearest" "nearest" (defArgs s_nearest) (defBody s_nearest) (defScope s_nearest) .none kV8 dc8 pm8 an8 cd8 ct8), sl8⟩) (c8 : PySem.W.codeIn K cd8 "nearest" = true) (k8 : PySem.W.keepIn K (.ref f8) = true)
    (a10 : PySem.W.nsIn K mainGlobals "_law_draws" = some (some (.ref f10))) (l10 : K.lookup f10 = some ⟨oc10, od10, .func (PySem.W.fnOf "_law_draws" "_law_draws" (defArgs s__law_draws) (defBody s__law_draws) (defScope s__law_draws) .none kV10 dc10 pm10 an10 cd10 ct10), sl10⟩) (c10 : PySem.W.codeIn K cd10 "_law_draws" = true) (k10 : PySem.W.keepIn K (.ref f10) = true)
    (a11 : PySem.W.nsIn K mainGlobals "_law_box" = some (some (.ref f11))) (l11 : K.lookup f11 = some ⟨oc11, od11, .func (PySem.W.fnOf "_law_box" "_law_box" (defArgs s__law_box) (defBody s__law_box) (defScope s__law_box) .none kV11 dc11 pm11 an11 cd11 ct11), sl11⟩) (c11 : PySem.W.codeIn K cd11 "_law_box" = true) (k11 : PySem.W.keepIn K (.ref f11) = true)
    (a12 : PySem.W.nsIn K mainGlobals "_law_next" = some (some (.ref f12))) (l12 : K.lookup f12 = some ⟨oc12, od12, .func (PySem.W.fnOf "_law_next" "_law_next" (defArgs s__law_next) (defBody s__law_next) (defScope s__law_next) .none kV12 dc12 pm12 an12 cd12 ct12), sl12⟩) (c12 : PySem.W.codeIn K cd12 "_law_next" = true) (k12 : PySem.W.keepIn K (.ref f12) = true)
    (a13 : PySem.W.nsIn K mainGlobals "_law_one" = some (some (.ref f13))) (l13 : K.lookup f13 = some ⟨oc13, od13, .func (PySem.W.fnOf "_law_one" "_law_one" (defArgs s__law_one) (defBody s__law_one) (defScope s__law_one) .none kV13 dc13 pm13 an13 cd13 ct13), sl13⟩) (c13 : PySem.W.codeIn K cd13 "_law_one" = true) (k13 : PySem.W.keepIn K (.ref f13) = true)
    (a14 : PySem.W.nsIn K mainGlobals "_law_is" = some (some (.ref f14))) (l14 : K.lookup f14 = some ⟨oc14, od14, .func (PySem.W.fnOf "_law_is" "_law_is" (defArgs s__law_is) (defBody s__law_is) (defScope s__law_is) .none kV14 dc14 pm14 an14 cd14 ct14), sl14⟩) (c14 : PySem.W.codeIn K cd14 "_law_is" = true) (k14 : PySem.W.keepIn K (.ref f14) = true)
    (a15 : PySem.W.nsIn K mainGlobals "_law_least" = some (some (.ref f15))) (l15 : K.lookup f15 = some ⟨oc15, od15, .func (PySem.W.fnOf "_law_least" "_law_least" (defArgs s__law_least) (defBody s__law_least) (defScope s__law_least) .none kV15 dc15 pm15 an15 cd15 ct15), sl15⟩) (c15 : PySem.W.codeIn K cd15 "_law_least" = true) (k15 : PySem.W.keepIn K (.ref f15) = true)
    (a16 : PySem.W.nsIn K mainGlobals "_law_drawn" = some (some (.ref f16))) (l16 : K.lookup f16 = some ⟨oc16, od16, .func (PySem.W.fnOf "_law_drawn" "_law_drawn" (defArgs s__law_drawn) (defBody s__law_drawn) (defScope s__law_drawn) .none kV16 dc16 pm16 an16 cd16 ct16), sl16⟩) (c16 : PySem.W.codeIn K cd16 "_law_drawn" = true) (k16 : PySem.W.keepIn K (.ref f16) = true)
    (a17 : PySem.W.nsIn K mainGlobals "law" = some (some (.ref f17))) (l17 : K.lookup f17 = some ⟨oc17, od17, .func (PySem.W.fnOf "law" "law" (defArgs s_law) (defBody s_law) (defScope s_law) .none kV17 dc17 pm17 an17 cd17 ct17), sl17⟩) (c17 : PySem.W.codeIn K cd17 "law" = true) (k17 : PySem.W.keepIn K (.ref f17) = true)
    (z_len : PySem.W.nsIn K mainGlobals "len" = some none)
    (z_range : PySem.W.nsIn K mainGlobals "range" = some none)
    (z_isinstance : PySem.W.nsIn K mainGlobals "isinstance" = some none)
    (z_list : PySem.W.nsIn K mainGlobals "list" = some none)
    (z_tuple : PySem.W.nsIn K mainGlobals "tuple" = some none)
    (z_dict : PySem.W.nsIn K mainGlobals "dict" = some none)
    (z_int : PySem.W.nsIn K mainGlobals "int" = some none)
    (z_bool : PySem.W.nsIn K mainGlobals "bool" = some none)
    (z_str : PySem.W.nsIn K mainGlobals "str" = some none)
    (z_sum : PySem.W.nsIn K mainGlobals "sum" = some none)
    (z_min : PySem.W.nsIn K mainGlobals "min" = some none)
    (z_max : PySem.W.nsIn K mainGlobals "max" = some none)
    (z_abs : PySem.W.nsIn K mainGlobals "abs" = some none)
    (z_any : PySem.W.nsIn K mainGlobals "any" = some none)
    (z_all : PySem.W.nsIn K mainGlobals "all" = some none)
    (z_sorted : PySem.W.nsIn K mainGlobals "sorted" = some none)
    (z_enumerate : PySem.W.nsIn K mainGlobals "enumerate" = some none)
    (z_zip : PySem.W.nsIn K mainGlobals "zip" = some none)
    (z_set : PySem.W.nsIn K mainGlobals "set" = some none)
    : ∃ fd : FuncData, (∀ (s : Shared) (v : Value), BindsTo s fd ⟨[v], []⟩ [("script", v)]) ∧ ∀ base : Heap, K.In base → base.Ns mainGlobals mg → FnOk l.prog w K mg base CX0 8 fa fd ["script"] (spLaw K) := by
  have e := hfa.symm.trans (PySem.W.mg_of X G a17)
  cases e
  have B : Blt mg := ⟨PySem.W.mg_none_of X G z_len, PySem.W.mg_none_of X G z_range, PySem.W.mg_none_of X G z_isinstance, PySem.W.mg_none_of X G z_list, PySem.W.mg_none_of X G z_tuple, PySem.W.mg_none_of X G z_dict, PySem.W.mg_none_of X G z_int, PySem.W.mg_none_of X G z_bool, PySem.W.mg_none_of X G z_str, PySem.W.mg_none_of X G z_sum, PySem.W.mg_none_of X G z_min, PySem.W.mg_none_of X G z_max, PySem.W.mg_none_of X G z_abs, PySem.W.mg_none_of X G z_any, PySem.W.mg_none_of X G z_all, PySem.W.mg_none_of X G z_sorted, PySem.W.mg_none_of X G z_enumerate, PySem.W.mg_none_of X G z_zip, PySem.W.mg_none_of X G z_set⟩
  have F1 := fun_mk (st := s_common_divisor) l1 c1 k1
  have D1 : DefAt K mg "common_divisor" s_common_divisor ["one", "two"] f1 _ := ⟨F1, PySem.W.mg_of X G a1, F1.binds (ps := ["one", "two"]) fun _ _ _ _ _ _ us hl => match us, hl with | [_, _], _ => rfl⟩
  have F2 := fun_mk (st := s_fraction) l2 c2 k2
  have D2 : DefAt K mg "fraction" s_fraction ["above", "below"] f2 _ := ⟨F2, PySem.W.mg_of X G a2, F2.binds (ps := ["above", "below"]) fun _ _ _ _ _ _ us hl => match us, hl with | [_, _], _ => rfl⟩
  have F3 := fun_mk (st := s_plus) l3 c3 k3
  have D3 : DefAt K mg "plus" s_plus ["one", "two"] f3 _ := ⟨F3, PySem.W.mg_of X G a3, F3.binds (ps := ["one", "two"]) fun _ _ _ _ _ _ us hl => match us, hl with | [_, _], _ => rfl⟩
  have F4 := fun_mk (st := s_minus) l4 c4 k4
  have D4 : DefAt K mg "minus" s_minus ["one", "two"] f4 _ := ⟨F4, PySem.W.mg_of X G a4, F4.binds (ps := ["one", "two"]) fun _ _ _ _ _ _ us hl => match us, hl with | [_, _], _ => rfl⟩
  have F5 := fun_mk (st := s_times) l5 c5 k5
  have D5 : DefAt K mg "times" s_times ["one", "two"] f5 _ := ⟨F5, PySem.W.mg_of X G a5, F5.binds (ps := ["one", "two"]) fun _ _ _ _ _ _ us hl => match us, hl with | [_, _], _ => rfl⟩
  have F6 := fun_mk (st := s_over) l6 c6 k6
  have D6 : DefAt K mg "over" s_over ["one", "two"] f6 _ := ⟨F6, PySem.W.mg_of X G a6, F6.binds (ps := ["one", "two"]) fun _ _ _ _ _ _ us hl => match us, hl with | [_, _], _ => rfl⟩
  have F7 := fun_mk (st := s_is_less) l7 c7 k7
  have D7 : DefAt K mg "is_less" s_is_less ["one", "two"] f7 _ := ⟨F7, PySem.W.mg_of X G a7, F7.binds (ps := ["one", "two"]) fun _ _ _ _ _ _ us hl => match us, hl with | [_, _], _ => rfl⟩
  have F8 := fun_mk (st := s_nearest) l8 c8 k8
  have D8 : DefAt K mg "nearest" s_nearest ["one"] f8 _ := ⟨F8, PySem.W.mg_of X G a8, F8.binds (ps := ["one"]) fun _ _ _ _ _ _ us hl => match us, hl with | [_], _ => rfl⟩
  have F10 := fun_mk (st := s__law_draws) l10 c10 k10
  have D10 : DefAt K mg "_law_draws" s__law_draws ["cell", "modulus", "count"] f10 _ := ⟨F10, PySem.W.mg_of X G a10, F10.binds (ps := ["cell", "modulus", "count"]) fun _ _ _ _ _ _ us hl => match us, hl with | [_, _, _], _ => rfl⟩
  have F11 := fun_mk (st := s__law_box) l11 c11 k11
  have D11 : DefAt K mg "_law_box" s__law_box ["script"] f11 _ := ⟨F11, PySem.W.mg_of X G a11, F11.binds (ps := ["script"]) fun _ _ _ _ _ _ us hl => match us, hl with | [_], _ => rfl⟩
  have F12 := fun_mk (st := s__law_next) l12 c12 k12
  have D12 : DefAt K mg "_law_next" s__law_next ["box", "modulus"] f12 _ := ⟨F12, PySem.W.mg_of X G a12, F12.binds (ps := ["box", "modulus"]) fun _ _ _ _ _ _ us hl => match us, hl with | [_, _], _ => rfl⟩
  have F13 := fun_mk (st := s__law_one) l13 c13 k13
  have D13 : DefAt K mg "_law_one" s__law_one ["box", "values"] f13 _ := ⟨F13, PySem.W.mg_of X G a13, F13.binds (ps := ["box", "values"]) fun _ _ _ _ _ _ us hl => match us, hl with | [_, _], _ => rfl⟩
  have F14 := fun_mk (st := s__law_is) l14 c14 k14
  have D14 : DefAt K mg "_law_is" s__law_is ["got", "due"] f14 _ := ⟨F14, PySem.W.mg_of X G a14, F14.binds (ps := ["got", "due"]) fun _ _ _ _ _ _ us hl => match us, hl with | [_, _], _ => rfl⟩
  have F15 := fun_mk (st := s__law_least) l15 c15 k15
  have D15 : DefAt K mg "_law_least" s__law_least ["above", "below"] f15 _ := ⟨F15, PySem.W.mg_of X G a15, F15.binds (ps := ["above", "below"]) fun _ _ _ _ _ _ us hl => match us, hl with | [_, _], _ => rfl⟩
  have F16 := fun_mk (st := s__law_drawn) l16 c16 k16
  have D16 : DefAt K mg "_law_drawn" s__law_drawn ["box"] f16 _ := ⟨F16, PySem.W.mg_of X G a16, F16.binds (ps := ["box"]) fun _ _ _ _ _ _ us hl => match us, hl with | [_], _ => rfl⟩
  have F17 := fun_mk (st := s_law) l17 c17 k17
  have D17 : DefAt K mg "law" s_law ["script"] fa _ := ⟨F17, PySem.W.mg_of X G a17, F17.binds (ps := ["script"]) fun _ _ _ _ _ _ us hl => match us, hl with | [_], _ => rfl⟩
  refine ⟨PySem.W.fnOf "law" "law" (defArgs s_law) (defBody s_law) (defScope s_law) .none kV17 dc17 pm17 an17 cd17 ct17, fun s v => .of_eq rfl, fun base _ _ => ?_⟩
  have G__law_draws := ok__law_draws (P := l.prog) (w := w) (base := base) (T := []) D10 B
  have G__law_draws := ok__law_draws (P := l.prog) (w := w) (base := base) (T := []) D10 B
  have G__law_box := ok__law_box (P := l.prog) (w := w) (base := base) (T := []) D11 B G__law_draws
  have G__law_next := ok__law_next (P := l.prog) (w := w) (base := base) (T := []) D12 B
  have G__law_one := ok__law_one (P := l.prog) (w := w) (base := base) (T := []) D13 B G__law_next
  have G__law_is := is_all (P := l.prog) (w := w) (base := base) (T := []) D14 B 6
  have G_common_divisor := ok_common_divisor (P := l.prog) (w := w) (base := base) (T := []) D1 B
  have G_fraction := ok_fraction (P := l.prog) (w := w) (base := base) (T := []) D2 B G_common_divisor
  have G_plus := ok_plus (P := l.prog) (w := w) (base := base) (T := []) D3 B G_fraction
  have G_minus := ok_minus (P := l.prog) (w := w) (base := base) (T := []) D4 B G_fraction
  have G_times := ok_times (P := l.prog) (w := w) (base := base) (T := []) D5 B G_fraction
  have G_over := ok_over (P := l.prog) (w := w) (base := base) (T := []) D6 B G_fraction
  have G_is_less := ok_is_less (P := l.prog) (w := w) (base := base) (T := []) D7 B
  have G_nearest := ok_nearest (P := l.prog) (w := w) (base := base) (T := []) D8 B
  have G__law_least := ok__law_least (P := l.prog) (w := w) (base := base) (T := []) D15 B
  have G__law_drawn := ok__law_drawn (P := l.prog) (w := w) (base := base) (T := []) D16 B G__law_least G__law_next G__law_one
  exact (ok_law (P := l.prog) (w := w) (base := base) (T := []) D17 B G__law_drawn G__law_least G__law_is G_nearest G__law_next G_plus G_is_less G_fraction G_common_divisor G_minus G_times G_over G__law_box).imp law_sp
theorem walk {l : PySem.W.OpenLaw} {q : Program} {loose : List Str} {XP : (Str → Option Value) → Heap → Prop} {YP : World → Heap → Prop} {d : DefRec} {K : Params → PySem.W.Frag} (hn : l.most = some 63) (hdf : d.params.defaults = [])
    (hY : ∀ (w : World) (h : Heap), YP w h → (K w.params).In h)
    (F : ∀ (w : World) (mg : Str → Option Value) (fa : Addr) (h : Heap), (K w.params).In h → h.Ns mainGlobals mg → mg d.name = some (.ref fa) →
      ∃ fd : FuncData, (∀ (s : Shared) (u : Value), BindsTo s fd ⟨[u], []⟩ [("script", u)]) ∧ ∀ base : Heap, (K w.params).In base → base.Ns mainGlobals mg → FnOk l.prog w (K w.params) mg base CX0 8 fa fd ["script"] (spLaw (K w.params))) :
    PySem.W.WalkO q loose XP YP l.row.toRowW d [] (fun f vs => PySem.call f vs) :=
  L2.walk_of (n := 63) (k := 8) (x := "script") (CX := fun _ => CX0) (sp := fun w => spLaw (K w.params)) hn (by decide) hdf ⟨rfl, by decide, by decide⟩ hY F (fun _ _ a ns hl _ hS => ⟨a, ns, rfl, hS, hl, fun _ => rfl⟩) fun _ _ _ _ _ z => z
end LW
open PySem PySem.W PyProof.Rows
set_option maxHeartbeats 0 in
theorem PySem.Challenge.cw_knittold_k00_fractions_through_long_sums_holds : PySem.Challenge.rw_knittold_k00_fractions_through_long_sums.Holds := by
  w_on; o_law; k_head; (case hw => w_witness2)
  k_fill
  refine LW.walk (l := PySem.Challenge.rw_knittold_k00_fractions_through_long_sums) rfl rfl (fun w h Y => PySem.W.kIn_of Y) ?F
  case F =>
    intro w mg fa h KX G hmg
    refine' LW.all_mk KX G hmg ?a1 ?l1 ?c1 ?k1 ?a2 ?l2 ?c2 ?k2 ?a3 ?l3 ?c3 ?k3 ?a4 ?l4 ?c4 ?k4 ?a5 ?l5 ?c5 ?k5 ?a6 ?l6 ?c6 ?k6 ?a7 ?l7 ?c7 ?k7 ?a8 ?l8 ?c8 ?k8 ?a10 ?l10 ?c10 ?k10 ?a11 ?l11 ?c11 ?k11 ?a12 ?l12 ?c12 ?k12 ?a13 ?l13 ?c13 ?k13 ?a14 ?l14 ?c14 ?k14 ?a15 ?l15 ?c15 ?k15 ?a16 ?l16 ?c16 ?k16 ?a17 ?l17 ?c17 ?k17 ?z_len ?z_range ?z_isinstance ?z_list ?z_tuple ?z_dict ?z_int ?z_bool ?z_str ?z_sum ?z_min ?z_max ?z_abs ?z_any ?z_all ?z_sorted ?z_enumerate ?z_zip ?z_set
    (case a1 => k_is)
    (case l1 => k_is)
    (case c1 => k_is)
    (case k1 => k_is)
    (case a2 => k_is)
    (case l2 => k_is)
    (case c2 => k_is)
    (case k2 => k_is)
    (case a3 => k_is)
    (case l3 => k_is)
    (case c3 => k_is)
    (case k3 => k_is)
    (case a4 => k_is)
    (case l4 => k_is)
    (case c4 => k_is)
    (case k4 => k_is)
    (case a5 => k_is)
    (case l5 => k_is)
    (case c5 => k_is)
    (case k5 => k_is)
    (case a6 => k_is)
    (case l6 => k_is)
    (case c6 => k_is)
    (case k6 => k_is)
    (case a7 => k_is)
    (case l7 => k_is)
    (case c7 => k_is)
    (case k7 => k_is)
    (case a8 => k_is)
    (case l8 => k_is)
    (case c8 => k_is)
    (case k8 => k_is)
    (case a10 => k_is)
    (case l10 => k_is)
    (case c10 => k_is)
    (case k10 => k_is)
    (case a11 => k_is)
    (case l11 => k_is)
    (case c11 => k_is)
    (case k11 => k_is)
    (case a12 => k_is)
    (case l12 => k_is)
    (case c12 => k_is)
    (case k12 => k_is)
    (case a13 => k_is)
    (case l13 => k_is)
    (case c13 => k_is)
    (case k13 => k_is)
    (case a14 => k_is)
    (case l14 => k_is)
    (case c14 => k_is)
    (case k14 => k_is)
    (case a15 => k_is)
    (case l15 => k_is)
    (case c15 => k_is)
    (case k15 => k_is)
    (case a16 => k_is)
    (case l16 => k_is)
    (case c16 => k_is)
    (case k16 => k_is)
    (case a17 => k_is)
    (case l17 => k_is)
    (case c17 => k_is)
    (case k17 => k_is)
    (case z_len => k_is)
    (case z_range => k_is)
    (case z_isinstance => k_is)
    (case z_list => k_is)
    (case z_tuple => k_is)
    (case z_dict => k_is)
    (case z_int => k_is)
    (case z_bool => k_is)
    (case z_str => k_is)
    (case z_sum => k_is)
    (case z_min => k_is)
    (case z_max => k_is)
    (case z_abs => k_is)
    (case z_any => k_is)
    (case z_all => k_is)
    (case z_sorted => k_is)
    (case z_enumerate => k_is)
    (case z_zip => k_is)
    (case z_set => k_is)
#print axioms PySem.Challenge.cw_knittold_k00_fractions_through_long_sums_holds
