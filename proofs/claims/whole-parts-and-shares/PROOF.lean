import PyProof.Rows.All
import Wide.All
import OpenK.AllK
import Wide.FinOn
import HandS.ForMost
import HandS.Wide
import HandS.WideBits
import HandS.Defaults
import HandS.Walk
import HandS.IsInst
import HandS.Flow
import HandS.Sort
import HandS.Star
import HandS.Style
import HandS.Small
import KE.DataMinMax
import HandS.Zip
import KE.GoesMore
import KE.GoesEnum
import HandS.DictTup
import HandS.Dict
import HandS.DictComp
import KE.KDictDisplayH
import KE.KStateDown
import HandS.Head0
import HandS.Head1
import HandS.Head2
import HandS.HeadEnd
import HandS.HeadHook1
import HandS.HeadHook2
import HandS.SortRule
import HandS.Text
import KE.KEqSeq
import PyProof.ReprBulk
import PyProof.ReprRoads
import PyProof.FitsInt
import PySem.Challenge.RW_bitspans_k20_whole_parts_and_shares
set_option Elab.async false
set_option linter.all false
set_option maxRecDepth 100000
set_option maxHeartbeats 4000000
/-! Statements and expressions over plain data: what a def does, said of PyData alone. -/
namespace G
open PySem PySem.Spec PyProof.Rows L2

abbrev PD := PyData
abbrev St := L2.St

/-! ### heaps: I what never changes, H all -/
/-- nothing stands at b, or a tuple -/
def Fo (H : Hp) (b : Addr) : Prop := H b = none ∨ ∃ xs, H b = some (.tup xs)
theorem Fo.back {H H' : Hp} {b : Addr} (s : Same H H') (h : Fo H' b) : Fo H b := by
  unfold Fo
  cases e : H b with
  | none => exact .inl rfl
  | some o =>
    have w := s _ _ e
    rcases h with h | ⟨xs, h⟩
    · rw [h] at w
      cases w
    · rw [h] at w
      cases w
      exact .inr ⟨xs, rfl⟩
structure Gr (I H I' H' : Hp) : Prop where
  i : Same I I'
  h : Same H H'
  s : Same I' H'
  n : ∀ b, I b = none → I' b ≠ none → Fo H b
theorem Gr.refl {I H : Hp} (s : Same I H) : Gr I H I H := ⟨Same.refl I, Same.refl H, s, fun _ a b => absurd a b⟩
theorem Gr.trans {I H I1 H1 I2 H2 : Hp} (a : Gr I H I1 H1) (b : Gr I1 H1 I2 H2) : Gr I H I2 H2 :=
  ⟨a.i.trans b.i, a.h.trans b.h, b.s, fun c h1 h2 => by
    cases e : I1 c with
    | none => exact (b.n c e h2).back a.h
    | some o => exact a.n c h1 (by rw [e]; exact fun z => by cases z)⟩
theorem same_up {H : Hp} {p : Addr} {o : HO} (h : H p = none) : Same H (upd H p o) := fun b x e => by
  rw [upd_ne (ne_of_none e h)]
  exact e
theorem Gr.new {I H : Hp} {p : Addr} {o : HO} (s : Same I H) (h : H p = none) : Gr I H (upd I p o) (upd H p o) :=
  ⟨same_up (s.free h), same_up h, fun b x e => by
    by_cases hb : b = p
    · subst hb
      rw [upd_same] at e ⊢
      exact e
    · rw [upd_ne hb] at e ⊢
      exact s _ _ e, fun b h1 h2 => by
    by_cases hb : b = p
    · subst hb
      exact .inl h
    · rw [upd_ne hb] at h2
      exact absurd h1 h2⟩
theorem Gr.newM {I H : Hp} {p : Addr} {o : HO} (s : Same I H) (h : H p = none) : Gr I H I (upd H p o) :=
  ⟨Same.refl I, same_up h, s.trans (same_up h), fun _ a b => absurd a b⟩
theorem Gr.freeze {I H I' H' : Hp} {p : Addr} {o : HO} (s : Same I H) (g : Gr I H I' H') (h : H p = none) (e : H' p = some o) : Gr I H (upd I' p o) H' :=
  ⟨fun b x q => by
    rw [upd_ne (ne_of_none (s _ _ q) h)]
    exact g.i _ _ q, g.h, fun b x q => by
    by_cases hb : b = p
    · subst hb
      rw [upd_same] at q
      rw [e, q]
    · rw [upd_ne hb] at q
      exact g.s _ _ q, fun b h1 h2 => by
    by_cases hb : b = p
    · subst hb
      exact .inl h
    · rw [upd_ne hb] at h2
      exact g.n b h1 h2⟩
/-- an object that is not among the fixed ones changes -/
theorem Gr.mut {I0 H0 I H : Hp} {p : Addr} {o : HO} (g : Gr I0 H0 I H) (hi : I p = none) (h0 : H0 p = none) : Gr I0 H0 I (upd H p o) :=
  ⟨g.i, fun b x q => by
    rw [upd_ne (ne_of_none q h0)]
    exact g.h _ _ q, fun b x q => by
    rw [upd_ne (ne_of_none q hi)]
    exact g.s _ _ q, g.n⟩

/-! ### data: tuples stand as such; a dict that changes no more, its keys tuples -/
def kd : Key → PD
  | .inl i => .int i
  | .inr x => .str x
def keyD (ks : List Key) : PD := .tuple (ks.map kd)
def dDict (kvs : List (List Key × PD)) : PD := .dict (kvs.map fun p => (keyD p.1, p.2))
mutual
inductive Dp (K : PySem.W.Frag) (H : Hp) : V → PD → Prop
  | non : Dp K H V.non PyData.none
  | bl (k : Bool) : Dp K H (V.bl k) (PyData.bool k)
  | int (n : Int) : Dp K H (V.int n) (PyData.int n)
  | str (z : Str) : Dp K H (V.str z) (PyData.str z)
  | lst {p : Addr} {ws : List V} {es : List PD} (q : SqL K H p ws) (t : DpAll K H ws es) : Dp K H (V.ref p) (PyData.list es)
  | tup {p : Addr} {ws : List V} {es : List PD} (q : H p = some (HO.tup ws)) (t : DpAll K H ws es) : Dp K H (V.ref p) (PyData.tuple es)
  | dct {p : Addr} {o : Obj} {ks : List (List Key × V)} {es : List PD} {z : List (PD × PD)} (q : H p = some (HO.frz o (HO.dT ks))) (t : DpAll K H (ks.map (·.2)) es) (e : z = (ks.map fun k => keyD k.1).zip es) : Dp K H (V.ref p) (PyData.dict z)
inductive DpAll (K : PySem.W.Frag) (H : Hp) : List V → List PD → Prop
  | nil : DpAll K H [] []
  | cons {w : V} {ws : List V} {e : PD} {es : List PD} (h : Dp K H w e) (t : DpAll K H ws es) : DpAll K H (w :: ws) (e :: es)
end
mutual
theorem Dp.up_ {K : PySem.W.Frag} {H H' : Hp} (e : Same H H') : ∀ {v : V} {d : PD}, Dp K H v d → Dp K H' v d
  | _, _, .non => .non
  | _, _, .bl k => .bl k
  | _, _, .int n => .int n
  | _, _, .str z => .str z
  | _, _, .lst q t => .lst (e.seq q) (DpAll.up_ e t)
  | _, _, .tup q t => .tup (e _ _ q) (DpAll.up_ e t)
  | _, _, .dct q t z => .dct (e _ _ q) (DpAll.up_ e t) z
theorem DpAll.up_ {K : PySem.W.Frag} {H H' : Hp} (e : Same H H') : ∀ {vs : List V} {ds : List PD}, DpAll K H vs ds → DpAll K H' vs ds
  | _, _, .nil => .nil
  | _, _, .cons h t => .cons (Dp.up_ e h) (DpAll.up_ e t)
end
theorem Dp.up {K : PySem.W.Frag} {H H' : Hp} (e : Same H H') (d : PD) (v : V) (h : Dp K H v d) : Dp K H' v d := h.up_ e
theorem Dp.upAll {K : PySem.W.Frag} {H H' : Hp} (e : Same H H') (ds : List PD) (vs : List V) (h : DpAll K H vs ds) : DpAll K H' vs ds := h.up_ e
/-! no dict in it -/
mutual
def flat : PD → Bool
  | .list xs => flats xs
  | .tuple xs => flats xs
  | .dict _ => false
  | _ => true
def flats : List PD → Bool
  | [] => true
  | x :: xs => flat x && flats xs
end
mutual
theorem Dp.kit {K : PySem.W.Frag} {H : Hp} : ∀ {v : V} {d : PD}, Dp K H v d → flat d = true → L2.Dp K H v d
  | _, _, .non, _ => .non
  | _, _, .bl k, _ => .bl k
  | _, _, .int n, _ => .int n
  | _, _, .str z, _ => .str z
  | _, _, .lst q t, f => .lst q (DpAll.kit t f)
  | _, _, .tup q t, f => .tup (.inl (.inl q)) (DpAll.kit t f)
  | _, _, .dct _ _ _, f => nomatch f
theorem DpAll.kit {K : PySem.W.Frag} {H : Hp} : ∀ {vs : List V} {ds : List PD}, DpAll K H vs ds → flats ds = true → L2.DpAll K H vs ds
  | _, _, .nil, _ => .nil
  | _, _, .cons h t, f => .cons (Dp.kit h (Bool.and_eq_true_iff.mp f).1) (DpAll.kit t (Bool.and_eq_true_iff.mp f).2)
end
theorem sqt_same {K : PySem.W.Frag} {H H' : Hp} {a : Addr} {xs : List V} (e : Same H H') (h : SqT K H a xs) : SqT K H' a xs := by
  rcases h with (h | ⟨o, h⟩) | h
  · exact .inl (.inl (e _ _ h))
  · exact .inl (.inr ⟨o, e _ _ h⟩)
  · exact .inr h
section
variable {K : PySem.W.Frag} {I : Hp}
theorem DpAll.len : ∀ {vs : List V} {ds : List PD}, DpAll K I vs ds → vs.length = ds.length
  | _, _, .nil => rfl
  | _, _, .cons _ t => congrArg (· + 1) (DpAll.len t)
theorem DpAll.get : ∀ {vs : List V} {ds : List PD} {i : Nat} {d : PD}, DpAll K I vs ds → ds[i]? = some d → ∃ v, vs[i]? = some v ∧ Dp K I v d
  | _, _, _, _, .nil, e => by simp at e
  | _, _, 0, _, .cons r _, e => by
    simp at e
    subst e
    exact ⟨_, rfl, r⟩
  | _, _, i + 1, _, .cons _ t, e => by
    obtain ⟨v, h1, h2⟩ := DpAll.get (i := i) t (by simpa using e)
    exact ⟨v, by simpa using h1, h2⟩
theorem DpAll.getV : ∀ {vs : List V} {ds : List PD} {i : Nat} {v : V}, DpAll K I vs ds → vs[i]? = some v → ∃ d, ds[i]? = some d ∧ Dp K I v d
  | _, _, _, _, .nil, e => by simp at e
  | _, _, 0, _, .cons r _, e => by
    simp at e
    subst e
    exact ⟨_, rfl, r⟩
  | _, _, i + 1, _, .cons _ t, e => by
    obtain ⟨v, h1, h2⟩ := DpAll.getV (i := i) t (by simpa using e)
    exact ⟨v, by simpa using h1, h2⟩
theorem DpAll.app : ∀ {vs : List V} {ds : List PD} {v : V} {d : PD}, DpAll K I vs ds → Dp K I v d → DpAll K I (vs ++ [v]) (ds ++ [d])
  | _, _, _, _, .nil, h => .cons h .nil
  | _, _, _, _, .cons r t, h => .cons r (DpAll.app t h)
theorem DpAll.cat : ∀ {vs ws : List V} {ds es : List PD}, DpAll K I vs ds → DpAll K I ws es → DpAll K I (vs ++ ws) (ds ++ es)
  | _, _, _, _, .nil, h => h
  | _, _, _, _, .cons r t, h => .cons r (DpAll.cat t h)
theorem DpAll.setN : ∀ {vs : List V} {ds : List PD} {v : V} {d : PD} (j : Nat), DpAll K I vs ds → Dp K I v d → DpAll K I (vs.set j v) (ds.set j d)
  | _, _, _, _, _, .nil, _ => .nil
  | _, _, _, _, 0, .cons _ t, h => .cons h t
  | _, _, _, _, j + 1, .cons r t, h => .cons r (DpAll.setN j t h)
theorem DpAll.ints : ∀ {vs : List V} {ns : List Int}, DpAll K I vs (ns.map PyData.int) → vs = ns.map V.int
  | _, [], h => by
    cases h
    rfl
  | _, n :: ns, h => by
    cases h with
    | cons a b =>
      cases a
      exact congrArg _ (DpAll.ints b)
theorem DpAll.bls : ∀ {vs : List V} {bs : List Bool}, DpAll K I vs (bs.map PyData.bool) → vs = bs.map V.bl
  | _, [], h => by
    cases h
    rfl
  | _, n :: ns, h => by
    cases h with
    | cons a b =>
      cases a
      exact congrArg _ (DpAll.bls b)
end
section
variable {K : PySem.W.Frag} {I : Hp}
theorem dp_int {v : V} {i : Int} (h : Dp K I v (.int i)) : v = .int i := by
  cases h
  rfl
theorem dp_bl {v : V} {b : Bool} (h : Dp K I v (.bool b)) : v = .bl b := by
  cases h
  rfl
theorem dp_str {v : V} {x : Str} (h : Dp K I v (.str x)) : v = .str x := by
  cases h
  rfl
theorem dp_non {v : V} (h : Dp K I v .none) : v = .non := by
  cases h
  rfl
theorem dp_tup {v : V} {ds : List PD} (h : Dp K I v (.tuple ds)) : ∃ a xs, v = .ref a ∧ SqT K I a xs ∧ DpAll K I xs ds := by
  cases h with
  | tup h1 h2 => exact ⟨_, _, rfl, .inl (.inl h1), h2⟩
theorem dp_tupS {v : V} {ds : List PD} (h : Dp K I v (.tuple ds)) : ∃ a xs, v = .ref a ∧ I a = some (.tup xs) ∧ DpAll K I xs ds := by
  cases h with
  | tup h1 h2 => exact ⟨_, _, rfl, h1, h2⟩
theorem dp_lst {v : V} {ds : List PD} (h : Dp K I v (.list ds)) : ∃ a xs, v = .ref a ∧ SqL K I a xs ∧ DpAll K I xs ds := by
  cases h with
  | lst h1 h2 => exact ⟨_, _, rfl, h1, h2⟩
end

/-! ### what a def's slots hold -/
/-- an own object: a list, a dict whose keys are tuples, a dict whose keys are ints and texts -/
inductive OD where
  | l (xs : List PD) | t (kvs : List (List Key × PD)) | k (kvs : List (Key × PD)) | f (a : Addr) (kvs : List (Key × PD))
inductive Cl where
  | d (x : PD) | o (o : OD) | r (a : Addr)
abbrev Ro := List (Option Cl)
structure Bs where
  I : Hp
  H : Hp
def KvR {κ : Type} (K : PySem.W.Frag) (I : Hp) : List (κ × PD) → List (κ × V) → Prop := Paired fun p q => p.1 = q.1 ∧ Dp K I q.2 p.2
def OwnRep (K : PySem.W.Frag) (I : Hp) (p : Addr) : OD → HO → Prop
  | .l xs, .lst vs => DpAll K I vs xs
  | .t kvs, .dT vs => KvR K I kvs vs
  | .k kvs, .dK vs => KvR K I kvs vs
  | .f a kvs, .dK vs => p = a ∧ KvR K I kvs vs
  | _, _ => False
theorem KvR.up {κ : Type} {K : PySem.W.Frag} {I I' : Hp} (e : Same I I') {a : List (κ × PD)} {b : List (κ × V)} (h : KvR K I a b) : KvR K I' a b := Paired.mapP h fun p q z => ⟨z.1, Dp.up e _ _ z.2⟩
theorem OwnRep.up {K : PySem.W.Frag} {I I' : Hp} (e : Same I I') {p : Addr} {o : OD} {u : HO} (h : OwnRep K I p o u) : OwnRep K I' p o u := by
  cases o with
  | l xs => cases u with
    | lst vs => exact Dp.upAll e xs vs h
    | _ => exact False.elim h
  | t xs => cases u with
    | dT vs => exact KvR.up e h
    | _ => exact False.elim h
  | k xs => cases u with
    | dK vs => exact KvR.up e h
    | _ => exact False.elim h
  | f a xs => cases u with
    | dK vs => exact ⟨h.1, KvR.up e h.2⟩
    | _ => exact False.elim h
theorem OwnRep.fo {K : PySem.W.Frag} {I H : Hp} {p : Addr} {o : OD} {u : HO} (h : OwnRep K I p o u) (e : H p = some u) (f : Fo H p) : False := by
  rcases f with f | ⟨xs, f⟩
  · rw [f] at e
    cases e
  · rw [f] at e
    cases e
    cases o <;> exact h
structure SR (K : PySem.W.Frag) (b : Bs) (I H : Hp) (σ : St) (ρ : Ro) : Prop where
  g : Gr b.I b.H I H
  len : σ.length = ρ.length
  dat : ∀ (i : Nat) x, ρ[i]? = some (some (.d x)) → ∃ v, σ[i]? = some (some v) ∧ Dp K I v x
  raw : ∀ (i : Nat) a, ρ[i]? = some (some (.r a)) → σ[i]? = some (some (.ref a))
  own : ∀ (i : Nat) o, ρ[i]? = some (some (.o o)) → ∃ p u, σ[i]? = some (some (.ref p)) ∧ I p = none ∧ b.H p = none ∧ H p = some u ∧ OwnRep K I p o u
  sep : ∀ (i j : Nat) o o' p, i ≠ j → ρ[i]? = some (some (.o o)) → ρ[j]? = some (some (.o o')) → σ[i]? = some (some (.ref p)) → σ[j]? = some (some (.ref p)) → False
section
variable {K : PySem.W.Frag} {b : Bs} {I H I' H' : Hp} {σ : St} {ρ : Ro}
theorem SR.same (S : SR K b I H σ ρ) : Same I H := S.g.s
theorem SR.grow (S : SR K b I H σ ρ) (g : Gr I H I' H') : SR K b I' H' σ ρ where
  g := S.g.trans g
  len := S.len
  dat := fun i x h => let ⟨v, h1, h2⟩ := S.dat i x h; ⟨v, h1, Dp.up g.i _ _ h2⟩
  raw := S.raw
  own := fun i o h => by
    obtain ⟨p, u, h1, h2, h3, h4, h5⟩ := S.own i o h
    refine ⟨p, u, h1, ?_, h3, g.h _ _ h4, h5.up g.i⟩
    cases e : I' p with
    | none => rfl
    | some x =>
      exact (h5.fo h4 (g.n p h2 (by rw [e]; exact fun z => by cases z))).elim
  sep := S.sep
theorem get_set {α : Type} {l : List α} {i j : Nat} {x y : α} (h : (l.set i x)[j]? = some y) : (i = j ∧ y = x ∧ i < l.length) ∨ (i ≠ j ∧ l[j]? = some y) := by
  by_cases e : i = j
  · subst e
    by_cases hl : i < l.length
    · rw [List.getElem?_set_self hl] at h
      exact .inl ⟨rfl, (Option.some.inj h).symm, hl⟩
    · rw [List.getElem?_eq_none (by rw [List.length_set]; omega)] at h
      cases h
  · rw [List.getElem?_set_ne e] at h
    exact .inr ⟨e, h⟩
theorem set_get {α : Type} {l : List α} {i : Nat} {x : α} (h : i < l.length) : (l.set i x)[i]? = some x := List.getElem?_set_self h
/-- a slot takes a value that is data -/
theorem SR.setD (S : SR K b I H σ ρ) {v : V} {x : PD} (h : Dp K I v x) (i : Nat) : SR K b I H (σ.set i (some v)) (ρ.set i (some (.d x))) where
  g := S.g
  len := by rw [List.length_set, List.length_set, S.len]
  dat := fun j y e => by
    rcases get_set e with ⟨rfl, e2, hl⟩ | ⟨hn, e2⟩
    · cases e2
      exact ⟨v, set_get (by rw [S.len]; exact hl), h⟩
    · obtain ⟨w, h1, h2⟩ := S.dat j y e2
      exact ⟨w, by rw [List.getElem?_set_ne hn]; exact h1, h2⟩
  raw := fun j a e => by
    rcases get_set e with ⟨_, e2, _⟩ | ⟨hn, e2⟩
    · cases e2
    · rw [List.getElem?_set_ne hn]
      exact S.raw j a e2
  own := fun j o e => by
    rcases get_set e with ⟨_, e2, _⟩ | ⟨hn, e2⟩
    · cases e2
    · obtain ⟨p, u, h1, h2⟩ := S.own j o e2
      exact ⟨p, u, by rw [List.getElem?_set_ne hn]; exact h1, h2⟩
  sep := fun j k o o' p hjk e1 e2 e3 e4 => by
    rcases get_set e1 with ⟨_, z, _⟩ | ⟨hn, e1⟩
    · cases z
    · rcases get_set e2 with ⟨_, z, _⟩ | ⟨hn2, e2⟩
      · cases z
      · rw [List.getElem?_set_ne hn] at e3
        rw [List.getElem?_set_ne hn2] at e4
        exact S.sep j k o o' p hjk e1 e2 e3 e4
/-- a slot is forgotten -/
theorem SR.forget (S : SR K b I H σ ρ) (i : Nat) : SR K b I H σ (ρ.set i none) where
  g := S.g
  len := by rw [List.length_set, S.len]
  dat := fun j y e => by
    rcases get_set e with ⟨_, e2, _⟩ | ⟨hn, e2⟩
    · cases e2
    · exact S.dat j y e2
  raw := fun j a e => by
    rcases get_set e with ⟨_, e2, _⟩ | ⟨hn, e2⟩
    · cases e2
    · exact S.raw j a e2
  own := fun j o e => by
    rcases get_set e with ⟨_, e2, _⟩ | ⟨hn, e2⟩
    · cases e2
    · exact S.own j o e2
  sep := fun j k o o' p hjk e1 e2 e3 e4 => by
    rcases get_set e1 with ⟨_, z, _⟩ | ⟨hn, e1⟩
    · cases z
    · rcases get_set e2 with ⟨_, z, _⟩ | ⟨hn2, e2⟩
      · cases z
      · exact S.sep j k o o' p hjk e1 e2 e3 e4
/-- what a slot holds is forgotten, there too -/
theorem SR.wipe1 (S : SR K b I H σ ρ) (i : Nat) : SR K b I H (σ.set i none) (ρ.set i none) where
  g := S.g
  len := by rw [List.length_set, List.length_set, S.len]
  dat := fun j y e => by
    rcases get_set e with ⟨_, e2, _⟩ | ⟨hn, e2⟩
    · cases e2
    · rw [List.getElem?_set_ne hn]
      exact S.dat j y e2
  raw := fun j a e => by
    rcases get_set e with ⟨_, e2, _⟩ | ⟨hn, e2⟩
    · cases e2
    · rw [List.getElem?_set_ne hn]
      exact S.raw j a e2
  own := fun j o e => by
    rcases get_set e with ⟨_, e2, _⟩ | ⟨hn, e2⟩
    · cases e2
    · rw [List.getElem?_set_ne hn]
      exact S.own j o e2
  sep := fun j k o o' p hjk e1 e2 e3 e4 => by
    rcases get_set e1 with ⟨_, z, _⟩ | ⟨hn, e1⟩
    · cases z
    · rcases get_set e2 with ⟨_, z, _⟩ | ⟨hn2, e2⟩
      · cases z
      · rw [List.getElem?_set_ne hn] at e3
        rw [List.getElem?_set_ne hn2] at e4
        exact S.sep j k o o' p hjk e1 e2 e3 e4
def wipeR (ρ : Ro) : List Nat → Ro
  | [] => ρ
  | v :: vs => (wipeR ρ vs).set v none
theorem SR.wipe (S : SR K b I H σ ρ) : ∀ vs : List Nat, SR K b I H (L2.wipe σ vs) (wipeR ρ vs)
  | [] => S
  | v :: vs => (SR.wipe S vs).wipe1 v
/-- a slot takes a new own object: S0 from before it was made -/
theorem SR.setO {I0 H0 : Hp} (S0 : SR K b I0 H0 σ ρ) (g : Gr I0 H0 I H) {p : Addr} {u : HO} {o : OD} (h0 : H0 p = none) (hi : I p = none) (hp : H p = some u) (h : OwnRep K I p o u) (i : Nat) :
    SR K b I H (σ.set i (some (.ref p))) (ρ.set i (some (.o o))) := by
  have S := S0.grow g
  have fresh : ∀ (j : Nat) o', ρ[j]? = some (some (.o o')) → σ[j]? = some (some (.ref p)) → False := fun j o' e1 e2 => by
    obtain ⟨q, u', h1, _, _, h4, _⟩ := S0.own j o' e1
    rw [h1] at e2
    cases e2
    rw [h0] at h4
    cases h4
  refine ⟨S.g, by rw [List.length_set, List.length_set, S.len], fun j y e => ?_, fun j a e => ?_, fun j o' e => ?_, fun j k o1 o2 q hjk e1 e2 e3 e4 => ?_⟩
  · rcases get_set e with ⟨_, e2, _⟩ | ⟨hn, e2⟩
    · cases e2
    · rw [List.getElem?_set_ne hn]
      exact S.dat j y e2
  · rcases get_set e with ⟨_, e2, _⟩ | ⟨hn, e2⟩
    · cases e2
    · rw [List.getElem?_set_ne hn]
      exact S.raw j a e2
  · rcases get_set e with ⟨rfl, e2, hl⟩ | ⟨hn, e2⟩
    · cases e2
      exact ⟨p, u, set_get (by rw [S.len]; exact hl), hi, S0.g.h.free h0, hp, h⟩
    · rw [List.getElem?_set_ne hn]
      exact S.own j o' e2
  · rcases get_set e1 with ⟨rfl, z, hl⟩ | ⟨hn, e1⟩
    · rcases get_set e2 with ⟨rfl, _, _⟩ | ⟨hn2, e2⟩
      · exact hjk rfl
      · rw [set_get (by rw [S.len]; exact hl)] at e3
        cases e3
        rw [List.getElem?_set_ne hn2] at e4
        exact fresh k o2 e2 e4
    · rcases get_set e2 with ⟨rfl, _, hl⟩ | ⟨hn2, e2⟩
      · rw [set_get (by rw [S.len]; exact hl)] at e4
        cases e4
        rw [List.getElem?_set_ne hn] at e3
        exact fresh j o1 e1 e3
      · rw [List.getElem?_set_ne hn] at e3
        rw [List.getElem?_set_ne hn2] at e4
        exact S.sep j k o1 o2 q hjk e1 e2 e3 e4
/-- an own object is changed -/
theorem SR.mutO (S : SR K b I H σ ρ) {i : Nat} {o o' : OD} {p : Addr} {u' : HO} (e : ρ[i]? = some (some (.o o))) (es : σ[i]? = some (some (.ref p))) (h : OwnRep K I p o' u') : SR K b I (upd H p u') σ (ρ.set i (some (.o o'))) := by
  obtain ⟨q, u, h1, h2, h3, h4, h5⟩ := S.own i o e
  rw [h1] at es
  cases es
  have hi : i < ρ.length := (List.getElem?_eq_some_iff.mp e).1
  refine ⟨S.g.mut h2 h3, by rw [List.length_set, S.len], fun j y e2 => ?_, fun j a e2 => ?_, fun j o2 e2 => ?_, fun j k o1 o2 q hjk e1 e2 e3 e4 => ?_⟩
  · rcases get_set e2 with ⟨_, z, _⟩ | ⟨hn, e2⟩
    · cases z
    · exact S.dat j y e2
  · rcases get_set e2 with ⟨_, z, _⟩ | ⟨hn, e2⟩
    · cases z
    · exact S.raw j a e2
  · rcases get_set e2 with ⟨rfl, z, hl⟩ | ⟨hn, e2⟩
    · cases z
      exact ⟨p, u', h1, h2, h3, upd_same, h⟩
    · obtain ⟨q, u2, k1, k2, k3, k4, k5⟩ := S.own j o2 e2
      refine ⟨q, u2, k1, k2, k3, ?_, k5⟩
      rw [upd_ne fun z => ?_]
      · exact k4
      · subst z
        exact S.sep i j o o2 q hn e e2 h1 k1
  · have f1 : ∃ o1', ρ[j]? = some (some (.o o1')) := by
      rcases get_set e1 with ⟨rfl, _, _⟩ | ⟨_, e1⟩
      · exact ⟨o, e⟩
      · exact ⟨o1, e1⟩
    have f2 : ∃ o2', ρ[k]? = some (some (.o o2')) := by
      rcases get_set e2 with ⟨rfl, _, _⟩ | ⟨_, e2⟩
      · exact ⟨o, e⟩
      · exact ⟨o2, e2⟩
    obtain ⟨a1, f1⟩ := f1
    obtain ⟨a2, f2⟩ := f2
    exact S.sep j k a1 a2 q hjk f1 f2 e3 e4
/-- an own list will not change any more -/
theorem SR.frz (S : SR K b I H σ ρ) {i : Nat} {xs : List PD} (e : ρ[i]? = some (some (.o (.l xs)))) : ∃ I', Gr b.I b.H I' H ∧ Same I I' ∧ SR K b I' H σ (ρ.set i (some (.d (.list xs)))) := by
  obtain ⟨p, u, h1, h2, h3, h4, h5⟩ := S.own i _ e
  cases u with
  | lst vs =>
    have hg : Gr b.I b.H (upd I p (.lst vs)) H := ⟨fun c x q => by
      rw [upd_ne (ne_of_none (S.g.i _ _ q) h2)]
      exact S.g.i _ _ q, S.g.h, fun c x q => by
      by_cases hc : c = p
      · subst hc
        rw [upd_same] at q
        rw [h4, q]
      · rw [upd_ne hc] at q
        exact S.g.s _ _ q, fun c q1 q2 => by
      by_cases hc : c = p
      · subst hc
        exact .inl h3
      · rw [upd_ne hc] at q2
        exact S.g.n c q1 q2⟩
    have hs : Same I (upd I p (.lst vs)) := same_up h2
    refine ⟨upd I p (.lst vs), hg, hs, hg, by rw [List.length_set, S.len], fun j y e2 => ?_, fun j a e2 => ?_, fun j o2 e2 => ?_, fun j k o1 o2 q hjk e1 e2 e3 e4 => ?_⟩
    · rcases get_set e2 with ⟨rfl, z, _⟩ | ⟨hn, e2⟩
      · cases z
        exact ⟨.ref p, h1, .lst (.inl (.inl upd_same)) (Dp.upAll hs _ _ h5)⟩
      · obtain ⟨v, k1, k2⟩ := S.dat j y e2
        exact ⟨v, k1, Dp.up hs _ _ k2⟩
    · rcases get_set e2 with ⟨_, z, _⟩ | ⟨hn, e2⟩
      · cases z
      · exact S.raw j a e2
    · rcases get_set e2 with ⟨_, z, _⟩ | ⟨hn, e2⟩
      · cases z
      · obtain ⟨q, u2, k1, k2, k3, k4, k5⟩ := S.own j o2 e2
        refine ⟨q, u2, k1, ?_, k3, k4, k5.up hs⟩
        rw [upd_ne fun z => ?_]
        · exact k2
        · subst z
          exact S.sep i j _ o2 q hn e e2 h1 k1
    · rcases get_set e1 with ⟨_, z, _⟩ | ⟨_, e1⟩
      · cases z
      · rcases get_set e2 with ⟨_, z, _⟩ | ⟨_, e2⟩
        · cases z
        · exact S.sep j k o1 o2 q hjk e1 e2 e3 e4
  | _ => exact h5.elim
/-- less is known -/
inductive Le : Ro → Ro → Prop
  | nil : Le [] []
  | same {c : Option Cl} {a b : Ro} : Le a b → Le (c :: a) (c :: b)
  | drop {c : Option Cl} {a b : Ro} : Le a b → Le (c :: a) (none :: b)
theorem Le.refl : ∀ ρ : Ro, Le ρ ρ
  | [] => .nil
  | _ :: r => .same (Le.refl r)
theorem Le.len : ∀ {a b : Ro}, Le a b → a.length = b.length
  | _, _, .nil => rfl
  | _, _, .same h => congrArg (· + 1) h.len
  | _, _, .drop h => congrArg (· + 1) h.len
theorem Le.at : ∀ {a b : Ro} {i : Nat} {c : Cl}, Le a b → b[i]? = some (some c) → a[i]? = some (some c)
  | _, _, _, _, .nil, h => h
  | _, _, 0, _, .same _, h => h
  | _, _, i + 1, _, .same t, h => Le.at (i := i) t h
  | _, _, 0, _, .drop _, h => by cases h
  | _, _, i + 1, _, .drop t, h => Le.at (i := i) t h
theorem SR.weak {ρ' : Ro} (S : SR K b I H σ ρ) (l : Le ρ ρ') : SR K b I H σ ρ' :=
  ⟨S.g, S.len.trans l.len, fun i x h => S.dat i x (l.at h), fun i a h => S.raw i a (l.at h), fun i o h => S.own i o (l.at h), fun i j o o' p hn h1 h2 => S.sep i j o o' p hn (l.at h1) (l.at h2)⟩
end
end G
set_option Elab.async false
set_option linter.all false
set_option maxRecDepth 100000
set_option maxHeartbeats 4000000
/-! Expressions. -/
namespace G
open PySem PySem.Spec PyProof.Rows L2

structure Ok0 (X : Cx) : Prop where
  nd : X.N.Nodup
  calm : X.calm = true
  po : PassesOwn (model X.prog X.w) X.A X.env X.xe

/-! ### what must hold so that a piece of syntax does what is wanted -/
def WE (X : Cx) (e : Expr) : TE := fun σ H Q => ∀ (pins : List (Addr × Obj)) (s : Shared), Inv X pins σ H s → wpAny (model X.prog X.w) X.A (eval e X.env) (EP X pins σ Q) X.xe s
def WT (X : Cx) (e : Expr) : TT := fun σ H Q => ∀ (pins : List (Addr × Obj)) (s : Shared), Inv X pins σ H s → wpAny (model X.prog X.w) X.A (isTrue e X.env (eval e X.env)) (TP X pins σ Q) X.xe s
def WW (X : Cx) (e : Expr) : TT := fun σ H Q => ∀ (whole : Sem Value) (pins : List (Addr × Obj)) (s : Shared), Inv X pins σ H s → wpAny (model X.prog X.w) X.A (isTrue e X.env whole) (TP X pins σ Q) X.xe s
def WA (X : Cx) (es : List Expr) : TA := fun σ H Q => ∀ (pos : Pos) (pins : List (Addr × Obj)) (s : Shared), Inv X pins σ H s → wpAny (model X.prog X.w) X.A (spliced (backTo pos (starEach es X.env))) (AP X pins σ Q) X.xe s
def WI (X : Cx) (tg e : Expr) : TI := fun σ H R => ∀ (pins : List (Addr × Obj)) (s : Shared), Inv X pins σ H s → wpAny (model X.prog X.w) X.A (eval e X.env) (fun v s1 => wpAny (model X.prog X.w) X.A (pyIter v) (PIE X pins σ tg R) X.xe s1) X.xe s
def WG (X : Cx) (tg : Expr) : TG := fun v σ H Q => ∀ (pins : List (Addr × Obj)) (s : Shared) (u : Value), Inv X pins σ H s → RelV v u → wpAny (model X.prog X.w) X.A (assign tg X.env u) (fun _ s' => ∃ σ' H', Inv X pins σ' H' s' ∧ Q σ' H') X.xe s
def WGs (X : Cx) (ts : List Expr) : TGs := fun vs σ H Q => ∀ (pins : List (Addr × Obj)) (s : Shared) (us : List Value), Inv X pins σ H s → Vals vs us →
  wpAny (model X.prog X.w) X.A (assignInOrder ((assignEach ts X.env).map (·.2)) us) (fun _ s' => ∃ σ' H', Inv X pins σ' H' s' ∧ Q σ' H') X.xe s
def WS (X : Cx) (st : Stmt) : TS := fun D σ H => ∀ (pins : List (Addr × Obj)) (s : Shared), Inv X pins σ H s → wpAny (model X.prog X.w) X.A (exec st X.env) (SP X pins D) X.xe s
def WSs (X : Cx) (st : List Stmt) : TS := fun D σ H => ∀ (pins : List (Addr × Obj)) (s : Shared), Inv X pins σ H s → wpAny (model X.prog X.w) X.A (execs st X.env) (SP X pins D) X.xe s
section
variable {X : Cx} {e : Expr} {es : List Expr} {tg : Expr} {st : Stmt} {sts : List Stmt} {σ : St} {H : Hp}
theorem pe_w : PE X e (WE X e) := ⟨fun pins s _ _ _ I h => h pins s I⟩
theorem pt_w : PT X e (WT X e) := ⟨fun pins s _ _ _ I h => h pins s I⟩
theorem pw_w : PW X e (WW X e) := ⟨fun wh pins s _ _ _ I h => h wh pins s I⟩
theorem pa_w : PA X es (WA X es) := ⟨fun pos pins s _ _ _ I h => h pos pins s I⟩
theorem pi_w : PI X tg e (WI X tg e) := ⟨fun pins s _ _ _ I h => h pins s I⟩
theorem pg_w : PG X tg (WG X tg) := ⟨fun pins s _ _ _ u _ I r h => h pins s u I r⟩
theorem pgs_w : PGs X es (WGs X es) := ⟨fun pins s _ _ _ us _ I r h => h pins s us I r⟩
theorem ps_w : PS X st (WS X st) := ⟨fun pins s _ _ _ I h => h pins s I⟩
theorem pss_w : PSs X sts (WSs X sts) := ⟨fun pins s _ _ _ I h => h pins s I⟩
theorem WE.of {te : TE} {Q : VK} (h : PE X e te) (q : te σ H Q) : WE X e σ H Q := fun pins s I => h.run pins s σ H Q I q
theorem WT.of {t : TT} {Q : Bool → Hp → Prop} (h : PT X e t) (q : t σ H Q) : WT X e σ H Q := fun pins s I => h.run pins s σ H Q I q
theorem WW.of {t : TT} {Q : Bool → Hp → Prop} (h : PW X e t) (q : t σ H Q) : WW X e σ H Q := fun wh pins s I => h.run wh pins s σ H Q I q
theorem WA.of {t : TA} {Q : List V → Hp → Prop} (h : PA X es t) (q : t σ H Q) : WA X es σ H Q := fun pos pins s I => h.run pos pins s σ H Q I q
theorem WI.of {t : TI} {R : It → Hp → Prop} (h : PI X tg e t) (q : t σ H R) : WI X tg e σ H R := fun pins s I => h.run pins s σ H R I q
theorem WG.of {t : TG} {v : V} {Q : St → Hp → Prop} (h : PG X tg t) (q : t v σ H Q) : WG X tg v σ H Q := fun pins s u I r => h.run pins s σ H v u Q I r q
theorem WGs.of {t : TGs} {vs : List V} {Q : St → Hp → Prop} (h : PGs X es t) (q : t vs σ H Q) : WGs X es vs σ H Q := fun pins s us I r => h.run pins s σ H vs us Q I r q
theorem WS.of {t : TS} {D : Ends} (h : PS X st t) (q : t D σ H) : WS X st D σ H := fun pins s I => h.run pins s σ H D I q
theorem WSs.of {t : TS} {D : Ends} (h : PSs X sts t) (q : t D σ H) : WSs X sts D σ H := fun pins s I => h.run pins s σ H D I q
end

/-! ### what an expression is worth, in data -/
def EvN (X : Cx) (e : Expr) (ρ : Ro) (R : PD → Prop) : Prop := Ok0 X → ∀ b I H σ, SR X.K b I H σ ρ → ∀ Q : VK, (∀ v d I' H', R d → Gr I H I' H' → Dp X.K I' v d → Q v H') → WE X e σ H Q
def EvD (X : Cx) (e : Expr) (ρ : Ro) (d : PD) : Prop := Ok0 X → ∀ b I H σ, SR X.K b I H σ ρ → ∀ Q : VK, (∀ v I' H', Gr I H I' H' → Dp X.K I' v d → Q v H') → WE X e σ H Q
/-- a new own object -/
def EvO (X : Cx) (e : Expr) (ρ : Ro) (o : OD) : Prop := Ok0 X → ∀ b I H σ, SR X.K b I H σ ρ → ∀ Q : VK, (∀ p u I' H', Gr I H I' H' → H p = none → I' p = none → H' p = some u → OwnRep X.K I' p o u → Q (.ref p) H') → WE X e σ H Q
def EvT (X : Cx) (e : Expr) (ρ : Ro) (k : Bool) : Prop := Ok0 X → ∀ b I H σ, SR X.K b I H σ ρ → ∀ Q : Bool → Hp → Prop, (∀ I' H', Gr I H I' H' → Q k H') → WT X e σ H Q
def EvW (X : Cx) (e : Expr) (ρ : Ro) (k : Bool) : Prop := Ok0 X → ∀ b I H σ, SR X.K b I H σ ρ → ∀ Q : Bool → Hp → Prop, (∀ I' H', Gr I H I' H' → Q k H') → WW X e σ H Q
def EvA (X : Cx) (es : List Expr) (ρ : Ro) (ds : List PD) : Prop := Ok0 X → ∀ b I H σ, SR X.K b I H σ ρ → ∀ Q : List V → Hp → Prop, (∀ vs I' H', Gr I H I' H' → DpAll X.K I' vs ds → Q vs H') → WA X es σ H Q

section
variable {X : Cx} {ρ : Ro} {a c e : Expr} {es : List Expr} {d d1 d2 : PD} {ds : List PD} {pos p : Pos} {k k1 k2 : Bool}
theorem EvD.n {R : PD → Prop} (h : EvD X e ρ d) (r : R d) : EvN X e ρ R := fun ok b I H σ S Q q => h ok b I H σ S Q fun v I' H' g dv => q v d I' H' r g dv
theorem EvO.data {xs : List PD} (h : EvO X e ρ (.l xs)) : EvD X e ρ (.list xs) := fun ok b I H σ S Q q => h ok b I H σ S Q fun p u I' H' g h0 h1 h2 h3 => by
  cases u with
  | lst vs =>
    have g' := Gr.freeze S.same g h0 h2
    exact q (.ref p) _ H' g' (.lst (.inl (.inl upd_same)) (Dp.upAll (same_up h1) _ _ h3))
  | _ => exact h3.elim
theorem ev_is (h : EvD X e ρ d1) (hd : d1 = d) : EvD X e ρ d := hd ▸ h
theorem et_is (h : EvT X e ρ k1) (hd : k1 = k) : EvT X e ρ k := hd ▸ h
theorem eo_is {o o' : OD} (h : EvO X e ρ o) (hd : o = o') : EvO X e ρ o' := hd ▸ h
theorem nm (i : Nat) {x : Str} (hρ : ρ[i]? = some (some (.d d)) := by rfl) (hN : X.N[i]? = some x := by rfl)
    (hv : Vis X.env.scope x := by first | exact Or.inl rfl | exact Or.inr (Or.inl rfl) | exact Or.inr (Or.inr rfl)) (hd : (x == ("__debug__" : Str)) = false := by decide) (hcd : (x == ("__classdict__" : Str)) = false := by decide) :
    EvD X (.Name x p) ρ d := fun ok b I H σ S Q q => by
  obtain ⟨v, h1, h2⟩ := S.dat i d hρ
  exact WE.of (pe_var hN hv hd hcd) ⟨v, h1, q v I H (Gr.refl S.same) h2⟩
theorem ev_int {i : Int} {j : Nat} : EvD X (.Constant (.int i) j p) ρ (.int i) := fun ok b I H σ S Q q => WE.of pe_int (q _ I H (Gr.refl S.same) (.int i))
theorem ev_bl {i : Bool} {j : Nat} : EvD X (.Constant (.bool i) j p) ρ (.bool i) := fun ok b I H σ S Q q => WE.of pe_bl (q _ I H (Gr.refl S.same) (.bl i))
theorem ev_non {j : Nat} : EvD X (.Constant .none j p) ρ .none := fun ok b I H σ S Q q => WE.of pe_non (q _ I H (Gr.refl S.same) .non)
theorem ev_str {x : Str} {j : Nat} : EvD X (.Constant (.str x) j p) ρ (.str x) := fun ok b I H σ S Q q => WE.of pe_str (q _ I H (Gr.refl S.same) (.str x))
theorem ev_gint {x : Str} {i : Int} {t : Tok} (hm : X.mg x = some (.int i t)) (hg : Gl X x := by rfl) (hd : (x == ("__debug__" : Str)) = false := by decide) : EvD X (.Name x p) ρ (.int i) := fun ok b I H σ S Q q => WE.of (pe_glob (v := .int i) hg hm ⟨_, rfl⟩ hd) (q _ I H (Gr.refl S.same) (.int i))
theorem ev_gstr {x z : Str} {t : Tok} (hm : X.mg x = some (.str z t)) (hg : Gl X x := by rfl) (hd : (x == ("__debug__" : Str)) = false := by decide) : EvD X (.Name x p) ρ (.str z) := fun ok b I H σ S Q q => WE.of (pe_glob (v := .str z) hg hm ⟨_, rfl⟩ hd) (q _ I H (Gr.refl S.same) (.str z))
theorem ev_bin {op : Operator} {r : R2} (ho : OpR X (binaryOp op) r) (ha : EvD X a ρ d1) (hb : EvD X c ρ d2)
    (hr : ∀ I H x y (Q : VK), Same I H → Dp X.K I x d1 → Dp X.K I y d2 → (∀ v I' H', Gr I H I' H' → Dp X.K I' v d → Q v H') → r x y H Q) : EvD X (.BinOp a op c p) ρ d := fun ok b I H σ S Q q => by
  refine WE.of (pe_op ho pe_w pe_w) ?_
  exact ha ok b I H σ S _ fun x I1 H1 g1 dx => hb ok b I1 H1 σ (S.grow g1) _ fun y I2 H2 g2 dy => hr I2 H2 x y Q g2.s (Dp.up g2.i _ _ dx) dy fun v I3 H3 g3 dv => q v I3 H3 ((g1.trans g2).trans g3) dv
theorem ev_binI {op : Operator} {C : Int → Int → Prop} {g : Int → Int → Int} {i j : Int} (ho : OpR X (binaryOp op) (rI C fun i j => .int (g i j))) (ha : EvD X a ρ (.int i)) (hb : EvD X c ρ (.int j)) (hc : C i j) : EvD X (.BinOp a op c p) ρ (.int (g i j)) :=
  ev_bin ho ha hb fun I H x y Q s dx dy q => ⟨i, j, dp_int dx, dp_int dy, hc, q _ I H (Gr.refl s) (.int _)⟩
theorem ev_binI0 {op : Operator} {g : Int → Int → Int} {i j : Int} (ho : OpR X (binaryOp op) (rI0 fun i j => .int (g i j))) (ha : EvD X a ρ (.int i)) (hb : EvD X c ρ (.int j)) : EvD X (.BinOp a op c p) ρ (.int (g i j)) :=
  ev_bin ho ha hb fun I H x y Q s dx dy q => ⟨i, j, dp_int dx, dp_int dy, q _ I H (Gr.refl s) (.int _)⟩
variable {i j : Int}
theorem ev_add (ha : EvD X a ρ (.int i)) (hb : EvD X c ρ (.int j)) : EvD X (.BinOp a .Add c p) ρ (.int (i + j)) := ev_binI0 op_add ha hb
theorem ev_sub (ha : EvD X a ρ (.int i)) (hb : EvD X c ρ (.int j)) : EvD X (.BinOp a .Sub c p) ρ (.int (i - j)) := ev_binI0 op_sub ha hb
theorem ev_mul (hc : CMulX i j) (ha : EvD X a ρ (.int i)) (hb : EvD X c ρ (.int j)) : EvD X (.BinOp a .Mult c p) ρ (.int (i * j)) := ev_binI (g := fun i j => i * j) op_mulX ha hb hc
theorem ev_div (hc : CDivW i j) (ha : EvD X a ρ (.int i)) (hb : EvD X c ρ (.int j)) : EvD X (.BinOp a .FloorDiv c p) ρ (.int (i / j)) := ev_binI (g := fun i j => i / j) op_fdivW ha hb hc
theorem ev_mod (hc : 0 < j) (ha : EvD X a ρ (.int i)) (hb : EvD X c ρ (.int j)) : EvD X (.BinOp a .Mod c p) ρ (.int (i % j)) := ev_binI (C := fun _ j => 0 < j) (g := fun i j => i % j) op_mod ha hb hc
theorem ev_shl (hc : CShl i j) (ha : EvD X a ρ (.int i)) (hb : EvD X c ρ (.int j)) : EvD X (.BinOp a .LShift c p) ρ (.int (i * 2 ^ j.toNat)) := ev_binI (g := fun i j => i * 2 ^ j.toNat) op_shlW ha hb hc
theorem ev_shr (hc : 0 ≤ j) (ha : EvD X a ρ (.int i)) (hb : EvD X c ρ (.int j)) : EvD X (.BinOp a .RShift c p) ρ (.int (i / 2 ^ j.toNat)) := ev_binI (C := fun _ j => 0 ≤ j) (g := fun i j => i / 2 ^ j.toNat) op_shr ha hb hc
theorem ev_xor (ha : EvD X a ρ (.int i)) (hb : EvD X c ρ (.int j)) : EvD X (.BinOp a .BitXor c p) ρ (.int (Builtin.bitXor i j)) := ev_binI0 op_xor ha hb
theorem ev_pow (hc : CPow i j) (ha : EvD X a ρ (.int i)) (hb : EvD X c ρ (.int j)) : EvD X (.BinOp a .Pow c p) ρ (.int (i ^ j.toNat)) := ev_binI (g := fun i j => i ^ j.toNat) op_pow ha hb hc
theorem ev_adds {x y : Str} (hl : x.length + y.length ≤ sizeLine) (ha : EvD X a ρ (.str x)) (hb : EvD X c ρ (.str y)) : EvD X (.BinOp a .Add c p) ρ (.str (x ++ y)) :=
  ev_bin op_add_str ha hb fun I H u v Q s dx dy q => ⟨x, y, dp_str dx, dp_str dy, hl, q _ I H (Gr.refl s) (.str _)⟩
theorem ev_neg {i : Int} (ha : EvD X a ρ (.int i)) : EvD X (.UnaryOp .USub a p) ρ (.int (-i)) := fun ok b I H σ S Q q =>
  WE.of (pe_un un_neg pe_w) (ha ok b I H σ S _ fun x I1 H1 g1 dx => ⟨i, dp_int dx, q _ I1 H1 g1 (.int _)⟩)
theorem ev_bits {apos : Pos} {i : Int} (ho : EvD X a ρ (.int i)) (hbase : attributeBase a "bit_length" X.env (eval a X.env) = eval a X.env := by rfl) (hline : (apos.endLine == p.line) = true := by rfl) : EvD X (.Call (.Attribute a "bit_length" apos) [] [] p) ρ (.int (Builtin.Int.intBits i : Nat)) := fun ok b I H σ S Q q =>
  WE.of (pe_bits pe_w hbase hline) (ho ok b I H σ S _ fun x I1 H1 g1 dx => ⟨i, dp_int dx, q _ I1 H1 g1 (.int _)⟩)
/-! comparisons -/
def CmpR (X : Cx) (op : CmpOp) (d1 d2 : PD) (k : Bool) : Prop := ∃ r : R2, OpR X (compareOp op) r ∧ ∀ I H x y (Q : VK), Same I H → Dp X.K I x d1 → Dp X.K I y d2 → Q (.bl k) H → r x y H Q
theorem c_lt : CmpR X .Lt (.int i) (.int j) (decide (i < j)) := ⟨_, op_lt, fun I H x y Q s dx dy q => ⟨i, j, dp_int dx, dp_int dy, q⟩⟩
theorem c_le : CmpR X .LtE (.int i) (.int j) (decide (i ≤ j)) := ⟨_, op_le, fun I H x y Q s dx dy q => ⟨i, j, dp_int dx, dp_int dy, q⟩⟩
theorem c_gt : CmpR X .Gt (.int i) (.int j) (decide (j < i)) := ⟨_, op_gt, fun I H x y Q s dx dy q => ⟨i, j, dp_int dx, dp_int dy, q⟩⟩
theorem c_ge : CmpR X .GtE (.int i) (.int j) (decide (j ≤ i)) := ⟨_, op_ge, fun I H x y Q s dx dy q => ⟨i, j, dp_int dx, dp_int dy, q⟩⟩
theorem c_eqI : CmpR X .Eq (.int i) (.int j) (decide (i = j)) := ⟨_, op_eq, fun I H x y Q s dx dy q => by
  cases dp_int dx
  cases dp_int dy
  refine ⟨rfl, ?_⟩
  rw [show decide (V.int i = V.int j) = decide (i = j) by
    by_cases e : i = j
    · rw [e, decide_eq_true rfl, decide_eq_true rfl]
    · rw [decide_eq_false e, decide_eq_false fun z => e (V.int.inj z)]]
  exact q⟩
theorem c_neI : CmpR X .NotEq (.int i) (.int j) (!decide (i = j)) := ⟨_, op_ne, fun I H x y Q s dx dy q => by
  cases dp_int dx
  cases dp_int dy
  refine ⟨rfl, ?_⟩
  rw [show decide (V.int i = V.int j) = decide (i = j) by
    by_cases e : i = j
    · rw [e, decide_eq_true rfl, decide_eq_true rfl]
    · rw [decide_eq_false e, decide_eq_false fun z => e (V.int.inj z)]]
  exact q⟩
theorem c_eqS {x y : Str} : CmpR X .Eq (.str x) (.str y) (decide (x = y)) := ⟨_, op_eq, fun I H u v Q s dx dy q => by
  cases dp_str dx
  cases dp_str dy
  refine ⟨rfl, ?_⟩
  rw [show decide (V.str x = V.str y) = decide (x = y) by
    by_cases e : x = y
    · rw [e, decide_eq_true rfl, decide_eq_true rfl]
    · rw [decide_eq_false e, decide_eq_false fun z => e (V.str.inj z)]]
  exact q⟩
theorem c_neS {x y : Str} : CmpR X .NotEq (.str x) (.str y) (!decide (x = y)) := ⟨_, op_ne, fun I H u v Q s dx dy q => by
  cases dp_str dx
  cases dp_str dy
  refine ⟨rfl, ?_⟩
  rw [show decide (V.str x = V.str y) = decide (x = y) by
    by_cases e : x = y
    · rw [e, decide_eq_true rfl, decide_eq_true rfl]
    · rw [decide_eq_false e, decide_eq_false fun z => e (V.str.inj z)]]
  exact q⟩
theorem c_eqD (hu : X.A.units + 64 < cLine) (h1 : SeqAt.shaped d1 = true) (h2 : SeqAt.shaped d2 = true) (f1 : flat d1 = true) (f2 : flat d2 = true) : CmpR X .Eq d1 d2 (PyData.eqv d1 d2) := ⟨_, op_eqD hu, fun I H x y Q s dx dy q => ⟨d1, d2, (Dp.up s _ _ dx).kit f1, (Dp.up s _ _ dy).kit f2, h1, h2, q⟩⟩
theorem c_neD (hu : X.A.units + 64 < cLine) (h1 : SeqAt.shaped d1 = true) (h2 : SeqAt.shaped d2 = true) (f1 : flat d1 = true) (f2 : flat d2 = true) : CmpR X .NotEq d1 d2 (!PyData.eqv d1 d2) := ⟨_, op_neD hu, fun I H x y Q s dx dy q => ⟨d1, d2, (Dp.up s _ _ dx).kit f1, (Dp.up s _ _ dy).kit f2, h1, h2, q⟩⟩
def isNone : PD → Bool
  | .none => true
  | _ => false
theorem dp_isNone {K : PySem.W.Frag} {I : Hp} {v : V} {d : PD} (h : Dp K I v d) : decide (v = .non) = isNone d := by
  cases h <;> rfl
theorem c_isN : CmpR X .Is d1 .none (isNone d1) := ⟨_, op_isN, fun I H x y Q s dx dy q => ⟨dp_non dy, by rw [dp_isNone dx]; exact q⟩⟩
theorem c_notN : CmpR X .IsNot d1 .none (!isNone d1) := ⟨_, op_notN, fun I H x y Q s dx dy q => ⟨dp_non dy, by rw [dp_isNone dx]; exact q⟩⟩
theorem c_inS {n : Nat} {z : Str} : CmpR X .In (.str ⟨#[n]⟩) (.str z) (decide (n ∈ z.cps.toList)) := ⟨_, op_in_sign, fun I H x y Q s dx dy q => ⟨n, z, dp_str dx, dp_str dy, q⟩⟩
theorem ev_cmp {op : CmpOp} (hc : CmpR X op d1 d2 k) (ha : EvD X a ρ d1) (hb : EvD X c ρ d2) (hm : behindInMarks op c = false := by first | exact nomark _ | rfl) : EvD X (.Compare a [op] [c] p) ρ (.bool k) := fun ok b I H σ S Q q => by
  obtain ⟨r, ho, hr⟩ := hc
  refine WE.of (pe_cmpR ho pe_w pe_w hm) ?_
  exact ha ok b I H σ S _ fun x I1 H1 g1 dx => hb ok b I1 H1 σ (S.grow g1) _ fun y I2 H2 g2 dy => hr I2 H2 x y Q g2.s (Dp.up g2.i _ _ dx) dy (q _ I2 H2 (g1.trans g2) (.bl k))
theorem et_cmp {op : CmpOp} (hc : CmpR X op d1 d2 k) (ha : EvD X a ρ d1) (hb : EvD X c ρ d2) (hm : behindInMarks op c = false := by first | exact nomark _ | rfl) : EvT X (.Compare a [op] [c] p) ρ k := fun ok b I H σ S Q q => by
  obtain ⟨r, ho, hr⟩ := hc
  refine WT.of (pt_cmpR ho pe_w pe_w hm) ?_
  exact ha ok b I H σ S _ fun x I1 H1 g1 dx => hb ok b I1 H1 σ (S.grow g1) _ fun y I2 H2 g2 dy => hr I2 H2 x y _ g2.s (Dp.up g2.i _ _ dx) dy ⟨k, rfl, q I2 H2 (g1.trans g2)⟩
theorem et_val (h : EvD X e ρ (.bool k)) (he : ∀ whole, isTrue e X.env whole = (do let v ← whole; standAt e.pos; holding [v] (truthy v)) := by intro _; rfl) : EvT X e ρ k := fun ok b I H σ S Q q =>
  WT.of (pt_val pe_w he) (h ok b I H σ S _ fun x I1 H1 g1 dx => ⟨k, dp_bl dx, q I1 H1 g1⟩)
theorem et_not (h : EvT X e ρ k) : EvT X (.UnaryOp .Not e p) ρ (!k) := fun ok b I H σ S Q q =>
  WT.of (pt_not pt_w) (h ok b I H σ S _ fun I1 H1 g1 => q I1 H1 g1)
theorem et_w (h : EvW X e ρ k) : EvT X e ρ k := fun ok b I H σ S Q q => WT.of (PW.pt pw_w) (h ok b I H σ S Q q)
theorem ew_and1 (h : EvT X a ρ k) : EvW X (.BoolOp .And [a] p) ρ k := fun ok b I H σ S Q q => WW.of (pw_and1 pt_w) (h ok b I H σ S Q q)
theorem ew_or1 (h : EvT X a ρ k) : EvW X (.BoolOp .Or [a] p) ρ k := fun ok b I H σ S Q q => WW.of (pw_or1 pt_w) (h ok b I H σ S Q q)
theorem ew_and {rest : List Expr} (h1 : EvT X a ρ k1) (h2 : k1 = true → EvW X (.BoolOp .And (c :: rest) p) ρ k2) : EvW X (.BoolOp .And (a :: c :: rest) p) ρ (k1 && k2) := fun ok b I H σ S Q q => by
  refine WW.of (pw_and pt_w pw_w) (h1 ok b I H σ S _ fun I1 H1 g1 => ?_)
  cases k1 with
  | false =>
    rw [if_neg Bool.false_ne_true]
    exact q I1 H1 g1
  | true =>
    rw [if_pos rfl]
    exact h2 rfl ok b I1 H1 σ (S.grow g1) Q fun I2 H2 g2 => q I2 H2 (g1.trans g2)
theorem ew_or {rest : List Expr} (h1 : EvT X a ρ k1) (h2 : k1 = false → EvW X (.BoolOp .Or (c :: rest) p) ρ k2) : EvW X (.BoolOp .Or (a :: c :: rest) p) ρ (k1 || k2) := fun ok b I H σ S Q q => by
  refine WW.of (pw_or pt_w pw_w) (h1 ok b I H σ S _ fun I1 H1 g1 => ?_)
  cases k1 with
  | true =>
    rw [if_pos rfl]
    exact q I1 H1 g1
  | false =>
    rw [if_neg Bool.false_ne_true]
    exact h2 rfl ok b I1 H1 σ (S.grow g1) Q fun I2 H2 g2 => q I2 H2 (g1.trans g2)
theorem ev_one {op : BoolOp} (h : EvD X a ρ d) : EvD X (.BoolOp op [a] p) ρ d := fun ok b I H σ S Q q => WE.of (pe_one pe_w) (h ok b I H σ S Q q)
theorem ev_and {rest : List Expr} (h1 : EvD X a ρ (.bool k1)) (h2 : k1 = true → EvD X (.BoolOp .And (c :: rest) p) ρ (.bool k2)) : EvD X (.BoolOp .And (a :: c :: rest) p) ρ (.bool (k1 && k2)) := fun ok b I H σ S Q q => by
  refine WE.of (pe_and pe_w pe_w) (h1 ok b I H σ S _ fun x I1 H1 g1 dx => ⟨k1, dp_bl dx, ?_⟩)
  cases k1 with
  | false =>
    rw [if_neg Bool.false_ne_true]
    exact q _ I1 H1 g1 (.bl false)
  | true =>
    rw [if_pos rfl]
    exact h2 rfl ok b I1 H1 σ (S.grow g1) Q fun v I2 H2 g2 dv => q v I2 H2 (g1.trans g2) dv
theorem ev_notV (h : EvD X a ρ (.bool k)) : EvD X (.UnaryOp .Not a p) ρ (.bool (!k)) := fun ok b I H σ S Q q =>
  WE.of (pe_not pe_w) (h ok b I H σ S _ fun x I1 H1 g1 dx => ⟨k, dp_bl dx, q _ I1 H1 g1 (.bl _)⟩)
theorem ev_if {t : Expr} (ht : EvT X t ρ k) (h1 : k = true → EvD X a ρ d) (h2 : k = false → EvD X c ρ d) : EvD X (.IfExp t a c p) ρ d := fun ok b I H σ S Q q => by
  refine WE.of (pe_ifExp pt_w pe_w pe_w) (ht ok b I H σ S _ fun I1 H1 g1 => ?_)
  cases k with
  | false =>
    rw [if_neg Bool.false_ne_true]
    exact h2 rfl ok b I1 H1 σ (S.grow g1) Q fun v I2 H2 g2 dv => q v I2 H2 (g1.trans g2) dv
  | true =>
    rw [if_pos rfl]
    exact h1 rfl ok b I1 H1 σ (S.grow g1) Q fun v I2 H2 g2 dv => q v I2 H2 (g1.trans g2) dv
/-! argument lists, displays -/
theorem ea_nil : EvA X [] ρ [] := fun ok b I H σ S Q q => WA.of pa_nil (q [] I H (Gr.refl S.same) .nil)
theorem ea_cons (h : EvD X e ρ d) (hr : EvA X es ρ ds) (hs : starEach (e :: es) X.env = (false, eval e X.env) :: starEach es X.env := by rfl) : EvA X (e :: es) ρ (d :: ds) := fun ok b I H σ S Q q =>
  WA.of (pa_cons pe_w pa_w hs) (h ok b I H σ S _ fun x I1 H1 g1 dx => hr ok b I1 H1 σ (S.grow g1) _ fun vs I2 H2 g2 dvs => q _ I2 H2 (g1.trans g2) (.cons (Dp.up g2.i _ _ dx) dvs))
theorem ev_tup {x1 : Nat} (h : EvA X es ρ ds) (hl : Nat.ble ds.length 1000 = true := by rfl) : EvD X (.Tuple es x1 p) ρ (.tuple ds) := fun ok b I H σ S Q q =>
  WE.of (pe_tup pa_w) (h ok b I H σ S _ fun vs I1 H1 g1 dvs => ⟨Nat.le_of_lt (small1000 (by rw [dvs.len]; exact Nat.le_of_ble_eq_true hl)), fun pn hp =>
    q (.ref pn) _ _ (g1.trans (Gr.new g1.s hp)) (.tup upd_same (Dp.upAll (same_up (g1.s.free hp)) _ _ dvs))⟩)
theorem eo_lst (h : EvA X es ρ ds) (hl : Nat.ble ds.length 1000 = true := by rfl) : EvO X (.List es p) ρ (.l ds) := fun ok b I H σ S Q q =>
  WE.of (pe_lst pa_w) (h ok b I H σ S _ fun vs I1 H1 g1 dvs => ⟨Nat.le_of_lt (small1000 (by rw [dvs.len]; exact Nat.le_of_ble_eq_true hl)), fun pn hp =>
    q pn _ I1 _ (g1.trans (Gr.newM g1.s hp)) (g1.h.free hp) (g1.s.free hp) upd_same dvs⟩)
/-! subscripts -/
theorem ev_ixT {n : Int} (ha : EvD X a ρ (.tuple ds)) (hb : EvD X c ρ (.int n)) (hi : atI ds n = some d) (hs : PlainIx c := by exact fun _ _ => rfl) : EvD X (.Subscript a c p) ρ d := fun ok b I H σ S Q q =>
  WE.of (pe_ix ix_tup pe_w pe_w hs) (ha ok b I H σ S _ fun x I1 H1 g1 dx => hb ok b I1 H1 σ (S.grow g1) _ fun y I2 H2 g2 dy => by
    obtain ⟨t, xs, rfl, h1, h2⟩ := dp_tup (Dp.up g2.i _ _ dx)
    obtain ⟨j, e1, e2, e3, e4, e5⟩ := atI_get hi
    obtain ⟨v, k1, k2⟩ := h2.get e2
    refine ⟨t, xs, n, v, rfl, dp_int dy, sqt_same g2.s h1, ?_, q v I2 H2 (g1.trans g2) k2⟩
    unfold atI at hi ⊢
    rw [h2.len]
    cases w : ixN ds.length n with
    | none =>
      rw [w] at hi
      cases hi
    | some j' =>
      have : j' = j := Option.some.inj ((ixN_seq w).1.symm.trans e1)
      subst this
      exact k1)
theorem ev_ixL {n : Int} (ha : EvD X a ρ (.list ds)) (hb : EvD X c ρ (.int n)) (hi : atI ds n = some d) (hs : PlainIx c := by exact fun _ _ => rfl) : EvD X (.Subscript a c p) ρ d := fun ok b I H σ S Q q =>
  WE.of (pe_ix ix_list pe_w pe_w hs) (ha ok b I H σ S _ fun x I1 H1 g1 dx => hb ok b I1 H1 σ (S.grow g1) _ fun y I2 H2 g2 dy => by
    obtain ⟨t, xs, rfl, h1, h2⟩ := dp_lst (Dp.up g2.i _ _ dx)
    obtain ⟨j, e1, e2, e3, e4, e5⟩ := atI_get hi
    obtain ⟨v, k1, k2⟩ := h2.get e2
    refine ⟨t, xs, n, v, rfl, dp_int dy, g2.s.seq h1, ?_, q v I2 H2 (g1.trans g2) k2⟩
    unfold atI at hi ⊢
    rw [h2.len]
    cases w : ixN ds.length n with
    | none =>
      rw [w] at hi
      cases hi
    | some j' =>
      have : j' = j := Option.some.inj ((ixN_seq w).1.symm.trans e1)
      subst this
      exact k1)
/-- of an own list, by its name -/
theorem ev_ixO (i0 : Nat) {n : Int} {x : Str} {p' : Pos} (hb : EvD X c ρ (.int n)) (hi : atI ds n = some d) (hρ : ρ[i0]? = some (some (.o (.l ds))) := by rfl) (hN : X.N[i0]? = some x := by rfl)
    (hv : Vis X.env.scope x := by first | exact Or.inl rfl | exact Or.inr (Or.inl rfl) | exact Or.inr (Or.inr rfl)) (hd : (x == ("__debug__" : Str)) = false := by decide) (hcd : (x == ("__classdict__" : Str)) = false := by decide)
    (hs : PlainIx c := by exact fun _ _ => rfl) : EvD X (.Subscript (.Name x p') c p) ρ d := fun ok b I H σ S Q q => by
  obtain ⟨t, u, h1, h2, h3, h4, h5⟩ := S.own i0 _ hρ
  cases u with
  | lst xs =>
    refine WE.of (pe_ix ix_list (pe_var hN hv hd hcd) pe_w hs) ⟨.ref t, h1, hb ok b I H σ S _ fun y I2 H2 g2 dy => ?_⟩
    have h5' : DpAll X.K I2 xs ds := Dp.upAll g2.i _ _ h5
    obtain ⟨j, e1, e2, e3, e4, e5⟩ := atI_get hi
    obtain ⟨v, k1, k2⟩ := h5'.get e2
    refine ⟨t, xs, n, v, rfl, dp_int dy, .inl (.inl (g2.h _ _ h4)), ?_, q v I2 H2 g2 k2⟩
    unfold atI at hi ⊢
    rw [h5'.len]
    cases w : ixN ds.length n with
    | none =>
      rw [w] at hi
      cases hi
    | some j' =>
      have : j' = j := Option.some.inj ((ixN_seq w).1.symm.trans e1)
      subst this
      exact k1
  | _ => exact h5.elim
theorem ev_ixS {n : Int} {z : Str} {m : Nat} (hz : z.length ≤ sizeLine) (ha : EvD X a ρ (.str z)) (hb : EvD X c ρ (.int n)) (hi : atI z.cps.toList n = some m) (hs : PlainIx c := by exact fun _ _ => rfl) : EvD X (.Subscript a c p) ρ (.str ⟨#[m]⟩) := fun ok b I H σ S Q q =>
  WE.of (pe_ix ix_str pe_w pe_w hs) (ha ok b I H σ S _ fun x I1 H1 g1 dx => hb ok b I1 H1 σ (S.grow g1) _ fun y I2 H2 g2 dy =>
    ⟨z, n, m, dp_str dx, dp_int dy, hz, hi, q _ I2 H2 (g1.trans g2) (.str _)⟩)
/-! calls of built-ins -/
theorem ev_callB {id : String} {r : List V → Hp → VK → Prop} {x : Str} {p' : Pos} (hc : CallR X (.builtin id) r) (hm : X.mg x = none) (hv : bootBuiltins x = some (.builtin id)) (ha : EvA X (e :: es) ρ ds)
    (hr : ∀ I H vs (Q : VK), Same I H → DpAll X.K I vs ds → (∀ v I' H', Gr I H I' H' → Dp X.K I' v d → Q v H') → r vs H Q) (hg : Gl X x := by rfl) (hn : x ≠ "__name__" := by decide) (hdb : (x == ("__debug__" : Str)) = false := by decide)
    (he : starEach (e :: es) X.env = (false, eval e X.env) :: starEach es X.env := by rfl) (hpl : (backTo pos (starEach es X.env)).any (·.1) = false := by rfl) : EvD X (.Call (.Name x p') (e :: es) [] pos) ρ d := fun ok b I H σ S Q q =>
  WE.of (pe_callB hc hg hm hv pa_w hn hdb he hpl) (ha ok b I H σ S _ fun vs I1 H1 g1 dvs => hr I1 H1 vs Q g1.s dvs fun v I2 H2 g2 dv => q v I2 H2 (g1.trans g2) dv)
theorem ev_callTy {T : String} {r : List V → Hp → VK → Prop} {x : Str} {p' : Pos} (hc : CallR X (.type T) r) (hm : X.mg x = none) (hv : bootBuiltins x = some (.type T)) (ha : EvA X (e :: es) ρ ds)
    (hr : ∀ I H vs (Q : VK), Same I H → DpAll X.K I vs ds → (∀ v I' H', Gr I H I' H' → Dp X.K I' v d → Q v H') → r vs H Q) (hg : Gl X x := by rfl) (hn : x ≠ "__name__" := by decide) (hdb : (x == ("__debug__" : Str)) = false := by decide)
    (he : starEach (e :: es) X.env = (false, eval e X.env) :: starEach es X.env := by rfl) (hpl : (backTo pos (starEach es X.env)).any (·.1) = false := by rfl) : EvD X (.Call (.Name x p') (e :: es) [] pos) ρ d := fun ok b I H σ S Q q =>
  WE.of (pe_callTy hc hg hm hv pa_w hn hdb he hpl) (ha ok b I H σ S _ fun vs I1 H1 g1 dvs => hr I1 H1 vs Q g1.s dvs fun v I2 H2 g2 dv => q v I2 H2 (g1.trans g2) dv)
theorem dpa1 {K : PySem.W.Frag} {I : Hp} {vs : List V} {d : PD} (h : DpAll K I vs [d]) : ∃ v, vs = [v] ∧ Dp K I v d := by
  cases h with
  | cons a b =>
    cases b
    exact ⟨_, rfl, a⟩
theorem dpa2 {K : PySem.W.Frag} {I : Hp} {vs : List V} {d e : PD} (h : DpAll K I vs [d, e]) : ∃ v w, vs = [v, w] ∧ Dp K I v d ∧ Dp K I w e := by
  cases h with
  | cons a b =>
    obtain ⟨w, rfl, h2⟩ := dpa1 b
    exact ⟨_, w, rfl, a, h2⟩
theorem ev_lenL {p' : Pos} (hm : X.mg "len" = none) (ha : EvD X e ρ (.list ds)) (hg : Gl X "len" := by rfl) (hs : starEach [e] X.env = [(false, eval e X.env)] := by rfl) : EvD X (.Call (.Name "len" p') [e] [] pos) ρ (.int (ds.length : Nat)) :=
  ev_callB call_len_seq hm PySem.boot_len (ea_cons ha ea_nil hs) (fun I H vs Q s dvs q => by
    obtain ⟨v, rfl, dv⟩ := dpa1 dvs
    obtain ⟨t, xs, rfl, h1, h2⟩ := dp_lst dv
    refine ⟨t, xs, rfl, .inl (s.seq h1), ?_⟩
    rw [h2.len]
    exact q _ I H (Gr.refl s) (.int _)) hg (he := hs) (hpl := rfl)
theorem ev_lenT {p' : Pos} (hm : X.mg "len" = none) (ha : EvD X e ρ (.tuple ds)) (hg : Gl X "len" := by rfl) (hs : starEach [e] X.env = [(false, eval e X.env)] := by rfl) : EvD X (.Call (.Name "len" p') [e] [] pos) ρ (.int (ds.length : Nat)) :=
  ev_callB call_len_seq hm PySem.boot_len (ea_cons ha ea_nil hs) (fun I H vs Q s dvs q => by
    obtain ⟨v, rfl, dv⟩ := dpa1 dvs
    obtain ⟨t, xs, rfl, h1, h2⟩ := dp_tup dv
    refine ⟨t, xs, rfl, .inr (sqt_same s h1), ?_⟩
    rw [h2.len]
    exact q _ I H (Gr.refl s) (.int _)) hg (he := hs) (hpl := rfl)
theorem ev_lenS {p' : Pos} {z : Str} (hm : X.mg "len" = none) (hz : z.length ≤ sizeLine) (ha : EvD X e ρ (.str z)) (hg : Gl X "len" := by rfl) (hs : starEach [e] X.env = [(false, eval e X.env)] := by rfl) : EvD X (.Call (.Name "len" p') [e] [] pos) ρ (.int (z.length : Nat)) :=
  ev_callB call_len_str hm PySem.boot_len (ea_cons ha ea_nil hs) (fun I H vs Q s dvs q => by
    obtain ⟨v, rfl, dv⟩ := dpa1 dvs
    exact ⟨z, by rw [dp_str dv], hz, q _ I H (Gr.refl s) (.int _)⟩) hg (he := hs) (hpl := rfl)
theorem ev_sum {p' : Pos} {ns : List Int} (hm : X.mg "sum" = none) (ha : EvD X e ρ (.list (ns.map PyData.int))) (hcalm : X.calm = true := by rfl) (hg : Gl X "sum" := by rfl) (hs : starEach [e] X.env = [(false, eval e X.env)] := by rfl) : EvD X (.Call (.Name "sum" p') [e] [] pos) ρ (.int ns.sum) :=
  ev_callB (cr_sum hcalm) hm (by decide +kernel) (ea_cons ha ea_nil hs) (fun I H vs Q s dvs q => by
    obtain ⟨v, rfl, dv⟩ := dpa1 dvs
    obtain ⟨t, xs, rfl, h1, h2⟩ := dp_lst dv
    have e1 := h2.ints
    subst e1
    exact ⟨t, ns, rfl, s.seq h1, q _ I H (Gr.refl s) (.int _)⟩) hg (he := hs) (hpl := rfl)
theorem ev_all {p' : Pos} {bs : List Bool} (hm : X.mg "all" = none) (ha : EvD X e ρ (.list (bs.map PyData.bool))) (hcalm : X.calm = true := by rfl) (hg : Gl X "all" := by rfl) (hs : starEach [e] X.env = [(false, eval e X.env)] := by rfl) : EvD X (.Call (.Name "all" p') [e] [] pos) ρ (.bool (bs.all id)) :=
  ev_callB (cr_all hcalm) hm (by decide +kernel) (ea_cons ha ea_nil hs) (fun I H vs Q s dvs q => by
    obtain ⟨v, rfl, dv⟩ := dpa1 dvs
    obtain ⟨t, xs, rfl, h1, h2⟩ := dp_lst dv
    have e1 := h2.bls
    subst e1
    exact ⟨t, bs, rfl, s.seq h1, q _ I H (Gr.refl s) (.bl _)⟩) hg (he := hs) (hpl := rfl)
def maxL : List Int → Int
  | [] => 0
  | [x] => x
  | x :: r => if maxL r > x then maxL r else x
theorem maxL_max : ∀ {ns : List Int}, 0 < ns.length → maxL ns ∈ ns ∧ ∀ y ∈ ns, y ≤ maxL ns
  | [], h => absurd h (by decide)
  | [x], _ => ⟨List.mem_singleton.mpr rfl, fun y hy => by rw [List.mem_singleton.mp hy]; exact Int.le_refl _⟩
  | x :: z :: r, _ => by
    obtain ⟨h1, h2⟩ := maxL_max (ns := z :: r) (by simp)
    show (if maxL (z :: r) > x then maxL (z :: r) else x) ∈ x :: z :: r ∧ ∀ y ∈ x :: z :: r, y ≤ (if maxL (z :: r) > x then maxL (z :: r) else x)
    by_cases h : maxL (z :: r) > x
    · rw [if_pos h]
      refine ⟨List.mem_cons_of_mem _ h1, fun y hy => ?_⟩
      rcases List.mem_cons.mp hy with e | e
      · rw [e]
        omega
      · exact h2 y e
    · rw [if_neg h]
      refine ⟨List.mem_cons_self, fun y hy => ?_⟩
      rcases List.mem_cons.mp hy with e | e
      · rw [e]
        exact Int.le_refl _
      · have := h2 y e
        omega
theorem maxL_uniq {ns : List Int} {m : Int} (h : m ∈ ns) (hm : ∀ y ∈ ns, y ≤ m) : m = maxL ns := by
  have hl : 0 < ns.length := by
    cases ns with
    | nil => cases h
    | cons => simp
  obtain ⟨h1, h2⟩ := maxL_max hl
  have a := h2 m h
  have b := hm _ h1
  omega
theorem ev_maxL {p' : Pos} {ns : List Int} (hm : X.mg "max" = none) (hl : 0 < ns.length) (ha : EvD X e ρ (.list (ns.map PyData.int))) (hcalm : X.calm = true := by rfl) (hg : Gl X "max" := by rfl) (hs : starEach [e] X.env = [(false, eval e X.env)] := by rfl) : EvD X (.Call (.Name "max" p') [e] [] pos) ρ (.int (maxL ns)) :=
  ev_callB (cr_max hcalm) hm (by decide +kernel) (ea_cons ha ea_nil hs) (fun I H vs Q s dvs q => by
    obtain ⟨v, rfl, dv⟩ := dpa1 dvs
    obtain ⟨t, xs, rfl, h1, h2⟩ := dp_lst dv
    have e1 := h2.ints
    subst e1
    refine ⟨t, ns, rfl, s.seq h1, hl, fun m hm hle => ?_⟩
    rw [maxL_uniq hm hle]
    exact q _ I H (Gr.refl s) (.int _)) hg (he := hs) (hpl := rfl)
theorem ev_max2 {p' : Pos} (hm : X.mg "max" = none) (ha : EvD X a ρ (.int i)) (hb : EvD X c ρ (.int j)) (hcalm : X.calm = true := by rfl) (hg : Gl X "max" := by rfl) (hs : starEach [a, c] X.env = (false, eval a X.env) :: starEach [c] X.env := by rfl) (hs2 : starEach [c] X.env = [(false, eval c X.env)] := by rfl) (hpl : (backTo pos (starEach [c] X.env)).any (·.1) = false := by rfl) :
    EvD X (.Call (.Name "max" p') [a, c] [] pos) ρ (.int (if j > i then j else i)) :=
  ev_callB (call_max2 hcalm) hm (by decide +kernel) (ea_cons ha (ea_cons hb ea_nil hs2) hs) (fun I H vs Q s dvs q => by
    obtain ⟨v, w, rfl, dv, dw⟩ := dpa2 dvs
    exact ⟨i, j, by rw [dp_int dv, dp_int dw], q _ I H (Gr.refl s) (.int _)⟩) hg (he := hs) (hpl := hpl)
theorem ev_int1 {p' : Pos} (hm : X.mg "int" = none) (ha : EvD X e ρ (.int i)) (hg : Gl X "int" := by rfl) (hs : starEach [e] X.env = [(false, eval e X.env)] := by rfl) : EvD X (.Call (.Name "int" p') [e] [] pos) ρ (.int i) :=
  ev_callTy call_int1 hm (by decide +kernel) (ea_cons ha ea_nil hs) (fun I H vs Q s dvs q => by
    obtain ⟨v, rfl, dv⟩ := dpa1 dvs
    exact .inl ⟨i, by rw [dp_int dv], q _ I H (Gr.refl s) (.int _)⟩) hg (he := hs) (hpl := rfl)
theorem ev_tupL {p' : Pos} (hm : X.mg "tuple" = none) (ha : EvD X e ρ (.list ds)) (hg : Gl X "tuple" := by rfl) (hs : starEach [e] X.env = [(false, eval e X.env)] := by rfl) : EvD X (.Call (.Name "tuple" p') [e] [] pos) ρ (.tuple ds) :=
  ev_callTy call_tuple_of hm (by decide +kernel) (ea_cons ha ea_nil hs) (fun I H vs Q s dvs q => by
    obtain ⟨v, rfl, dv⟩ := dpa1 dvs
    obtain ⟨t, xs, rfl, h1, h2⟩ := dp_lst dv
    exact ⟨t, xs, rfl, .inl ⟨s.seq h1, fun l hl => q _ _ _ (Gr.new s hl) (.tup upd_same (Dp.upAll (same_up (s.free hl)) _ _ h2))⟩⟩) hg (he := hs) (hpl := rfl)
theorem ev_listT {p' : Pos} (hm : X.mg "list" = none) (ha : EvD X e ρ (.tuple ds)) (hg : Gl X "list" := by rfl) (hs : starEach [e] X.env = [(false, eval e X.env)] := by rfl) : EvD X (.Call (.Name "list" p') [e] [] pos) ρ (.list ds) :=
  ev_callTy call_list_of hm (by decide +kernel) (ea_cons ha ea_nil hs) (fun I H vs Q s dvs q => by
    obtain ⟨v, rfl, dv⟩ := dpa1 dvs
    obtain ⟨t, xs, rfl, h1, h2⟩ := dp_tup dv
    exact ⟨t, xs, rfl, .inr (sqt_same s h1), fun l hl => q _ _ _ (Gr.new s hl) (.lst (.inl (.inl upd_same)) (Dp.upAll (same_up (s.free hl)) _ _ h2))⟩) hg (he := hs) (hpl := rfl)
/-- list + list -/
theorem rl_cat {K : PySem.W.Frag} {I H : Hp} {x : V} {xs : List PD} (s : Same I H) (h : Dp K I x (.list xs)) : ∃ t vs, x = .ref t ∧ SqL K H t vs ∧ DpAll K I vs xs := by
  obtain ⟨t, vs, rfl, h1, h2⟩ := dp_lst h
  exact ⟨t, vs, rfl, s.seq h1, h2⟩
/-! isinstance -/
def tyD : PD → String
  | .none => "NoneType"
  | .bool _ => "bool"
  | .int _ => "int"
  | .str _ => "str"
  | .list _ => "list"
  | .tuple _ => "tuple"
  | .dict _ => "dict"
end
end G
set_option Elab.async false
set_option linter.all false
set_option maxRecDepth 100000
set_option maxHeartbeats 4000000
/-! Statements. -/
namespace G
open PySem PySem.Spec PyProof.Rows L2

/-! ### a value for a slot: data, or a new own object -/
def CellAt (K : PySem.W.Frag) (H0 I H : Hp) (v : V) : Cl → Prop
  | .d x => Dp K I v x
  | .o o => ∃ p u, v = .ref p ∧ H0 p = none ∧ I p = none ∧ H p = some u ∧ OwnRep K I p o u
  | .r _ => False
theorem CellAt.grow {K : PySem.W.Frag} {H0 I H I' H' : Hp} {v : V} : ∀ {c : Cl}, CellAt K H0 I H v c → Gr I H I' H' → CellAt K H0 I' H' v c
  | .d x, h, g => Dp.up g.i _ _ h
  | .o o, h, g => by
    obtain ⟨p, u, e, h1, h2, h3, h4⟩ := h
    refine ⟨p, u, e, h1, ?_, g.h _ _ h3, h4.up g.i⟩
    cases z : I' p with
    | none => rfl
    | some x =>
      exact (h4.fo h3 (g.n p h2 (by rw [z]; exact fun z => by cases z))).elim
  | .r _, h, _ => h
theorem SR.setC {K : PySem.W.Frag} {b : Bs} {I H I' H' : Hp} {σ : St} {ρ : Ro} (S : SR K b I H σ ρ) (g : Gr I H I' H') {v : V} : ∀ {c : Cl}, CellAt K H I' H' v c → (i : Nat) → SR K b I' H' (σ.set i (some v)) (ρ.set i (some c))
  | .d x, h, i => (S.grow g).setD h i
  | .o o, h, i => by
    obtain ⟨p, u, rfl, h1, h2, h3, h4⟩ := h
    exact S.setO g h1 h2 h3 h4 i
  | .r _, h, _ => h.elim
def EvX (X : Cx) (e : Expr) (ρ : Ro) (R : Cl → Prop) : Prop := Ok0 X → ∀ b I H σ, SR X.K b I H σ ρ → ∀ Q : VK, (∀ v c I' H', R c → Gr I H I' H' → CellAt X.K H I' H' v c → Q v H') → WE X e σ H Q
section
variable {X : Cx} {e : Expr} {ρ : Ro} {d : PD} {o : OD}
theorem EvD.x (h : EvD X e ρ d) : EvX X e ρ (fun c => c = .d d) := fun ok b I H σ S Q q => h ok b I H σ S Q fun v I' H' g dv => q v _ I' H' rfl g dv
theorem EvO.x (h : EvO X e ρ o) : EvX X e ρ (fun c => c = .o o) := fun ok b I H σ S Q q => h ok b I H σ S Q fun p u I' H' g h1 h2 h3 h4 => q (.ref p) _ I' H' rfl g ⟨p, u, rfl, h1, h2, h3, h4⟩
theorem EvN.x {R : PD → Prop} (h : EvN X e ρ R) : EvX X e ρ (fun c => ∃ d, c = .d d ∧ R d) := fun ok b I H σ S Q q => h ok b I H σ S Q fun v d I' H' r g dv => q v _ I' H' ⟨d, rfl, r⟩ g dv
end

/-! ### the ways out -/
structure Po where
  nx : Ro → Prop
  rt : PD → Ro → Prop
  bk : Ro → Prop := fun _ => False
  ct : Ro → Prop := fun _ => False
  ro : OD → Prop := fun _ => False
structure En (K : PySem.W.Frag) (b : Bs) (P : Po) (D : Ends) : Prop where
  nx : ∀ ρ I H σ, P.nx ρ → SR K b I H σ ρ → D.nx σ H
  rt : ∀ d ρ v I H σ, P.rt d ρ → SR K b I H σ ρ → Dp K I v d → D.rt v H
  bk : ∀ ρ I H σ, P.bk ρ → SR K b I H σ ρ → D.bk σ H
  ct : ∀ ρ I H σ, P.ct ρ → SR K b I H σ ρ → D.ct σ H
  ro : ∀ o p u I H, P.ro o → Gr b.I b.H I H → I p = none → b.H p = none → H p = some u → OwnRep K I p o u → D.rt (.ref p) H
def SEv (X : Cx) (sts : List Stmt) (ρ : Ro) (P : Po) : Prop := Ok0 X → ∀ b I H σ D, SR X.K b I H σ ρ → En X.K b P D → WSs X sts D σ H
section
variable {X : Cx} {ρ ρ' : Ro} {a c e : Expr} {es : List Expr} {d d1 d2 : PD} {ds : List PD} {pos p p' : Pos} {k : Bool} {rest body : List Stmt} {P : Po} {st : Stmt}
theorem sv_nil (h : P.nx ρ) : SEv X [] ρ P := fun ok b I H σ D S E => WSs.of pss_nil (E.nx ρ I H σ h S)
theorem sv_weak (l : Le ρ ρ') (h : SEv X rest ρ' P) : SEv X rest ρ P := fun ok b I H σ D S E => h ok b I H σ D (S.weak l) E
/-- one statement, then the rest -/
theorem sv_one {Q : Ends → St → Hp → Prop} (h : PS X st Q) (hq : Ok0 X → ∀ b I H σ D, SR X.K b I H σ ρ → En X.K b P D → Q { D with nx := WSs X rest D } σ H) : SEv X (st :: rest) ρ P := fun ok b I H σ D S E =>
  WSs.of (pss_cons h pss_w) (hq ok b I H σ D S E)
theorem sv_asgX (i : Nat) {x : Str} {R : Cl → Prop} (h : EvX X e ρ R) (k : ∀ c, R c → SEv X rest (ρ.set i (some c)) P) (hi : X.N[i]? = some x := by rfl) (hx : Loc X.env.scope x := by first | exact .inl rfl | exact .inr rfl)
    (hs : swapsWith e (some (.Name x p')) p.line X.env = pure false := by rfl) (hf : X.fn x = true ∨ X.env.scope.names.lookup x = some .local := by first | exact .inl rfl | exact .inr rfl) : SEv X (.Assign [.Name x p'] e p :: rest) ρ P := fun ok =>
  sv_one (ps_set ok.nd hi hx pe_w hs hf) (fun ok b I H σ D S E => h ok b I H σ S _ fun v c I1 H1 hc g cv => k c hc ok b I1 H1 _ D (S.setC g cv i) E) ok
theorem sv_asg (i : Nat) {x : Str} (h : EvD X e ρ d) (k : SEv X rest (ρ.set i (some (.d d))) P) (hi : X.N[i]? = some x := by rfl) (hx : Loc X.env.scope x := by first | exact .inl rfl | exact .inr rfl)
    (hs : swapsWith e (some (.Name x p')) p.line X.env = pure false := by rfl) (hf : X.fn x = true ∨ X.env.scope.names.lookup x = some .local := by first | exact .inl rfl | exact .inr rfl) : SEv X (.Assign [.Name x p'] e p :: rest) ρ P :=
  sv_asgX i h.x (fun c hc => by subst hc; exact k) hi hx hs hf
theorem sv_new (i : Nat) {x : Str} {o : OD} (h : EvO X e ρ o) (k : SEv X rest (ρ.set i (some (.o o))) P) (hi : X.N[i]? = some x := by rfl) (hx : Loc X.env.scope x := by first | exact .inl rfl | exact .inr rfl)
    (hs : swapsWith e (some (.Name x p')) p.line X.env = pure false := by rfl) (hf : X.fn x = true ∨ X.env.scope.names.lookup x = some .local := by first | exact .inl rfl | exact .inr rfl) : SEv X (.Assign [.Name x p'] e p :: rest) ρ P :=
  sv_asgX i h.x (fun c hc => by subst hc; exact k) hi hx hs hf
/-- x = y = e, e data -/
theorem sv_asg2 (i j : Nat) {x y : Str} {py : Pos} (h : EvD X e ρ d) (k : SEv X rest ((ρ.set i (some (.d d))).set j (some (.d d))) P) (hi : X.N[i]? = some x := by rfl) (hj : X.N[j]? = some y := by rfl) (hx : Loc X.env.scope x := by first | exact .inl rfl | exact .inr rfl) (hy : Loc X.env.scope y := by first | exact .inl rfl | exact .inr rfl)
    (ha : (assignEach [.Name x p', .Name y py] X.env).map (·.2) = [assign (.Name x p') X.env, assign (.Name y py) X.env] := by rfl) (hw : swappedStores [.Name x p', .Name y py] e X.env = pure none := by rfl)
    (hf : X.fn x = true ∨ X.env.scope.names.lookup x = some .local := by first | exact .inl rfl | exact .inr rfl) (hf2 : X.fn y = true ∨ X.env.scope.names.lookup y = some .local := by first | exact .inl rfl | exact .inr rfl) : SEv X (.Assign [.Name x p', .Name y py] e p :: rest) ρ P := fun ok =>
  sv_one (ps_asg2 pe_w (pg_name ok.nd hi hx hf) (pg_name ok.nd hj hy hf2) ha hw) (fun ok b I H σ D S E => h ok b I H σ S _ fun v I1 H1 g dv => k ok b I1 H1 _ D (((S.grow g).setD dv i).setD dv j) E) ok
theorem sv_expr (h : EvD X e ρ d) (k : SEv X rest ρ P) (hs : swapsWith e none p.line X.env = pure false := by rfl) : SEv X (.Expr e p :: rest) ρ P :=
  sv_one (ps_expr pe_w hs) fun ok b I H σ D S E => h ok b I H σ S _ fun v I1 H1 g dv => k ok b I1 H1 σ D (S.grow g) E
theorem sv_ret (h : EvD X e ρ d) (q : P.rt d ρ) : SEv X (.Return (some e) p :: rest) ρ P :=
  sv_one (ps_ret pe_w) fun ok b I H σ D S E => h ok b I H σ S _ fun v I1 H1 g dv => E.rt d ρ v I1 H1 σ q (S.grow g) dv
theorem sv_retN {R : PD → Prop} (h : EvN X e ρ R) (q : ∀ d, R d → P.rt d ρ) : SEv X (.Return (some e) p :: rest) ρ P :=
  sv_one (ps_ret pe_w) fun ok b I H σ D S E => h ok b I H σ S _ fun v d I1 H1 r g dv => E.rt d ρ v I1 H1 σ (q d r) (S.grow g) dv
/-- return of an own object -/
theorem sv_retO (i : Nat) {x : Str} {o : OD} (q : P.ro o) (hρ : ρ[i]? = some (some (.o o)) := by rfl) (hN : X.N[i]? = some x := by rfl)
    (hv : Vis X.env.scope x := by first | exact Or.inl rfl | exact Or.inr (Or.inl rfl) | exact Or.inr (Or.inr rfl)) (hd : (x == ("__debug__" : Str)) = false := by decide) (hcd : (x == ("__classdict__" : Str)) = false := by decide) : SEv X (.Return (some (.Name x p')) p :: rest) ρ P :=
  sv_one (ps_ret (pe_var hN hv hd hcd)) fun ok b I H σ D S E => by
    obtain ⟨t, u, h1, h2, h3, h4, h5⟩ := S.own i o hρ
    exact ⟨.ref t, h1, E.ro o t u I H q S.g h2 h3 h4 h5⟩
/-- an own list changes no more -/
theorem sv_frz (i : Nat) {xs : List PD} (k : SEv X rest (ρ.set i (some (.d (.list xs)))) P) (hρ : ρ[i]? = some (some (.o (.l xs))) := by rfl) : SEv X rest ρ P := fun ok b I H σ D S E => by
  obtain ⟨I', _, _, S'⟩ := S.frz hρ
  exact k ok b I' H σ D S' E
theorem sv_if {x y : List Stmt} (h : EvT X c ρ k) (h1 : k = true → SEv X x ρ { P with nx := fun r => SEv X rest r P }) (h2 : k = false → SEv X y ρ { P with nx := fun r => SEv X rest r P }) : SEv X (.If c x y p :: rest) ρ P :=
  sv_one (ps_if pt_w pss_w pss_w) fun ok b I H σ D S E => h ok b I H σ S _ fun I1 H1 g => by
    have E' : En X.K b { P with nx := fun r => SEv X rest r P } { D with nx := WSs X rest D } := ⟨fun r I2 H2 σ2 hr S2 => hr ok b I2 H2 σ2 D S2 E, E.rt, E.bk, E.ct, E.ro⟩
    cases k with
    | true =>
      rw [if_pos rfl]
      exact h1 rfl ok b I1 H1 σ _ (S.grow g) E'
    | false =>
      rw [if_neg Bool.false_ne_true]
      exact h2 rfl ok b I1 H1 σ _ (S.grow g) E'
theorem sv_ifT {x y : List Stmt} (h : EvT X c ρ true) (h1 : SEv X x ρ { P with nx := fun r => SEv X rest r P }) : SEv X (.If c x y p :: rest) ρ P := sv_if h (fun _ => h1) fun z => by cases z
theorem sv_ifF {x y : List Stmt} (h : EvT X c ρ false) (h1 : SEv X y ρ { P with nx := fun r => SEv X rest r P }) : SEv X (.If c x y p :: rest) ρ P := sv_if h (fun z => by cases z) fun _ => h1
/-- an if without else that is not taken -/
theorem sv_skip {x : List Stmt} (h : EvT X c ρ false) (h1 : SEv X rest ρ P) : SEv X (.If c x [] p :: rest) ρ P := sv_ifF h (sv_nil h1)
/-- an if whose outcome is not known -/
theorem sv_ifN {x y : List Stmt} {R : Bool → Prop} (h : Ok0 X → ∀ b I H σ, SR X.K b I H σ ρ → ∀ Q : Bool → Hp → Prop, (∀ k I' H', R k → Gr I H I' H' → Q k H') → WT X c σ H Q)
    (h1 : R true → SEv X x ρ { P with nx := fun r => SEv X rest r P }) (h2 : R false → SEv X y ρ { P with nx := fun r => SEv X rest r P }) : SEv X (.If c x y p :: rest) ρ P :=
  sv_one (ps_if pt_w pss_w pss_w) fun ok b I H σ D S E => h ok b I H σ S _ fun k I1 H1 r g => by
    have E' : En X.K b { P with nx := fun r => SEv X rest r P } { D with nx := WSs X rest D } := ⟨fun r I2 H2 σ2 hr S2 => hr ok b I2 H2 σ2 D S2 E, E.rt, E.bk, E.ct, E.ro⟩
    cases k with
    | true =>
      rw [if_pos rfl]
      exact h1 r ok b I1 H1 σ _ (S.grow g) E'
    | false =>
      rw [if_neg Bool.false_ne_true]
      exact h2 r ok b I1 H1 σ _ (S.grow g) E'
/-! own lists -/
theorem sv_app (i : Nat) {x : Str} {xs : List PD} {p1 p2 p3 : Pos} (h : EvD X e ρ d) (hz : xs.length < 100000) (k : SEv X rest (ρ.set i (some (.o (.l (xs ++ [d]))))) P) (hρ : ρ[i]? = some (some (.o (.l xs))) := by rfl) (hN : X.N[i]? = some x := by rfl)
    (hv : Vis X.env.scope x := by first | exact Or.inl rfl | exact Or.inr (Or.inl rfl) | exact Or.inr (Or.inr rfl)) (hd : (x == ("__debug__" : Str)) = false := by decide) (hcd : (x == ("__classdict__" : Str)) = false := by decide)
    (hbase : attributeBase (.Name x p1) "append" X.env (eval (.Name x p1) X.env) = eval (.Name x p1) X.env := by rfl)
    (hfew : ((backTo p3 (starEach [e] X.env)).all (fun x => !x.1) && (backToKw p3 (keywordEach [] X.env)).all (fun x => x.1.isSome)
      && decide ([e].length + ([] : List Keyword).length + (if ([] : List Keyword).isEmpty then 0 else 1) < 30)) = true := by rfl)
    (hline : (p2.endLine == p3.line) = true := by rfl) (hs1 : starEach [e] X.env = (false, eval e X.env) :: starEach [] X.env := by rfl) (hplain : (backTo p3 (starEach [] X.env)).any (·.1) = false := by rfl)
    (hs : swapsWith (.Call (.Attribute (.Name x p1) "append" p2) [e] [] p3) none p.line X.env = pure false := by rfl) : SEv X (.Expr (.Call (.Attribute (.Name x p1) "append" p2) [e] [] p3) p :: rest) ρ P :=
  sv_one (ps_expr (pe_bm PySem.F.plainAttrs_list PySem.F.slot_list_append PySem.F.type_list_append mt_append (pe_var hN hv hd hcd) (pa_cons pe_w pa_nil hs1) hbase hfew hline hs1 hplain) hs) fun ok b I H σ D S E => by
    obtain ⟨t, u, h1, h2, h3, h4, h5⟩ := S.own i _ hρ
    cases u with
    | lst vs =>
      refine ⟨.ref t, h1, .inl ⟨rfl, _, .inl (.inl h4)⟩, h ok b I H σ S _ fun v I1 H1 g dv => ?_⟩
      have S1 := S.grow g
      obtain ⟨t', u', k1, k2, k3, k4, k5⟩ := S1.own i _ hρ
      rw [h1] at k1
      cases k1
      have eu : u' = .lst vs := Option.some.inj (k4.symm.trans (g.h _ _ h4))
      subst eu
      refine ⟨t, vs, v, rfl, rfl, k4, Nat.lt_of_lt_of_le (show vs.length < 100000 by rw [DpAll.len k5]; exact hz) (by decide), ?_⟩
      exact k ok b I1 _ σ D (S1.mutO (o' := .l (xs ++ [d])) hρ h1 (DpAll.app k5 dv)) E
    | _ => exact h5.elim
/-- xs[i] = e -/
theorem sv_setO (i : Nat) {x : Str} {xs : List PD} {p1 p2 : Pos} {n : Int} {j : Nat} (h : EvD X e ρ d) (hi : EvD X a ρ (.int n)) (hj : ixN xs.length n = some j) (k : SEv X rest (ρ.set i (some (.o (.l (xs.set j d))))) P) (hρ : ρ[i]? = some (some (.o (.l xs))) := by rfl) (hN : X.N[i]? = some x := by rfl)
    (hv : Vis X.env.scope x := by first | exact Or.inl rfl | exact Or.inr (Or.inl rfl) | exact Or.inr (Or.inr rfl)) (hd : (x == ("__debug__" : Str)) = false := by decide) (hcd : (x == ("__classdict__" : Str)) = false := by decide)
    (ha : ∀ v, assign (.Subscript (.Name x p1) a p2) X.env v = (do
      let ov ← holding [v] (eval (.Name x p1) X.env)
      let iv ← holding [v, ov] (eval a X.env)
      standAt p2
      holding [v, ov, iv] (setItem ov iv v)
      release [v, ov, iv] []) := by intro _; rfl) (hs : swapsWithSole [.Subscript (.Name x p1) a p2] e p.line X.env = pure false := by rfl) (hw : swappedStores [.Subscript (.Name x p1) a p2] e X.env = pure none := by rfl)
    (h1 : (assignEach [.Subscript (.Name x p1) a p2] X.env).map (·.2) = [assign (.Subscript (.Name x p1) a p2) X.env] := by rfl) : SEv X (.Assign [.Subscript (.Name x p1) a p2] e p :: rest) ρ P :=
  sv_one (ps_asg pe_w (pg_sub (pe_var hN hv hd hcd) pe_w set_list ha) hs hw h1) fun ok b I H σ D S E => by
    obtain ⟨t, u, h1, h2, h3, h4, h5⟩ := S.own i _ hρ
    cases u with
    | lst vs =>
      refine h ok b I H σ S _ fun v I1 H1 g dv => ⟨.ref t, h1, hi ok b I1 H1 σ (S.grow g) _ fun y I2 H2 g2 dy => ?_⟩
      have S2 := (S.grow g).grow g2
      obtain ⟨t', u', k1, k2, k3, k4, k5⟩ := S2.own i _ hρ
      rw [h1] at k1
      cases k1
      have eu : u' = .lst vs := Option.some.inj (k4.symm.trans (g2.h _ _ (g.h _ _ h4)))
      subst eu
      refine ⟨t, vs, n, j, rfl, dp_int dy, k4, by rw [DpAll.len k5]; exact hj, ?_⟩
      exact k ok b I2 _ σ D (S2.mutO (o' := .l (xs.set j d)) hρ h1 (DpAll.setN j k5 (Dp.up g2.i _ _ dv))) E
    | _ => exact h5.elim
/-! several names at once -/
theorem sv_parX (i j : Nat) {x y : Str} {px py pt : Pos} {kt k2 : Nat} {pt2 : Pos} {R1 R2 : Cl → Prop} (h1 : EvX X a ρ R1) (h2 : EvX X c ρ R2) (k : ∀ c1 c2, R1 c1 → R2 c2 → SEv X rest ((ρ.set i (some c1)).set j (some c2)) P)
    (hij : i ≠ j := by decide) (hi : X.N[i]? = some x := by rfl) (hj : X.N[j]? = some y := by rfl) (hx : X.env.scope.names.lookup x = some .local := by rfl) (hy : X.env.scope.names.lookup y = some .local := by rfl)
    (hw : swappedStores [.Tuple [.Name x px, .Name y py] kt pt] (.Tuple [a, c] k2 pt2) X.env = pure (some [x, y]) := by rfl)
    (hs : swapsWithSole [.Tuple [.Name x px, .Name y py] kt pt] (.Tuple [a, c] k2 pt2) p.line X.env = pure false := by rfl)
    (ha : starEach [a, c] X.env = (false, eval a X.env) :: starEach [c] X.env := by rfl) (hc : starEach [c] X.env = (false, eval c X.env) :: starEach [] X.env := by rfl) : SEv X (.Assign [.Tuple [.Name x px, .Name y py] kt pt] (.Tuple [a, c] k2 pt2) p :: rest) ρ P := fun ok =>
  sv_one (ps_par ok.calm ok.nd hi hj hij hx hy (pa_cons pe_w (pa_cons pe_w pa_nil hc) ha) hw hs) (fun ok b I H σ D S E => h1 ok b I H σ S _ fun v c1 I1 H1 r1 g1 cv => h2 ok b I1 H1 σ (S.grow g1) _ fun w c2 I2 H2 r2 g2 cw => by
    refine ⟨v, w, rfl, ?_⟩
    have S1 := S.setC g1 cv i
    exact k c1 c2 r1 r2 ok b I2 H2 _ D (S1.setC g2 cw j) E) ok
theorem sv_par (i j : Nat) {x y : Str} {px py pt : Pos} {kt k2 : Nat} {pt2 : Pos} (h1 : EvD X a ρ d1) (h2 : EvD X c ρ d2) (k : SEv X rest ((ρ.set i (some (.d d1))).set j (some (.d d2))) P)
    (hij : i ≠ j := by decide) (hi : X.N[i]? = some x := by rfl) (hj : X.N[j]? = some y := by rfl) (hx : X.env.scope.names.lookup x = some .local := by rfl) (hy : X.env.scope.names.lookup y = some .local := by rfl)
    (hw : swappedStores [.Tuple [.Name x px, .Name y py] kt pt] (.Tuple [a, c] k2 pt2) X.env = pure (some [x, y]) := by rfl)
    (hs : swapsWithSole [.Tuple [.Name x px, .Name y py] kt pt] (.Tuple [a, c] k2 pt2) p.line X.env = pure false := by rfl)
    (ha : starEach [a, c] X.env = (false, eval a X.env) :: starEach [c] X.env := by rfl) (hc : starEach [c] X.env = (false, eval c X.env) :: starEach [] X.env := by rfl) : SEv X (.Assign [.Tuple [.Name x px, .Name y py] kt pt] (.Tuple [a, c] k2 pt2) p :: rest) ρ P :=
  sv_parX i j h1.x h2.x (fun c1 c2 e1 e2 => by subst e1 e2; exact k) hij hi hj hx hy hw hs ha hc
/-! targets -/
def BindD (X : Cx) (tg : Expr) (d : PD) (ρ ρ' : Ro) : Prop := Ok0 X → ∀ b I H σ v, SR X.K b I H σ ρ → Dp X.K I v d → ∀ Q : St → Hp → Prop, (∀ σ', SR X.K b I H σ' ρ' → Q σ' H) → WG X tg v σ H Q
def BindDs (X : Cx) (ts : List Expr) (ds : List PD) (ρ ρ' : Ro) : Prop := Ok0 X → ∀ b I H σ vs, SR X.K b I H σ ρ → DpAll X.K I vs ds → ∀ Q : St → Hp → Prop, (∀ σ', SR X.K b I H σ' ρ' → Q σ' H) → WGs X ts vs σ H Q
theorem bd_nm (i : Nat) {x : Str} (hi : X.N[i]? = some x := by rfl) (hx : Loc X.env.scope x := by first | exact .inl rfl | exact .inr rfl) (hf : X.fn x = true ∨ X.env.scope.names.lookup x = some .local := by first | exact .inl rfl | exact .inr rfl) :
    BindD X (.Name x p) d ρ (ρ.set i (some (.d d))) := fun ok b I H σ v S dv Q q => WG.of (pg_name ok.nd hi hx hf) (q _ (S.setD dv i))
theorem bds_nil : BindDs X [] [] ρ ρ := fun ok b I H σ vs S dvs Q q => WGs.of pgs_nil ⟨by cases dvs; rfl, q σ S⟩
theorem bds_cons {ρ1 : Ro} (h : BindD X e d ρ ρ1) (hr : BindDs X es ds ρ1 ρ') (hs : (assignEach (e :: es) X.env).map (·.2) = assign e X.env :: (assignEach es X.env).map (·.2) := by rfl) : BindDs X (e :: es) (d :: ds) ρ ρ' := fun ok b I H σ vs S dvs Q q => by
  cases dvs with
  | cons d1 d2 => exact WGs.of (pgs_cons pg_w pgs_w hs) ⟨_, _, rfl, h ok b I H σ _ S d1 _ fun σ' S' => hr ok b I H σ' _ S' d2 Q q⟩
theorem bd_tup {n : Nat} (h : BindDs X es ds ρ ρ') (hl : ds.length = (assignEach es X.env).length := by rfl) (hst : (assignEach es X.env).findIdx? (·.1) = none := by rfl) : BindD X (.Tuple es n p) (.tuple ds) ρ ρ' := fun ok b I H σ v S dv Q q => by
  obtain ⟨t, xs, rfl, h1, h2⟩ := dp_tup dv
  exact WG.of (pg_tup ok.calm pgs_w rfl hst) ⟨t, xs, rfl, sqt_same S.same h1, by rw [DpAll.len h2, hl], h ok b I H σ xs S h2 Q q⟩
/-- target = e, e data -/
theorem sv_bind {tg : Expr} (h : EvD X e ρ d) (hb : BindD X tg d ρ ρ') (k : SEv X rest ρ' P) (hs : swapsWithSole [tg] e p.line X.env = pure false := by rfl) (hw : swappedStores [tg] e X.env = pure none := by rfl)
    (h1 : (assignEach [tg] X.env).map (·.2) = [assign tg X.env] := by rfl) : SEv X (.Assign [tg] e p :: rest) ρ P :=
  sv_one (ps_asg pe_w pg_w hs hw h1) fun ok b I H σ D S E => h ok b I H σ S _ fun v I1 H1 g dv => hb ok b I1 H1 σ v (S.grow g) dv _ fun σ' S' => k ok b I1 H1 σ' D S' E
/-- x += e -/
theorem sv_augI (i : Nat) {x : Str} {op : Operator} {f : Int → Int → Int} {m n : Int} (hop : PIp X op (ipI f)) (h : EvD X e ρ (.int n)) (k : SEv X rest (ρ.set i (some (.d (.int (f m n))))) P) (hρ : ρ[i]? = some (some (.d (.int m))) := by rfl) (hi : X.N[i]? = some x := by rfl) (hx : Loc X.env.scope x := by first | exact .inl rfl | exact .inr rfl)
    (hf : X.fn x = true ∨ X.env.scope.names.lookup x = some .local := by first | exact .inl rfl | exact .inr rfl) : SEv X (.AugAssign (.Name x p') op e p :: rest) ρ P := fun ok =>
  sv_one (ps_aug ok.nd hi hx pe_w hop hf) (fun ok b I H σ D S E => by
    obtain ⟨v, h1, h2⟩ := S.dat i _ hρ
    cases dp_int h2
    exact ⟨_, h1, h ok b I H σ S _ fun y I1 H1 g dy => ⟨m, n, rfl, dp_int dy, k ok b I1 H1 _ D ((S.grow g).setD (.int _) i) E⟩⟩) ok
theorem sv_aug (i : Nat) {x : Str} {m n : Int} (h : EvD X e ρ (.int n)) (k : SEv X rest (ρ.set i (some (.d (.int (m + n))))) P) (hρ : ρ[i]? = some (some (.d (.int m))) := by rfl) (hi : X.N[i]? = some x := by rfl) (hx : Loc X.env.scope x := by first | exact .inl rfl | exact .inr rfl)
    (hf : X.fn x = true ∨ X.env.scope.names.lookup x = some .local := by first | exact .inl rfl | exact .inr rfl) : SEv X (.AugAssign (.Name x p') .Add e p :: rest) ρ P := sv_augI i (f := fun i j => i + j) ip_add h k hρ hi hx hf
/-! loops -/
theorem sv_while (W : Nat → Ro → Prop) (m0 : Nat) (h0 : W m0 ρ)
    (hs : ∀ m r, W m r → ∃ k, EvT X c r k ∧ (k = true → SEv X body r { P with nx := fun r' => ∃ m', m' < m ∧ W m' r', ct := fun r' => ∃ m', m' < m ∧ W m' r', bk := fun r' => SEv X rest r' P }) ∧ (k = false → SEv X rest r P)) : SEv X (.While c body [] p :: rest) ρ P := fun ok =>
  sv_one (ps_while ok.po pt_w pss_w) (fun ok b I H σ D S E => by
    refine ⟨fun m σ' H' => ∃ r I', W m r ∧ SR X.K b I' H' σ' r, ⟨m0, ρ, I, h0, S⟩, fun m σ1 H1 hw => ?_⟩
    obtain ⟨r, I1, hw, S1⟩ := hw
    obtain ⟨k, ht, hy, hn⟩ := hs m r hw
    refine ht ok b I1 H1 σ1 S1 _ fun I2 H2 g => ?_
    cases k with
    | true =>
      rw [if_pos rfl]
      refine ⟨fun σ' H' => ∃ m', m' < m ∧ ∃ r I', W m' r ∧ SR X.K b I' H' σ' r, fun σ' H' h => ?_, ?_⟩
      · obtain ⟨m', l, q⟩ := h
        exact ⟨m', l, q⟩
      · refine hy rfl ok b I2 H2 σ1 _ (S1.grow g) ⟨fun r' I3 H3 σ3 h S3 => ?_, E.rt, fun r' I3 H3 σ3 h S3 => h ok b I3 H3 σ3 D S3 E, fun r' I3 H3 σ3 h S3 => ?_, E.ro⟩
        · obtain ⟨m', l, q⟩ := h
          exact ⟨m', l, r', I3, q, S3⟩
        · obtain ⟨m', l, q⟩ := h
          exact ⟨m', l, r', I3, q, S3⟩
    | false =>
      rw [if_neg Bool.false_ne_true]
      exact hn rfl ok b I2 H2 σ1 D (S1.grow g) E) ok
theorem SR.rebase {K : PySem.W.Frag} {b : Bs} {I I1 H : Hp} {σ : St} {ρ : Ro} (S : SR K b I H σ ρ) (i0 : Same b.I I1) (i1 : Same I1 I) : SR K ⟨I1, b.H⟩ I H σ ρ :=
  ⟨⟨i1, S.g.h, S.g.s, fun c h1 h2 => S.g.n c (i0.free h1) h2⟩, S.len, S.dat, S.raw, S.own, S.sep⟩
theorem gr_unbase {b : Bs} {I I1 H H1 : Hp} (g : Gr b.I b.H I1 H1) (g2 : Gr I1 b.H I H) : Gr b.I b.H I H :=
  ⟨g.i.trans g2.i, g2.h, g2.s, fun c h1 h2 => by
    cases e : I1 c with
    | none => exact g2.n c e h2
    | some o => exact g.n c h1 (by rw [e]; exact fun z => by cases z)⟩
theorem SR.unbase {K : PySem.W.Frag} {b : Bs} {I I1 H H1 : Hp} {σ : St} {ρ : Ro} (S : SR K ⟨I1, b.H⟩ I H σ ρ) (g : Gr b.I b.H I1 H1) : SR K b I H σ ρ :=
  ⟨gr_unbase g S.g, S.len, S.dat, S.raw, S.own, S.sep⟩
def ItD (X : Cx) (tg e : Expr) (ρ : Ro) (items : List PD) : Prop := Ok0 X → ∀ b I H σ, SR X.K b I H σ ρ → ∀ R : It → Hp → Prop,
  (∀ J I' H' (T : Hp → Prop) (Y : Nat → Hp → V → Hp → Prop), Gr I H I' H' → Walk J items.length T Y → (∀ I1 H1, Same I' I1 → Same I1 H1 → T H1) →
    (∀ (i : Nat) d H1 x H2 I1, items[i]? = some d → Same I' I1 → Same I1 H1 → Y i H1 x H2 → ∃ I2, Gr I1 H1 I2 H2 ∧ Dp X.K I2 x d) → R J H') → WI X tg e σ H R
theorem sv_for {tg iter : Expr} {items : List PD} (hit : ItD X tg iter ρ items) (Pv : Nat → Ro → Prop) (h0 : Pv 0 ρ)
    (hs : ∀ (i : Nat) d r, items[i]? = some d → Pv i r → ∃ r', BindD X tg d r r' ∧ SEv X body r' { P with nx := Pv (i + 1), ct := Pv (i + 1), bk := fun r => SEv X rest r P }) (hd : ∀ r, Pv items.length r → SEv X rest r P)
    (hf : ∀ x, foldedSetIterable iter X.env x = pure x := by intro _; rfl) : SEv X (.For tg iter body [] p :: rest) ρ P := fun ok =>
  sv_one (ps_for ok.po ok.calm pi_w pg_w pss_w hf) (fun ok b I H σ D S E => by
    refine hit ok b I H σ S _ fun J I1 H1 T Y g w hT hY => ?_
    refine for_it w (fun i σ' H' => ∃ r I', Pv i r ∧ SR X.K b I' H' σ' r ∧ Same I1 I') ⟨ρ, I1, h0, S.grow g, Same.refl I1⟩ (fun i σ' H' _ h => ?_) (fun i x σ' H' H'' hi h y => ?_) (fun σ' H' h => ?_)
    · obtain ⟨r, I', _, S', s⟩ := h
      exact hT I' H' s S'.same
    · obtain ⟨r, I', hp, S', s⟩ := h
      have hi' : items[i]? = some items[i] := List.getElem?_eq_getElem hi
      obtain ⟨I2, g2, dv⟩ := hY i _ H' x H'' I' hi' s S'.same y
      obtain ⟨r', hb, hq⟩ := hs i _ r hi' hp
      have g0 : Gr b.I b.H I1 H1 := (S.grow g).g
      refine hb ok b I2 H'' σ' x (S'.grow g2) dv _ fun σ2 S2 => hq ok ⟨I1, b.H⟩ I2 H'' σ2 _ (S2.rebase g0.i (s.trans g2.i)) ⟨fun r3 I3 H3 σ3 h3 S3 => ?_, fun d3 r3 v3 I3 H3 σ3 h3 S3 dv3 => E.rt d3 r3 v3 I3 H3 σ3 h3 (S3.unbase g0) dv3,
        fun r3 I3 H3 σ3 h3 S3 => h3 ok b I3 H3 σ3 D (S3.unbase g0) E, fun r3 I3 H3 σ3 h3 S3 => ?_, fun o q u I3 H3 h3 g3 => E.ro o q u I3 H3 h3 (gr_unbase g0 g3)⟩
      all_goals exact ⟨r3, I3, h3, S3.unbase g0, S3.g.i⟩
    · obtain ⟨r, I', hp, S', s⟩ := h
      exact hd r hp ok b I' H' σ' D S' E) ok
end
end G
set_option Elab.async false
set_option linter.all false
set_option maxRecDepth 100000
set_option maxHeartbeats 4000000
/-! What is walked; comprehensions; defs and their calls. -/
namespace G
open PySem PySem.Spec PyProof.Rows L2

section
variable {X : Cx} {ρ : Ro} {tg e a c : Expr} {ds : List PD} {p pos : Pos}
theorem it_list (h : EvD X e ρ (.list ds)) : ItD X tg e ρ ds := fun ok b I H σ S R k =>
  WI.of (pi_list pe_w) (h ok b I H σ S _ fun v I1 H1 g dv => by
    obtain ⟨t, xs, rfl, h1, h2⟩ := dp_lst dv
    refine ⟨t, rfl, ⟨xs, g.s.seq h1⟩, k _ I1 H1 (fun H => SqL X.K H t xs) (YAt xs) g (by rw [← DpAll.len h2]; exact walk_list) (fun I2 H2 s1 s2 => (s1.trans s2).seq h1) fun i d H2 x H3 I2 hi s1 s2 y => ?_⟩
    obtain ⟨rfl, hx⟩ := y
    obtain ⟨v, e1, e2⟩ := DpAll.get h2 hi
    rw [e1] at hx
    cases hx
    exact ⟨I2, Gr.refl s2, Dp.up s1 _ _ e2⟩)
theorem it_tup (h : EvD X e ρ (.tuple ds)) : ItD X tg e ρ ds := fun ok b I H σ S R k =>
  WI.of (pi_tup pe_w) (h ok b I H σ S _ fun v I1 H1 g dv => by
    obtain ⟨t, xs, rfl, h1, h2⟩ := dp_tup dv
    refine ⟨t, rfl, ⟨xs, sqt_same g.s h1⟩, k _ I1 H1 (fun H => SqT X.K H t xs) (YAt xs) g (by rw [← DpAll.len h2]; exact walk_tup) (fun I2 H2 s1 s2 => sqt_same (s1.trans s2) h1) fun i d H2 x H3 I2 hi s1 s2 y => ?_⟩
    obtain ⟨rfl, hx⟩ := y
    obtain ⟨v, e1, e2⟩ := DpAll.get h2 hi
    rw [e1] at hx
    cases hx
    exact ⟨I2, Gr.refl s2, Dp.up s1 _ _ e2⟩)
/-- an own list, by its name, that the loop leaves as it is: freeze it first -/
def rangeD (lo : Int) (n : Nat) : List PD := (List.range n).map fun k : Nat => .int (lo + (k : Int))
theorem rangeD_len {lo : Int} {n : Nat} : (rangeD lo n).length = n := by
  unfold rangeD
  rw [List.length_map, List.length_range]
theorem rangeD_at {lo : Int} {n i : Nat} {d : PD} (h : (rangeD lo n)[i]? = some d) : d = .int (lo + (i : Int)) ∧ i < n := by
  have hl : i < n := by
    have := (List.getElem?_eq_some_iff.mp h).1
    rw [rangeD_len] at this
    exact this
  unfold rangeD at h
  rw [List.getElem?_map, List.getElem?_range hl] at h
  exact ⟨(Option.some.inj h).symm, hl⟩
theorem it_range1 {n : Int} (hm : X.mg "range" = none) (hn : -(2 ^ 62) ≤ n ∧ n < 2 ^ 62) (h : EvD X e ρ (.int n)) (hg : Gl X "range" := by rfl) (hs : starEach [e] X.env = [(false, eval e X.env)] := by rfl) : ItD X tg (.Call (.Name "range" p) [e] [] pos) ρ (rangeD 0 n.toNat) := fun ok b I H σ S R k =>
  WI.of (pi_range1 hg hm (pa_cons pe_w pa_nil hs) hs) (h ok b I H σ S _ fun v I1 H1 g dv => by
    refine ⟨n, by rw [dp_int dv], hn.1, hn.2, k _ I1 H1 (fun _ => True) _ g (by rw [rangeD_len]; exact walk_range) (fun _ _ _ _ => trivial) fun i d H2 x H3 I2 hi s1 s2 y => ?_⟩
    obtain ⟨rfl, rfl⟩ := y
    obtain ⟨rfl, _⟩ := rangeD_at hi
    exact ⟨I2, Gr.refl s2, .int _⟩)
theorem it_range2 {m n : Int} (hm : X.mg "range" = none) (hn : -(2 ^ 62) ≤ m ∧ m < 2 ^ 62 ∧ -(2 ^ 62) ≤ n ∧ n < 2 ^ 62) (h1 : EvD X a ρ (.int m)) (h2 : EvD X c ρ (.int n)) (hg : Gl X "range" := by rfl) (hs : starEach [a, c] X.env = [(false, eval a X.env), (false, eval c X.env)] := by rfl) (hs2 : starEach [c] X.env = [(false, eval c X.env)] := by rfl)
    (ha : starEach [a, c] X.env = (false, eval a X.env) :: starEach [c] X.env := by rfl) : ItD X tg (.Call (.Name "range" p) [a, c] [] pos) ρ (rangeD m (n - m).toNat) := fun ok b I H σ S R k =>
  WI.of (pi_range2 hg hm (pa_cons pe_w (pa_cons pe_w pa_nil hs2) ha) hs hs2) (h1 ok b I H σ S _ fun v I1 H1 g dv => h2 ok b I1 H1 σ (S.grow g) _ fun v2 I2 H2 g2 dv2 => by
    refine ⟨m, n, by rw [dp_int dv, dp_int dv2], hn, k _ I2 H2 (fun _ => True) _ (g.trans g2) (by rw [rangeD_len]; exact walk_range) (fun _ _ _ _ => trivial) fun i d H3 x H4 I3 hi s1 s2 y => ?_⟩
    obtain ⟨rfl, rfl⟩ := y
    obtain ⟨rfl, _⟩ := rangeD_at hi
    exact ⟨I3, Gr.refl s2, .int _⟩)
def enumD (ds : List PD) : List PD := ds.mapIdx fun i d => .tuple [.int (i : Nat), d]
theorem enumD_len : (enumD ds).length = ds.length := by
  unfold enumD
  rw [List.length_mapIdx]
theorem enumD_at {i : Nat} {d : PD} (h : (enumD ds)[i]? = some d) : ∃ x, ds[i]? = some x ∧ d = .tuple [.int (i : Nat), x] := by
  unfold enumD at h
  rw [List.getElem?_mapIdx] at h
  cases e : ds[i]? with
  | none =>
    rw [e] at h
    cases h
  | some x =>
    rw [e] at h
    exact ⟨x, rfl, (Option.some.inj h).symm⟩
/-- a new pair -/
theorem pair_new {K : PySem.W.Frag} {I H : Hp} {T : Addr} {x y : V} {d1 d2 : PD} (s : Same I H) (h : H T = none) (h1 : Dp K I x d1) (h2 : Dp K I y d2) : Gr I H (upd I T (.tup [x, y])) (upd H T (.tup [x, y])) ∧ Dp K (upd I T (.tup [x, y])) (.ref T) (.tuple [d1, d2]) :=
  ⟨Gr.new s h, .tup upd_same (.cons (Dp.up (same_up (s.free h)) _ _ h1) (.cons (Dp.up (same_up (s.free h)) _ _ h2) .nil))⟩
theorem it_enum {elts : List Expr} {kk : Nat} {tpos : Pos} (hm : X.mg "enumerate" = none) (h : EvD X e ρ (.list ds)) (hg : Gl X "enumerate" := by rfl) (hs : starEach [e] X.env = [(false, eval e X.env)] := by rfl) : ItD X (.Tuple elts kk tpos) (.Call (.Name "enumerate" p) [e] [] pos) ρ (enumD ds) := fun ok b I H σ S R k =>
  WI.of (pi_enum hg hm (pa_cons pe_w pa_nil hs) hs) (h ok b I H σ S _ fun v I1 H1 g dv => by
    obtain ⟨t, xs, rfl, h1, h2⟩ := dp_lst dv
    refine ⟨t, xs, rfl, g.s.seq h1, k _ I1 H1 (fun H => SqL X.K H t xs) _ g (by rw [enumD_len, ← DpAll.len h2]; exact walk_enum) (fun I2 H2 s1 s2 => (s1.trans s2).seq h1) fun i d H2 x H3 I2 hi s1 s2 y => ?_⟩
    obtain ⟨T, x1, x2, rfl, hT, rfl, e1, e2⟩ := y
    obtain ⟨d', e3, rfl⟩ := enumD_at hi
    obtain ⟨v, e4, e5⟩ := DpAll.get h2 e3
    have e2' : xs[i]? = some x2 := e2
    rw [e4] at e2'
    cases e2'
    cases e1
    obtain ⟨g', dp⟩ := pair_new s2 hT (.int _) (Dp.up s1 _ _ e5)
    exact ⟨_, g', dp⟩)
def signsD (z : Str) : List PD := z.cps.toList.map fun c => .str ⟨#[c]⟩
theorem it_str {z : Str} (h : EvD X e ρ (.str z)) : ItD X tg e ρ (signsD z) := fun ok b I H σ S R k =>
  WI.of (pi_str pe_w) (h ok b I H σ S _ fun v I1 H1 g dv => by
    refine ⟨z, dp_str dv, k _ I1 H1 (fun _ => True) _ g (by unfold signsD; rw [List.length_map, Array.length_toList]; exact walk_str) (fun _ _ _ _ => trivial) fun i d H2 x H3 I2 hi s1 s2 y => ?_⟩
    obtain ⟨rfl, c, hc, rfl⟩ := y
    unfold signsD at hi
    rw [List.getElem?_map, Array.getElem?_toList, hc] at hi
    cases hi
    exact ⟨I2, Gr.refl s2, .str _⟩)
end

/-! ### comprehensions -/
theorem wipe_set {σ : St} {i : Nat} {y : Option V} : ∀ {vs : List Nat}, i ∈ vs → L2.wipe (σ.set i y) vs = L2.wipe σ vs
  | v :: vs, h => by
    by_cases hv : i ∈ vs
    · show (L2.wipe (σ.set i y) vs).set v none = (L2.wipe σ vs).set v none
      rw [wipe_set hv]
    · have e : i = v := by
        rcases List.mem_cons.mp h with e | e
        · exact e
        · exact absurd e hv
      subst e
      have aux : ∀ ws : List Nat, i ∉ ws → L2.wipe (σ.set i y) ws = (L2.wipe σ ws).set i y := by
        intro ws
        induction ws with
        | nil => intro _; rfl
        | cons w ws ih =>
          intro hn
          show (L2.wipe (σ.set i y) ws).set w none = ((L2.wipe σ ws).set w none).set i y
          rw [ih fun z => hn (List.mem_cons_of_mem _ z), List.set_comm]
          exact fun z => hn (by rw [z]; exact List.mem_cons_self)
      show (L2.wipe (σ.set i y) vs).set i none = (L2.wipe σ vs).set i none
      rw [aux vs hv, List.set_set]
theorem wipe_wipe (σ : St) (vs : List Nat) : L2.wipe (L2.wipe σ vs) vs = L2.wipe σ vs := by
  have aux : ∀ ws : List Nat, (∀ w ∈ ws, w ∈ vs) → L2.wipe (L2.wipe σ ws) vs = L2.wipe σ vs := by
    intro ws
    induction ws with
    | nil => intro _; rfl
    | cons w ws ih =>
      intro h
      show L2.wipe ((L2.wipe σ ws).set w none) vs = L2.wipe σ vs
      rw [wipe_set (h w List.mem_cons_self)]
      exact ih fun z hz => h z (List.mem_cons_of_mem _ hz)
  exact aux vs fun _ h => h
def BindV (X : Cx) (vs : List Nat) (tg : Expr) (d : PD) (ρ ρ' : Ro) : Prop := Ok0 X → ∀ b I H σ v, SR X.K b I H σ ρ → Dp X.K I v d → ∀ Q : St → Hp → Prop, (∀ σ', SR X.K b I H σ' ρ' → L2.wipe σ' vs = L2.wipe σ vs → Q σ' H) → WG X tg v σ H Q
def BindVs (X : Cx) (vs : List Nat) (ts : List Expr) (ds : List PD) (ρ ρ' : Ro) : Prop := Ok0 X → ∀ b I H σ ws, SR X.K b I H σ ρ → DpAll X.K I ws ds → ∀ Q : St → Hp → Prop, (∀ σ', SR X.K b I H σ' ρ' → L2.wipe σ' vs = L2.wipe σ vs → Q σ' H) → WGs X ts ws σ H Q
section
variable {X : Cx} {ρ ρ' ρ1 : Ro} {tg e : Expr} {es : List Expr} {d : PD} {ds : List PD} {p pos : Pos} {vs : List Nat}
theorem bv_nm (i : Nat) {x : Str} (hi : X.N[i]? = some x := by rfl) (hx : Loc X.env.scope x := by first | exact .inl rfl | exact .inr rfl) (hf : X.fn x = true ∨ X.env.scope.names.lookup x = some .local := by first | exact .inl rfl | exact .inr rfl) (hv : i ∈ vs := by decide) :
    BindV X vs (.Name x p) d ρ (ρ.set i (some (.d d))) := fun ok b I H σ v S dv Q q => WG.of (pg_name ok.nd hi hx hf) (q _ (S.setD dv i) (wipe_set hv))
theorem bvs_nil : BindVs X vs [] [] ρ ρ := fun ok b I H σ ws S dvs Q q => WGs.of pgs_nil ⟨by cases dvs; rfl, q σ S rfl⟩
theorem bvs_cons (h : BindV X vs e d ρ ρ1) (hr : BindVs X vs es ds ρ1 ρ') (hs : (assignEach (e :: es) X.env).map (·.2) = assign e X.env :: (assignEach es X.env).map (·.2) := by rfl) : BindVs X vs (e :: es) (d :: ds) ρ ρ' := fun ok b I H σ ws S dvs Q q => by
  cases dvs with
  | cons d1 d2 => exact WGs.of (pgs_cons pg_w pgs_w hs) ⟨_, _, rfl, h ok b I H σ _ S d1 _ fun σ' S' e1 => hr ok b I H σ' _ S' d2 Q fun σ2 S2 e2 => q σ2 S2 (e2.trans e1)⟩
theorem bv_tup {n : Nat} (h : BindVs X vs es ds ρ ρ') (hl : ds.length = (assignEach es X.env).length := by rfl) (hst : (assignEach es X.env).findIdx? (·.1) = none := by rfl) : BindV X vs (.Tuple es n p) (.tuple ds) ρ ρ' := fun ok b I H σ v S dv Q q => by
  obtain ⟨t, xs, rfl, h1, h2⟩ := dp_tup dv
  exact WG.of (pg_tup ok.calm pgs_w rfl hst) ⟨t, xs, rfl, sqt_same S.same h1, by rw [DpAll.len h2, hl], h ok b I H σ xs S h2 Q q⟩
end
abbrev BX (X : Cx) (scope : Scope) (s : Shared) (H : Hp) (C : Addr) (cl : List (Str × Addr)) (fp : List Addr) : Cx := X.blk s H scope (compEnvC scope cl C X.env) fp
theorem ok_blk {X : Cx} (ok : Ok0 X) {scope : Scope} {s : Shared} {H : Hp} {C : Addr} {cl : List (Str × Addr)} {fp : List Addr} : Ok0 (BX X scope s H C cl fp) := ⟨ok.nd, ok.calm, PassesOwn.never⟩
section
variable {X : Cx} {ρ : Ro} {tg iter elt c : Expr} {items : List PD} {p pos : Pos}
theorem lc_read {vs : List Nat} (hit : ItD X tg iter ρ items) (f : PD → Option PD) {g : TG} {tt : TT} {te : TE} (hz : items.length ≤ 10000)
    (turn : ∀ (i : Nat) d, items[i]? = some d → ∀ b I H σ v, SR X.K b I H σ (wipeR ρ vs) → Dp X.K I v d → ∀ (Qn : Hp → Prop) (Qy : VK), (f d = none → ∀ I' H', Gr I H I' H' → Qn H') → (∀ e, f d = some e → ∀ y I' H', Gr I H I' H' → Dp X.K I' y e → Qy y H') →
      g v σ H fun σ2 H2 => L2.wipe σ2 vs = L2.wipe σ vs ∧ tt σ2 H2 fun k H3 => if k = true then te σ2 H3 Qy else Qn H3)
    (ok : Ok0 X) (b : Bs) (I H : Hp) (σ : St) (S : SR X.K b I H σ ρ) (Q : VK) (q : ∀ p u I' H', Gr I H I' H' → H p = none → I' p = none → H' p = some u → OwnRep X.K I' p (.l (items.filterMap f)) u → Q (.ref p) H') : tLc (WI X tg iter) g tt te vs σ H Q :=
  hit ok b I H σ S _ fun J I1 H1 T Y g1 w hT hY D hD => by
    refine lc_it w (fun i H' => ∃ I' ws, Gr I1 H1 I' H' ∧ I' D = none ∧ H' D = some (.lst ws) ∧ DpAll X.K I' ws ((items.take i).filterMap f)) ⟨I1, [], Gr.newM g1.s hD, g1.s.free hD, upd_same, .nil⟩ (fun i H' _ h => ?_) (fun i x H' H'' hi h y => ?_) (fun H' h => ?_)
    · obtain ⟨I', ws, g', h1, h2, h3⟩ := h
      exact hT I' H' g'.i g'.s
    · obtain ⟨I', ws, g', h1, h2, h3⟩ := h
      have hi' : items[i]? = some items[i] := List.getElem?_eq_getElem hi
      have et : items.take (i + 1) = items.take i ++ [items[i]] := by
        rw [List.take_add_one, hi']
        rfl
      obtain ⟨I2, g2, dv⟩ := hY i _ H' x H'' I' hi' g'.i g'.s y
      have S2 := (((S.grow g1).grow g').grow g2).wipe vs
      have hD2 : ∀ I3 H3, Gr I2 H'' I3 H3 → I3 D = none ∧ H3 D = some (.lst ws) := fun I3 H3 g3 => by
        refine ⟨?_, g3.h _ _ (g2.h _ _ h2)⟩
        cases e : I3 D with
        | none => rfl
        | some o =>
          rcases (g2.trans g3).n D h1 (by rw [e]; exact fun z => by cases z) with z | ⟨_, z⟩
          · rw [z] at h2
            cases h2
          · rw [z] at h2
            cases h2
      have t := turn i _ hi' b I2 H'' (L2.wipe σ vs) x S2 dv (fun H3 => ∃ I' ws, Gr I1 H1 I' H3 ∧ I' D = none ∧ H3 D = some (.lst ws) ∧ DpAll X.K I' ws ((items.take (i + 1)).filterMap f))
        (fun y H4 => ∃ acc, H4 D = some (.lst acc) ∧ acc.length < sizeLine ∧ ∃ I' ws, Gr I1 H1 I' (upd H4 D (.lst (acc ++ [y]))) ∧ I' D = none ∧ (upd H4 D (.lst (acc ++ [y]))) D = some (.lst ws) ∧ DpAll X.K I' ws ((items.take (i + 1)).filterMap f)) (fun fe I3 H3 g3 => ?_) (fun e fe y I3 H3 g3 dy => ?_)
      · rw [wipe_wipe] at t
        exact t
      · obtain ⟨k1, k2⟩ := hD2 I3 H3 g3
        refine ⟨I3, ws, (g'.trans g2).trans g3, k1, k2, ?_⟩
        rw [et, List.filterMap_append, List.filterMap_cons, fe, List.filterMap_nil, List.append_nil]
        exact Dp.upAll (g2.i.trans g3.i) _ _ h3
      · obtain ⟨k1, k2⟩ := hD2 I3 H3 g3
        refine ⟨ws, k2, ?_, I3, ws ++ [y], ((g'.trans g2).trans g3).mut k1 hD, k1, upd_same, ?_⟩
        · have l1 := DpAll.len h3
          have l2 := List.length_filterMap_le f (items.take i)
          have l3 := List.length_take_le i items
          exact Nat.lt_of_lt_of_le (show ws.length < 100000 by omega) (by decide)
        · rw [et, List.filterMap_append, List.filterMap_cons, fe, List.filterMap_nil]
          exact DpAll.app (Dp.upAll (g2.i.trans g3.i) _ _ h3) dy
    · obtain ⟨I', ws, g', h1, h2, h3⟩ := h
      rw [List.take_length] at h3
      exact q D (.lst ws) I' H' (g1.trans g') (g1.h.free hD) h1 h2 h3
/-- the turn's condition, without tests | with one -/
def TM (X : Cx) (scope : Scope) (own : List (Str × Nat)) (tg elt : Expr) (ρ : Ro) (items : List PD) (gf : PD → PD) : Prop := ∀ (i : Nat) d, items[i]? = some d → ∃ ρ', ∀ s H C cl fp, BindV (BX X scope s H C cl fp) (own.map (·.2)) tg d (wipeR ρ (own.map (·.2))) ρ' ∧ EvD (BX X scope s H C cl fp) elt ρ' (gf d)
def TF (X : Cx) (scope : Scope) (own : List (Str × Nat)) (tg c elt : Expr) (ρ : Ro) (items : List PD) (f : PD → Option PD) : Prop := ∀ (i : Nat) d, items[i]? = some d → ∃ ρ' k, ∀ s H C cl fp, BindV (BX X scope s H C cl fp) (own.map (·.2)) tg d (wipeR ρ (own.map (·.2))) ρ' ∧ EvT (BX X scope s H C cl fp) c ρ' k ∧
  (k = false → f d = none) ∧ (k = true → ∃ e, f d = some e ∧ EvD (BX X scope s H C cl fp) elt ρ' e)
theorem lcM_read {scope : Scope} (own : List (Str × Nat)) (hit : ItD X tg iter ρ items) (gf : PD → PD) (hz : items.length ≤ 10000) (ht : TM X scope own tg elt ρ items gf) (ok : Ok0 X) (b : Bs) (I H : Hp) (σ : St) (S : SR X.K b I H σ ρ) (Q : VK)
    (q : ∀ p u I' H', Gr I H I' H' → H p = none → I' p = none → H' p = some u → OwnRep X.K I' p (.l (items.map gf)) u → Q (.ref p) H') :
    tLc (WI X tg iter) (fun v σ H Q => ∀ s H0 C cl fp, WG (BX X scope s H0 C cl fp) tg v σ H Q) tYes (fun σ H Q => ∀ s H0 C cl fp, WE (BX X scope s H0 C cl fp) elt σ H Q) (own.map (·.2)) σ H Q := by
  rw [← List.filterMap_eq_map] at q
  refine lc_read hit (some ∘ gf) hz (fun i d hi b I H σ v S dv Qn Qy hn hy s H0 C cl fp => ?_) ok b I H σ S Q q
  obtain ⟨ρ', hr⟩ := ht i d hi
  refine (hr s H0 C cl fp).1 (ok_blk ok) b I H σ v S dv _ fun σ2 S2 e2 => ⟨e2, ?_⟩
  show if true = true then (∀ s H0 C cl fp, WE (BX X scope s H0 C cl fp) elt σ2 H Qy) else Qn H
  rw [if_pos rfl]
  intro s H0 C cl fp
  exact (hr s H0 C cl fp).2 (ok_blk ok) b I H σ2 S2 Qy fun y I' H' g dy => hy (gf d) rfl y I' H' g dy
theorem eo_lc {scope : Scope} (own : List (Str × Nat)) (hit : ItD X tg iter ρ items) (gf : PD → PD) (hz : items.length ≤ 10000) (ht : TM X scope own tg elt ρ items gf) (hok : BlkOk X.N X.env.scope scope own) (hs : ∀ x, foldedSetIterable iter X.env x = pure x := by intro _; rfl) :
    EvO X (.ListComp elt [⟨tg, iter, [], 0⟩] scope pos) ρ (.l (items.map gf)) := fun ok b I H σ S Q q =>
  WE.of (pe_lc (te := fun σ H Q => ∀ s H0 C cl fp, WE (BX X scope s H0 C cl fp) elt σ H Q) ok.calm ok.nd pi_w hok (fun s H0 C cl fp => ⟨fun pins s2 σ H v u Q I r h => h s H0 C cl fp pins s2 u I r⟩) (fun _ _ _ _ _ => pts_nil) (fun s H0 C cl fp => ⟨fun pins s2 σ H Q I h => h s H0 C cl fp pins s2 I⟩) hs)
    (lcM_read own hit gf hz ht ok b I H σ S Q q)
theorem lcF_read {scope : Scope} (own : List (Str × Nat)) (hit : ItD X tg iter ρ items) (f : PD → Option PD) (hz : items.length ≤ 10000) (ht : TF X scope own tg c elt ρ items f) (ok : Ok0 X) (b : Bs) (I H : Hp) (σ : St) (S : SR X.K b I H σ ρ) (Q : VK)
    (q : ∀ p u I' H', Gr I H I' H' → H p = none → I' p = none → H' p = some u → OwnRep X.K I' p (.l (items.filterMap f)) u → Q (.ref p) H') :
    tLc (WI X tg iter) (fun v σ H Q => ∀ s H0 C cl fp, WG (BX X scope s H0 C cl fp) tg v σ H Q) (fun σ H Q => ∀ s H0 C cl fp, WT (BX X scope s H0 C cl fp) c σ H Q) (fun σ H Q => ∀ s H0 C cl fp, WE (BX X scope s H0 C cl fp) elt σ H Q) (own.map (·.2)) σ H Q := by
  refine lc_read hit f hz (fun i d hi b I H σ v S dv Qn Qy hn hy s H0 C cl fp => ?_) ok b I H σ S Q q
  obtain ⟨ρ', k, hr⟩ := ht i d hi
  refine (hr s H0 C cl fp).1 (ok_blk ok) b I H σ v S dv _ fun σ2 S2 e2 => ⟨e2, fun s H0 C cl fp => ?_⟩
  refine (hr s H0 C cl fp).2.1 (ok_blk ok) b I H σ2 S2 _ fun I1 H1 g1 => ?_
  cases k with
  | false =>
    rw [if_neg Bool.false_ne_true]
    exact hn ((hr s H0 C cl fp).2.2.1 rfl) I1 H1 g1
  | true =>
    rw [if_pos rfl]
    intro s H0 C cl fp
    obtain ⟨e, fe, he⟩ := (hr s H0 C cl fp).2.2.2 rfl
    exact he (ok_blk ok) b I1 H1 σ2 (S2.grow g1) Qy fun y I' H' g dy => hy e fe y I' H' (g1.trans g) dy
theorem eo_lcF {scope : Scope} (own : List (Str × Nat)) (hit : ItD X tg iter ρ items) (f : PD → Option PD) (hz : items.length ≤ 10000) (ht : TF X scope own tg c elt ρ items f) (hok : BlkOk X.N X.env.scope scope own) (hs : ∀ x, foldedSetIterable iter X.env x = pure x := by intro _; rfl) :
    EvO X (.ListComp elt [⟨tg, iter, [c], 0⟩] scope pos) ρ (.l (items.filterMap f)) := fun ok b I H σ S Q q =>
  WE.of (pe_lc (te := fun σ H Q => ∀ s H0 C cl fp, WE (BX X scope s H0 C cl fp) elt σ H Q) (tt := fun σ H Q => ∀ s H0 C cl fp, WT (BX X scope s H0 C cl fp) c σ H Q) ok.calm ok.nd pi_w hok (fun s H0 C cl fp => ⟨fun pins s2 σ H v u Q I r h => h s H0 C cl fp pins s2 u I r⟩)
      (fun s H0 C cl fp => pts_one ⟨fun pins s2 σ H Q I h => h s H0 C cl fp pins s2 I⟩) (fun s H0 C cl fp => ⟨fun pins s2 σ H Q I h => h s H0 C cl fp pins s2 I⟩) hs)
    (lcF_read own hit f hz ht ok b I H σ S Q q)
/-- name = [..] -/
theorem sv_lc (i : Nat) {x : Str} {px : Pos} {scope : Scope} {rest : List Stmt} {P : Po} (own : List (Str × Nat)) (hit : ItD X tg iter ρ items) (gf : PD → PD) (hz : items.length ≤ 10000) (ht : TM X scope own tg elt ρ items gf) (hok : BlkOk X.N X.env.scope scope own) (k : SEv X rest (ρ.set i (some (.o (.l (items.map gf))))) P)
    (hy : X.N[i]? = some x := by rfl) (hyl : X.env.scope.names.lookup x = some .local := by rfl) (hsw : swapsWith (.ListComp elt [⟨tg, iter, [], 0⟩] scope pos) (some (.Name x px)) p.line X.env = pure true := by exact sw_true rfl rfl rfl (by decide +kernel)) (hs : ∀ x, foldedSetIterable iter X.env x = pure x := by intro _; rfl) :
    SEv X (.Assign [.Name x px] (.ListComp elt [⟨tg, iter, [], 0⟩] scope pos) p :: rest) ρ P := fun ok =>
  sv_one (ps_setLc (te := fun σ H Q => ∀ s H0 C cl fp, WE (BX X scope s H0 C cl fp) elt σ H Q) ok.calm ok.nd hy hyl hsw pi_w hok (fun s H0 C cl fp => ⟨fun pins s2 σ H v u Q I r h => h s H0 C cl fp pins s2 u I r⟩) (fun _ _ _ _ _ => pts_nil) (fun s H0 C cl fp => ⟨fun pins s2 σ H Q I h => h s H0 C cl fp pins s2 I⟩) hs)
    (fun ok b I H σ D S E => lcM_read own hit gf hz ht ok b I H σ S _ fun t u I' H' g h0 h1 h2 h3 => k ok b I' H' _ D (S.setO g h0 h1 h2 h3 i) E) ok
theorem sv_lcF (i : Nat) {x : Str} {px : Pos} {scope : Scope} {rest : List Stmt} {P : Po} (own : List (Str × Nat)) (hit : ItD X tg iter ρ items) (f : PD → Option PD) (hz : items.length ≤ 10000) (ht : TF X scope own tg c elt ρ items f) (hok : BlkOk X.N X.env.scope scope own) (k : SEv X rest (ρ.set i (some (.o (.l (items.filterMap f))))) P)
    (hy : X.N[i]? = some x := by rfl) (hyl : X.env.scope.names.lookup x = some .local := by rfl) (hsw : swapsWith (.ListComp elt [⟨tg, iter, [c], 0⟩] scope pos) (some (.Name x px)) p.line X.env = pure true := by exact sw_true rfl rfl rfl (by decide +kernel)) (hs : ∀ x, foldedSetIterable iter X.env x = pure x := by intro _; rfl) :
    SEv X (.Assign [.Name x px] (.ListComp elt [⟨tg, iter, [c], 0⟩] scope pos) p :: rest) ρ P := fun ok =>
  sv_one (ps_setLc (te := fun σ H Q => ∀ s H0 C cl fp, WE (BX X scope s H0 C cl fp) elt σ H Q) (tt := fun σ H Q => ∀ s H0 C cl fp, WT (BX X scope s H0 C cl fp) c σ H Q) ok.calm ok.nd hy hyl hsw pi_w hok (fun s H0 C cl fp => ⟨fun pins s2 σ H v u Q I r h => h s H0 C cl fp pins s2 u I r⟩)
      (fun s H0 C cl fp => pts_one ⟨fun pins s2 σ H Q I h => h s H0 C cl fp pins s2 I⟩) (fun s H0 C cl fp => ⟨fun pins s2 σ H Q I h => h s H0 C cl fp pins s2 I⟩) hs)
    (fun ok b I H σ D S E => lcF_read own hit f hz ht ok b I H σ S _ fun t u I' H' g h0 h1 h2 h3 => k ok b I' H' _ D (S.setO g h0 h1 h2 h3 i) E) ok
end

/-! ### defs -/
/-- on the arguments ds the def gives d -/
def SpF (K : PySem.W.Frag) (S : List PD → PD → Prop) : Sp := fun vs H Q _ => ∃ I ds d, S ds d ∧ Same I H ∧ DpAll K I vs ds ∧ ∀ v I' H', Gr I H I' H' → Dp K I' v d → Q v H'
structure Fn (P : Program) (w : World) (K : PySem.W.Frag) (mg : Str → Option Value) (base : Heap) (k : Nat) (x : Str) (S : List PD → PD → Prop) : Prop where
  ex : ∃ f fd ps, FnOk P w K mg base CX0 k f fd ps (SpF K S) ∧ mg x = some (.ref f) ∧ PySem.W.keepIn K (.ref f) = true ∧ Binds K fd ps []
theorem ev_call {X : Cx} {ρ : Ro} {k : Nat} {x : Str} {S : List PD → PD → Prop} {e : Expr} {es : List Expr} {ds : List PD} {d : PD} {p pos : Pos} (F : Fn X.prog X.w X.K X.mg X.base k x S) (hr : Room k X.A) (ha : EvA X (e :: es) ρ ds) (hS : S ds d)
    (hg : Gl X x := by rfl) (hdb : (x == ("__debug__" : Str)) = false := by decide) (he : starEach (e :: es) X.env = (false, eval e X.env) :: starEach es X.env := by rfl) (hpl : (backTo pos (starEach es X.env)).any (·.1) = false := by rfl) :
    EvD X (.Call (.Name x p) (e :: es) [] pos) ρ d := fun ok b I H σ Sr Q q => by
  obtain ⟨f, fd, ps, G, hm, hk, hb⟩ := F.ex
  refine WE.of (pe_call G hr hg hm hk hb .nil pass0 pa_w hdb he hpl) (ha ok b I H σ Sr _ fun vs I1 H1 g1 dvs => ?_)
  rw [List.append_nil]
  exact ⟨I1, ds, d, hS, g1.s, dvs, fun v I2 H2 g2 dv => q v I2 H2 (g1.trans g2) dv⟩
def ini (N : List Str) (ds : List PD) : Ro := ds.map (fun d => some (.d d)) ++ List.replicate (N.length - ds.length) none
theorem sr_start {K : PySem.W.Frag} {I H : Hp} {N : List Str} {vs : List V} {ds : List PD} (s : Same I H) (h : DpAll K I vs ds) : SR K ⟨I, H⟩ I H (L2.start N vs) (ini N ds) := by
  have hl := DpAll.len h
  have at1 : ∀ (i : Nat) c, (ini N ds)[i]? = some (some c) → ∃ d, ds[i]? = some d ∧ c = .d d := fun i c e => by
    unfold ini at e
    by_cases hi : i < ds.length
    · rw [List.getElem?_append_left (by rw [List.length_map]; exact hi), List.getElem?_map, List.getElem?_eq_getElem hi] at e
      exact ⟨ds[i], List.getElem?_eq_getElem hi, (Option.some.inj (Option.some.inj e)).symm⟩
    · rw [List.getElem?_append_right (by rw [List.length_map]; omega), List.getElem?_replicate] at e
      split at e
      · cases e
      · cases e
  refine ⟨Gr.refl s, ?_, fun i x e => ?_, fun i a e => ?_, fun i o e => ?_, fun i j o o' p _ e => ?_⟩
  · unfold L2.start ini
    rw [List.length_append, List.length_append, List.length_map, List.length_map, List.length_replicate, List.length_replicate, hl]
  · obtain ⟨d, e1, e2⟩ := at1 i _ e
    cases e2
    obtain ⟨v, e3, e4⟩ := DpAll.get h e1
    refine ⟨v, ?_, e4⟩
    unfold L2.start
    have hi : i < vs.length := (List.getElem?_eq_some_iff.mp e3).1
    rw [List.getElem?_append_left (by rw [List.length_map]; exact hi), List.getElem?_map, e3]
    rfl
  · obtain ⟨d, _, e2⟩ := at1 i _ e
    cases e2
  · obtain ⟨d, _, e2⟩ := at1 i _ e
    cases e2
  · obtain ⟨d, _, e2⟩ := at1 i _ e
    cases e2
/-- a def by its body -/
theorem fn_mk {P : Program} {w : World} {K : PySem.W.Frag} {mg : Str → Option Value} {base : Heap} {x : Str} {st : Stmt} {f : Addr} {fd : FuncData} {N ps : List Str} {k : Nat} {S : List PD → PD → Prop}
    (F : FunD K x x (defArgs st) (defBody st) (defScope st) [] [] f fd) (hm : mg x = some (.ref f)) (sc : FnScope N ps (defScope st))
    (hb : ∀ (kV doc pm : Value) (an : Option Addr) (cdv ct : Value) (us : List Value), us.length = ps.length → bindArgs (PySem.W.fnOf x x (defArgs st) (defBody st) (defScope st) .none kV doc pm an cdv ct) ⟨us, []⟩ = pure (ps.zip us))
    (hl : ∀ ds d, S ds d → ds.length = ps.length)
    (body : ∀ (cdv : Value) (A : Around) (outer : List Env) (s : Shared) (H : Hp) (E : XK), Room k (A.deeper (envOfC x (defScope st) s.heap.objs.size f cdv)) → ∀ ds d, S ds d →
      SEv (cxOf CX0 P w K mg base N x (defScope st) f cdv A outer s H E).nox (defBody st) (ini N ds) { nx := fun _ => d = .none, rt := fun d' _ => d' = d }) : Fn P w K mg base (k + 1) x S := by
  refine ⟨f, fd, ps, F.ok sc (fun vs H Q E h => ?_) (fun cdv A outer s H vs Q E hr h => ?_), hm, F.kp, F.bindsN hb⟩
  · obtain ⟨I, ds, d, h1, _, h3, _⟩ := h
    rw [DpAll.len h3]
    exact hl ds d h1
  · obtain ⟨I, ds, d, h1, h2, h3, q⟩ := h
    refine ⟨_, pss_w.nox, ?_⟩
    exact body cdv A outer s H E hr ds d h1 ⟨sc.nd, rfl, PassesOwn.never⟩ ⟨I, H⟩ I H (L2.start N vs) _ (sr_start h2 h3) ⟨fun ρ I' H' σ' e S' => q .non I' H' S'.g (by cases e; exact .non), fun d' ρ v I' H' σ' e S' dv => q v I' H' S'.g (by cases e; exact dv),
      fun _ _ _ _ h => h.elim, fun _ _ _ _ h => h.elim, fun _ _ _ _ _ h => h.elim⟩
end G
set_option Elab.async false
set_option linter.all false
set_option maxRecDepth 100000
set_option maxHeartbeats 4000000
/-! More rules: isinstance, max of a tuple, sorted pairs, three names at once, a star in a tuple, own lists joined, popped, extended. -/
namespace G
open PySem PySem.Spec PyProof.Rows L2
theorem rm0 {k : Nat} {A : Around} (h : Room k A) : A.units < cLine := by
  have := h.un
  omega
theorem rm1 {k : Nat} {A : Around} (h : Room k A) : A.units + 1 < cLine := by
  have := h.un
  omega
theorem rm2 {k : Nat} {A : Around} (h : Room k A) : A.units + 2 < cLine := by
  have := h.un
  omega
theorem rm64 {k : Nat} {A : Around} (h : Room k A) : A.units + 64 < cLine := by
  have := h.un
  omega
section
variable {X : Cx} {ρ : Ro} {a c e : Expr} {es : List Expr} {d d1 d2 : PD} {ds : List PD} {pos p p' : Pos} {k : Bool} {i j : Int} {rest : List Stmt} {P : Po}
/-! isinstance -/
def tyE : PD → Option String
  | .none => some "NoneType"
  | .bool _ => some "bool"
  | .int _ => some "int"
  | .str _ => some "str"
  | .tuple _ => some "tuple"
  | _ => none
theorem tyx {K : PySem.W.Frag} {I H : Hp} {v : V} {d : PD} {T : String} (s : Same I H) (h : Dp K I v d) (e : tyE d = some T) : TyX K H v (.type T) := by
  cases h with
  | non => cases e; exact .base .non
  | bl k => cases e; exact .base (.bl k)
  | int k => cases e; exact .base (.int k)
  | str k => cases e; exact .base (.str k)
  | tup q t => cases e; exact .base (.tup (s _ _ q))
  | lst => cases e
  | dct => cases e
theorem ev_isi {t : Str} {T U : String} {p2 : Pos} (hm : X.mg "isinstance" = none) (ha : EvD X a ρ d) (hd : tyE d = some U) (ht : X.mg t = none) (hb : bootBuiltins t = some (.type T)) (hk : kitB U T = some k) (hgt : Gl X t := by rfl) (hn : t ≠ "__name__" := by decide) (hdb : (t == ("__debug__" : Str)) = false := by decide)
    (hg : Gl X "isinstance" := by rfl) (he : starEach [a, .Name t p2] X.env = (false, eval a X.env) :: starEach [.Name t p2] X.env := by rfl) (he2 : starEach [.Name t p2] X.env = (false, eval (.Name t p2) X.env) :: starEach [] X.env := by rfl)
    (hpl : (backTo pos (starEach [.Name t p2] X.env)).any (·.1) = false := by rfl) : EvD X (.Call (.Name "isinstance" p) [a, .Name t p2] [] pos) ρ (.bool k) := fun ok b I H σ S Q q => by
  refine WE.of (pe_callB call_isi hg hm (by decide +kernel) (pa_cons pe_w (pa_cons (pe_bltn (v := .ty T) hgt ht hb rfl hn hdb) pa_nil he2) he) (by decide) (by decide) he hpl) ?_
  refine ha ok b I H σ S _ fun x I1 H1 g1 dx => ⟨x, .ty T, .type U, .type T, k, rfl, .ty T, tyx g1.s dx hd, kit_ty hk, q _ I1 H1 g1 (.bl k)⟩
/-! max of a tuple of two ints -/
theorem call_maxT2 (hc : X.calm = true) (hu : X.A.units + 2 < cLine) : CallR X (.builtin "max") (fun vs H Q => ∃ t i j, vs = [V.ref t] ∧ H t = some (.tup [.int i, .int j]) ∧ Q (.int (if j > i then j else i)) H) := by
  intro pins s σ H vs us Q I r h
  obtain ⟨t, i, j, rfl, ht, q⟩ := h
  rw [Vals.ref1 r]
  obtain ⟨its, rv, hl, _⟩ := I.tuple (.inl (.inl ht))
  obtain ⟨u1, u2, rfl, ri, rj⟩ := vals2 rv
  obtain ⟨t1, rfl⟩ := ri
  obtain ⟨t2, rfl⟩ := rj
  have al : PySem.W.AlikeAll [.int i, .int j] := by
    refine ⟨fun x hx y hy => ?_, fun x hx => ?_⟩
    · have h1 : x = .int i ∨ x = .int j := by simpa using hx
      have h2 : y = .int i ∨ y = .int j := by simpa using hy
      rcases h1 with rfl | rfl <;> rcases h2 with rfl | rfl <;> rfl
    · have h1 : x = .int i ∨ x = .int j := by simpa using hx
      rcases h1 with rfl | rfl <;> exact fun z => nomatch z
  refine PySem.W.max_tuple_data (x := .int i) (xs := [.int j]) (I.ok.hd hc) hl (ReadsAll.cons (Reads.int _ _) (ReadsAll.cons (Reads.int _ _) ReadsAll.nil)) al (by show X.A.units + 1 + 0 < cLine; omega) fun n v h' tk bs hv hr hk => ?_
  · have e := PySem.W.maxD_ints i [j]
    rw [List.map_cons, List.map_nil] at e
    rw [e] at hr
    cases hr with
    | int =>
      refine ⟨.int _, H, I.kept hk, ⟨_, rfl⟩, ?_⟩
      have e2 : [j].foldl max i = (if j > i then j else i) := by
        show max i j = _
        by_cases h : j > i
        · rw [if_pos h, Int.max_def, if_pos (Int.le_of_lt h)]
        · rw [if_neg h, Int.max_def]
          split <;> omega
      rw [e2]
      exact q
theorem ev_maxT {p' : Pos} (hu : X.A.units + 2 < cLine) (hm : X.mg "max" = none) (ha : EvD X e ρ (.tuple [.int i, .int j])) (hcalm : X.calm = true := by rfl) (hg : Gl X "max" := by rfl) (hs : starEach [e] X.env = [(false, eval e X.env)] := by rfl) : EvD X (.Call (.Name "max" p') [e] [] pos) ρ (.int (if j > i then j else i)) :=
  ev_callB (call_maxT2 hcalm hu) hm (by decide +kernel) (ea_cons ha ea_nil hs) (fun I H vs Q s dvs q => by
    obtain ⟨v, rfl, dv⟩ := dpa1 dvs
    obtain ⟨t, xs, rfl, h1, h2⟩ := dp_tupS dv
    obtain ⟨v1, v2, rfl, d1, d2⟩ := dpa2 h2
    cases dp_int d1
    cases dp_int d2
    exact ⟨t, i, j, rfl, s _ _ h1, q _ I H (Gr.refl s) (.int _)⟩) hg (he := hs) (hpl := rfl)
/-! sorted(a list of pairs of ints): the pairs in some order -/
theorem en_sortP {p' : Pos} {R : PD → Prop} {ps : List (Int × Int)} (hm : X.mg "sorted" = none) (ha : EvD X e ρ (.list (ps.map fun q => .tuple [.int q.1, .int q.2]))) (hR : ∀ qs : List (Int × Int), qs.Perm ps → R (.list (qs.map fun q => .tuple [.int q.1, .int q.2])))
    (hg : Gl X "sorted" := by rfl) (hs : starEach [e] X.env = [(false, eval e X.env)] := by rfl) (hpl : (backTo pos (starEach [] X.env)).any (·.1) = false := by rfl) : EvN X (.Call (.Name "sorted" p') [e] [] pos) ρ R := fun ok b I H σ S Q q => by
  refine WE.of (pe_callB cr_sortedP hg hm (by decide +kernel) (pa_cons pe_w pa_nil hs) (by decide) (by decide) hs hpl) ?_
  refine ha ok b I H σ S _ fun v I1 H1 g1 dv => ?_
  obtain ⟨t, xs, rfl, h1, h2⟩ := dp_lst dv
  have one : ∀ (zs : List V) (qs : List (Int × Int)), DpAll X.K I1 zs (qs.map fun q => .tuple [.int q.1, .int q.2]) → ∀ x ∈ zs, ∃ t i j, x = V.ref t ∧ H1 t = some (.tup [.int i, .int j]) := by
    intro zs qs h x hx
    obtain ⟨n, hn⟩ := List.getElem?_of_mem hx
    obtain ⟨d, hd, dd⟩ := DpAll.getV h hn
    rw [List.getElem?_map] at hd
    cases eq : qs[n]? with
    | none => rw [eq] at hd; cases hd
    | some w =>
      rw [eq] at hd
      cases hd
      obtain ⟨t, ys, rfl, k1, k2⟩ := dp_tupS dd
      obtain ⟨v1, v2, rfl, d1, d2⟩ := dpa2 k2
      cases dp_int d1
      cases dp_int d2
      exact ⟨t, _, _, rfl, g1.s _ _ k1⟩
  refine ⟨t, xs, rfl, g1.s.seq h1, one xs ps h2, fun ys r hp hr => ?_⟩
  have perm : ∀ {ys zs : List V}, ys.Perm zs → ∀ qs : List (Int × Int), DpAll X.K I1 zs (qs.map fun q => .tuple [.int q.1, .int q.2]) → ∃ qs' : List (Int × Int), qs'.Perm qs ∧ DpAll X.K I1 ys (qs'.map fun q => .tuple [.int q.1, .int q.2]) := by
    intro ys zs hp
    induction hp with
    | nil => exact fun qs h => ⟨qs, .refl _, h⟩
    | cons x hp ih =>
      intro qs h
      cases qs with
      | nil => cases h
      | cons w qs =>
        cases h with
        | cons h1 h2 =>
          obtain ⟨qs', k1, k2⟩ := ih qs h2
          exact ⟨w :: qs', k1.cons w, .cons h1 k2⟩
    | swap x y l =>
      intro qs h
      cases qs with
      | nil => cases h
      | cons w qs =>
        cases qs with
        | nil => cases h with | cons h1 h2 => cases h2
        | cons w2 qs =>
          cases h with
          | cons h1 h2 =>
            cases h2 with
            | cons h2 h3 => exact ⟨w2 :: w :: qs, .swap w w2 qs, .cons h2 (.cons h1 h3)⟩
    | trans p1 p2 ih1 ih2 =>
      intro qs h
      obtain ⟨q1, k1, k2⟩ := ih2 qs h
      obtain ⟨q2, k3, k4⟩ := ih1 q1 k2
      exact ⟨q2, k3.trans k1, k4⟩
  obtain ⟨qs, k1, k2⟩ := perm hp ps h2
  exact q _ _ _ _ (hR qs k1) (g1.trans (Gr.new g1.s hr)) (.lst (.inl (.inl upd_same)) (Dp.upAll (same_up (g1.s.free hr)) _ _ k2))
/-! two new lists joined -/
theorem eo_cat {xs ys : List PD} (ha : EvO X a ρ (.l xs)) (hb : EvO X c ρ (.l ys)) (hz : xs.length + ys.length ≤ 100000) : EvO X (.BinOp a .Add c p) ρ (.l (xs ++ ys)) := fun ok b I H σ S Q q => by
  refine WE.of (pe_op op_cat pe_w pe_w) ?_
  refine ha ok b I H σ S _ fun p1 u1 I1 H1 g1 h1 h2 h3 h4 => hb ok b I1 H1 σ (S.grow g1) _ fun p2 u2 I2 H2 g2 k1 k2 k3 k4 => ?_
  cases u1 with
  | lst vs =>
    cases u2 with
    | lst ws =>
      have l1 := DpAll.len h4
      have l2 := DpAll.len k4
      refine ⟨p1, p2, vs, ws, rfl, rfl, g2.h _ _ h3, k3, by rw [l1, l2]; exact Nat.le_trans hz (by decide), fun r hr => ?_⟩
      have g := g1.trans g2
      exact q r _ I2 _ (g.trans (Gr.newM g.s hr)) (g.h.free hr) (g.s.free hr) upd_same (DpAll.cat (Dp.upAll g2.i _ _ h4) k4)
    | _ => exact k4.elim
  | _ => exact h4.elim
/-! (x, *y) -/
theorem ea_star {es' : List PD} (h : EvD X e ρ (.tuple es')) (hr : EvA X es ρ ds) (hs : starEach (.Starred e p :: es) X.env = (true, eval e X.env) :: starEach es X.env := by rfl) : EvA X (.Starred e p :: es) ρ (es' ++ ds) := fun ok b I H σ S Q q =>
  WA.of (StX.pa_star pe_w pa_w hs) (h ok b I H σ S _ fun v I1 H1 g1 dv => by
    obtain ⟨t, xs, rfl, h1, h2⟩ := dp_tup dv
    refine ⟨t, xs, rfl, .inl (sqt_same g1.s h1), hr ok b I1 H1 σ (S.grow g1) _ fun vs I2 H2 g2 dvs => ?_⟩
    exact q _ I2 H2 (g1.trans g2) (DpAll.cat (Dp.upAll g2.i _ _ h2) dvs))
/-! three names at once -/
theorem sv_parX3 (i j l : Nat) {x y z : Str} {e1 e2 e3 : Expr} {px py pz pt : Pos} {kt k2 : Nat} {pt2 : Pos} {R1 R2 R3 : Cl → Prop} (h1 : EvX X e1 ρ R1) (h2 : EvX X e2 ρ R2) (h3 : EvX X e3 ρ R3) (k : ∀ c1 c2 c3, R1 c1 → R2 c2 → R3 c3 → SEv X rest (((ρ.set i (some c1)).set j (some c2)).set l (some c3)) P)
    (hij : i ≠ j := by decide) (hil : i ≠ l := by decide) (hjl : j ≠ l := by decide) (hi : X.N[i]? = some x := by rfl) (hj : X.N[j]? = some y := by rfl) (hl : X.N[l]? = some z := by rfl) (hx : X.env.scope.names.lookup x = some .local := by rfl) (hy : X.env.scope.names.lookup y = some .local := by rfl) (hz : X.env.scope.names.lookup z = some .local := by rfl)
    (hw : swappedStores [.Tuple [.Name x px, .Name y py, .Name z pz] kt pt] (.Tuple [e1, e2, e3] k2 pt2) X.env = pure (some [x, y, z]) := by rfl)
    (hs : swapsWithSole [.Tuple [.Name x px, .Name y py, .Name z pz] kt pt] (.Tuple [e1, e2, e3] k2 pt2) p.line X.env = pure false := by rfl)
    (ha : starEach [e1, e2, e3] X.env = (false, eval e1 X.env) :: starEach [e2, e3] X.env := by rfl) (hb : starEach [e2, e3] X.env = (false, eval e2 X.env) :: starEach [e3] X.env := by rfl) (hc : starEach [e3] X.env = (false, eval e3 X.env) :: starEach [] X.env := by rfl) :
    SEv X (.Assign [.Tuple [.Name x px, .Name y py, .Name z pz] kt pt] (.Tuple [e1, e2, e3] k2 pt2) p :: rest) ρ P := fun ok =>
  sv_one (ps_par3 ok.calm ok.nd hi hj hl hij hil hjl hx hy hz (pa_cons pe_w (pa_cons pe_w (pa_cons pe_w pa_nil hc) hb) ha) hw hs) (fun ok b I H σ D S E => h1 ok b I H σ S _ fun v c1 I1 H1 r1 g1 cv => h2 ok b I1 H1 σ (S.grow g1) _ fun w c2 I2 H2 r2 g2 cw =>
    h3 ok b I2 H2 σ ((S.grow g1).grow g2) _ fun u c3 I3 H3 r3 g3 cu => ⟨v, w, u, rfl, k c1 c2 c3 r1 r2 r3 ok b I3 H3 _ D (((S.setC g1 cv i).setC g2 cw j).setC g3 cu l) E⟩) ok
/-! own lists: pop, extend, empty or not -/
theorem sv_pop (i j : Nat) {x y : Str} {xs : List PD} {py p1 p2 p3 : Pos} (k : SEv X rest ((ρ.set i (some (.o (.l xs)))).set j (some (.d d))) P) (hρ : ρ[i]? = some (some (.o (.l (xs ++ [d])))) := by rfl) (hN : X.N[i]? = some x := by rfl) (hj : X.N[j]? = some y := by rfl) (hy : Loc X.env.scope y := by first | exact .inl rfl | exact .inr rfl)
    (hv : Vis X.env.scope x := by first | exact Or.inl rfl | exact Or.inr (Or.inl rfl) | exact Or.inr (Or.inr rfl)) (hd : (x == ("__debug__" : Str)) = false := by decide) (hcd : (x == ("__classdict__" : Str)) = false := by decide)
    (hbase : attributeBase (.Name x p1) "pop" X.env (eval (.Name x p1) X.env) = eval (.Name x p1) X.env := by rfl) (hline : (p2.endLine == p3.line) = true := by rfl)
    (hs : swapsWith (.Call (.Attribute (.Name x p1) "pop" p2) [] [] p3) (some (.Name y py)) p.line X.env = pure false := by rfl) (hf : X.fn y = true ∨ X.env.scope.names.lookup y = some .local := by first | exact .inl rfl | exact .inr rfl) :
    SEv X (.Assign [.Name y py] (.Call (.Attribute (.Name x p1) "pop" p2) [] [] p3) p :: rest) ρ P := fun ok =>
  sv_one (ps_set ok.nd hj hy (pe_bm0 PySem.F.plainAttrs_list PySem.F.slot_list_pop PySem.F.type_list_pop mt_pop (pe_var hN hv hd hcd) hbase hline) hs hf) (fun ok b I H σ D S E => by
    obtain ⟨t, u, h1, h2, h3, h4, h5⟩ := S.own i _ hρ
    cases u with
    | lst vs =>
      have hl := DpAll.len h5
      rw [List.length_append, List.length_singleton] at hl
      obtain ⟨w, hw, dw⟩ := DpAll.get (i := xs.length) (d := d) h5 (by simp)
      have hdrop : DpAll X.K I vs.dropLast xs := by
        have aux : ∀ (zs : List V) (ys : List PD) (y : PD), DpAll X.K I zs (ys ++ [y]) → DpAll X.K I zs.dropLast ys := by
          intro zs ys y
          induction ys generalizing zs with
          | nil =>
            intro h
            obtain ⟨v, rfl, _⟩ := dpa1 h
            exact .nil
          | cons q ys ih =>
            intro h
            cases h with
            | @cons v vs _ _ r1 r2 =>
              cases vs with
              | nil => cases ys <;> cases r2
              | cons v2 vs => exact .cons r1 (ih _ r2)
        exact aux vs xs d h5
      refine ⟨.ref t, h1, .inl ⟨rfl, _, .inl (.inl h4)⟩, t, vs, w, rfl, rfl, h4, by rw [hl, Nat.add_sub_cancel]; exact hw, ?_⟩
      exact k ok b I _ _ D ((S.mutO (o' := .l xs) (u' := .lst vs.dropLast) hρ h1 hdrop).setD dw j) E
    | _ => exact h5.elim) ok
theorem sv_ext (i : Nat) {x : Str} {xs ys : List PD} {p1 p2 p3 : Pos} (h : EvO X e ρ (.l ys)) (hz : xs.length + ys.length ≤ 100000) (k : SEv X rest (ρ.set i (some (.o (.l (xs ++ ys))))) P) (hρ : ρ[i]? = some (some (.o (.l xs))) := by rfl) (hN : X.N[i]? = some x := by rfl)
    (hv : Vis X.env.scope x := by first | exact Or.inl rfl | exact Or.inr (Or.inl rfl) | exact Or.inr (Or.inr rfl)) (hd : (x == ("__debug__" : Str)) = false := by decide) (hcd : (x == ("__classdict__" : Str)) = false := by decide)
    (hbase : attributeBase (.Name x p1) "extend" X.env (eval (.Name x p1) X.env) = eval (.Name x p1) X.env := by rfl)
    (hfew : ((backTo p3 (starEach [e] X.env)).all (fun x => !x.1) && (backToKw p3 (keywordEach [] X.env)).all (fun x => x.1.isSome)
      && decide ([e].length + ([] : List Keyword).length + (if ([] : List Keyword).isEmpty then 0 else 1) < 30)) = true := by rfl)
    (hline : (p2.endLine == p3.line) = true := by rfl) (hs1 : starEach [e] X.env = (false, eval e X.env) :: starEach [] X.env := by rfl) (hplain : (backTo p3 (starEach [] X.env)).any (·.1) = false := by rfl)
    (hs : swapsWith (.Call (.Attribute (.Name x p1) "extend" p2) [e] [] p3) none p.line X.env = pure false := by rfl) : SEv X (.Expr (.Call (.Attribute (.Name x p1) "extend" p2) [e] [] p3) p :: rest) ρ P :=
  sv_one (ps_expr (pe_bm PySem.F.plainAttrs_list PySem.F.slot_list_extend PySem.F.type_list_extend mt_extend (pe_var hN hv hd hcd) (pa_cons pe_w pa_nil hs1) hbase hfew hline hs1 hplain) hs) fun ok b I H σ D S E => by
    obtain ⟨t, u, h1, h2, h3, h4, h5⟩ := S.own i _ hρ
    cases u with
    | lst vs =>
      refine ⟨.ref t, h1, .inl ⟨rfl, _, .inl (.inl h4)⟩, h ok b I H σ S _ fun r w I1 H1 g k0 k1 k2 k3 => ?_⟩
      have S1 := S.grow g
      obtain ⟨t', u', m1, m2, m3, m4, m5⟩ := S1.own i _ hρ
      rw [h1] at m1
      cases m1
      have eu : u' = .lst vs := Option.some.inj (m4.symm.trans (g.h _ _ h4))
      subst eu
      cases w with
      | lst ws =>
        refine ⟨t, r, vs, ws, rfl, rfl, m4, k2, ?_, ?_⟩
        · rw [DpAll.len m5, DpAll.len k3]
          exact Nat.le_trans hz (by decide)
        · exact k ok b I1 _ σ D (S1.mutO (o' := .l (xs ++ ys)) hρ h1 (DpAll.cat m5 k3)) E
      | _ => exact k3.elim
    | _ => exact h5.elim
end
end G
set_option Elab.async false
set_option linter.all false
set_option maxRecDepth 100000
set_option maxHeartbeats 4000000
/-! enumerate and zip over whatever draws; dicts with tuple keys walked. -/
namespace G
open PySem PySem.Spec PyProof.Rows L2

/-- an iterator at it, n items, while Gd holds of the tracked heap; what it draws is told by Y -/
structure Src (Pg : Program) (w : World) (K : PySem.W.Frag) (it : Addr) (n : Nat) (Gd : Hp → Prop) (Sn : Nat → Heap → Prop) (Y : Nat → V → Prop) : Prop where
  obj : ∀ i h, Sn i h → ∃ o, h.get? it = some o ∧ (∀ v, o.data ≠ .cell v) ∧ o.cls ≠ .type "list"
  keep : ∀ i h h', Sn i h → (∀ o, h.get? it = some o → h'.get? it = some o) → Sn i h'
  run : ∀ (X : Cx), X.prog = Pg → X.w = w → X.K = K → X.calm = true → ∀ (pins : List (Addr × Obj)) (s : Shared) (σ : St) (H : Hp), Inv X pins σ H s → Gd H → H it = none → ∀ i, Sn i s.heap →
    ∃ (fp : List Addr) (Pd : Nat → Value → Prop) (S' : Nat → Heap → Prop), Draws Pg w X.A.in1 it fp n Pd S' ∧ S' i s.heap ∧ (∀ i h, S' i h → Sn i h) ∧
      (∀ i x, i < n → Pd i x → ∃ v, RelV v x ∧ Y i v) ∧ it ∈ fp ∧ ∀ b ∈ fp, b = it ∨ H b ≠ none ∨ ∃ o, s.heap.get? b = some o ∧ o.cls = .type "list"
/-- v can be walked so -/
structure Srcs (Pg : Program) (w : World) (K : PySem.W.Frag) (v : V) (n : Nat) (Gd : Hp → Prop) (Y : Nat → V → Prop) : Prop where
  mks : ∀ u, RelV v u → ∃ (o : Obj) (Hh : Heap → Prop), PySem.Begins u o Hh ∧ (∀ (X : Cx), X.prog = Pg → X.w = w → X.K = K → X.calm = true → ∀ (pins : List (Addr × Obj)) (s : Shared) (σ : St) (H : Hp), Inv X pins σ H s → Gd H → Hh s.heap) ∧
    ∀ it, ∃ Sn : Nat → Heap → Prop, (∀ h, h.get? it = some o → Sn 0 h) ∧ Src Pg w K it n Gd Sn Y
theorem paired_back {α β : Type} {R : α → β → Prop} {l : List α} {m : List β} (h : Paired R l m) {i : Nat} {b : β} (e : m[i]? = some b) : ∃ a, l[i]? = some a ∧ R a b := by
  have hl := Paired.length h
  have hi : i < l.length := by
    rw [hl]
    exact (List.getElem?_eq_some_iff.mp e).1
  obtain ⟨b', e', r⟩ := paired_get h (List.getElem?_eq_getElem hi)
  rw [e] at e'
  cases e'
  exact ⟨_, List.getElem?_eq_getElem hi, r⟩
theorem srcs_tup {Pg : Program} {w : World} {K : PySem.W.Frag} {a : Addr} {xs : List V} : Srcs Pg w K (.ref a) xs.length (fun H => H a = some (.tup xs)) (fun i v => xs[i]? = some v) := by
  refine ⟨fun u hu => ?_⟩
  cases (show u = Value.ref a from hu)
  by_cases hit : ∃ its : List Value, True
  · refine ⟨{ cls := .type "tuple_iterator", data := .fields #[.ref a, .int 0 0] }, fun h => ∃ items, h.IsTuple a items, ⟨fun Pg w A E s Q hq q => ?_, fun h h' hq k => ?_, rfl⟩, fun X _ _ _ _ pins s σ H I g => ?_, fun it => ⟨fun i h => h.IsTupleIter it a i, fun h e => ⟨_, e, rfl, rfl⟩, ?_⟩⟩
    · obtain ⟨items, ht⟩ := hq
      exact (PySem.begins_tuple a items).iter Pg w A E s Q ht q
    · obtain ⟨items, ht⟩ := hq
      exact ⟨items, (PySem.begins_tuple a items).keeps h h' ht k⟩
    · obtain ⟨its, _, ht, _⟩ := I.tuple (.inl (.inl g))
      exact ⟨_, ht⟩
    · refine ⟨fun i h st => ?_, fun i h h' st k => st.at fun o e => k o e, fun X hP hw hK hc pins s σ H I g n0 i st => ?_⟩
      · obtain ⟨o, e, c, dd⟩ := st
        exact ⟨o, e, (fun v z => by rw [dd] at z; cases z), by rw [c]; exact by decide⟩
      · subst hP hw hK
        obtain ⟨its, rv, ht, _⟩ := I.tuple (.inl (.inl g))
        have ne : a ≠ it := fun z => by
          rw [z, n0] at g
          cases g
        have hl := rv.length
        refine ⟨[it, a], fun i v => its.toArray[i]? = some v, fun i h => h.IsTupleIter it a i ∧ h.IsTuple a its.toArray, ?_, ⟨st, ht⟩, fun i h st => st.1, fun i x hi hx => ?_, by simp, fun b hb => ?_⟩
        · have D := PySem.Draws.tuple (prog := X.prog) (w := X.w) (A := X.A.in1) (I.ok.hd hc) it a ne its.toArray
          rw [List.size_toArray, ← hl] at D
          exact D
        · have hx' : its[i]? = some x := by simpa using hx
          obtain ⟨v, e1, e2⟩ := paired_back rv hx'
          exact ⟨v, e2, e1⟩
        · have hb' : b = it ∨ b = a := by simpa using hb
          rcases hb' with z | z
          · exact .inl z
          · refine .inr (.inl ?_)
            rw [z, g]
            exact fun z => nomatch z
  · exact absurd ⟨[], trivial⟩ hit
theorem srcs_lst {Pg : Program} {w : World} {K : PySem.W.Frag} {a : Addr} {xs : List V} : Srcs Pg w K (.ref a) xs.length (fun H => SqL K H a xs) (fun i v => xs[i]? = some v) := by
  refine ⟨fun u hu => ?_⟩
  cases (show u = Value.ref a from hu)
  refine ⟨{ cls := .type "list_iterator", data := .fields #[.ref a, .int 0 0] }, fun h => ∃ items, h.IsList a items, ⟨fun Pg w A E s Q hq q => ?_, fun h h' hq k => ?_, rfl⟩, fun X _ _ hK _ pins s σ H I g => ?_, fun it => ⟨fun i h => h.IsListIter it a i, fun h e => ⟨_, e, rfl, rfl⟩, ?_⟩⟩
  · obtain ⟨items, ht⟩ := hq
    exact (PySem.begins_list a items).iter Pg w A E s Q ht q
  · obtain ⟨items, ht⟩ := hq
    exact ⟨items, (PySem.begins_list a items).keeps h h' ht k⟩
  · obtain ⟨its, _, ht, _⟩ := I.list (hK ▸ g)
    exact ⟨_, ht.isList⟩
  · refine ⟨fun i h st => ?_, fun i h h' st k => st.at fun o e => k o e, fun X hP hw hK hc pins s σ H I g n0 i st => ?_⟩
    · obtain ⟨o, e, c, dd⟩ := st
      exact ⟨o, e, (fun v z => by rw [dd] at z; cases z), by rw [c]; exact by decide⟩
    · subst hP hw hK
      obtain ⟨its, rv, ht, _⟩ := I.list g
      have ne : a ≠ it := fun z => by
        obtain ⟨o, e, c, _⟩ := ht.isList
        obtain ⟨o2, e2, c2, _⟩ := id st
        rw [z, e2] at e
        cases e
        rw [c2] at c
        exact absurd (Value.type.inj c) (by decide)
      have hl := rv.length
      refine ⟨[it, a], fun i v => its.toArray[i]? = some v, fun i h => h.IsListIter it a i ∧ h.IsList a its.toArray, ?_, ⟨st, ht.isList⟩, fun i h st => st.1, fun i x hi hx => ?_, by simp, fun b hb => ?_⟩
      · have D := Draws.list (prog := X.prog) (w := X.w) (A := X.A.in1) (I.ok.hd hc) it a ne its.toArray
        rw [List.size_toArray, ← hl] at D
        exact D
      · have hx' : its[i]? = some x := by simpa using hx
        obtain ⟨v, e1, e2⟩ := paired_back rv hx'
        exact ⟨v, e2, e1⟩
      · have hb' : b = it ∨ b = a := by simpa using hb
        rcases hb' with z | z
        · exact .inl z
        · obtain ⟨o, e, c, _⟩ := ht.isList
          exact .inr (.inr ⟨o, z ▸ e, c⟩)
theorem srcs_str {Pg : Program} {w : World} {K : PySem.W.Frag} {x : Str} : Srcs Pg w K (.str x) x.cps.size (fun _ => True) (fun i v => ∃ c, x.cps[i]? = some c ∧ v = .str ⟨#[c]⟩) := by
  refine ⟨fun u hu => ?_⟩
  obtain ⟨t, rfl⟩ := (show ∃ t, u = Value.str x t from hu)
  refine ⟨_, _, PySem.begins_text x t, fun X _ _ _ _ pins s σ H I g => trivial, fun it => ⟨fun i h => h.IsStrIter it (strIterType x) x t i, fun h e => ⟨_, e, rfl, rfl⟩, ?_⟩⟩
  refine ⟨fun i h st => ?_, fun i h h' st k => ?_, fun X hP hw hK hc pins s σ H I g n0 i st => ?_⟩
  · obtain ⟨o, e, c, dd⟩ := st
    exact ⟨o, e, (fun v z => by rw [dd] at z; cases z), by rw [c]; exact by unfold strIterType; split <;> decide⟩
  · obtain ⟨o, e, c, dd⟩ := st
    exact ⟨o, k o e, c, dd⟩
  · subst hP hw hK
    refine ⟨[it], _, _, PySem.Draws.text (A := X.A.in1) (I.ok.hd hc) it x t, st, fun i h st => st, fun i x hi hx => ?_, by simp, fun b hb => .inl (by simpa using hb)⟩
    obtain ⟨c, t', h1, rfl⟩ := hx
    exact ⟨.str ⟨#[c]⟩, ⟨t', rfl⟩, c, h1, rfl⟩
/-! ### enumerate -/
def IteS (n : Nat) (Gd : Hp → Prop) (Y : Nat → V → Prop) : It :=
  ⟨fun i H => Gd H ∧ i < n, fun i H v H' => ∃ T x, v = .ref T ∧ H T = none ∧ H' = upd H T (.tup [.int (i : Nat), x]) ∧ Y i x, fun i H => Gd H ∧ i = n⟩
theorem turn_enS {Pg : Program} {w : World} {K : PySem.W.Frag} {elts : List Expr} {kk : Nat} {tpos : Pos} {e it : Addr} {n : Nat} {Gd : Hp → Prop} {Sn : Nat → Heap → Prop} {Y : Nat → V → Prop} (S : Src Pg w K it n Gd Sn Y) (hne : e ≠ it) :
    Turn Pg w K (.Tuple elts kk tpos) (IteS n Gd Y) [e, it] e (fun i h => (∃ old, IsEnum h e it ((i : Nat) : Int) old) ∧ Sn i h) where
  mem := by simp
  obj := fun i h st b hb => by
    obtain ⟨⟨old, he⟩, hs⟩ := st
    have e' : b = e ∨ b = it := by simpa using hb
    rcases e' with z | z
    · rw [z]
      exact ⟨_, he, fun v q => nomatch q⟩
    · rw [z]
      obtain ⟨o, q1, q2, _⟩ := S.obj i h hs
      exact ⟨o, q1, q2⟩
  keep := fun i h h' st k => ⟨let ⟨old, he⟩ := st.1; ⟨old, k e (by simp) _ he⟩, S.keep i h h' st.2 fun o q => k it (by simp) o q⟩
  item := by
    intro X hP hw hK hc i pins s σ H E I hf st hg
    obtain ⟨⟨old, he⟩, hs⟩ := st
    obtain ⟨fp, Pd, S', D, k1, k2, k3, k4, k5⟩ := S.run X hP hw hK hc pins s σ H I hg.1 (hf it (by simp)).1 i hs
    subst hP hw hK
    have hel : e < s.heap.objs.size := Heap.lt_size he
    have hil : it < s.heap.objs.size := by
      obtain ⟨o, q, _⟩ := S.obj i _ hs
      exact Heap.lt_size q
    have hef : e ∉ fp := fun z => by
      rcases k5 e z with q | q
      · exact hne q
      · rcases q with q | ⟨o, e1, e2⟩
        · exact q (hf e (by simp)).1
        · rw [he] at e1
          cases e1
          exact absurd (Value.type.inj e2) (by decide)
    refine wpAny_pyNext_enum_itemD D he k1 hg.2 hne hef fun x h' tk hP ho hs' hT hsz hk => ?_
    obtain ⟨y, ry, hy⟩ := k3 i x hg.2 hP
    refine ⟨_, rfl, wpAny_letOwnedTupleGo_enum (s := { s with heap := h', toks := tk + 1 }) ho fun h2 he2 sb => ?_⟩
    have hT2 : h2.get? s.heap.objs.size = some { cls := .type "tuple", data := .seq #[.int i tk, x] } := (sb.2 _ (Nat.ne_of_gt hel)).trans hT
    have new : ObjOk X.prog X.w (upd H s.heap.objs.size (.tup [.int (i : Nat), y])) h2 s.heap.objs.size (.tup [.int (i : Nat), y]) :=
      ⟨by show 2 ≤ sizeLine; decide, [.int i tk, x], .cons ⟨_, rfl⟩ (.cons ry .nil), ⟨_, hT2, rfl, _, rfl⟩⟩
    have I1 : Inv X pins σ (upd H s.heap.objs.size (.tup [.int (i : Nat), y])) { s with heap := h2, toks := tk + 1 } := by
      refine I.turnedNew (ch := [e, it]) (fun b ob hb q => ?_) hf (Nat.le_refl _) new
      have n1 : b ≠ e := fun z => hb (by simp [z])
      exact (sb.2 b n1).trans (hk b ob n1 (fun z => hb (by simp [z])) q)
    refine ⟨.ref s.heap.objs.size, _, I1, rfl, ⟨_, y, rfl, I.hok.fresh (Nat.le_refl _), rfl, hy⟩, ⟨⟨x, ?_⟩, S.keep _ _ _ (k2 _ _ hs') fun o q => (sb.2 it (Ne.symm hne)).trans q⟩, fun b hb => ?_⟩
    · rw [show ((i + 1 : Nat) : Int) = (i : Int) + 1 by omega]
      exact he2
    · have lt : b < s.heap.objs.size := by
        have e' : b = e ∨ b = it := by simpa using hb
        rcases e' with z | z
        · exact z ▸ hel
        · exact z ▸ hil
      rw [upd_ne (Nat.ne_of_lt lt)]
      exact (hf b hb).1
  done := by
    intro X hP hw hK hc i pins s σ H E I hf st hg
    obtain ⟨⟨old, he⟩, hs⟩ := st
    obtain ⟨fp, Pd, S', D, k1, k2, k3, k4, k5⟩ := S.run X hP hw hK hc pins s σ H I hg.1 (hf it (by simp)).1 i hs
    subst hP hw hK
    obtain ⟨f0, f1, f2, f3, f4, f5⟩ := hf it (by simp)
    refine wpAny_pyNext_enum_endD D he (hg.2 ▸ k1) fun h' eb => ⟨rfl, I.turned (t' := s.toks) (fun b o hb q => eb b o hb q) f0 f1 f3 f4 f5⟩
  self := fun A i s Q E st h => let ⟨⟨_, he⟩, _⟩ := st; wpAny_pyIter_enum he h
set_option maxHeartbeats 8000000 in
theorem meets_en1 {v : Value} {o : Obj} {Hh : Heap → Prop} (B : PySem.Begins v o Hh) :
    Meets (Builtin.«enumerate.__new__» ⟨[.type "enumerate", v], []⟩) (fun _ R s => Hh s.heap ∧
      R (.ok (.ret (.ref (s.heap.push o).objs.size))) { s with heap := (s.heap.push o).push { cls := .type "enumerate", data := .fields #[.none, .bool false, .ref s.heap.objs.size, rawInt 0, .none, .none] } }) :=
  .of_wp fun Pg w A R s h => by
    obtain ⟨hp, g, d, tk, os⟩ := s
    obtain ⟨h1, h⟩ := h
    have hsub := sub_enumerate
    have q1 : ∀ {A' : Around} {E : Value → Shared → Prop} {Q : Value → Shared → Prop}, Q (.ref hp.objs.size) ⟨hp.push o, g, d, tk, os⟩ → wpAny (model Pg w) A' (pyIter v) Q E ⟨hp, g, d, tk, os⟩ :=
      fun q => B.iter Pg w _ _ ⟨hp, g, d, tk, os⟩ _ h1 q
    wp_walk using q1
    refine wpAny_stack_any fun st => wpAny_pure ?_
    split
    · rename_i c _ _ _ _ _
      cases (c == Value.type "enumerate")
      · wp_walk using q1
        exact ⟨_, rfl, h⟩
      · wp_walk using q1
        exact ⟨_, rfl, h⟩
    · wp_walk using q1
      exact ⟨_, rfl, h⟩
theorem call_en1 {Pg : Program} {w : World} {A : Around} {E : Value → Shared → Prop} {s : Shared} {v : Value} {o : Obj} {Hh : Heap → Prop} {Q : Value → Shared → Prop} (B : PySem.Begins v o Hh) (h1 : Hh s.heap)
    (h : ∀ h', IsEnum h' (s.heap.objs.size + 1) s.heap.objs.size 0 .none → h'.get? s.heap.objs.size = some o → (∀ b o, s.heap.get? b = some o → h'.get? b = some o) → Q (.ref (s.heap.objs.size + 1)) { s with heap := h' }) :
    wpAny (model Pg w) A (call (.type "enumerate") [v]) Q E s := by
  refine callType_new F.called_enumerate (by decide) (F.typeCall_enumerate_1 _) (F.newCall_enumerate_1 _) (fun obj => F.args_object_init_2 obj _) F.entry_enumerate_new (meets_en1 B) ⟨h1, ?_⟩
  have hz : (s.heap.push o).objs.size = s.heap.objs.size + 1 := Heap.size_push ..
  show _ ∧ _
  rw [hz]
  have he := Heap.get?_push_size (s.heap.push o) (o := { cls := .type "enumerate", data := .fields #[.none, .bool false, .ref s.heap.objs.size, rawInt 0, .none, .none] }) rfl
  rw [hz] at he
  exact ⟨⟨_, he, rfl⟩, h _ he (Heap.get?_push_of_some _ (Heap.get?_push_size _ B.free)) fun b o x => Heap.get?_push_of_some _ (Heap.get?_push_of_some _ x)⟩
def iEnS (Pg : Program) (w : World) (K : PySem.W.Frag) (ta : TA) : TI := fun σ H R => ta σ H fun vs H1 => ∃ v n Gd Y, vs = [v] ∧ Srcs Pg w K v n Gd Y ∧ Gd H1 ∧ R (IteS n Gd Y) H1
theorem pi_enS {X : Cx} {e : Expr} {ta : TA} {p pos tpos : Pos} {elts : List Expr} {kk : Nat} (hc : X.calm = true) (hg : Gl X "enumerate") (hm : X.mg "enumerate" = none) (ha : PA X [e] ta) (hs : starEach [e] X.env = [(false, eval e X.env)] := by rfl) :
    PI X (.Tuple elts kk tpos) (.Call (.Name "enumerate" p) [e] [] pos) (iEnS X.prog X.w X.K ta) := by
  refine ⟨fun pins s σ H R I h => ?_⟩
  refine Call_ (ld_blt I hg hm boot_enumerate (PyProof.Rows.callWith_type1 (thn (ha.run pos pins s σ H _ I h) fun us s1 ⟨vs, H1, I1, r1, q1⟩ => ?_) hs rfl))
  obtain ⟨v, n, Gd, Y, ex, S, g, q⟩ := q1
  subst ex
  obtain ⟨u, rfl, ru⟩ := vals1 r1
  obtain ⟨o, Hh, B, k1, k2⟩ := S.mks u ru
  refine call_en1 B (k1 X rfl rfl rfl hc pins s1 σ H1 I1 g) fun h' he ho hk => wpAny_pyIter_enum he ?_
  have I2 : Inv X pins σ H1 { s1 with heap := h' } := I1.kept (t' := s1.toks) hk
  obtain ⟨Sn, st0, S'⟩ := k2 s1.heap.objs.size
  refine ⟨s1.heap.objs.size + 1, [s1.heap.objs.size + 1, s1.heap.objs.size], _, _, H1, rfl, I2, turn_enS S' (Nat.succ_ne_self _), ⟨⟨.none, he⟩, st0 h' ho⟩, fun b hb => ?_, q⟩
  have e' : b = s1.heap.objs.size + 1 ∨ b = s1.heap.objs.size := by simpa using hb
  have hle : s1.heap.objs.size ≤ b := by
    rcases e' with z | z
    · rw [z]
      exact Nat.le_add_right _ _
    · rw [z]
      exact Nat.le_refl _
  exact I1.fpOk hle (I1.hok.fresh hle)
theorem walk_enS {n : Nat} {Gd : Hp → Prop} {Y : Nat → V → Prop} : Walk (IteS n Gd Y) n Gd (fun i H v H' => ∃ T x, v = .ref T ∧ H T = none ∧ H' = upd H T (.tup [.int (i : Nat), x]) ∧ Y i x) :=
  ⟨fun i H hi g => ⟨g, hi⟩, fun H g => ⟨g, rfl⟩, fun i H x H' _ _ y => y⟩
section
variable {X : Cx} {ρ : Ro} {e e2 : Expr} {ds : List PD} {p pos : Pos}
theorem it_enS {elts : List Expr} {kk : Nat} {tpos : Pos} {items : List PD} (hm : X.mg "enumerate" = none) (hg : Gl X "enumerate") (hs : starEach [e] X.env = [(false, eval e X.env)]) {d : PD} (h : EvD X e ρ d)
    (hS : ∀ I H v, Same I H → Dp X.K I v d → ∃ n Gd Y, Srcs X.prog X.w X.K v n Gd Y ∧ n = items.length ∧ (∀ H', Same I H' → Gd H') ∧ ∀ i x, Y i x → ∃ y, items[i]? = some y ∧ Dp X.K I x y) : ItD X (.Tuple elts kk tpos) (.Call (.Name "enumerate" p) [e] [] pos) ρ (enumD items) := fun ok b I H σ S R k =>
  WI.of (pi_enS ok.calm hg hm (pa_cons pe_w pa_nil hs) hs) (h ok b I H σ S _ fun v I1 H1 g dv => by
    obtain ⟨n, Gd, Y, sr, hn, hG, hY⟩ := hS I1 H1 v g.s dv
    refine ⟨v, n, Gd, Y, rfl, sr, hG H1 g.s, k _ I1 H1 Gd _ g (by rw [enumD_len, ← hn]; exact walk_enS) (fun I2 H2 s1 s2 => hG H2 (s1.trans s2)) fun i d H2 x H3 I2 hi s1 s2 y => ?_⟩
    obtain ⟨T, x1, rfl, hT, rfl, y⟩ := y
    obtain ⟨d', e3, rfl⟩ := enumD_at hi
    obtain ⟨y', e4, e5⟩ := hY i x1 y
    rw [e3] at e4
    cases e4
    obtain ⟨g', dp⟩ := pair_new s2 hT (.int _) (Dp.up s1 _ _ e5)
    exact ⟨_, g', dp⟩)
theorem it_enT {elts : List Expr} {kk : Nat} {tpos : Pos} (hm : X.mg "enumerate" = none) (h : EvD X e ρ (.tuple ds)) (hg : Gl X "enumerate" := by rfl) (hs : starEach [e] X.env = [(false, eval e X.env)] := by rfl) : ItD X (.Tuple elts kk tpos) (.Call (.Name "enumerate" p) [e] [] pos) ρ (enumD ds) :=
  it_enS hm hg hs h fun I H v s dv => by
    obtain ⟨t, xs, rfl, h1, h2⟩ := dp_tupS dv
    exact ⟨_, _, _, srcs_tup, DpAll.len h2, fun H' s' => s' _ _ h1, fun i x hx => let ⟨d, q1, q2⟩ := DpAll.getV h2 hx; ⟨d, q1, q2⟩⟩
theorem it_enStr {elts : List Expr} {kk : Nat} {tpos : Pos} {z : Str} (hm : X.mg "enumerate" = none) (h : EvD X e ρ (.str z)) (hg : Gl X "enumerate" := by rfl) (hs : starEach [e] X.env = [(false, eval e X.env)] := by rfl) : ItD X (.Tuple elts kk tpos) (.Call (.Name "enumerate" p) [e] [] pos) ρ (enumD (signsD z)) :=
  it_enS hm hg hs h fun I H v s dv => by
    cases dp_str dv
    refine ⟨_, _, _, srcs_str, by unfold signsD; rw [List.length_map, Array.length_toList], fun H' s' => trivial, fun i x hx => ?_⟩
    obtain ⟨c, h1, rfl⟩ := hx
    refine ⟨.str ⟨#[c]⟩, ?_, .str _⟩
    unfold signsD
    rw [List.getElem?_map, Array.getElem?_toList, h1]
    rfl
end
end G
set_option Elab.async false
set_option linter.all false
set_option maxRecDepth 100000
set_option maxHeartbeats 4000000
/-! zip over whatever draws. -/
namespace G
open PySem PySem.Spec PyProof.Rows L2

def ItzS (n1 n2 : Nat) (G1 G2 : Hp → Prop) (Y1 Y2 : Nat → V → Prop) : It :=
  ⟨fun i H => (G1 H ∧ G2 H) ∧ i < n1 ∧ i < n2, fun i H v H' => ∃ T x y, v = .ref T ∧ H T = none ∧ H' = upd H T (.tup [x, y]) ∧ Y1 i x ∧ Y2 i y, fun i H => (G1 H ∧ G2 H) ∧ i = min n1 n2⟩
structure Apart (z TI TO i1 i2 : Addr) : Prop where
  a : TI ≠ z
  b : TO ≠ z
  c : TI ≠ TO
  d : TI ≠ i1
  e : TI ≠ i2
  f : z ≠ i1
  g : z ≠ i2
  h : TO ≠ i1
  i : TO ≠ i2
  j : i1 ≠ i2
theorem turn_zpS {Pg : Program} {w : World} {K : PySem.W.Frag} {elts : List Expr} {kk : Nat} {tpos : Pos} {z TI TO i1 i2 : Addr} {n1 n2 : Nat} {G1 G2 : Hp → Prop} {S1 S2 : Nat → Heap → Prop} {Y1 Y2 : Nat → V → Prop}
    (A1 : Src Pg w K i1 n1 G1 S1 Y1) (A2 : Src Pg w K i2 n2 G2 S2 Y2) (ap : Apart z TI TO i1 i2) :
    Turn Pg w K (.Tuple elts kk tpos) (ItzS n1 n2 G1 G2 Y1 Y2) [z, TI, TO, i1, i2] z (fun i h => IsZip h z TI TO .none ∧ IsTupOf2 h TI (.ref i1) (.ref i2) ∧ (∃ x y, IsTupOf2 h TO x y) ∧ S1 i h ∧ S2 i h) where
  mem := by simp
  obj := fun i h st c hc => by
    obtain ⟨hz, hTI, ⟨x, y, hTO⟩, h1, h2⟩ := st
    have e' : c = z ∨ c = TI ∨ c = TO ∨ c = i1 ∨ c = i2 := by simpa using hc
    rcases e' with q | q | q | q | q
    · rw [q]
      exact ⟨_, hz, fun v q => nomatch q⟩
    · rw [q]
      exact ⟨_, hTI, fun v q => nomatch q⟩
    · rw [q]
      exact ⟨_, hTO, fun v q => nomatch q⟩
    · rw [q]
      obtain ⟨o, q1, q2, _⟩ := A1.obj i h h1
      exact ⟨o, q1, q2⟩
    · rw [q]
      obtain ⟨o, q1, q2, _⟩ := A2.obj i h h2
      exact ⟨o, q1, q2⟩
  keep := fun i h h' st k => by
    obtain ⟨hz, hTI, ⟨x, y, hTO⟩, h1, h2⟩ := st
    exact ⟨k z (by simp) _ hz, k TI (by simp) _ hTI, ⟨x, y, k TO (by simp) _ hTO⟩, A1.keep i h h' h1 fun o q => k i1 (by simp) o q, A2.keep i h h' h2 fun o q => k i2 (by simp) o q⟩
  item := by
    intro X hP hw hK hc i pins s σ H E I hf st hg
    obtain ⟨hz, hTI, ⟨x0, y0, hTO⟩, h1, h2⟩ := st
    obtain ⟨f1, P1, U1, D1, k1, k2, k3, k4, k5⟩ := A1.run X hP hw hK hc pins s σ H I hg.1.1 (hf i1 (by simp)).1 i h1
    obtain ⟨f2, P2, U2, D2, l1, l2, l3, l4, l5⟩ := A2.run X hP hw hK hc pins s σ H I hg.1.2 (hf i2 (by simp)).1 i h2
    subst hP hw hK
    have nl : ∀ b, b ∈ [z, TI, TO, i1, i2] → ∀ o, s.heap.get? b = some o → o.cls ≠ .type "list" := fun b hb o e c => by
      have e' : b = z ∨ b = TI ∨ b = TO ∨ b = i1 ∨ b = i2 := by simpa using hb
      rcases e' with q | q | q | q | q
      · rw [q, hz] at e
        cases e
        exact absurd (Value.type.inj c) (by decide)
      · rw [q, hTI] at e
        cases e
        exact absurd (Value.type.inj c) (by decide)
      · rw [q, hTO] at e
        cases e
        exact absurd (Value.type.inj c) (by decide)
      · obtain ⟨o2, e2, _, c2⟩ := A1.obj i _ h1
        rw [q, e2] at e
        cases e
        exact c2 c
      · obtain ⟨o2, e2, _, c2⟩ := A2.obj i _ h2
        rw [q, e2] at e
        cases e
        exact c2 c
    have no1 : ∀ b, b ∈ [z, TI, TO, i1, i2] → b ≠ i1 → b ∉ f1 := fun b hb hn hm => by
      rcases k5 b hm with q | q
      · exact hn q
      · rcases q with q | ⟨o, q1, q2⟩
        · exact q (hf b hb).1
        · exact nl b hb o q1 q2
    have no2 : ∀ b, b ∈ [z, TI, TO, i1, i2] → b ≠ i2 → b ∉ f2 := fun b hb hn hm => by
      rcases l5 b hm with q | q
      · exact hn q
      · rcases q with q | ⟨o, q1, q2⟩
        · exact q (hf b hb).1
        · exact nl b hb o q1 q2
    have sep : ZipSep2 z TI TO i1 i2 f1 f2 := ⟨ap.a, ap.b, ap.c, ap.d, k4, no1 z (by simp) ap.f, no1 TO (by simp) ap.h, ap.e, l4, no2 z (by simp) ap.g, no2 TO (by simp) ap.i, no2 i1 (by simp) ap.j, no1 i2 (by simp) (Ne.symm ap.j)⟩
    have lt : ∀ c ∈ [z, TI, TO, i1, i2], c < s.heap.objs.size := fun c hcm => by
      have e' : c = z ∨ c = TI ∨ c = TO ∨ c = i1 ∨ c = i2 := by simpa using hcm
      rcases e' with q | q | q | q | q
      · rw [q]
        exact Heap.lt_size hz
      · rw [q]
        exact Heap.lt_size hTI
      · rw [q]
        exact Heap.lt_size hTO
      · rw [q]
        obtain ⟨_, e1, _⟩ := A1.obj i _ h1
        exact Heap.lt_size e1
      · rw [q]
        obtain ⟨_, e2, _⟩ := A2.obj i _ h2
        exact Heap.lt_size e2
    refine wpAny_pyNext_zipD2_item sep D1 D2 hz hTI hTO k1 l1 hg.2.1 hg.2.2 fun x1 x2 h' tk p1 p2 z' TO' g1 g2 hT hsz hk => ?_
    obtain ⟨y1, r1, hy1⟩ := k3 i x1 hg.2.1 p1
    obtain ⟨y2, r2, hy2⟩ := l3 i x2 hg.2.2 p2
    refine ⟨_, rfl, wpAny_letOwnedTupleGo_zip (s := { s with heap := h', toks := tk }) z' fun h3 z3 sb => ?_⟩
    have hzl := lt z (by simp)
    have hT2 : h3.get? s.heap.objs.size = some { cls := .type "tuple", data := .seq #[x1, x2] } := (sb.2 _ (Nat.ne_of_gt hzl)).trans hT
    have new : ObjOk X.prog X.w (upd H s.heap.objs.size (.tup [y1, y2])) h3 s.heap.objs.size (.tup [y1, y2]) :=
      ⟨by show 2 ≤ sizeLine; decide, [x1, x2], .cons r1 (.cons r2 .nil), ⟨_, hT2, rfl, _, rfl⟩⟩
    have I1 : Inv X pins σ (upd H s.heap.objs.size (.tup [y1, y2])) { s with heap := h3, toks := tk } := by
      refine I.turnedNew (ch := [z, TI, TO, i1, i2]) (fun c o hb q => ?_) hf (Nat.le_refl _) new
      have n0 : c ≠ z := fun w => hb (by simp [w])
      exact (sb.2 c n0).trans (hk c o n0 (fun w => hb (by simp [w])) (fun w => hb (by simp [w])) (fun w => hb (by simp [w])) q)
    refine ⟨.ref s.heap.objs.size, _, I1, rfl, ⟨_, y1, y2, rfl, I.hok.fresh (Nat.le_refl _), rfl, hy1, hy2⟩, ⟨z3, ?_, ⟨x1, x2, ?_⟩, ?_, ?_⟩, fun c hcm => ?_⟩
    · exact (sb.2 _ ap.a).trans (hk _ _ ap.a ap.c ap.d ap.e hTI)
    · exact (sb.2 _ ap.b).trans TO'
    · exact A1.keep _ _ _ (k2 _ _ g1) fun o q => (sb.2 _ (Ne.symm ap.f)).trans q
    · exact A2.keep _ _ _ (l2 _ _ g2) fun o q => (sb.2 _ (Ne.symm ap.g)).trans q
    · rw [upd_ne (Nat.ne_of_lt (lt c hcm))]
      exact (hf c hcm).1
  done := by
    intro X hP hw hK hc i pins s σ H E I hf st hg
    obtain ⟨hz, hTI, ⟨x0, y0, hTO⟩, h1, h2⟩ := st
    obtain ⟨f1, P1, U1, D1, k1, k2, k3, k4, k5⟩ := A1.run X hP hw hK hc pins s σ H I hg.1.1 (hf i1 (by simp)).1 i h1
    obtain ⟨f2, P2, U2, D2, l1, l2, l3, l4, l5⟩ := A2.run X hP hw hK hc pins s σ H I hg.1.2 (hf i2 (by simp)).1 i h2
    subst hP hw hK
    have nl : ∀ b, b ∈ [z, TI, TO, i1, i2] → ∀ o, s.heap.get? b = some o → o.cls ≠ .type "list" := fun b hb o e c => by
      have e' : b = z ∨ b = TI ∨ b = TO ∨ b = i1 ∨ b = i2 := by simpa using hb
      rcases e' with q | q | q | q | q
      · rw [q, hz] at e
        cases e
        exact absurd (Value.type.inj c) (by decide)
      · rw [q, hTI] at e
        cases e
        exact absurd (Value.type.inj c) (by decide)
      · rw [q, hTO] at e
        cases e
        exact absurd (Value.type.inj c) (by decide)
      · obtain ⟨o2, e2, _, c2⟩ := A1.obj i _ h1
        rw [q, e2] at e
        cases e
        exact c2 c
      · obtain ⟨o2, e2, _, c2⟩ := A2.obj i _ h2
        rw [q, e2] at e
        cases e
        exact c2 c
    have no1 : ∀ b, b ∈ [z, TI, TO, i1, i2] → b ≠ i1 → b ∉ f1 := fun b hb hn hm => by
      rcases k5 b hm with q | q
      · exact hn q
      · rcases q with q | ⟨o, q1, q2⟩
        · exact q (hf b hb).1
        · exact nl b hb o q1 q2
    have no2 : ∀ b, b ∈ [z, TI, TO, i1, i2] → b ≠ i2 → b ∉ f2 := fun b hb hn hm => by
      rcases l5 b hm with q | q
      · exact hn q
      · rcases q with q | ⟨o, q1, q2⟩
        · exact q (hf b hb).1
        · exact nl b hb o q1 q2
    have sep : ZipSep2 z TI TO i1 i2 f1 f2 := ⟨ap.a, ap.b, ap.c, ap.d, k4, no1 z (by simp) ap.f, no1 TO (by simp) ap.h, ap.e, l4, no2 z (by simp) ap.g, no2 TO (by simp) ap.i, no2 i1 (by simp) ap.j, no1 i2 (by simp) (Ne.symm ap.j)⟩
    have he := hg.2
    exact wpAny_pyNext_zipD2_end sep D1 D2 hz hTI hTO k1 l1 (by omega) (by omega) (by omega) fun h' tk hk => ⟨rfl, I.turnedL (t' := tk) (ch := [z, TI, TO, i1, i2]) (fun c o hb q =>
      hk c o (fun w => hb (by simp [w])) (fun w => hb (by simp [w])) (fun w => hb (by simp [w])) (fun w => hb (by simp [w])) q) hf⟩
  self := fun A i s Q E st h => wpAny_pyIter_zip st.1 h
def iZpS (Pg : Program) (w : World) (K : PySem.W.Frag) (ta : TA) : TI := fun σ H R => ta σ H fun vs H1 => ∃ v1 v2 n1 n2 G1 G2 Y1 Y2, vs = [v1, v2] ∧ Srcs Pg w K v1 n1 G1 Y1 ∧ Srcs Pg w K v2 n2 G2 Y2 ∧ (G1 H1 ∧ G2 H1) ∧ R (ItzS n1 n2 G1 G2 Y1 Y2) H1
theorem pi_zpS {X : Cx} {e e2 : Expr} {ta : TA} {p pos tpos : Pos} {elts : List Expr} {kk : Nat} (hc : X.calm = true) (hg : Gl X "zip") (hm : X.mg "zip" = none) (ha : PA X [e, e2] ta)
    (hs : starEach [e, e2] X.env = (false, eval e X.env) :: starEach [e2] X.env := by rfl) (hpl : (backTo pos (starEach [e2] X.env)).any (·.1) = false := by rfl) :
    PI X (.Tuple elts kk tpos) (.Call (.Name "zip" p) [e, e2] [] pos) (iZpS X.prog X.w X.K ta) := by
  refine ⟨fun pins s σ H R I h => ?_⟩
  refine Call_ (ld_blt I hg hm PyProof.Rows.boot_zip (PyProof.Rows.callWith_type1 (thn (ha.run pos pins s σ H _ I h) fun us s1 ⟨vs, H1, I1, r1, q1⟩ => ?_) hs hpl))
  obtain ⟨v1, v2, n1, n2, G1, G2, Y1, Y2, ex, S1, S2, g, q⟩ := q1
  subst ex
  obtain ⟨u1, u2, rfl, ru1, ru2⟩ := vals2 r1
  obtain ⟨o1, Hh1, B1, k1, k2⟩ := S1.mks u1 ru1
  obtain ⟨o2, Hh2, B2, l1, l2⟩ := S2.mks u2 ru2
  refine zip_begins2 B1 B2 (k1 X rfl rfl rfl hc pins s1 σ H1 I1 g.1) (l1 X rfl rfl rfl hc pins s1 σ H1 I1 g.2) fun h' hz hTI hTO h1 h2 hsz hk => wpAny_pyIter_zip hz ?_
  have I2 : Inv X pins σ H1 { s1 with heap := h' } := I1.kept (t' := s1.toks) hk
  obtain ⟨U1, st1, A1⟩ := k2 s1.heap.objs.size
  obtain ⟨U2, st2, A2⟩ := l2 (s1.heap.objs.size + 1)
  have ap : Apart (s1.heap.objs.size + 4) (s1.heap.objs.size + 2) (s1.heap.objs.size + 3) s1.heap.objs.size (s1.heap.objs.size + 1) := by
    have D := zip_sep2 (N := s1.heap.objs.size) (fp1 := []) (fp2 := []) (fun b hb => nomatch hb) (fun b hb => nomatch hb)
    exact ⟨D.TIz, D.TOz, D.TITO, D.TIi1, D.TIi2, D.zi1, D.zi2, D.Ti1, D.Ti2, fun w => D.sep1_2 (w ▸ D.mem2)⟩
  refine ⟨s1.heap.objs.size + 4, [s1.heap.objs.size + 4, s1.heap.objs.size + 2, s1.heap.objs.size + 3, s1.heap.objs.size, s1.heap.objs.size + 1], _, _, H1, rfl, I2, turn_zpS A1 A2 ap, ⟨hz, hTI, ⟨_, _, hTO⟩, st1 h' h1, st2 h' h2⟩, fun b hb => ?_, q⟩
  have e' : b = s1.heap.objs.size + 4 ∨ b = s1.heap.objs.size + 2 ∨ b = s1.heap.objs.size + 3 ∨ b = s1.heap.objs.size ∨ b = s1.heap.objs.size + 1 := by simpa using hb
  have hle : s1.heap.objs.size ≤ b := by
    rcases e' with w | w | w | w | w
    · rw [w]
      exact Nat.le_add_right _ _
    · rw [w]
      exact Nat.le_add_right _ _
    · rw [w]
      exact Nat.le_add_right _ _
    · rw [w]
      exact Nat.le_refl _
    · rw [w]
      exact Nat.le_add_right _ _
  exact I1.fpOk hle (I1.hok.fresh hle)
theorem walk_zpS {n1 n2 : Nat} {G1 G2 : Hp → Prop} {Y1 Y2 : Nat → V → Prop} : Walk (ItzS n1 n2 G1 G2 Y1 Y2) (min n1 n2) (fun H => G1 H ∧ G2 H) (fun i H v H' => ∃ T x y, v = .ref T ∧ H T = none ∧ H' = upd H T (.tup [x, y]) ∧ Y1 i x ∧ Y2 i y) :=
  ⟨fun i H hi g => ⟨g, by omega, by omega⟩, fun H g => ⟨g, rfl⟩, fun i H x H' _ _ y => y⟩
def zipD (xs ys : List PD) : List PD := List.zipWith (fun x y => .tuple [x, y]) xs ys
section
variable {X : Cx} {ρ : Ro} {e e2 : Expr} {xs ys : List PD} {p pos : Pos}
/-- zip(a tuple, a list) -/
theorem it_zpTL {elts : List Expr} {kk : Nat} {tpos : Pos} (hm : X.mg "zip" = none) (h1 : EvD X e ρ (.tuple xs)) (h2 : EvD X e2 ρ (.list ys)) (hg : Gl X "zip" := by rfl)
    (hs : starEach [e, e2] X.env = (false, eval e X.env) :: starEach [e2] X.env := by rfl) (hs2 : starEach [e2] X.env = (false, eval e2 X.env) :: starEach [] X.env := by rfl) (hpl : (backTo pos (starEach [e2] X.env)).any (·.1) = false := by rfl) :
    ItD X (.Tuple elts kk tpos) (.Call (.Name "zip" p) [e, e2] [] pos) ρ (zipD xs ys) := fun ok b I H σ S R k =>
  WI.of (pi_zpS ok.calm hg hm (pa_cons pe_w (pa_cons pe_w pa_nil hs2) hs) hs hpl) (h1 ok b I H σ S _ fun v I1 H1 g1 dv => h2 ok b I1 H1 σ (S.grow g1) _ fun v2 I2 H2 g2 dv2 => by
    obtain ⟨t, us, rfl, q1, q2⟩ := dp_tupS (Dp.up g2.i _ _ dv)
    obtain ⟨t2, ws, rfl, r1, r2⟩ := dp_lst dv2
    have hl : (zipD xs ys).length = min us.length ws.length := by
      unfold zipD
      rw [List.length_zipWith, DpAll.len q2, DpAll.len r2]
    refine ⟨_, _, _, _, _, _, _, _, rfl, srcs_tup, srcs_lst, ⟨g2.s _ _ q1, g2.s.seq r1⟩, k _ I2 H2 (fun H => H t = some (.tup us) ∧ SqL X.K H t2 ws) _ (g1.trans g2) (by rw [hl]; exact walk_zpS) (fun I3 H3 s1 s2 => ⟨s2 _ _ (s1 _ _ q1), (s1.trans s2).seq r1⟩) fun i d H3 x H4 I3 hi s1 s2 y => ?_⟩
    obtain ⟨T, x1, x2, rfl, hT, rfl, y1, y2⟩ := y
    obtain ⟨d1, e1, f1⟩ := DpAll.getV q2 y1
    obtain ⟨d2, e2, f2⟩ := DpAll.getV r2 y2
    have hd : d = .tuple [d1, d2] := by
      unfold zipD at hi
      rw [List.getElem?_zipWith, e1, e2] at hi
      exact (Option.some.inj hi).symm
    subst hd
    obtain ⟨g', dp⟩ := pair_new s2 hT (Dp.up s1 _ _ f1) (Dp.up s1 _ _ f2)
    exact ⟨_, g', dp⟩)
end
end G
set_option Elab.async false
set_option linter.all false
set_option maxRecDepth 100000
set_option maxHeartbeats 4000000
/-! Dicts. -/
namespace G
open PySem PySem.Spec PyProof.Rows L2

/-! ### tables of data -/
section
variable {κ : Type} [DecidableEq κ]
def vget (kvs : List (κ × PD)) (k : κ) : Option PD := (kvs.find? fun kv => decide (kv.1 = k)).map (·.2)
def vput (kvs : List (κ × PD)) (k : κ) (d : PD) : List (κ × PD) := if (vget kvs k).isSome = true then kvs.map (fun kv => if kv.1 = k then (kv.1, d) else kv) else kvs ++ [(k, d)]
theorem vget_nil {k : κ} : vget ([] : List (κ × PD)) k = none := rfl
theorem vget_cons (p : κ × PD) (r : List (κ × PD)) (k : κ) : vget (p :: r) k = if p.1 = k then some p.2 else vget r k := by
  unfold vget
  rw [List.find?_cons]
  by_cases e : p.1 = k
  · rw [decide_eq_true e, if_pos e]
    rfl
  · rw [decide_eq_false e, if_neg e]
theorem vget_map (k j : κ) (y : PD) : ∀ kvs : List (κ × PD), vget (kvs.map fun kv => if kv.1 = k then (kv.1, y) else kv) j = (vget kvs j).map fun x => if j = k then y else x
  | [] => rfl
  | p :: r => by
    rw [List.map_cons, vget_cons, vget_cons, vget_map k j y r]
    by_cases h : p.1 = k
    · rw [if_pos h]
      by_cases e : p.1 = j
      · rw [if_pos e, if_pos e, Option.map_some, if_pos (e.symm.trans h)]
      · rw [if_neg e, if_neg e]
    · rw [if_neg h]
      by_cases e : p.1 = j
      · rw [if_pos e, if_pos e, Option.map_some, if_neg fun z => h (e.trans z)]
      · rw [if_neg e, if_neg e]
theorem vget_app (k : κ) (xs ys : List (κ × PD)) : vget (xs ++ ys) k = (vget xs k).or (vget ys k) := by
  induction xs with
  | nil => rfl
  | cons p r ih =>
    rw [List.cons_append, vget_cons, vget_cons, ih]
    split
    · rfl
    · rfl
theorem vget_put (kvs : List (κ × PD)) (k j : κ) (y : PD) : vget (vput kvs k y) j = if j = k then some y else vget kvs j := by
  unfold vput
  cases e : vget kvs k with
  | some x =>
    rw [if_pos (show (some x).isSome = true from rfl), vget_map]
    by_cases h : j = k
    · subst h
      rw [if_pos rfl, e, Option.map_some, if_pos rfl]
    · rw [if_neg h]
      cases vget kvs j with
      | none => rfl
      | some z => rw [Option.map_some, if_neg h]
  | none =>
    rw [if_neg (by decide), vget_app, vget_cons, vget_nil]
    by_cases h : j = k
    · subst h
      rw [if_pos rfl, if_pos rfl, e]
      rfl
    · rw [if_neg h, if_neg fun z => h z.symm, Option.or_none]
theorem vput_len (kvs : List (κ × PD)) (k : κ) (y : PD) : (vput kvs k y).length ≤ kvs.length + 1 := by
  unfold vput
  split
  · rw [List.length_map]
    omega
  · rw [List.length_append]
    exact Nat.le_refl _
theorem vput_keys (kvs : List (κ × PD)) (k : κ) (y : PD) : (vput kvs k y).map (·.1) = if (vget kvs k).isSome = true then kvs.map (·.1) else kvs.map (·.1) ++ [k] := by
  unfold vput
  split
  · rw [List.map_map]
    refine List.map_congr_left fun p _ => ?_
    show (if p.1 = k then (p.1, y) else p).1 = p.1
    split <;> rfl
  · rw [List.map_append]
    rfl
theorem KvR.get {K : PySem.W.Frag} {I : Hp} {kvs : List (κ × PD)} {vs : List (κ × V)} (h : KvR K I kvs vs) (k : κ) : (vget kvs k = none ∧ valV vs k = none) ∨ ∃ d v, vget kvs k = some d ∧ valV vs k = some v ∧ Dp K I v d := by
  unfold KvR at h
  induction h with
  | nil => exact .inl ⟨rfl, rfl⟩
  | @cons p q ps qs r t ih =>
    obtain ⟨h1, h2⟩ := r
    rw [vget_cons]
    by_cases e : p.1 = k
    · rw [if_pos e, valV_pos (h1 ▸ e)]
      exact .inr ⟨_, _, rfl, rfl, h2⟩
    · rw [if_neg e, valV_neg (h1 ▸ e)]
      exact ih
theorem KvR.got {K : PySem.W.Frag} {I : Hp} {kvs : List (κ × PD)} {vs : List (κ × V)} (h : KvR K I kvs vs) {k : κ} {d : PD} (e : vget kvs k = some d) : ∃ v, valV vs k = some v ∧ Dp K I v d := by
  rcases h.get k with ⟨z, _⟩ | ⟨d', v, e1, e2, r⟩
  · rw [e] at z
    cases z
  · rw [e] at e1
    cases e1
    exact ⟨v, e2, r⟩
theorem KvR.is {K : PySem.W.Frag} {I : Hp} {kvs : List (κ × PD)} {vs : List (κ × V)} (h : KvR K I kvs vs) (k : κ) : (valV vs k).isSome = (vget kvs k).isSome := by
  rcases h.get k with ⟨z, w⟩ | ⟨d', v, e1, e2, r⟩
  · rw [z, w]
    rfl
  · rw [e1, e2]
    rfl
theorem KvR.len {K : PySem.W.Frag} {I : Hp} {kvs : List (κ × PD)} {vs : List (κ × V)} (h : KvR K I kvs vs) : vs.length = kvs.length := (Paired.length h).symm
theorem KvR.put {K : PySem.W.Frag} {I : Hp} {kvs : List (κ × PD)} {vs : List (κ × V)} (h : KvR K I kvs vs) (k : κ) {v : V} {d : PD} (r : Dp K I v d) : KvR K I (vput kvs k d) (putK vs k v) := by
  have repl : ∀ {xs : List (κ × PD)} {ys : List (κ × V)}, KvR K I xs ys → KvR K I (xs.map fun kv => if kv.1 = k then (kv.1, d) else kv) (ys.map fun kv => if kv.1 = k then (kv.1, v) else kv) := by
    intro xs ys q
    unfold KvR at q ⊢
    induction q with
    | nil => exact .nil
    | @cons p q ps qs z t ih =>
      rw [List.map_cons, List.map_cons]
      refine .cons ?_ ih
      by_cases e : p.1 = k
      · rw [if_pos e, if_pos (z.1 ▸ e)]
        exact ⟨z.1, r⟩
      · rw [if_neg e, if_neg (z.1 ▸ e)]
        exact z
  unfold vput putK
  rw [valV_any, h.is k]
  split
  · exact repl h
  · exact Paired.snoc h ⟨rfl, r⟩
end

/-! ### keys -/
theorem kd_v {K : PySem.W.Frag} {I : Hp} {v : V} {k : Key} (h : Dp K I v (kd k)) : v = kV k := by
  cases k with
  | inl i => exact dp_int h
  | inr x => exact dp_str h
theorem kds_v {K : PySem.W.Frag} {I : Hp} : ∀ {vs : List V} {ks : List Key}, DpAll K I vs (ks.map kd) → vs = ks.map kV
  | _, [], h => by
    cases h
    rfl
  | _, k :: ks, h => by
    cases h with
    | cons a b => rw [kd_v a, kds_v b, List.map_cons]
theorem kd_dp {K : PySem.W.Frag} {I : Hp} (k : Key) : Dp K I (kV k) (kd k) := by
  cases k with
  | inl i => exact .int i
  | inr x => exact .str x
theorem kds_dp {K : PySem.W.Frag} {I : Hp} : ∀ ks : List Key, DpAll K I (ks.map kV) (ks.map kd)
  | [] => .nil
  | k :: ks => .cons (kd_dp k) (kds_dp ks)
theorem keyD_v {K : PySem.W.Frag} {I : Hp} {v : V} {ks : List Key} (h : Dp K I v (keyD ks)) : ∃ b, v = .ref b ∧ I b = some (.tup (ks.map kV)) := by
  obtain ⟨b, xs, rfl, h1, h2⟩ := dp_tupS h
  rw [kds_v h2] at h1
  exact ⟨b, rfl, h1⟩
theorem kd_inj {a b : Key} (h : kd a = kd b) : a = b := by
  cases a <;> cases b
  · exact congrArg Sum.inl (PyData.int.inj h)
  · exact nomatch h
  · exact nomatch h
  · exact congrArg Sum.inr (PyData.str.inj h)
theorem kds_inj : ∀ {a b : List Key}, a.map kd = b.map kd → a = b
  | [], [], _ => rfl
  | [], _ :: _, h => nomatch h
  | _ :: _, [], h => nomatch h
  | x :: a, y :: b, h => by
    rw [List.map_cons, List.map_cons] at h
    injection h with h1 h2
    rw [kd_inj h1, kds_inj h2]
theorem keyD_inj {a b : List Key} (h : keyD a = keyD b) : a = b := kds_inj (PyData.tuple.inj h)
/-- a dict that changes no more -/
theorem dp_dct {K : PySem.W.Frag} {I : Hp} {v : V} {kvs : List (List Key × PD)} (h : Dp K I v (dDict kvs)) : ∃ a o vs, v = .ref a ∧ I a = some (.frz o (.dT vs)) ∧ KvR K I kvs vs := by
  unfold dDict at h
  generalize hz : kvs.map (fun p => (keyD p.1, p.2)) = z at h
  cases h with
  | @dct p o ks es _ q t e =>
    refine ⟨p, o, ks, rfl, q, ?_⟩
    have aux : ∀ (ks : List (List Key × V)) (es : List PD) (kvs : List (List Key × PD)), DpAll K I (ks.map (·.2)) es → kvs.map (fun p => (keyD p.1, p.2)) = (ks.map fun k => keyD k.1).zip es → KvR K I kvs ks := by
      intro ks
      induction ks with
      | nil =>
        intro es kvs h e
        cases kvs with
        | nil => exact .nil
        | cons => cases e
      | cons k ks ih =>
        intro es kvs h e
        rw [List.map_cons] at h
        cases h with
        | @cons _ _ d es r t =>
          cases kvs with
          | nil => cases e
          | cons kv kvs =>
            rw [List.map_cons, List.map_cons, List.zip_cons_cons] at e
            injection e with e1 e2
            have e3 := congrArg Prod.fst e1
            have e4 := congrArg Prod.snd e1
            exact .cons ⟨keyD_inj e3, by rw [show kv.2 = d from e4]; exact r⟩ (ih es kvs t e2)
    exact aux ks es kvs t (hz.trans e)
theorem dct_dp {K : PySem.W.Frag} {I : Hp} {a : Addr} {o : Obj} {kvs : List (List Key × PD)} {vs : List (List Key × V)} (h : I a = some (.frz o (.dT vs))) (r : KvR K I kvs vs) : Dp K I (.ref a) (dDict kvs) := by
  have aux : ∀ {kvs : List (List Key × PD)} {vs : List (List Key × V)}, KvR K I kvs vs → DpAll K I (vs.map (·.2)) (kvs.map (·.2)) ∧ kvs.map (fun p => (keyD p.1, p.2)) = (vs.map fun k => keyD k.1).zip (kvs.map (·.2)) := by
    intro kvs vs r
    unfold KvR at r
    induction r with
    | nil => exact ⟨.nil, rfl⟩
    | @cons p q ps qs z t ih =>
      refine ⟨.cons z.2 ih.1, ?_⟩
      rw [List.map_cons, List.map_cons, List.map_cons, List.zip_cons_cons, ih.2, z.1]
  obtain ⟨h1, h2⟩ := aux r
  exact .dct h h1 h2

section
variable {X : Cx} {ρ : Ro} {a c e e2 : Expr} {es : List Expr} {d d1 d2 : PD} {ds : List PD} {pos p p' : Pos} {k : Bool} {rest : List Stmt} {P : Po} {kvs : List (List Key × PD)} {ks : List Key} {kk : List (Key × PD)} {k1 : Key}
/-! ### new dicts -/
theorem eo_dT : EvO X (.Dict [] [] pos) ρ (.t []) := fun ok b I H σ S Q q => WE.of pe_dnewT fun r hr => q r _ I _ (Gr.newM S.same hr) hr (S.same.free hr) upd_same .nil
theorem eo_dK : EvO X (.Dict [] [] pos) ρ (.k []) := fun ok b I H σ S Q q => WE.of pe_dnewK fun r hr => q r _ I _ (Gr.newM S.same hr) hr (S.same.free hr) upd_same .nil
/-- {key: value}, the key a tuple -/
theorem pe_dT1 {ta tc : TE} (hu : X.A.units + 1 < cLine) (ha : PE X a ta) (hc : PE X c tc) : PE X (.Dict [some a] [c] pos) (fun σ H Q => ∀ r, H r = none → ta σ (upd H r (.dT [])) fun x H1 => tc σ H1 fun y H2 => ∃ b ks, x = .ref b ∧ H2 b = some (.tup (ks.map kV)) ∧ H2 r = some (.dT []) ∧ Q (.ref r) (upd H2 r (.dT [(ks, y)]))) := by
  refine ⟨fun pins s σ H Q I q => ?_⟩
  have hn := I.hok.fresh (Nat.le_refl s.heap.objs.size)
  have I1 := I.laid (a := s.heap.objs.size) (o := .dT []) (h' := s.heap.push { cls := .type "dict", data := .dict #[] }) (t' := s.toks) (fun _ _ q => Heap.get?_push_of_some _ q) (Nat.le_refl _) (dt_empty s.heap I.big)
  rw [arm_eval_Dict, zip_pairTrees [some a] [c] X.env pos rfl rfl, dictDisplay_pairs (pairTrees [some a] [c] X.env pos) (fun z => nomatch z) (by show 1 < 17; decide)]
  refine wpAny_bind (wpAny_standAt (wpAny_bind (wpAny_subDictH (knd := tupleKind (mixKind X.prog X.w)) (Q := fun d s' => wpAny (model X.prog X.w) X.A (pure (Value.ref d)) (EP X pins σ Q) X.xe s') (show X.A.units < cLine by omega) (by show 1 ≤ 15; decide) ?_)))
  refine pairTrees_cons_walk (thn (ha.run pins _ σ _ _ I1 (q _ hn)) fun u s1 ⟨x, H1, I2, rx, q2⟩ => thn (hc.run pins s1 σ H1 _ I2 q2) fun w2 s2 ⟨y, H2, I3, ry, b, ks, ex, eb, er, q3⟩ => pairTrees_nil_walk ?_)
  subst ex
  obtain rfl : u = Value.ref b := rx
  obtain ⟨z, hd, xs, r0, dd⟩ := dt_of I3.hok er
  cases r0
  refine ⟨[(ks, b, w2)], ⟨rfl, rfl, key_of I3.hok eb, trivial⟩, dd, fun h' tk dd' hs => wpAny_pure ⟨.ref s.heap.objs.size, _, ?_, rfl, q3⟩⟩
  obtain ⟨o, es, ep, k1, k2, k3, k4, _, k6⟩ := dd'
  refine d_write I3 (by rw [er]; exact True.intro) hs ⟨o, k1⟩ ⟨by show 1 ≤ sizeLine; decide, hd, [(ks, b, w2)], ?_, o, es, ep, k1, k2, k3, k4, k6⟩
  refine .cons ⟨rfl, ?_, ry⟩ .nil
  rw [upd_ne (ne_of eb er (fun z => nomatch z))]
  exact eb
theorem eo_dT1 (hu : X.A.units + 1 < cLine) (ha : EvD X a ρ (keyD ks)) (hc : EvD X c ρ d) : EvO X (.Dict [some a] [c] pos) ρ (.t [(ks, d)]) := fun ok b I H σ S Q q => by
  refine WE.of (pe_dT1 hu pe_w pe_w) fun r hr => ?_
  have g0 := Gr.newM (o := .dT []) S.same hr
  refine ha ok b I _ σ (S.grow g0) _ fun x I1 H1 g1 dx => hc ok b I1 H1 σ ((S.grow g0).grow g1) _ fun y I2 H2 g2 dy => ?_
  obtain ⟨t, rfl, ht⟩ := keyD_v (Dp.up g2.i _ _ dx)
  have hr2 : H2 r = some (.dT []) := g2.h _ _ (g1.h _ _ upd_same)
  have i2 : I2 r = none := by
    cases z : I2 r with
    | none => rfl
    | some u =>
      rcases (g1.trans g2).n r (S.same.free hr) (by rw [z]; exact fun w => nomatch w) with w | ⟨_, w⟩
      · rw [upd_same] at w
        cases w
      · rw [upd_same] at w
        cases w
  exact ⟨t, ks, rfl, g2.s _ _ ht, hr2, q r _ I2 _ ((g0.trans (g1.trans g2)).mut i2 hr) hr i2 upd_same (.cons ⟨rfl, dy⟩ .nil)⟩
/-! ### reading and writing one's own -/
theorem own_dT {b : Bs} {I H : Hp} {σ : St} {K : PySem.W.Frag} (S : SR K b I H σ ρ) {i : Nat} (h : ρ[i]? = some (some (.o (.t kvs)))) : ∃ t vs, σ[i]? = some (some (.ref t)) ∧ H t = some (.dT vs) ∧ KvR K I kvs vs := by
  obtain ⟨t, u, h1, h2, h3, h4, h5⟩ := S.own i _ h
  cases u with
  | dT vs => exact ⟨t, vs, h1, h4, h5⟩
  | _ => exact h5.elim
theorem own_dK {b : Bs} {I H : Hp} {σ : St} {K : PySem.W.Frag} (S : SR K b I H σ ρ) {i : Nat} (h : ρ[i]? = some (some (.o (.k kk)))) : ∃ t vs, σ[i]? = some (some (.ref t)) ∧ H t = some (.dK vs) ∧ KvR K I kk vs := by
  obtain ⟨t, u, h1, h2, h3, h4, h5⟩ := S.own i _ h
  cases u with
  | dK vs => exact ⟨t, vs, h1, h4, h5⟩
  | _ => exact h5.elim
/-- x[key], the own dict's keys tuples -/
theorem ev_getT (i : Nat) {x : Str} (hu : X.A.units + 1 < cLine) (hc : EvD X c ρ (keyD ks)) (hg : vget kvs ks = some d) (hρ : ρ[i]? = some (some (.o (.t kvs))) := by rfl) (hN : X.N[i]? = some x := by rfl)
    (hv : Vis X.env.scope x := by first | exact Or.inl rfl | exact Or.inr (Or.inl rfl) | exact Or.inr (Or.inr rfl)) (hd : (x == ("__debug__" : Str)) = false := by decide) (hcd : (x == ("__classdict__" : Str)) = false := by decide) (hs : NoSl c := by exact fun _ _ => rfl) :
    EvD X (.Subscript (.Name x p') c p) ρ d := fun ok b I H σ S Q q => by
  obtain ⟨t, vs, h1, h2, h3⟩ := own_dT S hρ
  refine WE.of (pe_dget hu (pe_var hN hv hd hcd) pe_w hs) ⟨.ref t, h1, hc ok b I H σ S _ fun y I1 H1 g1 dy => ?_⟩
  obtain ⟨r, rfl, hr⟩ := keyD_v dy
  have h3' : KvR X.K I1 kvs vs := h3.up g1.i
  obtain ⟨v, e1, e2⟩ := h3'.got hg
  exact ⟨t, v, rfl, .inr ⟨vs, ks, r, .inl (g1.h _ _ h2), rfl, g1.s _ _ hr, e1.symm⟩, q v I1 H1 g1 e2⟩
/-- x[key], x a dict that changes no more -/
theorem ev_getZ (hu : X.A.units + 1 < cLine) (ha : EvD X a ρ (dDict kvs)) (hc : EvD X c ρ (keyD ks)) (hg : vget kvs ks = some d) (hs : NoSl c := by exact fun _ _ => rfl) : EvD X (.Subscript a c p) ρ d := fun ok b I H σ S Q q => by
  refine WE.of (pe_dget hu pe_w pe_w hs) (ha ok b I H σ S _ fun x I1 H1 g1 dx => hc ok b I1 H1 σ (S.grow g1) _ fun y I2 H2 g2 dy => ?_)
  obtain ⟨t, o, vs, rfl, h2, h3⟩ := dp_dct (Dp.up g2.i _ _ dx)
  obtain ⟨r, rfl, hr⟩ := keyD_v dy
  obtain ⟨v, e1, e2⟩ := h3.got hg
  exact ⟨t, v, rfl, .inr ⟨vs, ks, r, .inr ⟨o, g2.s _ _ h2⟩, rfl, g2.s _ _ hr, e1.symm⟩, q v I2 H2 (g1.trans g2) e2⟩
/-- x[key], the own dict's keys ints and texts -/
theorem ev_getK (i : Nat) {x : Str} (hu : X.A.units + 1 < cLine) (hc : EvD X c ρ (kd k1)) (hg : vget kk k1 = some d) (hρ : ρ[i]? = some (some (.o (.k kk))) := by rfl) (hN : X.N[i]? = some x := by rfl)
    (hv : Vis X.env.scope x := by first | exact Or.inl rfl | exact Or.inr (Or.inl rfl) | exact Or.inr (Or.inr rfl)) (hd : (x == ("__debug__" : Str)) = false := by decide) (hcd : (x == ("__classdict__" : Str)) = false := by decide) (hs : NoSl c := by exact fun _ _ => rfl) :
    EvD X (.Subscript (.Name x p') c p) ρ d := fun ok b I H σ S Q q => by
  obtain ⟨t, vs, h1, h2, h3⟩ := own_dK S hρ
  refine WE.of (pe_dget hu (pe_var hN hv hd hcd) pe_w hs) ⟨.ref t, h1, hc ok b I H σ S _ fun y I1 H1 g1 dy => ?_⟩
  rw [kd_v dy]
  have h3' : KvR X.K I1 kk vs := h3.up g1.i
  obtain ⟨v, e1, e2⟩ := h3'.got hg
  exact ⟨t, v, rfl, .inl ⟨vs, k1, .inl (g1.h _ _ h2), rfl, e1.symm⟩, q v I1 H1 g1 e2⟩
/-- key in x -/
theorem et_inK (i : Nat) {x : Str} (hu : X.A.units + 1 < cLine) (hc : EvD X c ρ (kd k1)) (hρ : ρ[i]? = some (some (.o (.k kk))) := by rfl) (hN : X.N[i]? = some x := by rfl)
    (hv : Vis X.env.scope x := by first | exact Or.inl rfl | exact Or.inr (Or.inl rfl) | exact Or.inr (Or.inr rfl)) (hd : (x == ("__debug__" : Str)) = false := by decide) (hcd : (x == ("__classdict__" : Str)) = false := by decide) :
    EvT X (.Compare c [.In] [.Name x p'] p) ρ (vget kk k1).isSome := fun ok b I H σ S Q q => by
  obtain ⟨t, vs, h1, h2, h3⟩ := own_dK S hρ
  refine WT.of (pt_cmp (pc_din hu pe_w (pe_var hN hv hd hcd))) (hc ok b I H σ S _ fun y I1 H1 g1 dy => ⟨.ref t, h1, t, valV vs k1, rfl, ?_, ⟨_, rfl, ?_⟩⟩)
  · rw [kd_v dy]
    exact .inl ⟨vs, k1, .inl (g1.h _ _ h2), rfl, rfl⟩
  · rw [h3.is k1]
    exact q I1 H1 g1
theorem et_notinT (i : Nat) {x : Str} (hu : X.A.units + 1 < cLine) (hc : EvD X c ρ (keyD ks)) (hρ : ρ[i]? = some (some (.o (.t kvs))) := by rfl) (hN : X.N[i]? = some x := by rfl)
    (hv : Vis X.env.scope x := by first | exact Or.inl rfl | exact Or.inr (Or.inl rfl) | exact Or.inr (Or.inr rfl)) (hd : (x == ("__debug__" : Str)) = false := by decide) (hcd : (x == ("__classdict__" : Str)) = false := by decide) :
    EvT X (.Compare c [.NotIn] [.Name x p'] p) ρ (!(vget kvs ks).isSome) := fun ok b I H σ S Q q => by
  obtain ⟨t, vs, h1, h2, h3⟩ := own_dT S hρ
  refine WT.of (pt_cmp (pc_dnotin hu pe_w (pe_var hN hv hd hcd))) (hc ok b I H σ S _ fun y I1 H1 g1 dy => ⟨.ref t, h1, t, valV vs ks, rfl, ?_, ⟨_, rfl, ?_⟩⟩)
  · obtain ⟨r, rfl, hr⟩ := keyD_v dy
    exact .inr ⟨vs, ks, r, .inl (g1.h _ _ h2), rfl, g1.s _ _ hr, rfl⟩
  · rw [h3.is ks]
    exact q I1 H1 g1
/-- x.get(key, e) -/
theorem ev_get2T (i : Nat) {x : Str} {apos : Pos} (hu : X.A.units + 1 < cLine) (hc : EvD X c ρ (keyD ks)) (he : EvD X e ρ d) (hρ : ρ[i]? = some (some (.o (.t kvs))) := by rfl) (hN : X.N[i]? = some x := by rfl)
    (hv : Vis X.env.scope x := by first | exact Or.inl rfl | exact Or.inr (Or.inl rfl) | exact Or.inr (Or.inr rfl)) (hd : (x == ("__debug__" : Str)) = false := by decide) (hcd : (x == ("__classdict__" : Str)) = false := by decide)
    (m : M2 X (.Name x p') "get" apos c e pos := by exact ⟨rfl, rfl, rfl, rfl⟩) : EvD X (.Call (.Attribute (.Name x p') "get" apos) [c, e] [] pos) ρ ((vget kvs ks).getD d) := fun ok b I H σ S Q q => by
  obtain ⟨t, vs, h1, h2, h3⟩ := own_dT S hρ
  refine WE.of (pe_dget2 hu (pe_var hN hv hd hcd) pe_w pe_w m) ⟨.ref t, h1, t, rfl, .inr ⟨vs, .inl h2⟩, hc ok b I H σ S _ fun y I1 H1 g1 dy => he ok b I1 H1 σ (S.grow g1) _ fun z I2 H2 g2 dz => ⟨valV vs ks, ?_, ?_⟩⟩
  · obtain ⟨r, rfl, hr⟩ := keyD_v dy
    exact .inr ⟨vs, ks, r, .inl (g2.h _ _ (g1.h _ _ h2)), rfl, g2.s _ _ (g2.i _ _ hr), rfl⟩
  · have g := g1.trans g2
    rcases (h3.up g.i).get ks with ⟨e1, e2⟩ | ⟨d', v, e1, e2, r⟩
    · rw [e1] at q
      rw [e2]
      exact q z I2 H2 g dz
    · rw [e1] at q
      rw [e2]
      exact q v I2 H2 g r
/-- x[key] = e -/
theorem sv_putT (i : Nat) {x : Str} {p1 p2 : Pos} (hu : X.A.units + 1 < cLine) (he : EvD X e ρ d) (hc : EvD X c ρ (keyD ks)) (hz : kvs.length < 100000) (k : SEv X rest (ρ.set i (some (.o (.t (vput kvs ks d))))) P) (hρ : ρ[i]? = some (some (.o (.t kvs))) := by rfl) (hN : X.N[i]? = some x := by rfl)
    (hv : Vis X.env.scope x := by first | exact Or.inl rfl | exact Or.inr (Or.inl rfl) | exact Or.inr (Or.inr rfl)) (hd : (x == ("__debug__" : Str)) = false := by decide) (hcd : (x == ("__classdict__" : Str)) = false := by decide)
    (hs : swapsWith e (some (.Subscript (.Name x p1) c p2)) p.line X.env = pure false := by rfl) : SEv X (.Assign [.Subscript (.Name x p1) c p2] e p :: rest) ρ P :=
  sv_one (ps_dput hu (pe_var hN hv hd hcd) pe_w pe_w hs) fun ok b I H σ D S E => by
    obtain ⟨t, vs, h1, h2, h3⟩ := own_dT S hρ
    refine he ok b I H σ S _ fun v I1 H1 g1 dv => ⟨.ref t, h1, hc ok b I1 H1 σ (S.grow g1) _ fun y I2 H2 g2 dy => ?_⟩
    obtain ⟨r, rfl, hr⟩ := keyD_v dy
    have g := g1.trans g2
    refine ⟨t, upd H2 t (.dT (putK vs ks v)), rfl, .inr ⟨vs, ks, r, g.h _ _ h2, rfl, g2.s _ _ hr, Nat.lt_of_lt_of_le (show vs.length < 100000 by rw [h3.len]; exact hz) (by decide), rfl⟩, ?_⟩
    exact k ok b I2 _ σ D ((S.grow g).mutO (o' := .t (vput kvs ks d)) hρ h1 ((h3.up g.i).put ks (Dp.up g2.i _ _ dv))) E
theorem sv_putK (i : Nat) {x : Str} {p1 p2 : Pos} (hu : X.A.units + 1 < cLine) (he : EvD X e ρ d) (hc : EvD X c ρ (kd k1)) (hz : kk.length < 100000) (k : SEv X rest (ρ.set i (some (.o (.k (vput kk k1 d))))) P) (hρ : ρ[i]? = some (some (.o (.k kk))) := by rfl) (hN : X.N[i]? = some x := by rfl)
    (hv : Vis X.env.scope x := by first | exact Or.inl rfl | exact Or.inr (Or.inl rfl) | exact Or.inr (Or.inr rfl)) (hd : (x == ("__debug__" : Str)) = false := by decide) (hcd : (x == ("__classdict__" : Str)) = false := by decide)
    (hs : swapsWith e (some (.Subscript (.Name x p1) c p2)) p.line X.env = pure false := by rfl) : SEv X (.Assign [.Subscript (.Name x p1) c p2] e p :: rest) ρ P :=
  sv_one (ps_dput hu (pe_var hN hv hd hcd) pe_w pe_w hs) fun ok b I H σ D S E => by
    obtain ⟨t, vs, h1, h2, h3⟩ := own_dK S hρ
    refine he ok b I H σ S _ fun v I1 H1 g1 dv => ⟨.ref t, h1, hc ok b I1 H1 σ (S.grow g1) _ fun y I2 H2 g2 dy => ?_⟩
    rw [kd_v dy]
    have g := g1.trans g2
    refine ⟨t, upd H2 t (.dK (putK vs k1 v)), rfl, .inl ⟨vs, k1, g.h _ _ h2, rfl, Nat.lt_of_lt_of_le (show vs.length < 100000 by rw [h3.len]; exact hz) (by decide), rfl⟩, ?_⟩
    exact k ok b I2 _ σ D ((S.grow g).mutO (o' := .k (vput kk k1 d)) hρ h1 ((h3.up g.i).put k1 (Dp.up g2.i _ _ dv))) E
/-! ### it changes no more -/
theorem SR.frzT {K : PySem.W.Frag} {b : Bs} {I H : Hp} {σ : St} (S : SR K b I H σ ρ) {i : Nat} (h : ρ[i]? = some (some (.o (.t kvs)))) : ∃ t u, H t = some u ∧ Mut (some u) ∧ ∀ od, ∃ I', SR K b I' (upd H t (.frz od u)) σ (ρ.set i (some (.d (dDict kvs)))) := by
  obtain ⟨t, u, h1, h2, h3, h4, h5⟩ := S.own i _ h
  cases u with
  | dT vs =>
    refine ⟨t, .dT vs, h4, trivial, fun od => ⟨upd I t (.frz od (.dT vs)), ?_⟩⟩
    have i1 : Same I (upd I t (.frz od (.dT vs))) := same_up h2
    have hg : Gr b.I b.H (upd I t (.frz od (.dT vs))) (upd H t (.frz od (.dT vs))) := ⟨S.g.i.trans i1, fun c x q => by
      rw [upd_ne (ne_of_none q h3)]
      exact S.g.h _ _ q, fun c x q => by
      by_cases hc : c = t
      · subst hc
        rw [upd_same] at q ⊢
        exact q
      · rw [upd_ne hc] at q ⊢
        exact S.g.s _ _ q, fun c q1 q2 => by
      by_cases hc : c = t
      · subst hc
        exact .inl h3
      · rw [upd_ne hc] at q2
        exact S.g.n c q1 q2⟩
    refine ⟨hg, by rw [List.length_set, S.len], fun j y e2 => ?_, fun j a e2 => ?_, fun j o2 e2 => ?_, fun j k o1 o2 q hjk e1 e2 e3 e4 => ?_⟩
    · rcases get_set e2 with ⟨rfl, z, _⟩ | ⟨hn, e2⟩
      · cases z
        exact ⟨.ref t, h1, dct_dp upd_same (KvR.up i1 h5)⟩
      · obtain ⟨v, k1, k2⟩ := S.dat j y e2
        exact ⟨v, k1, Dp.up i1 _ _ k2⟩
    · rcases get_set e2 with ⟨_, z, _⟩ | ⟨hn, e2⟩
      · cases z
      · exact S.raw j a e2
    · rcases get_set e2 with ⟨rfl, z, _⟩ | ⟨hn, e2⟩
      · cases z
      · obtain ⟨q, u2, k1, k2, k3, k4, k5⟩ := S.own j o2 e2
        have ne : q ≠ t := fun z => by
          subst z
          exact S.sep i j _ o2 q hn h e2 h1 k1
        exact ⟨q, u2, k1, by rw [upd_ne ne]; exact k2, k3, by rw [upd_ne ne]; exact k4, k5.up i1⟩
    · rcases get_set e1 with ⟨_, z, _⟩ | ⟨_, e1⟩
      · cases z
      · rcases get_set e2 with ⟨_, z, _⟩ | ⟨_, e2⟩
        · cases z
        · exact S.sep j k o1 o2 q hjk e1 e2 e3 e4
  | _ => exact h5.elim
theorem sv_frzT (i : Nat) (k : SEv X rest (ρ.set i (some (.d (dDict kvs)))) P) (hρ : ρ[i]? = some (some (.o (.t kvs))) := by rfl) : SEv X rest ρ P := fun ok b I H σ D S E pins s Iv => by
  obtain ⟨t, u, h1, h2, h3⟩ := S.frzT hρ
  obtain ⟨od, Iv2⟩ := Iv.lock h1 h2
  obtain ⟨I', S'⟩ := h3 od
  exact k ok b I' _ σ D S' E pins s Iv2
end
end G
set_option Elab.async false
set_option linter.all false
set_option maxRecDepth 100000
set_option maxHeartbeats 4000000
/-! Dicts with tuple keys that change no more: walked, and made by a comprehension. -/
namespace G
open PySem PySem.Spec PyProof.Rows L2

/-- a key's own tuple is as good as any -/
theorem key_new {K : PySem.W.Frag} {I H : Hp} {q : Addr} {ks : List Key} (s : Same I H) (h : H q = some (.tup (ks.map kV))) : ∃ I', Gr I H I' H ∧ Dp K I' (.ref q) (keyD ks) := by
  cases e : I q with
  | some o =>
    have w := s _ _ e
    rw [h] at w
    cases w
    exact ⟨I, Gr.refl s, .tup e (kds_dp ks)⟩
  | none =>
    refine ⟨upd I q (.tup (ks.map kV)), ⟨same_up e, Same.refl H, fun b x w => ?_, fun b h1 h2 => ?_⟩, .tup upd_same (kds_dp ks)⟩
    · by_cases hb : b = q
      · subst hb
        rw [upd_same] at w
        cases w
        exact h
      · rw [upd_ne hb] at w
        exact s _ _ w
    · by_cases hb : b = q
      · subst hb
        exact .inr ⟨_, h⟩
      · rw [upd_ne hb] at h2
        exact absurd h1 h2
/-- what stands in the locked dict at d -/
theorem frz_ent {X : Cx} {pins : List (Addr × Obj)} {σ : St} {H : Hp} {s : Shared} {d : Addr} {o : Obj} {vs : List (List Key × V)} (I : Inv X pins σ H s) (h : H d = some (.frz o (.dT vs))) :
    (d == sysModules) = false ∧ o.ExactDict ∧ s.heap.get? d = some o ∧ ∃ (es : Array DictEntry) (ep : Nat), o.data = .dict es ep ∧ es.size = vs.length ∧
      ∀ (i : Nat) (k : List Key) (v : V), vs[i]? = some (k, v) → ∃ (en : DictEntry) (q : Addr), es[i]? = some en ∧ en.key = .ref q ∧ H q = some (.tup (k.map kV)) ∧ RelV v en.val := by
  obtain ⟨hd, z, hs, xs, pr, o', es, ep, ho, hx, hdt, he, _⟩ := I.hok d _ h
  have eo : o' = o := Option.some.inj (ho.symm.trans hd)
  subst eo
  refine ⟨hs, hx, hd, es, ep, hdt, ?_, fun i k v e => ?_⟩
  · have l1 := size_of_entries he
    have l2 : vs.length = xs.length := Paired.length pr
    omega
  · obtain ⟨b, hb, e1, e2, e3⟩ := paired_get pr e
    have w := entry_at he i
    rw [hb] at w
    exact ⟨_, b.2.1, w, rfl, e2, e3⟩
/-- the pairs of the locked dict at d, each a new tuple of the key's own and the value -/
def ItiT (d : Addr) (o : Obj) (vs : List (List Key × V)) : It :=
  ⟨fun i H => H d = some (.frz o (.dT vs)) ∧ i < vs.length, fun i H x H' => ∃ T k v q, vs[i]? = some (k, v) ∧ x = .ref T ∧ H T = none ∧ H q = some (.tup (k.map kV)) ∧ H' = upd H T (.tup [.ref q, v]), fun i H => H d = some (.frz o (.dT vs)) ∧ vs.length ≤ i⟩
theorem turn_itT {Pg : Program} {w : World} {K : PySem.W.Frag} {d : Addr} {o : Obj} {es : Array DictEntry} {ep : Nat} {vs : List (List Key × V)} {elts : List Expr} {kk : Nat} {tpos : Pos} (it : Addr) (hod : o.data = .dict es ep) (hz : es.size = vs.length) :
    Turn Pg w K (.Tuple elts kk tpos) (ItiT d o vs) [it] it (fun i h => ∃ a b, IsItemIter h it d i es.size ep a b) where
  mem := by simp
  obj := fun i h st b hb => by
    have e : b = it := by simpa using hb
    obtain ⟨x, y, w⟩ := st
    rw [e]
    exact ⟨_, w, fun v z => nomatch z⟩
  keep := fun i h h' st k => let ⟨x, y, e⟩ := st; ⟨x, y, k it (by simp) _ e⟩
  item := by
    intro X hP hw hK hc i pins s σ H E I hf st hg
    subst hP hw hK
    obtain ⟨hd, hi⟩ := hg
    obtain ⟨h1, h2, h3, es', ep', h4, h5, ent⟩ := frz_ent I hd
    obtain ⟨rfl, rfl⟩ := dict_ep hod h4
    obtain ⟨⟨k, v⟩, hkv⟩ : ∃ p, vs[i]? = some p := ⟨_, List.getElem?_eq_getElem hi⟩
    obtain ⟨en, q, hen, hkey, hq, rv⟩ := ent i k v hkv
    have hie : i < es'.size := by omega
    rw [Array.getElem?_eq_getElem hie] at hen
    have hen := Option.some.inj hen
    obtain ⟨x, y, he⟩ := st
    have hlt : it < s.heap.objs.size := Heap.lt_size he
    refine DT.nextI he ⟨o, h3, h2, hod⟩ hie fun h' ho hT hsz hk => ?_
    rw [hen] at ho hT
    refine ⟨_, rfl, wpAny_letOwnedTupleGo_items (s := { s with heap := h' }) ho fun h2' he2 sb => ?_⟩
    have hT2 : h2'.get? s.heap.objs.size = some { cls := .type "tuple", data := .seq #[en.key, en.val] } := (sb.2 _ (Nat.ne_of_gt hlt)).trans hT
    rw [hkey] at hT2
    have new : ObjOk X.prog X.w (upd H s.heap.objs.size (.tup [.ref q, v])) h2' s.heap.objs.size (.tup [.ref q, v]) :=
      ⟨by show 2 ≤ sizeLine; decide, [.ref q, en.val], .cons rfl (.cons rv .nil), ⟨_, hT2, rfl, _, rfl⟩⟩
    have I1 : Inv X pins σ (upd H s.heap.objs.size (.tup [.ref q, v])) { s with heap := h2' } := by
      refine I.turnedNew (t' := s.toks) (ch := [it]) (fun b ob hb e => ?_) hf (Nat.le_refl _) new
      have n0 : b ≠ it := fun z => hb (by simp [z])
      exact (sb.2 b n0).trans (hk b ob n0 e)
    refine ⟨.ref s.heap.objs.size, _, I1, rfl, ⟨_, k, v, q, hkv, rfl, I.hok.fresh (Nat.le_refl _), hq, rfl⟩, ⟨_, _, he2⟩, fun b hb => ?_⟩
    have e : b = it := by simpa using hb
    rw [e, upd_ne (Nat.ne_of_lt hlt)]
    exact (hf it (by simp)).1
  done := by
    intro X hP hw hK hc i pins s σ H E I hf st hg
    subst hP hw hK
    obtain ⟨hd, hi⟩ := hg
    obtain ⟨h1, h2, h3, es', ep', h4, h5, ent⟩ := frz_ent I hd
    obtain ⟨rfl, rfl⟩ := dict_ep hod h4
    obtain ⟨f0, f1, f2, f3, f4, f5⟩ := hf it (by simp)
    obtain ⟨x, y, he⟩ := st
    exact DT.endI (I.ok.hd hc) he ⟨o, h3, h2, hod⟩ (by omega) fun h' eb => ⟨rfl, I.turned (t' := s.toks) (fun b ob hb e => eb b ob hb e) f0 f1 f3 f4 f5⟩
  self := fun A i s Q E st h => let ⟨_, _, e⟩ := st; PySem.W.kcp_self e h
def iItT (td : TE) : TI := fun σ H R => td σ H fun x H1 => ∃ d o vs, x = .ref d ∧ H1 d = some (.frz o (.dT vs)) ∧ R (ItiT d o vs) H1
theorem pi_itT {X : Cx} {e : Expr} {td : TE} {apos cpos : Pos} {elts : List Expr} {kk : Nat} {tpos : Pos} (he : PE X e td) (hbase : attributeBase e "items" X.env (eval e X.env) = eval e X.env := by rfl) (hline : (apos.endLine == cpos.line) = true := by rfl) :
    PI X (.Tuple elts kk tpos) (.Call (.Attribute e "items" apos) [] [] cpos) (iItT td) := by
  refine ⟨fun pins s σ H R I h => ?_⟩
  refine wpAny_Call_method (T := "dict") (id := "dict.items") hbase rfl hline F.plainAttrs_dict F.slot_dict_items F.type_dict_items (thn (he.run pins s σ H _ I h) fun u s1 q0 => ?_)
  obtain ⟨x, H1, I1, rx, d, o, vs, ex, hd, q⟩ := q0
  subst ex
  obtain rfl : u = Value.ref d := rx
  obtain ⟨h1, h2, h3, es, ep, h4, h5, ent⟩ := frz_ent I1 hd
  have raw : DT.Raw s1.heap d es ep := ⟨o, h3, h2, h4⟩
  refine ⟨raw.typeIs, fun b hb => ?_, ?_⟩
  · cases hb
    exact ⟨o, h3, h2.2.1⟩
  have I2 : Inv X pins σ H1 { s1 with heap := s1.heap.push { cls := .type "dict_items", data := .fields #[.ref d] } } := I1.kept (t' := s1.toks) fun b ob w => Heap.get?_push_of_some _ w
  have fin : wpAny (model X.prog X.w) X.A (pyIter (.ref s1.heap.objs.size)) (PIE X pins σ (.Tuple elts kk tpos) R) X.xe { s1 with heap := s1.heap.push { cls := .type "dict_items", data := .fields #[.ref d] } } := by
    refine DT.iterI (d := d) ⟨_, Heap.get?_push_size _ rfl, rfl, rfl⟩ (raw.push _) (pi_one (tk := s1.toks) I2 _ (turn_itT _ h4 h5) ⟨.none, .none, ?_⟩ q)
    exact Heap.get?_push_size _ rfl
  show wpAny _ _ (callWith cpos (.builtin "dict.items") [.ref d] [] []) _ X.xe s1
  exact method_meetsIn F.slot_dict_items F.entry_dict_items rfl (PySem.evalArgs_none ⟨rfl, raw.typeIs, F.args_dict_items_1 _, _, DT.meetsItems (es := es) (ep := ep) h1, ⟨raw, fin⟩⟩)
theorem walk_itT {d : Addr} {o : Obj} {vs : List (List Key × V)} : Walk (ItiT d o vs) vs.length (fun H => H d = some (.frz o (.dT vs))) (fun i H x H' => ∃ T k v q, vs[i]? = some (k, v) ∧ x = .ref T ∧ H T = none ∧ H q = some (.tup (k.map kV)) ∧ H' = upd H T (.tup [.ref q, v])) :=
  ⟨fun _ _ hi q => ⟨q, hi⟩, fun _ q => ⟨q, Nat.le_refl _⟩, fun _ _ _ _ _ _ y => y⟩
theorem KvR.at_ {κ : Type} {K : PySem.W.Frag} {I : Hp} {kvs : List (κ × PD)} {vs : List (κ × V)} (h : KvR K I kvs vs) {i : Nat} {k : κ} {v : V} (e : vs[i]? = some (k, v)) : ∃ d, kvs[i]? = some (k, d) ∧ Dp K I v d := by
  obtain ⟨p, e1, e2, e3⟩ := paired_back h e
  refine ⟨p.2, ?_, e3⟩
  rw [e1, ← (show p.1 = k from e2)]
section
variable {X : Cx} {ρ : Ro} {tg e e2 : Expr} {p pos : Pos} {kvs : List (List Key × PD)}
theorem it_keysZ (h : EvD X e ρ (dDict kvs)) : ItD X tg e ρ (kvs.map fun q => keyD q.1) := fun ok b I H σ S R k =>
  WI.of (pi_keys pe_w) (h ok b I H σ S _ fun v I1 H1 g dv => by
    obtain ⟨a, o, vs, rfl, h1, h2⟩ := dp_dct dv
    refine ⟨a, o, rfl, .inr ⟨vs, g.s _ _ h1, k _ I1 H1 (fun H => H a = some (.frz o (.dT vs))) _ g (by rw [List.length_map, ← h2.len]; exact walk_keysT) (fun I2 H2 s1 s2 => s2 _ _ (s1 _ _ h1)) fun i d H2 x H3 I2 hi s1 s2 y => ?_⟩⟩
    obtain ⟨rfl, k', v, q, e1, rfl, hq⟩ := y
    obtain ⟨d', e2, _⟩ := h2.at_ e1
    rw [List.getElem?_map, e2] at hi
    cases hi
    exact key_new s2 hq)
theorem it_itemsZ {elts : List Expr} {kk : Nat} {tpos apos : Pos} (h : EvD X e ρ (dDict kvs)) (hbase : attributeBase e "items" X.env (eval e X.env) = eval e X.env := by rfl) (hline : (apos.endLine == pos.line) = true := by rfl) :
    ItD X (.Tuple elts kk tpos) (.Call (.Attribute e "items" apos) [] [] pos) ρ (kvs.map fun q => .tuple [keyD q.1, q.2]) := fun ok b I H σ S R k =>
  WI.of (pi_itT pe_w hbase hline) (h ok b I H σ S _ fun v I1 H1 g dv => by
    obtain ⟨a, o, vs, rfl, h1, h2⟩ := dp_dct dv
    refine ⟨a, o, vs, rfl, g.s _ _ h1, k _ I1 H1 (fun H => H a = some (.frz o (.dT vs))) _ g (by rw [List.length_map, ← h2.len]; exact walk_itT) (fun I2 H2 s1 s2 => s2 _ _ (s1 _ _ h1)) fun i d H2 x H3 I2 hi s1 s2 y => ?_⟩
    obtain ⟨T, k', v, q, e1, rfl, hT, hq, rfl⟩ := y
    obtain ⟨d', e2, dv'⟩ := h2.at_ e1
    rw [List.getElem?_map, e2] at hi
    cases hi
    obtain ⟨I3, g3, dk⟩ := key_new (K := X.K) s2 hq
    obtain ⟨g4, dp⟩ := pair_new g3.s hT dk (Dp.up g3.i _ _ (Dp.up s1 _ _ dv'))
    exact ⟨_, g3.trans g4, dp⟩)
end
end G
set_option Elab.async false
set_option linter.all false
set_option maxRecDepth 100000
set_option maxHeartbeats 4000000
/-! {key: value for x in ..}, the keys tuples. -/
namespace G
open PySem PySem.Spec PyProof.Rows L2
theorem dictSetT {X : Cx} {pins : List (Addr × Obj)} {σ : St} {H : Hp} {s : Shared} {E : Value → Shared → Prop} {D b : Addr} {vs : List (List Key × V)} {k : List Key} {v : V} {r : Value} {Q : Unit → Shared → Prop} (hu : X.A.units < cLine) (I : Inv X pins σ H s) (hD : H D = some (.dT vs)) (hz : vs.length < sizeLine)
    (hb : H b = some (.tup (k.map kV))) (rv : RelV v r) (h : ∀ s', Inv X pins σ (upd H D (.dT (putK vs k v))) s' → Q () s') : wpAny (model X.prog X.w) X.A (dictSet D (.ref b) r) Q E s := by
  obtain ⟨z, hd, xs, rel, dd⟩ := dt_of I.hok hD
  have l1 : xs.length ≤ sizeLine := by
    rw [← Paired.length rel]
    exact z
  have l2 : (putK vs k v).length ≤ sizeLine := by
    have := length_putK vs k v
    omega
  refine wpAny_dictSet_heap (hsz := l1) (knd := tupleKind (mixKind X.prog X.w)) hu (key_of I.hok hb) dd fun h' dd' hs => h _ ?_
  obtain ⟨o, es, ep, k1, k2, k3, k4, _, k6⟩ := dd'
  refine d_write I (by rw [hD]; exact True.intro) hs ⟨o, k1⟩ ⟨l2, hd, _, (rel.put k hb rv).keeps fun c ys ec => ?_, o, es, ep, k1, k2, k3, k4, k6⟩
  rw [upd_ne (ne_of ec hD (fun z => nomatch z))]
  exact ec
/-- what must hold: D is the new dict -/
def tDt (wi : TI) (g : TG) (tk tv : TE) (ws : List Nat) : TE := fun σ H Q => wi σ H fun J H1 => ∀ D, H1 D = none → ∃ W : Nat → Nat → Hp → Prop, (∃ m, W 0 m (upd H1 D (.dT []))) ∧ ∀ i m H, W i m H →
  (J.stop i H ∧ Q (.ref D) H) ∨ (J.go i H ∧ ∃ Nx : Hp → Prop, (∀ H', Nx H' → ∃ m', m' < m ∧ W (i + 1) m' H') ∧ ∀ x H', J.yld i H x H' → g x (L2.wipe σ ws) H' fun σ2 H2 => L2.wipe σ2 ws = L2.wipe σ ws ∧
    tk σ2 H2 fun y H4 => tv σ2 H4 fun z H5 => ∃ vs k b, y = .ref b ∧ H5 b = some (.tup (k.map kV)) ∧ H5 D = some (.dT vs) ∧ vs.length < sizeLine ∧ Nx (upd H5 D (.dT (putK vs k z))))
theorem dt_core {X : Cx} {pins : List (Addr × Obj)} {s0 : Shared} {σ : St} {H0 : Hp} {Q : VK} {kx vx tg iter : Expr} {scope : Scope} {own : List (Str × Nat)} {pos ps : Pos} {wi : TI} {g : TG} {tk tv : TE} {use : Option (Value → Sem Unit)} {Qf : Value → Shared → Prop}
    (hu : X.A.units < cLine) (cm : X.calm = true) (nd : X.N.Nodup) (I0 : Inv X pins σ H0 s0) (hi : PI X tg iter wi) (bk : BlkOk X.N X.env.scope scope own)
    (hg : ∀ s H C cl fp, PG (BX X scope s H C cl fp) tg g) (hk : ∀ s H C cl fp, PE (BX X scope s H C cl fp) kx tk) (hv : ∀ s H C cl fp, PE (BX X scope s H C cl fp) vx tv) (hs : ∀ x, foldedSetIterable iter X.env x = pure x) (h : tDt wi g tk tv (own.map (·.2)) σ H0 Q)
    (hR : ∀ D C s' m H', Inv X pins σ H' s' → Q (.ref D) H' → s'.heap.Ns C m → FpOk X pins H' C → compPost (model X.prog X.w) X.A X.xe use Qf (.ref D) C (.ok .next) s') :
    wpAny (model X.prog X.w) X.A (comprehension (.DictComp kx vx [⟨tg, iter, [], 0⟩] scope pos) scope X.env ps newDict false (eval iter X.env) use) Qf X.xe s0 := by
  have fr : ∀ y ∈ scope.names, y.2 = .free → ∃ c, X.env.cells.lookup y.1 = some c := fun y hy e => (bk.free y hy e).elim (fun k => I0.ok.has _ (.inl k)) fun k => I0.ok.has _ (.inr k)
  refine wpAny_comprehension_free (use := use) rfl hs (closure_ok fr) bk.kind (fun y hy e => by rw [bk.uniq y hy, e]) (thn (hi.run pins s0 σ H0 _ I0 h) fun xv sa hx => thn hx fun itv sb hb => ?_)
  obtain ⟨it, fp, tn, J, Hb, rfl, Ib, T, stb, fpb, q⟩ := hb
  refine wpAny_newObj_type (newEnv_comp ?_)
  generalize hD : sb.heap.objs.size = D
  have hDn : Hb D = none := Ib.hok.fresh (Nat.le_of_eq hD)
  obtain ⟨W, ⟨m0, w0⟩, turn⟩ := q D hDn
  generalize hsc : ({ sb with heap := sb.heap.push { cls := .type "dict", data := .dict #[] } } : Shared) = sc
  have hpc : sc.heap = sb.heap.push { cls := .type "dict", data := .dict #[] } := by rw [← hsc]
  have Ic : Inv X pins σ (upd Hb D (.dT [])) sc := by
    rw [← hsc]
    refine Ib.laid (t' := sb.toks) (fun b o e => Heap.get?_push_of_some _ e) (Nat.le_of_eq hD) ?_
    rw [← hD]
    exact dt_empty sb.heap Ib.big
  have lt : ∀ b ∈ fp, b < sb.heap.objs.size := fun b hb => let ⟨o, e, _⟩ := T.obj _ _ stb b hb; Heap.lt_size e
  have fpc : ∀ b ∈ fp, FpOk X pins (upd Hb D (.dT [])) b ∧ b < sc.heap.objs.size := fun b hb => by
    have l := lt b hb
    refine ⟨⟨?_, (fpb b hb).2⟩, by rw [hpc, Heap.size_push]; exact Nat.lt_succ_of_lt l⟩
    rw [upd_ne (by rw [← hD]; exact Nat.ne_of_lt l)]
    exact (fpb b hb).1
  have stc : tn 0 sc.heap := T.keep _ _ _ stb fun b _ o e => by
    rw [hpc]
    exact Heap.get?_push_of_some _ e
  have Id := block_start Ic bk nd fpc
  have pg := hg sc (upd Hb D (.dT [])) sc.heap.objs.size (cellsFrom (sc.heap.objs.size + 1) scope.names (cloFrom X.env.cells scope.names [])) fp
  have pk := hk sc (upd Hb D (.dT [])) sc.heap.objs.size (cellsFrom (sc.heap.objs.size + 1) scope.names (cloFrom X.env.cells scope.names [])) fp
  have pv := hv sc (upd Hb D (.dT [])) sc.heap.objs.size (cellsFrom (sc.heap.objs.size + 1) scope.names (cloFrom X.env.cells scope.names [])) fp
  show codeAny _ _ (.compStart (.DictComp kx vx [⟨tg, iter, [], 0⟩] scope pos) 0 (.ref it) (.ref D) (compEnvC scope (cellsFrom (sc.heap.objs.size + 1) scope.names (cloFrom X.env.cells scope.names [])) sc.heap.objs.size X.env)) (compPost (model X.prog X.w) X.A X.xe use Qf (.ref D) sc.heap.objs.size) { sc with heap := pushCells (sc.heap.push { cls := .type "dict", data := .dict #[] }) scope.names }
  have nfp : ∀ b ∈ fp, (upd Hb D (.dT [])) b = none := fun b hb => (fpc b hb).1.1
  unfold BX at pg pk pv
  generalize hce : compEnvC scope (cellsFrom (sc.heap.objs.size + 1) scope.names (cloFrom X.env.cells scope.names [])) sc.heap.objs.size X.env = ce at Id pg pk pv ⊢
  have cl : ce.locals = sc.heap.objs.size := by
    subst hce
    rfl
  generalize hHc : upd Hb D (.dT []) = Hc at Ic Id pg pk pv w0 nfp fpc
  generalize hsd : ({ sc with heap := pushCells (sc.heap.push { cls := .type "dict", data := .dict #[] }) scope.names } : Shared) = sd at Id ⊢
  have std : tn 0 sd.heap := T.keep _ _ _ stc fun b _ o e => by
    rw [← hsd]
    exact pushCells_keeps _ _ _ _ (Heap.get?_push_of_some _ e)
  have okfp : ∀ {σ' : St} {H' : Hp} {s' : Shared}, Inv (X.blk sc Hc scope ce fp) [] σ' H' s' → (∀ b ∈ fp, H' b = none) → ∀ b ∈ fp, FpOk (X.blk sc Hc scope ce fp) [] H' b := fun {_ H' _} I' hn b hb =>
    ⟨hn b hb, (I'.ok.exf b hb).1, I'.ok.exfs b hb, .inl hb, fun x c e => (I'.ok.exf b hb).2 x c e, fun p hp => absurd (show p ∈ ([] : List (Addr × Obj)) ++ [] from hp) (by simp)⟩
  have loop : codeAny (model X.prog X.w) X.A (.compLoop (.DictComp kx vx [⟨tg, iter, [], 0⟩] scope pos) 0 (.ref it) (.ref D) ce) (compPost (model X.prog X.w) X.A X.xe use Qf (.ref D) sc.heap.objs.size) sd := by
    refine compLoop_anyD (fun n s' => ∃ i H', Inv (X.blk sc Hc scope ce fp) [] (L2.wipe σ (own.map (·.2))) H' s' ∧ tn i s'.heap ∧ (∀ b ∈ fp, H' b = none) ∧ W i n H') ?_ m0 ⟨0, Hc, Id, std, nfp, w0⟩
    rintro n s5 ⟨i, H5, I5, st5, n5, w5⟩
    rcases turn i n H5 w5 with ⟨stop, qq⟩ | ⟨go, Nx, hNx, step⟩
    · refine thnF (T.done (X.blk sc Hc scope ce fp) rfl rfl rfl cm i [] s5 _ H5 (fun _ _ => False) I5 (okfp I5 n5) st5 stop) fun r s6 hr => ?_
      obtain ⟨rfl, I6⟩ := hr
      have I7 : Inv X pins σ H5 s6 := Ic.call' (ch := fp) I6.os I6.base I6.hok I6.bare fun b hb => let f := (fpc b hb).1; ⟨f.2.2.2.1, f.2.1, f.2.2.2.2.1, f.2.2.2.2.2⟩
      have nC : H5 sc.heap.objs.size = none := cl ▸ (show H5 ce.locals = none from I6.free)
      obtain ⟨m, hn, _⟩ := I6.loc
      exact hR D sc.heap.objs.size s6 m H5 I7 qq (cl ▸ (show s6.heap.Ns ce.locals m from hn)) (Ic.fpOk (Nat.le_refl _) nC)
    · refine thnF (T.item (X.blk sc Hc scope ce fp) rfl rfl rfl cm i [] s5 _ H5 (fun _ _ => False) I5 (okfp I5 n5) st5 go) fun r s6 hr => ?_
      obtain ⟨u, rfl, h6⟩ := hr
      refine thnF h6 fun _ s7 h7 => ?_
      obtain ⟨x, H7, I7, r7, y7, st7, n7⟩ := h7
      have J7 := I7.pinned (okfp I7 n7) (T.obj _ _ st7)
      refine thnF (pg.run _ s7 _ H7 x u _ J7 r7 (step x H7 y7)) fun _ s8 h8 => ?_
      obtain ⟨σ8, H8, I8, e8, q8⟩ := h8
      have last : ∀ {s' : Shared} {H' : Hp}, Inv (X.blk sc Hc scope ce fp) ([] ++ pinsAt fp s7.heap) σ8 H' s' → Nx H' → ∃ m, m < n ∧ ∃ i H', Inv (X.blk sc Hc scope ce fp) [] (L2.wipe σ (own.map (·.2))) H' s' ∧ tn i s'.heap ∧ (∀ b ∈ fp, H' b = none) ∧ W i m H' := fun {s' H'} I' nx => by
        obtain ⟨m', hm, w'⟩ := hNx H' nx
        have pin : ∀ b ∈ fp, ∀ o, s7.heap.get? b = some o → s'.heap.get? b = some o ∧ H' b = none := fun b hb o e => by
          have z := I'.pin (b, o) (List.mem_append_right _ (List.mem_append_right _ (mem_pinsAt hb e)))
          exact ⟨z.1, z.2.1⟩
        have hl : (L2.wipe σ (own.map (·.2))).length = σ8.length := by rw [← e8, wipe_length]
        refine ⟨m', hm, i + 1, H', (I'.unpinned (pins := [])).weak hl (fun j v e => ?_), T.keep _ _ _ st7 fun b hb o e => (pin b hb o e).1, fun b hb => ?_, w'⟩
        · rw [← e8] at e
          exact (wipe_some e).1
        · obtain ⟨o, e, _⟩ := T.obj _ _ st7 b hb
          exact (pin b hb o e).2
      show wpAny _ _ (pure true) _ _ s8
      refine wpAny_pure ?_
      rw [if_pos rfl]
      refine thnF (pk.run _ s8 σ8 H8 _ I8 q8) fun z9 s9 h9 => ?_
      obtain ⟨y9, H9, I9, r9, q9⟩ := h9
      refine thnF (pv.run _ s9 σ8 H9 _ I9 q9) fun z10 s10 h10 => ?_
      obtain ⟨y10, H10, I10, r10, vs, k, b, rfl, hb, hD10, hz, nx⟩ := h10
      obtain rfl : z9 = Value.ref b := r9
      exact dictSetT (X := X.blk sc Hc scope ce fp) hu I10 hD10 hz hb r10 fun s11 I11 => last I11 nx
  exact codeAny_compStart_dict loop (T.self X.A 0 _ _ _ std loop)
theorem swD_true {kx vx : Expr} {gs : List Comprehension} {scope : Scope} {pos py : Pos} {y : Str} {l : Nat} {env : Env} (hk : env.scope.kind = .function) (hy : env.scope.names.lookup y = some .local) (hl : (py.line == pos.line) = true)
    (ha : (scope.names.any fun (n, k) => n == y && (k == .local || k == .cell)) = false) : swapsWith (.DictComp kx vx gs scope pos) (some (.Name y py)) l env = pure true := by
  have k1 : env.kindOf y = some .local := hy
  have k2 : env.blockKind = .function := by
    unfold Env.blockKind
    rw [hk]
    rfl
  unfold swapsWith
  simp only [k2, k1, ha, Expr.pos, hl]
  rfl
theorem ps_setDt {X : Cx} {i : Nat} {y : Str} {py : Pos} {kx vx tg iter : Expr} {scope : Scope} {own : List (Str × Nat)} {pos spos : Pos} {wi : TI} {g : TG} {tk tv : TE} (hu : X.A.units < cLine) (cm : X.calm = true) (nd : X.N.Nodup) (hy : X.N[i]? = some y) (hyl : X.env.scope.names.lookup y = some .local)
    (hsw : swapsWith (.DictComp kx vx [⟨tg, iter, [], 0⟩] scope pos) (some (.Name y py)) spos.line X.env = pure true) (hi : PI X tg iter wi) (bk : BlkOk X.N X.env.scope scope own)
    (hg : ∀ s H C cl fp, PG (BX X scope s H C cl fp) tg g) (hk : ∀ s H C cl fp, PE (BX X scope s H C cl fp) kx tk) (hv : ∀ s H C cl fp, PE (BX X scope s H C cl fp) vx tv) (hs : ∀ x, foldedSetIterable iter X.env x = pure x) :
    PS X (.Assign [.Name y py] (.DictComp kx vx [⟨tg, iter, [], 0⟩] scope pos) spos) (tAsg (tDt wi g tk tv (own.map (·.2))) (gName i)) := by
  refine ⟨fun pins s σ H D I h => ?_⟩
  rw [exec_Assign_Name_used _ _ _ _ hsw]
  refine wpAny_bind (wpAny_standAt (wpAny_bind ?_))
  show wpAny _ X.A (do let _ ← comprehension (.DictComp kx vx [⟨tg, iter, [], 0⟩] scope pos) scope X.env (firstIterPos [⟨tg, iter, [], 0⟩] pos) newDict false (eval iter X.env) (some (assign (.Name y py) X.env))) _ _ s
  have h : tDt wi g tk tv (own.map (·.2)) σ H (fun x H1 => gName i x σ H1 D.nx) := h
  refine wpAny_bind (thn (dt_core (Qf := fun _ s' => SP X pins D .next s') hu cm nd I hi bk hg hk hv hs h fun L C s' m H' I' q hn f => ?_) fun _ s' hq => wpAny_pure (wpAny_pure hq))
  show wpAny _ _ (assign (.Name y py) X.env (.ref L)) _ _ _
  refine wpAny_assign_Name (store_ok2 (v := V.ref L) I' nd hy (.inl hyl) rfl (fun s2 I2 w => ?_) (.inr hyl))
  obtain ⟨a, sb, ha⟩ := w
  obtain ⟨f0, f1, f2, f3, f4, f5⟩ := f
  have ne : C ≠ a := by
    rcases ha with z | z
    · exact z ▸ f1
    · exact fun e => f4 y a z e.symm
  refine ⟨m, hn.sameBut sb ne, fun h3 sb3 => ⟨_, H', I2.turned (t' := s2.toks) (fun b o hb e => (sb3.2 b hb).trans e) f0 f1 f3 f4 f5, q⟩⟩
def tab (qs : List (List Key × PD)) : List (List Key × PD) := qs.foldl (fun acc q => vput acc q.1 q.2) []
theorem tab_app (qs : List (List Key × PD)) (q : List Key × PD) : tab (qs ++ [q]) = vput (tab qs) q.1 q.2 := by
  unfold tab
  rw [List.foldl_append]
  rfl
section
variable {X : Cx} {ρ : Ro} {tg iter kx vx : Expr} {items : List PD} {p pos : Pos}
/-- each turn: the key, the value -/
def TD (X : Cx) (scope : Scope) (own : List (Str × Nat)) (tg kx vx : Expr) (ρ : Ro) (items : List PD) (f : PD → List Key × PD) : Prop := ∀ (i : Nat) d, items[i]? = some d → ∃ ρ', ∀ s H C cl fp, BindV (BX X scope s H C cl fp) (own.map (·.2)) tg d (wipeR ρ (own.map (·.2))) ρ' ∧ EvD (BX X scope s H C cl fp) kx ρ' (keyD (f d).1) ∧ EvD (BX X scope s H C cl fp) vx ρ' (f d).2
theorem sv_dcT (i : Nat) {x : Str} {px : Pos} {scope : Scope} {rest : List Stmt} {P : Po} (own : List (Str × Nat)) (hu : X.A.units < cLine) (hit : ItD X tg iter ρ items) (f : PD → List Key × PD) (hz : items.length ≤ 10000) (ht : TD X scope own tg kx vx ρ items f) (bk : BlkOk X.N X.env.scope scope own)
    (k : SEv X rest (ρ.set i (some (.o (.t (tab (items.map f)))))) P)
    (hy : X.N[i]? = some x := by rfl) (hyl : X.env.scope.names.lookup x = some .local := by rfl) (hsw : swapsWith (.DictComp kx vx [⟨tg, iter, [], 0⟩] scope pos) (some (.Name x px)) p.line X.env = pure true := by exact swD_true rfl rfl rfl (by decide +kernel)) (hs : ∀ x, foldedSetIterable iter X.env x = pure x := by intro _; rfl) :
    SEv X (.Assign [.Name x px] (.DictComp kx vx [⟨tg, iter, [], 0⟩] scope pos) p :: rest) ρ P := fun ok =>
  sv_one (ps_setDt (g := fun v σ H Q => ∀ s H0 C cl fp, WG (BX X scope s H0 C cl fp) tg v σ H Q) (tk := fun σ H Q => ∀ s H0 C cl fp, WE (BX X scope s H0 C cl fp) kx σ H Q) (tv := fun σ H Q => ∀ s H0 C cl fp, WE (BX X scope s H0 C cl fp) vx σ H Q) hu ok.calm ok.nd hy hyl hsw pi_w bk
      (fun s H0 C cl fp => ⟨fun pins s2 σ H v u Q I r h => h s H0 C cl fp pins s2 u I r⟩) (fun s H0 C cl fp => ⟨fun pins s2 σ H Q I h => h s H0 C cl fp pins s2 I⟩) (fun s H0 C cl fp => ⟨fun pins s2 σ H Q I h => h s H0 C cl fp pins s2 I⟩) hs)
    (fun ok b I H σ D S E => hit ok b I H σ S _ fun J I1 H1 T Y g1 w hT hY L hL => by
      have len : ∀ (qs : List (List Key × PD)) (acc : List (List Key × PD)), (qs.foldl (fun acc q => vput acc q.1 q.2) acc).length ≤ acc.length + qs.length := by
        intro qs
        induction qs with
        | nil => exact fun acc => Nat.le_refl _
        | cons q qs ih =>
          intro acc
          have h1 := ih (vput acc q.1 q.2)
          have h2 := vput_len acc q.1 q.2
          rw [List.foldl_cons, List.length_cons]
          omega
      refine ⟨fun n m H' => m = items.length - n ∧ n ≤ items.length ∧ ∃ I' vs, Gr I1 H1 I' H' ∧ I' L = none ∧ H' L = some (.dT vs) ∧ KvR X.K I' (tab ((items.take n).map f)) vs,
        ⟨items.length, by simp, Nat.zero_le _, I1, [], Gr.newM g1.s hL, g1.s.free hL, upd_same, .nil⟩, ?_⟩
      rintro n m H' ⟨rfl, hn, I', vs, g', h1, h2, h3⟩
      by_cases hlt : n < items.length
      · refine .inr ⟨w.goes n H' hlt (hT I' H' g'.i g'.s), fun H2 => ∃ I2 vs, Gr I1 H1 I2 H2 ∧ I2 L = none ∧ H2 L = some (.dT vs) ∧ KvR X.K I2 (tab ((items.take (n + 1)).map f)) vs, fun H2 q => ⟨_, by omega, rfl, hlt, q⟩, fun x H2 y => ?_⟩
        have hi' : items[n]? = some items[n] := List.getElem?_eq_getElem hlt
        have et : items.take (n + 1) = items.take n ++ [items[n]] := by
          rw [List.take_add_one, hi']
          rfl
        obtain ⟨I2, g2, dv⟩ := hY n _ H' x H2 I' hi' g'.i g'.s (w.yields n H' x H2 hlt (hT I' H' g'.i g'.s) y)
        have S2 := (((S.grow g1).grow g').grow g2).wipe (own.map (·.2))
        obtain ⟨ρ', hr⟩ := ht n _ hi'
        intro s H0 C cl fp
        refine (hr s H0 C cl fp).1 (ok_blk ok) b I2 H2 (L2.wipe σ (own.map (·.2))) x S2 dv _ fun σ2 S3 e2 => ?_
        refine ⟨e2.trans (wipe_wipe σ _), fun s H0 C cl fp => ?_⟩
        refine (hr s H0 C cl fp).2.1 (ok_blk ok) b I2 H2 σ2 S3 _ fun y1 I3 H3 g3 dk => ?_
        intro s H0 C cl fp
        refine (hr s H0 C cl fp).2.2 (ok_blk ok) b I3 H3 σ2 (S3.grow g3) _ fun y2 I4 H4 g4 dz => ?_
        have G := (g2.trans g3).trans g4
        obtain ⟨r, rfl, hr⟩ := keyD_v (Dp.up g4.i _ _ dk)
        have i4 : I4 L = none := by
          cases e : I4 L with
          | none => rfl
          | some o =>
            rcases G.n L h1 (by rw [e]; exact fun z => nomatch z) with z | ⟨_, z⟩
            · rw [z] at h2
              cases h2
            · rw [z] at h2
              cases h2
        have l1 : (tab ((items.take n).map f)).length ≤ _ := len ((items.take n).map f) []
        rw [List.length_map, List.length_take, List.length_nil] at l1
        refine ⟨vs, (f items[n]).1, r, rfl, g4.s _ _ hr, G.h _ _ h2, Nat.lt_of_lt_of_le (show vs.length < 100000 by rw [h3.len]; omega) (by decide), I4, _, (g'.trans G).mut i4 hL, i4, upd_same, ?_⟩
        rw [et, List.map_append, List.map_cons, List.map_nil, tab_app]
        exact KvR.put (KvR.up G.i h3) _ dz
      · have e : n = items.length := by omega
        subst e
        refine .inl ⟨w.stops H' (hT I' H' g'.i g'.s), ?_⟩
        rw [List.take_length] at h3
        exact k ok b I' H' _ D (S.setO (g1.trans g') (o := .t (tab (items.map f))) (u := .dT vs) (g1.h.free hL) h1 h2 h3 i) E) ok
end
end G
set_option Elab.async false
set_option linter.all false
set_option maxRecDepth 100000
set_option maxHeartbeats 0
namespace Hd
open PySem PySem.Spec PyProof.Rows L2
def topS (i : Nat) : Stmt := PySem.Challenge.pw_bitspans_k20_whole_parts_and_shares.main.body.getD i (.Pass ⟨0, 0, 0, 0⟩)
abbrev s_is_integer : Stmt := topS 8
abbrev s_is_number : Stmt := topS 9
abbrev s_is_count : Stmt := topS 10
abbrev s_is_depth : Stmt := topS 11
abbrev s_is_tuple_of : Stmt := topS 12
abbrev s_is_letters : Stmt := topS 13
abbrev s_is_span : Stmt := topS 14
abbrev s_bounds_of : Stmt := topS 16
abbrev s_parts_of : Stmt := topS 17
abbrev s_lowest : Stmt := topS 19
abbrev s_plus : Stmt := topS 20
abbrev s_times : Stmt := topS 21
abbrev s_open_depth : Stmt := topS 23
abbrev s_sides_of : Stmt := topS 24
abbrev s_doubled_by : Stmt := topS 25
abbrev s_plain_times : Stmt := topS 26
abbrev s_late_times : Stmt := topS 27
abbrev s_pending_times : Stmt := topS 28
abbrev s_cut_apart : Stmt := topS 29
abbrev s_settle : Stmt := topS 30
abbrev s_check_span : Stmt := topS 31
abbrev s_settled : Stmt := topS 32
abbrev s_lost_of : Stmt := topS 33
abbrev s_place_of : Stmt := topS 35
abbrev s_path_of : Stmt := topS 36
abbrev s_begun : Stmt := topS 37
abbrev s_span_behind : Stmt := topS 38
abbrev s_written_spans : Stmt := topS 39
abbrev s_span_of : Stmt := topS 40
abbrev s_first_state : Stmt := topS 42
abbrev s_steps_from : Stmt := topS 43
abbrev s_graph_of : Stmt := topS 44
abbrev s_check_length : Stmt := topS 47
abbrev s_shares_sum : Stmt := topS 48
abbrev s_law_feed : Stmt := topS 50
abbrev s_law_draw : Stmt := topS 51
abbrev s_law_any : Stmt := topS 52
abbrev s_law_shape : Stmt := topS 53
abbrev s_law_drawn : Stmt := topS 54
abbrev s_law_coder : Stmt := topS 55
abbrev s_law_two : Stmt := topS 56
abbrev s_law_parts : Stmt := topS 57
abbrev s_law_known : Stmt := topS 58
abbrev s_law_middle : Stmt := topS 59
abbrev s_law_doubled : Stmt := topS 60
abbrev s_law_plain : Stmt := topS 61
abbrev s_law_settled : Stmt := topS 62
abbrev s_law_place : Stmt := topS 63
abbrev s_law_next : Stmt := topS 66
abbrev s_law_all : Stmt := topS 68
abbrev s_law_low : Stmt := topS 69
abbrev s_law_side_by_side : Stmt := topS 70
abbrev s_law_deep : Stmt := topS 71
abbrev s_law_sum : Stmt := topS 72
abbrev s_law_filled : Stmt := topS 73
abbrev s_law_next_filled : Stmt := topS 74
abbrev s_law : Stmt := topS 75
def d_is_integer : He.DefD := ⟨("is_integer", none), "is_integer", "is_integer", defArgs s_is_integer, defBody s_is_integer, defScope s_is_integer, [], []⟩
def d_is_number : He.DefD := ⟨("is_number", none), "is_number", "is_number", defArgs s_is_number, defBody s_is_number, defScope s_is_number, [], []⟩
def d_is_count : He.DefD := ⟨("is_count", none), "is_count", "is_count", defArgs s_is_count, defBody s_is_count, defScope s_is_count, [], []⟩
def d_is_depth : He.DefD := ⟨("is_depth", none), "is_depth", "is_depth", defArgs s_is_depth, defBody s_is_depth, defScope s_is_depth, [], []⟩
def d_is_tuple_of : He.DefD := ⟨("is_tuple_of", none), "is_tuple_of", "is_tuple_of", defArgs s_is_tuple_of, defBody s_is_tuple_of, defScope s_is_tuple_of, [], []⟩
def d_is_letters : He.DefD := ⟨("is_letters", none), "is_letters", "is_letters", defArgs s_is_letters, defBody s_is_letters, defScope s_is_letters, [], []⟩
def d_is_span : He.DefD := ⟨("is_span", none), "is_span", "is_span", defArgs s_is_span, defBody s_is_span, defScope s_is_span, [], []⟩
def d_bounds_of : He.DefD := ⟨("bounds_of", none), "bounds_of", "bounds_of", defArgs s_bounds_of, defBody s_bounds_of, defScope s_bounds_of, [], []⟩
def d_parts_of : He.DefD := ⟨("parts_of", none), "parts_of", "parts_of", defArgs s_parts_of, defBody s_parts_of, defScope s_parts_of, [], []⟩
def d_lowest : He.DefD := ⟨("lowest", none), "lowest", "lowest", defArgs s_lowest, defBody s_lowest, defScope s_lowest, [], []⟩
def d_plus : He.DefD := ⟨("plus", none), "plus", "plus", defArgs s_plus, defBody s_plus, defScope s_plus, [], []⟩
def d_times : He.DefD := ⟨("times", none), "times", "times", defArgs s_times, defBody s_times, defScope s_times, [], []⟩
def d_open_depth : He.DefD := ⟨("open_depth", none), "open_depth", "open_depth", defArgs s_open_depth, defBody s_open_depth, defScope s_open_depth, [], []⟩
def d_sides_of : He.DefD := ⟨("sides_of", none), "sides_of", "sides_of", defArgs s_sides_of, defBody s_sides_of, defScope s_sides_of, [], []⟩
def d_doubled_by : He.DefD := ⟨("doubled_by", none), "doubled_by", "doubled_by", defArgs s_doubled_by, defBody s_doubled_by, defScope s_doubled_by, [], []⟩
def d_plain_times : He.DefD := ⟨("plain_times", none), "plain_times", "plain_times", defArgs s_plain_times, defBody s_plain_times, defScope s_plain_times, [], []⟩
def d_late_times : He.DefD := ⟨("late_times", none), "late_times", "late_times", defArgs s_late_times, defBody s_late_times, defScope s_late_times, [], []⟩
def d_pending_times : He.DefD := ⟨("pending_times", none), "pending_times", "pending_times", defArgs s_pending_times, defBody s_pending_times, defScope s_pending_times, [], []⟩
def d_cut_apart : He.DefD := ⟨("cut_apart", none), "cut_apart", "cut_apart", defArgs s_cut_apart, defBody s_cut_apart, defScope s_cut_apart, [], []⟩
def d_settle : He.DefD := ⟨("settle", none), "settle", "settle", defArgs s_settle, defBody s_settle, defScope s_settle, [], []⟩
def d_check_span : He.DefD := ⟨("check_span", none), "check_span", "check_span", defArgs s_check_span, defBody s_check_span, defScope s_check_span, [], []⟩
def d_settled : He.DefD := ⟨("settled", none), "settled", "settled", defArgs s_settled, defBody s_settled, defScope s_settled, [], []⟩
def d_lost_of : He.DefD := ⟨("lost_of", none), "lost_of", "lost_of", defArgs s_lost_of, defBody s_lost_of, defScope s_lost_of, [], []⟩
def d_place_of : He.DefD := ⟨("place_of", none), "place_of", "place_of", defArgs s_place_of, defBody s_place_of, defScope s_place_of, [], []⟩
def d_path_of : He.DefD := ⟨("path_of", none), "path_of", "path_of", defArgs s_path_of, defBody s_path_of, defScope s_path_of, [], []⟩
def d_begun : He.DefD := ⟨("begun", none), "begun", "begun", defArgs s_begun, defBody s_begun, defScope s_begun, [], []⟩
def d_span_behind : He.DefD := ⟨("span_behind", none), "span_behind", "span_behind", defArgs s_span_behind, defBody s_span_behind, defScope s_span_behind, [], []⟩
def d_written_spans : He.DefD := ⟨("written_spans", none), "written_spans", "written_spans", defArgs s_written_spans, defBody s_written_spans, defScope s_written_spans, [], []⟩
def d_span_of : He.DefD := ⟨("span_of", none), "span_of", "span_of", defArgs s_span_of, defBody s_span_of, defScope s_span_of, [], []⟩
def d_first_state : He.DefD := ⟨("first_state", none), "first_state", "first_state", defArgs s_first_state, defBody s_first_state, defScope s_first_state, [], []⟩
def d_steps_from : He.DefD := ⟨("steps_from", none), "steps_from", "steps_from", defArgs s_steps_from, defBody s_steps_from, defScope s_steps_from, [], []⟩
def d_graph_of : He.DefD := ⟨("graph_of", none), "graph_of", "graph_of", defArgs s_graph_of, defBody s_graph_of, defScope s_graph_of, [], []⟩
def d_check_length : He.DefD := ⟨("check_length", none), "check_length", "check_length", defArgs s_check_length, defBody s_check_length, defScope s_check_length, [], []⟩
def d_shares_sum : He.DefD := ⟨("shares_sum", none), "shares_sum", "shares_sum", defArgs s_shares_sum, defBody s_shares_sum, defScope s_shares_sum, [], []⟩
def d_law_feed : He.DefD := ⟨("_law_feed", none), "_law_feed", "_law_feed", defArgs s_law_feed, defBody s_law_feed, defScope s_law_feed, [], []⟩
def d_law_draw : He.DefD := ⟨("_law_draw", none), "_law_draw", "_law_draw", defArgs s_law_draw, defBody s_law_draw, defScope s_law_draw, [], []⟩
def d_law_any : He.DefD := ⟨("_law_any", none), "_law_any", "_law_any", defArgs s_law_any, defBody s_law_any, defScope s_law_any, [], []⟩
def d_law_shape : He.DefD := ⟨("_law_shape", none), "_law_shape", "_law_shape", defArgs s_law_shape, defBody s_law_shape, defScope s_law_shape, [], []⟩
def d_law_drawn : He.DefD := ⟨("_law_drawn", none), "_law_drawn", "_law_drawn", defArgs s_law_drawn, defBody s_law_drawn, defScope s_law_drawn, [], []⟩
def d_law_coder : He.DefD := ⟨("_law_coder", none), "_law_coder", "_law_coder", defArgs s_law_coder, defBody s_law_coder, defScope s_law_coder, [], []⟩
def d_law_two : He.DefD := ⟨("_law_two", none), "_law_two", "_law_two", defArgs s_law_two, defBody s_law_two, defScope s_law_two, [], []⟩
def d_law_parts : He.DefD := ⟨("_law_parts", none), "_law_parts", "_law_parts", defArgs s_law_parts, defBody s_law_parts, defScope s_law_parts, [], []⟩
def d_law_known : He.DefD := ⟨("_law_known", none), "_law_known", "_law_known", defArgs s_law_known, defBody s_law_known, defScope s_law_known, [], []⟩
def d_law_middle : He.DefD := ⟨("_law_middle", none), "_law_middle", "_law_middle", defArgs s_law_middle, defBody s_law_middle, defScope s_law_middle, [], []⟩
def d_law_doubled : He.DefD := ⟨("_law_doubled", none), "_law_doubled", "_law_doubled", defArgs s_law_doubled, defBody s_law_doubled, defScope s_law_doubled, [], []⟩
def d_law_plain : He.DefD := ⟨("_law_plain", none), "_law_plain", "_law_plain", defArgs s_law_plain, defBody s_law_plain, defScope s_law_plain, [], []⟩
def d_law_settled : He.DefD := ⟨("_law_settled", none), "_law_settled", "_law_settled", defArgs s_law_settled, defBody s_law_settled, defScope s_law_settled, [], []⟩
def d_law_place : He.DefD := ⟨("_law_place", none), "_law_place", "_law_place", defArgs s_law_place, defBody s_law_place, defScope s_law_place, [], []⟩
def d_law_next : He.DefD := ⟨("_law_next", none), "_law_next", "_law_next", defArgs s_law_next, defBody s_law_next, defScope s_law_next, [], []⟩
def d_law_all : He.DefD := ⟨("_law_all", none), "_law_all", "_law_all", defArgs s_law_all, defBody s_law_all, defScope s_law_all, [], []⟩
def d_law_low : He.DefD := ⟨("_law_low", none), "_law_low", "_law_low", defArgs s_law_low, defBody s_law_low, defScope s_law_low, [], []⟩
def d_law_side_by_side : He.DefD := ⟨("_law_side_by_side", none), "_law_side_by_side", "_law_side_by_side", defArgs s_law_side_by_side, defBody s_law_side_by_side, defScope s_law_side_by_side, [], []⟩
def d_law_deep : He.DefD := ⟨("_law_deep", none), "_law_deep", "_law_deep", defArgs s_law_deep, defBody s_law_deep, defScope s_law_deep, [], []⟩
def d_law_sum : He.DefD := ⟨("_law_sum", none), "_law_sum", "_law_sum", defArgs s_law_sum, defBody s_law_sum, defScope s_law_sum, [], []⟩
def d_law_filled : He.DefD := ⟨("_law_filled", none), "_law_filled", "_law_filled", defArgs s_law_filled, defBody s_law_filled, defScope s_law_filled, [], []⟩
def d_law_next_filled : He.DefD := ⟨("_law_next_filled", none), "_law_next_filled", "_law_next_filled", defArgs s_law_next_filled, defBody s_law_next_filled, defScope s_law_next_filled, [], []⟩
def d_law : He.DefD := ⟨("law", none), "law", "law", defArgs s_law, defBody s_law, defScope s_law, [], []⟩
def fn0 : List He.DefD := [d_is_integer, d_is_number, d_is_count, d_is_depth, d_is_tuple_of, d_is_letters, d_is_span, d_bounds_of, d_parts_of, d_lowest, d_plus, d_times, d_open_depth, d_sides_of, d_doubled_by, d_plain_times, d_late_times, d_pending_times, d_cut_apart, d_settle, d_check_span, d_settled, d_lost_of, d_place_of, d_path_of, d_begun, d_span_behind, d_written_spans, d_span_of, d_first_state]
def fn1 : List He.DefD := [d_steps_from, d_graph_of, d_check_length, d_shares_sum, d_law_feed, d_law_draw, d_law_any, d_law_shape, d_law_drawn, d_law_coder, d_law_two, d_law_parts, d_law_known, d_law_middle, d_law_doubled, d_law_plain, d_law_settled, d_law_place, d_law_next, d_law_all, d_law_low, d_law_side_by_side, d_law_deep, d_law_sum, d_law_filled, d_law_next_filled, d_law]
def fn : List He.DefD := fn0 ++ fn1
def fa0 : List He.Fa := [.glo "is_integer", .glo "is_number", .glo "is_count", .glo "is_depth", .glo "is_tuple_of", .glo "is_letters", .glo "is_span", .glo "bounds_of", .glo "parts_of", .glo "lowest", .glo "plus", .glo "times", .glo "open_depth", .glo "sides_of", .glo "doubled_by", .glo "plain_times", .glo "late_times", .glo "pending_times", .glo "cut_apart", .glo "settle", .glo "check_span", .glo "settled", .glo "lost_of", .glo "place_of", .glo "path_of", .glo "begun", .glo "span_behind", .glo "written_spans", .glo "span_of", .glo "first_state"]
def fa1 : List He.Fa := [.glo "steps_from", .glo "graph_of", .glo "check_length", .glo "shares_sum", .glo "_law_feed", .glo "_law_draw", .glo "_law_any", .glo "_law_shape", .glo "_law_drawn", .glo "_law_coder", .glo "_law_two", .glo "_law_parts", .glo "_law_known", .glo "_law_middle", .glo "_law_doubled", .glo "_law_plain", .glo "_law_settled", .glo "_law_place", .glo "_law_next", .glo "_law_all", .glo "_law_low", .glo "_law_side_by_side", .glo "_law_deep", .glo "_law_sum", .glo "_law_filled", .glo "_law_next_filled", .glo "law", .free "isinstance", .free "all", .free "len"]
def fa2 : List He.Fa := [.free "sum", .free "max", .free "tuple", .free "enumerate", .free "zip", .free "range", .free "sorted", .free "list", .free "int", .free "str", .free "bool", .free "repr", .str "LETTERS" "abcdefghijklmnopqrstuvwxyz", .int "GREATEST_DEPTH" 400, .int "MOST_LETTERS" 30]
def fa : List He.Fa := fa0 ++ fa1 ++ fa2
def lo0 : List Str := ["SpanError", "CoderError", "NotUsable", "Barred", "LETTERS", "GREATEST_DEPTH", "is_integer", "is_number", "is_count", "is_depth", "is_tuple_of", "is_letters", "is_span", "bounds_of", "parts_of", "lowest", "plus", "times", "open_depth", "sides_of", "doubled_by", "plain_times", "late_times", "pending_times", "cut_apart", "settle", "check_span", "settled", "lost_of", "place_of"]
def lo1 : List Str := ["path_of", "begun", "span_behind", "written_spans", "span_of", "first_state", "steps_from", "graph_of", "MOST_LETTERS", "check_length", "shares_sum", "_law_feed", "_law_draw", "_law_any", "_law_shape", "_law_drawn", "_law_coder", "_law_two", "_law_parts", "_law_known", "_law_middle", "_law_doubled", "_law_plain", "_law_settled", "_law_place", "_law_fault", "_law_context", "_law_next", "_law_spans", "_law_all"]
def lo2 : List Str := ["_law_low", "_law_side_by_side", "_law_deep", "_law_sum", "_law_filled", "_law_next_filled"]
def loose : List Str := lo0 ++ lo1 ++ lo2
abbrev R : PySem.W.OpenRow := PySem.W.OpenLaw.row PySem.Challenge.rw_bitspans_k20_whole_parts_and_shares
abbrev hk : PySem.W.Hook := He.hookD 4 fa fn
def ob (s : PySem.W.SharedT) : He.AlD := He.obsDG 4 fa fn (HandSHeadRun.getT s)
theorem ob_eq (s : PySem.W.SharedT) : ob s = hk.obs s.abs := He.obsDG_eq (HandSHeadRun.getT_eq s)
theorem run (w : World) : HandSHeadRun.RunEq R (PySem.W.view R.prog [75]) hk ob 6000 loose w := by
  intro os
  kernel_rfl
end Hd
set_option Elab.async false
set_option linter.all false
set_option maxRecDepth 100000
set_option maxHeartbeats 4000000
/-! What the built-in names and constants of the text stand for; the defs. -/
namespace G
open PySem PySem.Spec PyProof.Rows L2 Hd
structure Blt (mg : Str → Option Value) : Prop where
  isinstance : mg "isinstance" = none
  all : mg "all" = none
  len : mg "len" = none
  sum : mg "sum" = none
  max : mg "max" = none
  tuple : mg "tuple" = none
  enumerate : mg "enumerate" = none
  zip : mg "zip" = none
  range : mg "range" = none
  sorted : mg "sorted" = none
  list : mg "list" = none
  int : mg "int" = none
  str : mg "str" = none
  bool : mg "bool" = none
  repr : mg "repr" = none
  letters : ∃ t, mg "LETTERS" = some (.str "abcdefghijklmnopqrstuvwxyz" t)
  deepest : ∃ t, mg "GREATEST_DEPTH" = some (.int 400 t)
  most : ∃ t, mg "MOST_LETTERS" = some (.int 30 t)
/-- the def st stands at the module's name x -/
structure At (K : PySem.W.Frag) (mg : Str → Option Value) (x : Str) (st : Stmt) : Prop where
  ex : ∃ f fd, FunD K x x (defArgs st) (defBody st) (defScope st) [] [] f fd ∧ mg x = some (.ref f)
theorem fn_at {P : Program} {w : World} {K : PySem.W.Frag} {mg : Str → Option Value} {base : Heap} {x : Str} {st : Stmt} {N ps : List Str} {k : Nat} {S : List PD → PD → Prop}
    (F : At K mg x st) (sc : FnScope N ps (defScope st))
    (hb : ∀ (kV doc pm : Value) (an : Option Addr) (cdv ct : Value) (us : List Value), us.length = ps.length → bindArgs (PySem.W.fnOf x x (defArgs st) (defBody st) (defScope st) .none kV doc pm an cdv ct) ⟨us, []⟩ = pure (ps.zip us))
    (hl : ∀ ds d, S ds d → ds.length = ps.length)
    (body : ∀ (f : Addr) (cdv : Value) (A : Around) (outer : List Env) (s : Shared) (H : Hp) (E : XK), Room k (A.deeper (envOfC x (defScope st) s.heap.objs.size f cdv)) → ∀ ds d, S ds d →
      SEv (cxOf CX0 P w K mg base N x (defScope st) f cdv A outer s H E).nox (defBody st) (ini N ds) { nx := fun _ => d = .none, rt := fun d' _ => d' = d }) : Fn P w K mg base (k + 1) x S := by
  obtain ⟨f, fd, h1, h2⟩ := F.ex
  exact fn_mk h1 h2 sc hb hl (body f)
end G
set_option Elab.async false
set_option linter.all false
set_option maxRecDepth 100000
set_option maxHeartbeats 4000000
/-! An own list as a test; defs whose answer is told by what holds of it. -/
namespace G
open PySem PySem.Spec PyProof.Rows L2 Hd
section
variable {X : Cx} {ρ : Ro}
theorem et_ownL (i : Nat) {x : Str} {p : Pos} {xs : List PD} (hρ : ρ[i]? = some (some (.o (.l xs))) := by rfl) (hN : X.N[i]? = some x := by rfl)
    (hv : Vis X.env.scope x := by first | exact Or.inl rfl | exact Or.inr (Or.inl rfl) | exact Or.inr (Or.inr rfl)) (hd : (x == ("__debug__" : Str)) = false := by decide) (hcd : (x == ("__classdict__" : Str)) = false := by decide)
    (he : ∀ whole, isTrue (.Name x p) X.env whole = (do let v ← whole; standAt (Expr.Name x p).pos; holding [v] (truthy v)) := by intro _; rfl) : EvT X (.Name x p) ρ (!xs.isEmpty) := fun ok b I H σ S Q q => by
  obtain ⟨t, u, h1, h2, h3, h4, h5⟩ := S.own i _ hρ
  cases u with
  | lst vs =>
    have e : vs.isEmpty = xs.isEmpty := by
      have := DpAll.len h5
      cases vs <;> cases xs <;> first | rfl | cases this
    exact WT.of (pt_truth (pe_var hN hv hd hcd) he) ⟨.ref t, h1, _, .inl ⟨vs, .inl (.inl h4), rfl⟩, by rw [e]; exact q I H (Gr.refl S.same)⟩
  | _ => exact h5.elim
theorem ev_lenO (i : Nat) {x : Str} {p p' pos : Pos} {xs : List PD} (hm : X.mg "len" = none) (hρ : ρ[i]? = some (some (.o (.l xs))) := by rfl) (hN : X.N[i]? = some x := by rfl)
    (hv : Vis X.env.scope x := by first | exact Or.inl rfl | exact Or.inr (Or.inl rfl) | exact Or.inr (Or.inr rfl)) (hd : (x == ("__debug__" : Str)) = false := by decide) (hcd : (x == ("__classdict__" : Str)) = false := by decide)
    (hg : Gl X "len" := by rfl) (hs : starEach [.Name x p] X.env = (false, eval (.Name x p) X.env) :: starEach [] X.env := by rfl) (hpl : (backTo pos (starEach [] X.env)).any (·.1) = false := by rfl) : EvD X (.Call (.Name "len" p') [.Name x p] [] pos) ρ (.int (xs.length : Nat)) := fun ok b I H σ S Q q => by
  obtain ⟨t, u, h1, h2, h3, h4, h5⟩ := S.own i _ hρ
  cases u with
  | lst vs =>
    refine WE.of (pe_callB call_len_seq hg hm PySem.boot_len (pa_cons (pe_var hN hv hd hcd) pa_nil hs) (by decide) (by decide) hs hpl) ⟨.ref t, h1, t, vs, rfl, .inl (.inl (.inl h4)), ?_⟩
    rw [DpAll.len h5]
    exact q _ I H (Gr.refl S.same) (.int _)
  | _ => exact h5.elim
end
/-- on the arguments ds with Pre the def gives some d with Post -/
def SpN (K : PySem.W.Frag) (Pre : List PD → Prop) (Post : List PD → PD → Prop) : Sp := fun vs H Q _ => ∃ I ds, Pre ds ∧ Same I H ∧ DpAll K I vs ds ∧ ∀ v d I' H', Post ds d → Gr I H I' H' → Dp K I' v d → Q v H'
structure FnN (P : Program) (w : World) (K : PySem.W.Frag) (mg : Str → Option Value) (base : Heap) (k : Nat) (x : Str) (Pre : List PD → Prop) (Post : List PD → PD → Prop) : Prop where
  ex : ∃ f fd ps, FnOk P w K mg base CX0 k f fd ps (SpN K Pre Post) ∧ mg x = some (.ref f) ∧ PySem.W.keepIn K (.ref f) = true ∧ Binds K fd ps []
theorem en_call {X : Cx} {ρ : Ro} {k : Nat} {x : Str} {Pre : List PD → Prop} {Post : List PD → PD → Prop} {e : Expr} {es : List Expr} {ds : List PD} {p pos : Pos} (F : FnN X.prog X.w X.K X.mg X.base k x Pre Post) (hr : Room k X.A) (ha : EvA X (e :: es) ρ ds) (hS : Pre ds)
    (hg : Gl X x := by rfl) (hdb : (x == ("__debug__" : Str)) = false := by decide) (he : starEach (e :: es) X.env = (false, eval e X.env) :: starEach es X.env := by rfl) (hpl : (backTo pos (starEach es X.env)).any (·.1) = false := by rfl) :
    EvN X (.Call (.Name x p) (e :: es) [] pos) ρ (Post ds) := fun ok b I H σ Sr Q q => by
  obtain ⟨f, fd, ps, G, hm, hk, hb⟩ := F.ex
  refine WE.of (pe_call G hr hg hm hk hb .nil pass0 pa_w hdb he hpl) (ha ok b I H σ Sr _ fun vs I1 H1 g1 dvs => ?_)
  rw [List.append_nil]
  exact ⟨I1, ds, hS, g1.s, dvs, fun v d I2 H2 r g2 dv => q v d I2 H2 r (g1.trans g2) dv⟩
theorem fn_atN {P : Program} {w : World} {K : PySem.W.Frag} {mg : Str → Option Value} {base : Heap} {x : Str} {st : Stmt} {N ps : List Str} {k : Nat} {Pre : List PD → Prop} {Post : List PD → PD → Prop}
    (F : At K mg x st) (sc : FnScope N ps (defScope st))
    (hb : ∀ (kV doc pm : Value) (an : Option Addr) (cdv ct : Value) (us : List Value), us.length = ps.length → bindArgs (PySem.W.fnOf x x (defArgs st) (defBody st) (defScope st) .none kV doc pm an cdv ct) ⟨us, []⟩ = pure (ps.zip us))
    (hl : ∀ ds, Pre ds → ds.length = ps.length)
    (body : ∀ (f : Addr) (cdv : Value) (A : Around) (outer : List Env) (s : Shared) (H : Hp) (E : XK), Room k (A.deeper (envOfC x (defScope st) s.heap.objs.size f cdv)) → ∀ ds, Pre ds →
      SEv (cxOf CX0 P w K mg base N x (defScope st) f cdv A outer s H E).nox (defBody st) (ini N ds) { nx := fun _ => Post ds .none, rt := fun d' _ => Post ds d' }) : FnN P w K mg base (k + 1) x Pre Post := by
  obtain ⟨f, fd, h1, h2⟩ := F.ex
  refine ⟨f, fd, ps, h1.ok sc (fun vs H Q E h => ?_) (fun cdv A outer s H vs Q E hr h => ?_), h2, h1.kp, h1.bindsN hb⟩
  · obtain ⟨I, ds, h1, _, h3, _⟩ := h
    rw [DpAll.len h3]
    exact hl ds h1
  · obtain ⟨I, ds, h1, h2, h3, q⟩ := h
    refine ⟨_, pss_w.nox, ?_⟩
    exact body f cdv A outer s H E hr ds h1 ⟨sc.nd, rfl, PassesOwn.never⟩ ⟨I, H⟩ I H (L2.start N vs) _ (sr_start h2 h3) ⟨fun ρ I' H' σ' e S' => q .non .none I' H' e S'.g .non, fun d' ρ v I' H' σ' e S' dv => q v d' I' H' e S'.g dv,
      fun _ _ _ _ h => h.elim, fun _ _ _ _ h => h.elim, fun _ _ _ _ _ h => h.elim⟩
end G
set_option Elab.async false
set_option linter.all false
set_option maxRecDepth 100000
set_option maxHeartbeats 4000000
/-! sorted(a list of pairs of ints): in order. -/
namespace G
open PySem PySem.Spec PyProof.Rows L2
def pairD (q : Int × Int) : PD := .tuple [.int q.1, .int q.2]
def lexle (a b : Int × Int) : Prop := a.1 < b.1 ∨ (a.1 = b.1 ∧ a.2 ≤ b.2)
def pairAt (H : Hp) : V → Int × Int
  | .ref t => match H t with
    | some (.tup [.int i, .int j]) => (i, j)
    | _ => (0, 0)
  | _ => (0, 0)
section
variable {X : Cx} {ρ : Ro} {e : Expr} {pos p' : Pos}
theorem en_sortO {R : PD → Prop} {ps : List (Int × Int)} (hm : X.mg "sorted" = none) (ha : EvD X e ρ (.list (ps.map pairD))) (hR : ∀ qs : List (Int × Int), qs.Perm ps → qs.Pairwise lexle → R (.list (qs.map pairD)))
    (hg : Gl X "sorted" := by rfl) (hs : starEach [e] X.env = (false, eval e X.env) :: starEach [] X.env := by rfl) (hpl : (backTo pos (starEach [] X.env)).any (·.1) = false := by rfl) : EvN X (.Call (.Name "sorted" p') [e] [] pos) ρ R := fun ok b I H σ S Q q => by
  refine WE.of (pe_callB cr_sortedPO hg hm (by decide +kernel) (pa_cons pe_w pa_nil hs) (by decide) (by decide) hs hpl) ?_
  refine ha ok b I H σ S _ fun v I1 H1 g1 dv => ?_
  obtain ⟨t, xs, rfl, h1, h2⟩ := dp_lst dv
  have one : ∀ (zs : List V) (qs : List (Int × Int)), DpAll X.K I1 zs (qs.map pairD) → zs.map (pairAt H1) = qs ∧ ∀ x ∈ zs, (∃ t, x = V.ref t ∧ H1 t = some (.tup [.int (pairAt H1 x).1, .int (pairAt H1 x).2])) ∧ Dp X.K I1 x (pairD (pairAt H1 x)) := by
    intro zs
    induction zs with
    | nil =>
      intro qs h
      cases qs with
      | nil => exact ⟨rfl, fun _ h => (nomatch h)⟩
      | cons => cases h
    | cons z zs ih =>
      intro qs h
      cases qs with
      | nil => cases h
      | cons w qs =>
        cases h with
        | cons k1 k2 =>
          obtain ⟨r1, r2⟩ := ih qs k2
          obtain ⟨t, ys, rfl, m1, m2⟩ := dp_tupS k1
          obtain ⟨v1, v2, rfl, d1, d2⟩ := dpa2 m2
          cases dp_int d1
          cases dp_int d2
          have hp : pairAt H1 (.ref t) = w := by
            show (match H1 t with
              | some (.tup [.int i, .int j]) => (i, j)
              | _ => (0, 0)) = w
            rw [show H1 t = some (.tup [.int w.1, .int w.2]) from g1.s _ _ m1]
          refine ⟨by rw [List.map_cons, hp, r1], fun x hx => ?_⟩
          rcases List.mem_cons.mp hx with q | q
          · subst q
            rw [hp]
            exact ⟨⟨t, rfl, g1.s _ _ m1⟩, k1⟩
          · exact r2 x q
  obtain ⟨r1, r2⟩ := one xs ps h2
  refine ⟨t, xs, pairAt H1, rfl, g1.s.seq h1, fun x hx => (r2 x hx).1, fun ys r hsd hst hr => ?_⟩
  have hp : ys.Perm xs := hst.perm
  have dys : ∀ zs : List V, (∀ z ∈ zs, z ∈ xs) → DpAll X.K I1 zs ((zs.map (pairAt H1)).map pairD) := by
    intro zs
    induction zs with
    | nil => exact fun _ => .nil
    | cons z zs ih => exact fun h => .cons (r2 z (h z List.mem_cons_self)).2 (ih fun x hx => h x (List.mem_cons_of_mem _ hx))
  refine q _ _ _ _ (hR (ys.map (pairAt H1)) (by rw [← r1]; exact hp.map _) ?_) (g1.trans (Gr.new g1.s hr)) (.lst (.inl (.inl upd_same)) (Dp.upAll (same_up (g1.s.free hr)) _ _ (dys ys fun z hz => hp.mem_iff.mp hz)))
  rw [List.pairwise_map]
  refine List.Pairwise.imp (fun {a b} h => ?_) hsd
  have := SrtO.lexB_no.mp h
  unfold lexle
  omega
theorem EvN.one {d : PD} (h : EvN X e ρ fun d' => d' = d) : EvD X e ρ d := fun ok b I H σ S Q q => h ok b I H σ S Q fun v d' I' H' r g dv => q v I' H' g (r ▸ dv)
end
end G
set_option Elab.async false
set_option linter.all false
set_option maxRecDepth 100000
set_option maxHeartbeats 4000000
/-! Expressions that change one own dict, whose address is known. -/
namespace G
open PySem PySem.Spec PyProof.Rows L2 Hd
abbrev KK := List (Key × PD)
def mask (H : Hp) (a : Addr) : Hp := fun q => if q = a then none else H q
theorem mask_self {H : Hp} {a : Addr} : mask H a a = none := if_pos rfl
theorem mask_ne {H : Hp} {a q : Addr} (h : q ≠ a) : mask H a q = H q := if_neg h
theorem mask_some {H : Hp} {a q : Addr} {o : HO} (h : mask H a q = some o) : q ≠ a ∧ H q = some o := by
  by_cases e : q = a
  · rw [e, mask_self] at h
    cases h
  · rw [mask_ne e] at h
    exact ⟨e, h⟩
theorem fo_mask {H : Hp} {a q : Addr} (h : Fo H q) : Fo (mask H a) q := by
  by_cases e : q = a
  · rw [e]
    exact .inl mask_self
  · unfold Fo
    rw [mask_ne e]
    exact h
theorem fo_unmask {H : Hp} {a q : Addr} (e : q ≠ a) (h : Fo (mask H a) q) : Fo H q := by
  unfold Fo at h
  rw [mask_ne e] at h
  exact h
/-- the dict at a is new, the others are kept -/
structure Fs (K : PySem.W.Frag) (a : Addr) (kk : KK) (I H I' H' : Hp) : Prop where
  g : Gr I (mask H a) I' H'
  n : I' a = none
  k : ∃ vs, H' a = some (.dK vs) ∧ KvR K I' kk vs
section
variable {K : PySem.W.Frag} {a : Addr} {kk kk' : KK} {I H I' H' I1 H1 I2 H2 : Hp} {b : Bs} {σ : St} {ρ : Ro}
theorem gr_mask (g : Gr I H I' H') : Gr I (mask H a) I' H' := ⟨g.i, fun q o h => g.h _ _ (mask_some h).2, g.s, fun q h1 h2 => fo_mask (g.n q h1 h2)⟩
theorem gr_none {u : HO} (g : Gr I H I' H') (h : I a = none) (hu : H a = some u) (ht : ∀ xs, u ≠ .tup xs) : I' a = none := by
  cases e : I' a with
  | none => rfl
  | some x =>
    rcases g.n a h (by rw [e]; exact fun z => nomatch z) with z | ⟨xs, z⟩
    · rw [hu] at z
      cases z
    · rw [hu] at z
      cases z
      exact absurd rfl (ht xs)
theorem gr_trans_mask (g1 : Gr I (mask H a) I1 H1) (g2 : Gr I1 (mask H1 a) I2 H2) (n2 : I2 a = none) : Gr I (mask H a) I2 H2 :=
  ⟨g1.i.trans g2.i, fun q o h => by
    obtain ⟨hn, h0⟩ := mask_some h
    refine g2.h _ _ ?_
    rw [mask_ne hn]
    exact g1.h _ _ h, g2.s, fun q h1 h2 => by
    cases e : I1 q with
    | some o => exact g1.n q h1 (by rw [e]; exact fun z => nomatch z)
    | none =>
      have hn : q ≠ a := fun z => by
        rw [z, n2] at h2
        exact h2 rfl
      have := fo_unmask hn (g2.n q e h2)
      exact this.back g1.h⟩
theorem Fs.refl {vs : List (Key × V)} (s : Same I H) (n : I a = none) (h : H a = some (.dK vs)) (r : KvR K I kk vs) : Fs K a kk I H I H := ⟨gr_mask (Gr.refl s), n, vs, h, r⟩
theorem Fs.trans (f : Fs K a kk I H I1 H1) (f2 : Fs K a kk' I1 H1 I2 H2) : Fs K a kk' I H I2 H2 := ⟨gr_trans_mask f.g f2.g f2.n, f2.n, f2.k⟩
/-- what grows after -/
theorem Fs.gr (f : Fs K a kk I H I1 H1) (g : Gr I1 H1 I2 H2) : Fs K a kk I H I2 H2 := by
  obtain ⟨vs, h1, h2⟩ := f.k
  have n2 := gr_none g f.n h1 (fun _ z => nomatch z)
  exact ⟨gr_trans_mask f.g (gr_mask g) n2, n2, vs, g.h _ _ h1, h2.up g.i⟩
/-- what grew before -/
theorem Fs.pre (g : Gr I H I1 H1) (f : Fs K a kk I1 H1 I2 H2) : Fs K a kk I H I2 H2 := ⟨gr_trans_mask (gr_mask g) f.g f.n, f.n, f.k⟩
theorem feed_at (S : SR K b I H σ ρ) {i : Nat} (h : ρ[i]? = some (some (.o (.f a kk)))) : ∃ vs, σ[i]? = some (some (.ref a)) ∧ I a = none ∧ b.H a = none ∧ H a = some (.dK vs) ∧ KvR K I kk vs := by
  obtain ⟨t, u, h1, h2, h3, h4, h5⟩ := S.own i _ h
  cases u with
  | dK vs =>
    obtain ⟨rfl, h5⟩ := h5
    exact ⟨vs, h1, h2, h3, h4, h5⟩
  | _ => exact h5.elim
/-- the row after -/
theorem SR.feed (S : SR K b I H σ ρ) {i : Nat} (h : ρ[i]? = some (some (.o (.f a kk)))) (f : Fs K a kk' I H I' H') : SR K b I' H' σ (ρ.set i (some (.o (.f a kk')))) := by
  obtain ⟨vs, h1, h2, h3, h4, h5⟩ := feed_at S h
  obtain ⟨ws, k1, k2⟩ := f.k
  have g := f.g
  have hi : i < ρ.length := (List.getElem?_eq_some_iff.mp h).1
  refine ⟨⟨S.g.i.trans g.i, fun q o e => ?_, g.s, fun q e1 e2 => ?_⟩, by rw [List.length_set, S.len], fun j y e2 => ?_, fun j a e2 => ?_, fun j o2 e2 => ?_, fun j k o1 o2 q hjk e1 e2 e3 e4 => ?_⟩
  · have hn : q ≠ a := fun z => by
      rw [z, h3] at e
      cases e
    refine g.h _ _ ?_
    rw [mask_ne hn]
    exact S.g.h _ _ e
  · cases z : I q with
    | some o => exact S.g.n q e1 (by rw [z]; exact fun w => nomatch w)
    | none =>
      have hn : q ≠ a := fun w => by
        rw [w, f.n] at e2
        exact e2 rfl
      exact (fo_unmask hn (g.n q z e2)).back S.g.h
  · rcases get_set e2 with ⟨_, z, _⟩ | ⟨hn, e2⟩
    · cases z
    · obtain ⟨v, q1, q2⟩ := S.dat j y e2
      exact ⟨v, q1, Dp.up g.i _ _ q2⟩
  · rcases get_set e2 with ⟨_, z, _⟩ | ⟨hn, e2⟩
    · cases z
    · exact S.raw j a e2
  · rcases get_set e2 with ⟨rfl, z, hl⟩ | ⟨hn, e2⟩
    · cases z
      exact ⟨a, .dK ws, h1, f.n, h3, k1, rfl, k2⟩
    · obtain ⟨q, u2, q1, q2, q3, q4, q5⟩ := S.own j o2 e2
      have hq : q ≠ a := fun z => S.sep i j _ o2 q hn h e2 (by rw [z]; exact h1) q1
      have hm : mask H a q = some u2 := by
        rw [mask_ne hq]
        exact q4
      refine ⟨q, u2, q1, ?_, q3, g.h _ _ hm, q5.up g.i⟩
      cases z : I' q with
      | none => rfl
      | some x => exact (q5.fo hm (g.n q q2 (by rw [z]; exact fun w => nomatch w))).elim
  · have f1 : ∃ o1', ρ[j]? = some (some (.o o1')) := by
      rcases get_set e1 with ⟨rfl, _, _⟩ | ⟨_, e1⟩
      · exact ⟨_, h⟩
      · exact ⟨o1, e1⟩
    have f2 : ∃ o2', ρ[k]? = some (some (.o o2')) := by
      rcases get_set e2 with ⟨rfl, _, _⟩ | ⟨_, e2⟩
      · exact ⟨_, h⟩
      · exact ⟨o2, e2⟩
    obtain ⟨a1, f1⟩ := f1
    obtain ⟨a2, f2⟩ := f2
    exact S.sep j k a1 a2 q hjk f1 f2 e3 e4
end
/-- e gives some d, and the dict of slot i some new content -/
def EvF (X : Cx) (e : Expr) (ρ : Ro) (i : Nat) (R : PD → KK → Prop) : Prop := ∀ a kk, ρ[i]? = some (some (.o (.f a kk))) → Ok0 X → ∀ b I H σ, SR X.K b I H σ ρ → ∀ Q : VK, (∀ v d kk' I' H', R d kk' → Fs X.K a kk' I H I' H' → Dp X.K I' v d → Q v H') → WE X e σ H Q
def EvTF (X : Cx) (e : Expr) (ρ : Ro) (i : Nat) (R : Bool → KK → Prop) : Prop := ∀ a kk, ρ[i]? = some (some (.o (.f a kk))) → Ok0 X → ∀ b I H σ, SR X.K b I H σ ρ → ∀ Q : Bool → Hp → Prop, (∀ k kk' I' H', R k kk' → Fs X.K a kk' I H I' H' → Q k H') → WT X e σ H Q
def fset (ρ : Ro) (i : Nat) (kk : KK) : Ro := match ρ[i]? with
  | some (some (.o (.f a _))) => ρ.set i (some (.o (.f a kk)))
  | _ => ρ
theorem fset_is {ρ : Ro} {i : Nat} {a : Addr} {kk : KK} (h : ρ[i]? = some (some (.o (.f a kk)))) (kk' : KK) : fset ρ i kk' = ρ.set i (some (.o (.f a kk'))) := by
  unfold fset
  rw [h]
theorem set_at {ρ : Ro} {i : Nat} {c c' : Option Cl} (h : ρ[i]? = some c) : (ρ.set i c')[i]? = some c' := List.getElem?_set_self (List.getElem?_eq_some_iff.mp h).1
section
variable {X : Cx} {ρ : Ro} {e a c : Expr} {i : Nat} {kk : KK} {d : PD} {p pos : Pos} {R : PD → KK → Prop} {rest : List Stmt} {P : Po}
theorem EvF.weak {R' : PD → KK → Prop} (h : EvF X e ρ i R) (w : ∀ d k, R d k → R' d k) : EvF X e ρ i R' := fun a kk hi ok b I H σ S Q q => h a kk hi ok b I H σ S Q fun v d kk' I' H' r => q v d kk' I' H' (w d kk' r)
theorem EvD.f (h : EvD X e ρ d) : EvF X e ρ i (fun d' kk' => d' = d ∧ ∃ a, ρ[i]? = some (some (.o (.f a kk')))) := fun a kk hi ok b I H σ S Q q => h ok b I H σ S Q fun v I' H' g dv => by
  obtain ⟨vs, h1, h2, h3, h4, h5⟩ := feed_at S hi
  exact q v d kk I' H' ⟨rfl, a, hi⟩ ((Fs.refl S.same h2 h4 h5).gr g) dv
/-- name = e -/
theorem sv_asgF (i j : Nat) {x : Str} {p' : Pos} {a : Addr} (h : EvF X e ρ i R) (hρ : ρ[i]? = some (some (.o (.f a kk)))) (k : ∀ d kk', R d kk' → SEv X rest ((ρ.set i (some (.o (.f a kk')))).set j (some (.d d))) P) (hj : X.N[j]? = some x := by rfl) (hx : Loc X.env.scope x := by first | exact .inl rfl | exact .inr rfl)
    (hs : swapsWith e (some (.Name x p')) p.line X.env = pure false := by rfl) (hf : X.fn x = true ∨ X.env.scope.names.lookup x = some .local := by first | exact .inl rfl | exact .inr rfl) : SEv X (.Assign [.Name x p'] e p :: rest) ρ P := fun ok =>
  sv_one (ps_set ok.nd hj hx pe_w hs hf) (fun ok b I H σ D S E => h a kk hρ ok b I H σ S _ fun v d kk' I1 H1 r f dv => k d kk' r ok b I1 H1 _ D ((S.feed hρ f).setD dv j) E) ok
theorem sv_retF {a : Addr} (h : EvF X e ρ i R) (hρ : ρ[i]? = some (some (.o (.f a kk)))) (q : ∀ d kk', R d kk' → P.rt d (ρ.set i (some (.o (.f a kk'))))) : SEv X (.Return (some e) p :: rest) ρ P :=
  sv_one (ps_ret pe_w) fun ok b I H σ D S E => h a kk hρ ok b I H σ S _ fun v d kk' I1 H1 r f dv => E.rt d _ v I1 H1 σ (q d kk' r) (S.feed hρ f) dv
end
end G
set_option Elab.async false
set_option linter.all false
set_option maxRecDepth 100000
set_option maxHeartbeats 4000000
/-! Defs whose first argument is the feed. -/
namespace G
open PySem PySem.Spec PyProof.Rows L2 Hd
def SpFd (K : PySem.W.Frag) (Pre : KK → List PD → Prop) (Post : KK → List PD → PD → KK → Prop) : Sp := fun vs H Q _ => ∃ I a kk us ds vk, vs = .ref a :: us ∧ Pre kk ds ∧ I a = none ∧ H a = some (.dK vk) ∧ KvR K I kk vk ∧ Same I H ∧ DpAll K I us ds ∧
  ∀ v d kk' I' H', Post kk ds d kk' → Fs K a kk' I H I' H' → Dp K I' v d → Q v H'
structure FnF (P : Program) (w : World) (K : PySem.W.Frag) (mg : Str → Option Value) (base : Heap) (k : Nat) (x : Str) (Pre : KK → List PD → Prop) (Post : KK → List PD → PD → KK → Prop) : Prop where
  ex : ∃ f fd ps, FnOk P w K mg base CX0 k f fd ps (SpFd K Pre Post) ∧ mg x = some (.ref f) ∧ PySem.W.keepIn K (.ref f) = true ∧ Binds K fd ps []
def iniF (N : List Str) (a : Addr) (kk : KK) (ds : List PD) : Ro := some (.o (.f a kk)) :: (ds.map (fun d => some (.d d)) ++ List.replicate (N.length - (ds.length + 1)) none)
theorem iniF_at {N : List Str} {a : Addr} {kk : KK} {ds : List PD} {i : Nat} {c : Cl} (e : (iniF N a kk ds)[i]? = some (some c)) : (i = 0 ∧ c = .o (.f a kk)) ∨ ∃ j d, i = j + 1 ∧ ds[j]? = some d ∧ c = .d d := by
  cases i with
  | zero =>
    refine .inl ⟨rfl, ?_⟩
    exact (Option.some.inj (Option.some.inj e)).symm
  | succ j =>
    refine .inr ?_
    have e : (ds.map (fun d => some (Cl.d d)) ++ List.replicate (N.length - (ds.length + 1)) none)[j]? = some (some c) := e
    by_cases hi : j < ds.length
    · rw [List.getElem?_append_left (by rw [List.length_map]; exact hi), List.getElem?_map, List.getElem?_eq_getElem hi] at e
      exact ⟨j, ds[j], rfl, List.getElem?_eq_getElem hi, (Option.some.inj (Option.some.inj e)).symm⟩
    · rw [List.getElem?_append_right (by rw [List.length_map]; omega), List.getElem?_replicate] at e
      split at e
      · cases e
      · cases e
theorem sr_startF {K : PySem.W.Frag} {I H : Hp} {N : List Str} {a : Addr} {kk : KK} {vk : List (Key × V)} {us : List V} {ds : List PD} (s : Same I H) (n : I a = none) (hk : H a = some (.dK vk)) (r : KvR K I kk vk) (h : DpAll K I us ds) :
    SR K ⟨I, mask H a⟩ I H (L2.start N (.ref a :: us)) (iniF N a kk ds) := by
  have hl := DpAll.len h
  refine ⟨gr_mask (Gr.refl s), ?_, fun i x e => ?_, fun i b e => ?_, fun i o e => ?_, fun i j o o' p hij e e' => ?_⟩
  · unfold L2.start iniF
    simp only [List.length_append, List.length_cons, List.length_map, List.length_replicate, hl]
    omega
  · rcases iniF_at e with ⟨_, z⟩ | ⟨j, d, rfl, e1, e2⟩
    · cases z
    · cases e2
      obtain ⟨v, e3, e4⟩ := DpAll.get h e1
      refine ⟨v, ?_, e4⟩
      unfold L2.start
      have hi : j < us.length := (List.getElem?_eq_some_iff.mp e3).1
      rw [List.getElem?_append_left (by rw [List.length_map, List.length_cons]; omega), List.getElem?_map, List.getElem?_cons_succ, e3]
      rfl
  · rcases iniF_at e with ⟨_, z⟩ | ⟨j, d, rfl, e1, e2⟩
    · cases z
    · cases e2
  · rcases iniF_at e with ⟨rfl, z⟩ | ⟨j, d, rfl, e1, e2⟩
    · cases z
      exact ⟨a, .dK vk, rfl, n, mask_self, hk, rfl, r⟩
    · cases e2
  · rcases iniF_at e with ⟨rfl, z⟩ | ⟨_, d, rfl, e1, e2⟩
    · rcases iniF_at e' with ⟨rfl, z⟩ | ⟨_, d, rfl, e1, e2⟩
      · exact absurd rfl hij
      · cases e2
    · cases e2
theorem fn_atF {P : Program} {w : World} {K : PySem.W.Frag} {mg : Str → Option Value} {base : Heap} {x : Str} {st : Stmt} {N ps : List Str} {k : Nat} {Pre : KK → List PD → Prop} {Post : KK → List PD → PD → KK → Prop}
    (F : At K mg x st) (sc : FnScope N ps (defScope st))
    (hb : ∀ (kV doc pm : Value) (an : Option Addr) (cdv ct : Value) (us : List Value), us.length = ps.length → bindArgs (PySem.W.fnOf x x (defArgs st) (defBody st) (defScope st) .none kV doc pm an cdv ct) ⟨us, []⟩ = pure (ps.zip us))
    (hl : ∀ kk ds, Pre kk ds → ds.length + 1 = ps.length)
    (body : ∀ (f : Addr) (cdv : Value) (A : Around) (outer : List Env) (s : Shared) (H : Hp) (E : XK), Room k (A.deeper (envOfC x (defScope st) s.heap.objs.size f cdv)) → ∀ a kk ds, Pre kk ds →
      SEv (cxOf CX0 P w K mg base N x (defScope st) f cdv A outer s H E).nox (defBody st) (iniF N a kk ds) { nx := fun _ => False, rt := fun d' ρ => ∃ kk', ρ[0]? = some (some (.o (.f a kk'))) ∧ Post kk ds d' kk' }) : FnF P w K mg base (k + 1) x Pre Post := by
  obtain ⟨f, fd, h1, h2⟩ := F.ex
  refine ⟨f, fd, ps, h1.ok sc (fun vs H Q E h => ?_) (fun cdv A outer s H vs Q E hr h => ?_), h2, h1.kp, h1.bindsN hb⟩
  · obtain ⟨I, a, kk, us, ds, vk, rfl, h1, _, _, _, _, h3, _⟩ := h
    rw [List.length_cons, DpAll.len h3]
    exact hl kk ds h1
  · obtain ⟨I, a, kk, us, ds, vk, rfl, h1, n, hk, r, h2, h3, q⟩ := h
    refine ⟨_, pss_w.nox, ?_⟩
    refine body f cdv A outer s H E hr a kk ds h1 ⟨sc.nd, rfl, PassesOwn.never⟩ ⟨I, mask H a⟩ I H (L2.start N (.ref a :: us)) _ (sr_startF h2 n hk r h3) ⟨fun ρ I' H' σ' e S' => e.elim, fun d' ρ v I' H' σ' e S' dv => ?_,
      fun _ _ _ _ h => h.elim, fun _ _ _ _ h => h.elim, fun _ _ _ _ _ h => h.elim⟩
    obtain ⟨kk', e1, e2⟩ := e
    obtain ⟨ws, k1, k2, k3, k4, k5⟩ := feed_at S' e1
    exact q v d' kk' I' H' e2 ⟨S'.g, k2, ws, k4, k5⟩ dv
section
variable {X : Cx} {ρ : Ro} {e a c t : Expr} {es : List Expr} {i : Nat} {kk : KK} {d : PD} {ds : List PD} {p pos p' : Pos} {R : PD → KK → Prop} {rest : List Stmt} {P : Po}
/-- f(feed, ..) -/
theorem ef_call {k i : Nat} {x y : Str} {Pre : KK → List PD → Prop} {Post : KK → List PD → PD → KK → Prop} {py : Pos} {a : Addr} (F : FnF X.prog X.w X.K X.mg X.base k x Pre Post) (hr : Room k X.A) (hρ : ρ[i]? = some (some (.o (.f a kk)))) (ha : EvA X es ρ ds) (hS : Pre kk ds)
    (hN : X.N[i]? = some y := by rfl) (hv : Vis X.env.scope y := by first | exact Or.inl rfl | exact Or.inr (Or.inl rfl) | exact Or.inr (Or.inr rfl)) (hd : (y == ("__debug__" : Str)) = false := by decide) (hcd : (y == ("__classdict__" : Str)) = false := by decide)
    (hg : Gl X x := by rfl) (hdb : (x == ("__debug__" : Str)) = false := by decide) (he : starEach (.Name y py :: es) X.env = (false, eval (.Name y py) X.env) :: starEach es X.env := by rfl) (hpl : (backTo pos (starEach es X.env)).any (·.1) = false := by rfl) :
    EvF X (.Call (.Name x p) (.Name y py :: es) [] pos) ρ i (Post kk ds) := fun a' kk0 hi ok b I H σ Sr Q q => by
  rw [hρ] at hi
  cases hi
  obtain ⟨f, fd, ps, G, hm, hk, hb⟩ := F.ex
  obtain ⟨vs, k1, k2, k3, k4, k5⟩ := feed_at Sr hρ
  refine WE.of (pe_call G hr hg hm hk hb .nil pass0 (pa_cons (pe_var hN hv hd hcd) pa_w he) hdb he hpl) ⟨.ref a, k1, ha ok b I H σ Sr _ fun us I1 H1 g1 dvs => ?_⟩
  show SpFd X.K Pre Post ((V.ref a :: us) ++ []) H1 Q _
  rw [List.append_nil]
  exact ⟨I1, a, kk, us, ds, vs, rfl, hS, gr_none g1 k2 k4 (fun _ z => nomatch z), g1.h _ _ k4, k5.up g1.i, g1.s, dvs, fun v d kk' I2 H2 r f dv => q v d kk' I2 H2 r (f.pre g1) dv⟩
/-- a number that is known, plus one of the feed's -/
theorem ef_addI {m : Int} {S : Int → KK → Prop} (ha : EvD X a ρ (.int m)) (hb : EvF X c ρ i (fun d kk' => ∃ n, d = .int n ∧ S n kk')) : EvF X (.BinOp a .Add c p) ρ i (fun d kk' => ∃ n, d = .int (m + n) ∧ S n kk') := fun b0 kk0 hi ok b I H σ Sr Q q =>
  WE.of (pe_op op_add pe_w pe_w) (ha ok b I H σ Sr _ fun x I1 H1 g1 dx => hb b0 kk0 hi ok b I1 H1 σ (Sr.grow g1) _ fun y d kk' I2 H2 r f dy => by
    obtain ⟨n, rfl, r⟩ := r
    exact ⟨m, n, dp_int dx, dp_int dy, q _ _ kk' I2 H2 ⟨n, rfl, r⟩ (f.pre g1) (.int _)⟩)
/-- one of a list, the index the feed's -/
theorem ef_ix {S : Nat → KK → Prop} (ha : EvD X a ρ (.list ds)) (hb : EvF X c ρ i (fun d kk' => ∃ n : Nat, d = .int n ∧ n < ds.length ∧ S n kk')) (hs : PlainIx c := by exact fun _ _ => rfl) : EvF X (.Subscript a c p) ρ i (fun d kk' => ∃ n : Nat, ds[n]? = some d ∧ S n kk') := fun b0 kk0 hi ok b I H σ Sr Q q =>
  WE.of (pe_ix ix_list pe_w pe_w hs) (ha ok b I H σ Sr _ fun x I1 H1 g1 dx => hb b0 kk0 hi ok b I1 H1 σ (Sr.grow g1) _ fun y d kk' I2 H2 r f dy => by
    obtain ⟨n, rfl, hn, r⟩ := r
    have ff := f.pre g1
    obtain ⟨t, xs, rfl, h1, h2⟩ := dp_lst (Dp.up f.g.i _ _ dx)
    have hl := h2.len
    have hx : n < xs.length := by omega
    have e : ds[n]? = some ds[n] := List.getElem?_eq_getElem hn
    obtain ⟨v, k1, k2⟩ := h2.get e
    refine ⟨t, xs, n, v, rfl, dp_int dy, f.g.s.seq h1, ?_, q v _ kk' I2 H2 ⟨n, e, r⟩ ff k2⟩
    unfold atI
    rw [show ixN xs.length (n : Int) = some n from by unfold ixN; rw [if_pos (Int.natCast_nonneg n), if_pos (by omega)]; rfl]
    exact k1)
/-- a number of the feed's is m -/
theorem etf_eq {m : Int} {S : Int → KK → Prop} (hb : EvF X a ρ i (fun d kk' => ∃ n, d = .int n ∧ S n kk')) (hρ : ∀ kk', EvD X c (fset ρ i kk') (.int m)) (hm : behindInMarks .Eq c = false := by first | exact nomark _ | rfl) : EvTF X (.Compare a [.Eq] [c] p) ρ i (fun k kk' => ∃ n, S n kk' ∧ k = decide (n = m)) := fun b0 kk0 hi ok b I H σ Sr Q q => by
  refine WT.of (pt_cmpR op_eq pe_w pe_w hm) (hb b0 kk0 hi ok b I H σ Sr _ fun x d kk' I1 H1 r f dx => ?_)
  obtain ⟨n, rfl, r⟩ := r
  have S1 := Sr.feed hi f
  rw [← fset_is hi kk'] at S1
  refine hρ kk' ok b I1 H1 σ S1 _ fun y I2 H2 g2 dy => ?_
  cases dp_int dx
  cases dp_int dy
  refine ⟨rfl, decide (n = m), ?_, q _ kk' I2 H2 ⟨n, r, rfl⟩ (f.gr g2)⟩
  rw [show decide (V.int n = V.int m) = decide (n = m) by
    by_cases e : n = m
    · rw [e, decide_eq_true rfl, decide_eq_true rfl]
    · rw [decide_eq_false e, decide_eq_false fun z => e (V.int.inj z)]]
/-- one of two, by a test of the feed's -/
theorem ef_if {S : Bool → KK → Prop} (ht : EvTF X t ρ i S) (h1 : ∀ kk', S true kk' → EvF X a (fset ρ i kk') i R) (h2 : ∀ kk', S false kk' → EvF X c (fset ρ i kk') i R) : EvF X (.IfExp t a c p) ρ i R := fun b0 kk0 hi ok b I H σ Sr Q q => by
  refine WE.of (pe_ifExp pt_w pe_w pe_w) (ht b0 kk0 hi ok b I H σ Sr _ fun k kk' I1 H1 s f => ?_)
  have S1 := Sr.feed hi f
  have e1 := fset_is hi kk'
  rw [← e1] at S1
  have hi1 : (fset ρ i kk')[i]? = some (some (.o (.f b0 kk'))) := by
    rw [e1]
    exact set_at hi
  cases k with
  | false =>
    rw [if_neg Bool.false_ne_true]
    exact h2 kk' s b0 kk' hi1 ok b I1 H1 σ S1 Q fun v d k2 I2 H2 r f2 dv => q v d k2 I2 H2 r (f.trans f2) dv
  | true =>
    rw [if_pos rfl]
    exact h1 kk' s b0 kk' hi1 ok b I1 H1 σ S1 Q fun v d k2 I2 H2 r f2 dv => q v d k2 I2 H2 r (f.trans f2) dv
theorem sv_ifFd {a0 : Addr} {S : Bool → KK → Prop} {x y : List Stmt} (h : EvTF X c ρ i S) (hρ : ρ[i]? = some (some (.o (.f a0 kk)))) (h1 : ∀ kk', S true kk' → SEv X x (ρ.set i (some (.o (.f a0 kk')))) { P with nx := fun r => SEv X rest r P }) (h2 : ∀ kk', S false kk' → SEv X y (ρ.set i (some (.o (.f a0 kk')))) { P with nx := fun r => SEv X rest r P }) : SEv X (.If c x y p :: rest) ρ P :=
  sv_one (ps_if pt_w pss_w pss_w) fun ok b I H σ D S E => h a0 kk hρ ok b I H σ S _ fun k kk' I1 H1 s f => by
    have E' : En X.K b { P with nx := fun r => SEv X rest r P } { D with nx := WSs X rest D } := ⟨fun r I2 H2 σ2 hr S2 => hr ok b I2 H2 σ2 D S2 E, E.rt, E.bk, E.ct, E.ro⟩
    have S1 := S.feed hρ f
    cases k with
    | true =>
      rw [if_pos rfl]
      exact h1 kk' s ok b I1 H1 σ _ S1 E'
    | false =>
      rw [if_neg Bool.false_ne_true]
      exact h2 kk' s ok b I1 H1 σ _ S1 E'
end
end G
set_option Elab.async false
set_option linter.all false
set_option maxRecDepth 100000
set_option maxHeartbeats 4000000
/-! Statements over the feed. -/
namespace G
open PySem PySem.Spec PyProof.Rows L2 Hd
section
variable {K : PySem.W.Frag} {b : Bs} {I H I' H' : Hp} {σ : St} {ρ : Ro}
/-- a slot takes an own object that stands apart -/
theorem SR.setN (S : SR K b I H σ ρ) {p : Addr} {u : HO} {o : OD} (hi : I p = none) (hb : b.H p = none) (hp : H p = some u) (h : OwnRep K I p o u) (fresh : ∀ (j : Nat) o', ρ[j]? = some (some (.o o')) → σ[j]? = some (some (.ref p)) → False) (i : Nat) :
    SR K b I H (σ.set i (some (.ref p))) (ρ.set i (some (.o o))) := by
  refine ⟨S.g, by rw [List.length_set, List.length_set, S.len], fun j y e => ?_, fun j a e => ?_, fun j o' e => ?_, fun j k o1 o2 q hjk e1 e2 e3 e4 => ?_⟩
  · rcases get_set e with ⟨_, e2, _⟩ | ⟨hn, e2⟩
    · cases e2
    · rw [List.getElem?_set_ne hn]
      exact S.dat j y e2
  · rcases get_set e with ⟨_, e2, _⟩ | ⟨hn, e2⟩
    · cases e2
    · rw [List.getElem?_set_ne hn]
      exact S.raw j a e2
  · rcases get_set e with ⟨rfl, e2, hl⟩ | ⟨hn, e2⟩
    · cases e2
      exact ⟨p, u, set_get (by rw [S.len]; exact hl), hi, hb, hp, h⟩
    · rw [List.getElem?_set_ne hn]
      exact S.own j o' e2
  · rcases get_set e1 with ⟨rfl, z, hl⟩ | ⟨hn, e1⟩
    · rcases get_set e2 with ⟨rfl, _, _⟩ | ⟨hn2, e2⟩
      · exact hjk rfl
      · rw [set_get (by rw [S.len]; exact hl)] at e3
        cases e3
        rw [List.getElem?_set_ne hn2] at e4
        exact fresh k o2 e2 e4
    · rcases get_set e2 with ⟨rfl, _, hl⟩ | ⟨hn2, e2⟩
      · rw [set_get (by rw [S.len]; exact hl)] at e4
        cases e4
        rw [List.getElem?_set_ne hn] at e3
        exact fresh j o1 e1 e3
      · rw [List.getElem?_set_ne hn] at e3
        rw [List.getElem?_set_ne hn2] at e4
        exact S.sep j k o1 o2 q hjk e1 e2 e3 e4
end
section
variable {X : Cx} {ρ : Ro} {e a c t : Expr} {es : List Expr} {i : Nat} {kk : KK} {d d1 : PD} {ds : List PD} {p pos p' : Pos} {R R1 R2 : PD → KK → Prop} {rest : List Stmt} {P : Po}
/-- (data, one of the feed's) -/
theorem ef_tup2 {x1 : Nat} (ha : EvD X a ρ d1) (hb : EvF X c ρ i R) (hs : starEach [a, c] X.env = (false, eval a X.env) :: starEach [c] X.env := by rfl) (hs2 : starEach [c] X.env = (false, eval c X.env) :: starEach [] X.env := by rfl) :
    EvF X (.Tuple [a, c] x1 p) ρ i (fun d kk' => ∃ d2, d = .tuple [d1, d2] ∧ R d2 kk') := fun b0 kk0 hi ok b I H σ Sr Q q =>
  WE.of (pe_tup (pa_cons pe_w (pa_cons pe_w pa_nil hs2) hs)) (ha ok b I H σ Sr _ fun x I1 H1 g1 dx => hb b0 kk0 hi ok b I1 H1 σ (Sr.grow g1) _ fun y d kk' I2 H2 r f dy => ⟨by show 2 ≤ sizeLine; decide, fun pn hp => by
    have s2 := f.g.s
    exact q (.ref pn) _ kk' _ _ ⟨d, rfl, r⟩ ((f.pre g1).gr (Gr.new s2 hp)) (.tup upd_same (.cons (Dp.up (same_up (s2.free hp)) _ _ (Dp.up f.g.i _ _ dx)) (.cons (Dp.up (same_up (s2.free hp)) _ _ dy) .nil)))⟩)
/-- x, y = one of the feed's, one of the feed's -/
theorem sv_parFF (j l : Nat) {x y : Str} {px py pt : Pos} {kt k2 : Nat} {pt2 : Pos} {a0 : Addr} (h1 : EvF X a ρ i R1) (h2 : ∀ d kk', R1 d kk' → EvF X c (ρ.set i (some (.o (.f a0 kk')))) i R2) (hρ : ρ[i]? = some (some (.o (.f a0 kk))))
    (k : ∀ d1 k1 d2 k2, R1 d1 k1 → R2 d2 k2 → SEv X rest (((ρ.set i (some (.o (.f a0 k2)))).set j (some (.d d1))).set l (some (.d d2))) P)
    (hij : j ≠ l := by decide) (hi : X.N[j]? = some x := by rfl) (hj : X.N[l]? = some y := by rfl) (hx : X.env.scope.names.lookup x = some .local := by rfl) (hy : X.env.scope.names.lookup y = some .local := by rfl)
    (hw : swappedStores [.Tuple [.Name x px, .Name y py] kt pt] (.Tuple [a, c] k2 pt2) X.env = pure (some [x, y]) := by rfl)
    (hs : swapsWithSole [.Tuple [.Name x px, .Name y py] kt pt] (.Tuple [a, c] k2 pt2) p.line X.env = pure false := by rfl)
    (ha : starEach [a, c] X.env = (false, eval a X.env) :: starEach [c] X.env := by rfl) (hc : starEach [c] X.env = (false, eval c X.env) :: starEach [] X.env := by rfl) : SEv X (.Assign [.Tuple [.Name x px, .Name y py] kt pt] (.Tuple [a, c] k2 pt2) p :: rest) ρ P := fun ok =>
  sv_one (ps_par ok.calm ok.nd hi hj hij hx hy (pa_cons pe_w (pa_cons pe_w pa_nil hc) ha) hw hs) (fun ok b I H σ D S E => h1 a0 kk hρ ok b I H σ S _ fun v d1 kk1 I1 H1 r1 f1 dv => h2 d1 kk1 r1 a0 kk1 (set_at hρ) ok b I1 H1 σ (S.feed hρ f1) _ fun w d2 kk2 I2 H2 r2 f2 dw => by
    refine ⟨v, w, rfl, ?_⟩
    have S2 := S.feed hρ (f1.trans f2)
    exact k d1 kk1 d2 kk2 r1 r2 ok b I2 H2 _ D ((S2.setD (Dp.up f2.g.i _ _ dv) j).setD dw l) E) ok
/-- x, y = one of the feed's, a new own object -/
theorem sv_parFO (j l : Nat) {x y : Str} {px py pt : Pos} {kt k2 : Nat} {pt2 : Pos} {a0 : Addr} {o : OD} (h1 : EvF X a ρ i R1) (h2 : ∀ kk', EvO X c (ρ.set i (some (.o (.f a0 kk')))) o) (hρ : ρ[i]? = some (some (.o (.f a0 kk))))
    (k : ∀ d1 k1, R1 d1 k1 → SEv X rest (((ρ.set i (some (.o (.f a0 k1)))).set j (some (.d d1))).set l (some (.o o))) P)
    (hij : j ≠ l := by decide) (hi : X.N[j]? = some x := by rfl) (hj : X.N[l]? = some y := by rfl) (hx : X.env.scope.names.lookup x = some .local := by rfl) (hy : X.env.scope.names.lookup y = some .local := by rfl)
    (hw : swappedStores [.Tuple [.Name x px, .Name y py] kt pt] (.Tuple [a, c] k2 pt2) X.env = pure (some [x, y]) := by rfl)
    (hs : swapsWithSole [.Tuple [.Name x px, .Name y py] kt pt] (.Tuple [a, c] k2 pt2) p.line X.env = pure false := by rfl)
    (ha : starEach [a, c] X.env = (false, eval a X.env) :: starEach [c] X.env := by rfl) (hc : starEach [c] X.env = (false, eval c X.env) :: starEach [] X.env := by rfl) : SEv X (.Assign [.Tuple [.Name x px, .Name y py] kt pt] (.Tuple [a, c] k2 pt2) p :: rest) ρ P := fun ok =>
  sv_one (ps_par ok.calm ok.nd hi hj hij hx hy (pa_cons pe_w (pa_cons pe_w pa_nil hc) ha) hw hs) (fun ok b I H σ D S E => h1 a0 kk hρ ok b I H σ S _ fun v d1 kk1 I1 H1 r1 f1 dv => h2 kk1 ok b I1 H1 σ (S.feed hρ f1) _ fun q u I2 H2 g h0 e1 e2 e3 => by
    refine ⟨v, .ref q, rfl, ?_⟩
    have S1 := (S.feed hρ f1).setD dv j
    exact k d1 kk1 r1 ok b I2 H2 _ D (S1.setO g h0 e1 e2 e3 l) E) ok
/-- x, y = a new own object, one of the feed's -/
theorem sv_parOF (j l : Nat) {x y : Str} {px py pt : Pos} {kt k2 : Nat} {pt2 : Pos} {a0 : Addr} {o : OD} (h1 : EvO X a ρ o) (h2 : EvF X c ρ i R2) (hρ : ρ[i]? = some (some (.o (.f a0 kk))))
    (k : ∀ d2 k2, R2 d2 k2 → SEv X rest (((ρ.set i (some (.o (.f a0 k2)))).set j (some (.o o))).set l (some (.d d2))) P)
    (hij : j ≠ l := by decide) (hi : X.N[j]? = some x := by rfl) (hj : X.N[l]? = some y := by rfl) (hx : X.env.scope.names.lookup x = some .local := by rfl) (hy : X.env.scope.names.lookup y = some .local := by rfl)
    (hw : swappedStores [.Tuple [.Name x px, .Name y py] kt pt] (.Tuple [a, c] k2 pt2) X.env = pure (some [x, y]) := by rfl)
    (hs : swapsWithSole [.Tuple [.Name x px, .Name y py] kt pt] (.Tuple [a, c] k2 pt2) p.line X.env = pure false := by rfl)
    (ha : starEach [a, c] X.env = (false, eval a X.env) :: starEach [c] X.env := by rfl) (hc : starEach [c] X.env = (false, eval c X.env) :: starEach [] X.env := by rfl) : SEv X (.Assign [.Tuple [.Name x px, .Name y py] kt pt] (.Tuple [a, c] k2 pt2) p :: rest) ρ P := fun ok =>
  sv_one (ps_par ok.calm ok.nd hi hj hij hx hy (pa_cons pe_w (pa_cons pe_w pa_nil hc) ha) hw hs) (fun ok b I H σ D S E => h1 ok b I H σ S _ fun q u I1 H1 g h0 e1 e2 e3 => h2 a0 kk hρ ok b I1 H1 σ (S.grow g) _ fun w d2 kk2 I2 H2 r2 f2 dw => by
    refine ⟨.ref q, w, rfl, ?_⟩
    have S1 := S.grow g
    obtain ⟨vs, k1, k2, k3, k4, k5⟩ := feed_at S hρ
    have hq : q ≠ a0 := fun z => by
      rw [z, k4] at h0
      cases h0
    have hm : mask H1 a0 q = some u := by
      rw [mask_ne hq]
      exact e2
    have n2 : I2 q = none := by
      cases z : I2 q with
      | none => rfl
      | some x => exact (e3.fo hm (f2.g.n q e1 (by rw [z]; exact fun w => nomatch w))).elim
    refine k d2 kk2 r2 ok b I2 H2 _ D (((S1.feed hρ f2).setN n2 (S.g.h.free h0) (f2.g.h _ _ hm) (e3.up f2.g.i) (fun n o' w1 w2 => ?_) j).setD dw l) E
    have w3 : ∃ o2, ρ[n]? = some (some (.o o2)) := by
      rcases get_set w1 with ⟨rfl, _, _⟩ | ⟨_, w1⟩
      · exact ⟨_, hρ⟩
      · exact ⟨o', w1⟩
    obtain ⟨o2, w3⟩ := w3
    obtain ⟨q', u', t1, t2, t3, t4, t5⟩ := S.own n o2 w3
    rw [t1] at w2
    cases w2
    rw [h0] at t4
    cases t4) ok
end
end G
set_option Elab.async false
set_option linter.all false
set_option maxRecDepth 100000
set_option maxHeartbeats 4000000
/-! Reading and writing the feed; a list that grows by the feed's; ranges of the feed's. -/
namespace G
open PySem PySem.Spec PyProof.Rows L2 Hd
section
variable {X : Cx} {ρ : Ro} {e a c t : Expr} {es : List Expr} {i : Nat} {kk : KK} {d d1 : PD} {ds : List PD} {p pos p' : Pos} {R R1 R2 : PD → KK → Prop} {rest : List Stmt} {P : Po} {k1 : Key}
/-- feed[key] -/
theorem ev_getF (i : Nat) {x : Str} {a0 : Addr} (hu : X.A.units + 1 < cLine) (hc : EvD X c ρ (kd k1)) (hg : vget kk k1 = some d) (hρ : ρ[i]? = some (some (.o (.f a0 kk))) := by rfl) (hN : X.N[i]? = some x := by rfl)
    (hv : Vis X.env.scope x := by first | exact Or.inl rfl | exact Or.inr (Or.inl rfl) | exact Or.inr (Or.inr rfl)) (hd : (x == ("__debug__" : Str)) = false := by decide) (hcd : (x == ("__classdict__" : Str)) = false := by decide) (hs : NoSl c := by exact fun _ _ => rfl) :
    EvD X (.Subscript (.Name x p') c p) ρ d := fun ok b I H σ S Q q => by
  obtain ⟨vs, h1, h2, h3, h4, h5⟩ := feed_at S hρ
  refine WE.of (pe_dget hu (pe_var hN hv hd hcd) pe_w hs) ⟨.ref a0, h1, hc ok b I H σ S _ fun y I1 H1 g1 dy => ?_⟩
  rw [kd_v dy]
  have h3' : KvR X.K I1 kk vs := h5.up g1.i
  obtain ⟨v, e1, e2⟩ := h3'.got hg
  exact ⟨a0, v, rfl, .inl ⟨vs, k1, .inl (g1.h _ _ h4), rfl, e1.symm⟩, q v I1 H1 g1 e2⟩
/-- feed[key] = e -/
theorem sv_putF (i : Nat) {x : Str} {p1 p2 : Pos} {a0 : Addr} (hu : X.A.units + 1 < cLine) (he : EvD X e ρ d) (hc : EvD X c ρ (kd k1)) (hz : kk.length < 100000) (k : SEv X rest (ρ.set i (some (.o (.f a0 (vput kk k1 d))))) P) (hρ : ρ[i]? = some (some (.o (.f a0 kk))) := by rfl) (hN : X.N[i]? = some x := by rfl)
    (hv : Vis X.env.scope x := by first | exact Or.inl rfl | exact Or.inr (Or.inl rfl) | exact Or.inr (Or.inr rfl)) (hd : (x == ("__debug__" : Str)) = false := by decide) (hcd : (x == ("__classdict__" : Str)) = false := by decide)
    (hs : swapsWith e (some (.Subscript (.Name x p1) c p2)) p.line X.env = pure false := by rfl) : SEv X (.Assign [.Subscript (.Name x p1) c p2] e p :: rest) ρ P :=
  sv_one (ps_dput hu (pe_var hN hv hd hcd) pe_w pe_w hs) fun ok b I H σ D S E => by
    obtain ⟨vs, h1, h2, h3, h4, h5⟩ := feed_at S hρ
    refine he ok b I H σ S _ fun v I1 H1 g1 dv => ⟨.ref a0, h1, hc ok b I1 H1 σ (S.grow g1) _ fun y I2 H2 g2 dy => ?_⟩
    rw [kd_v dy]
    have g := g1.trans g2
    refine ⟨a0, upd H2 a0 (.dK (putK vs k1 v)), rfl, .inl ⟨vs, k1, g.h _ _ h4, rfl, Nat.lt_of_lt_of_le (show vs.length < 100000 by rw [h5.len]; exact hz) (by decide), rfl⟩, ?_⟩
    exact k ok b I2 _ σ D ((S.grow g).mutO (o' := .f a0 (vput kk k1 d)) hρ h1 ⟨rfl, (h5.up g.i).put k1 (Dp.up g2.i _ _ dv)⟩) E
/-- list.append(one of the feed's) -/
theorem sv_appF (l : Nat) {x : Str} {xs : List PD} {p1 p2 p3 : Pos} {a0 : Addr} (h : EvF X e ρ i R) (hz : xs.length < 100000) (k : ∀ d kk', R d kk' → SEv X rest ((ρ.set i (some (.o (.f a0 kk')))).set l (some (.o (.l (xs ++ [d]))))) P) (hF : ρ[i]? = some (some (.o (.f a0 kk)))) (hil : i ≠ l := by decide) (hρ : ρ[l]? = some (some (.o (.l xs))) := by rfl) (hN : X.N[l]? = some x := by rfl)
    (hv : Vis X.env.scope x := by first | exact Or.inl rfl | exact Or.inr (Or.inl rfl) | exact Or.inr (Or.inr rfl)) (hd : (x == ("__debug__" : Str)) = false := by decide) (hcd : (x == ("__classdict__" : Str)) = false := by decide)
    (hbase : attributeBase (.Name x p1) "append" X.env (eval (.Name x p1) X.env) = eval (.Name x p1) X.env := by rfl)
    (hfew : ((backTo p3 (starEach [e] X.env)).all (fun x => !x.1) && (backToKw p3 (keywordEach [] X.env)).all (fun x => x.1.isSome)
      && decide ([e].length + ([] : List Keyword).length + (if ([] : List Keyword).isEmpty then 0 else 1) < 30)) = true := by rfl)
    (hline : (p2.endLine == p3.line) = true := by rfl) (hs1 : starEach [e] X.env = (false, eval e X.env) :: starEach [] X.env := by rfl) (hplain : (backTo p3 (starEach [] X.env)).any (·.1) = false := by rfl)
    (hs : swapsWith (.Call (.Attribute (.Name x p1) "append" p2) [e] [] p3) none p.line X.env = pure false := by rfl) : SEv X (.Expr (.Call (.Attribute (.Name x p1) "append" p2) [e] [] p3) p :: rest) ρ P :=
  sv_one (ps_expr (pe_bm PySem.F.plainAttrs_list PySem.F.slot_list_append PySem.F.type_list_append mt_append (pe_var hN hv hd hcd) (pa_cons pe_w pa_nil hs1) hbase hfew hline hs1 hplain) hs) fun ok b I H σ D S E => by
    obtain ⟨t, u, h1, h2, h3, h4, h5⟩ := S.own l _ hρ
    cases u with
    | lst vs =>
      refine ⟨.ref t, h1, .inl ⟨rfl, _, .inl (.inl h4)⟩, h a0 kk hF ok b I H σ S _ fun v d kk' I1 H1 r f dv => ?_⟩
      have S1 := S.feed hF f
      have hρ1 : (ρ.set i (some (.o (.f a0 kk'))))[l]? = some (some (.o (.l xs))) := by
        rw [List.getElem?_set_ne hil]
        exact hρ
      obtain ⟨ws, q1, q2, q3, q4, q5⟩ := feed_at S hF
      have hta : t ≠ a0 := fun z => by
        rw [z, q4] at h4
        cases h4
      have hm : mask H a0 t = some (.lst vs) := by
        rw [mask_ne hta]
        exact h4
      obtain ⟨t', u', k1, k2, k3, k4, k5⟩ := S1.own l _ hρ1
      rw [h1] at k1
      cases k1
      have eu : u' = .lst vs := Option.some.inj (k4.symm.trans (f.g.h _ _ hm))
      subst eu
      refine ⟨t, vs, v, rfl, rfl, k4, Nat.lt_of_lt_of_le (show vs.length < 100000 by rw [DpAll.len k5]; exact hz) (by decide), ?_⟩
      exact k d kk' r ok b I1 _ σ D (S1.mutO (o' := .l (xs ++ [d])) hρ1 h1 (DpAll.app k5 dv)) E
    | _ => exact h5.elim
/-- for k in range(one of the feed's) -/
theorem sv_forF {tg : Expr} {body : List Stmt} {pr pc : Pos} {S : Int → KK → Prop} {a0 : Addr} (hm : X.mg "range" = none) (h : EvF X e ρ i (fun d kk' => ∃ n : Int, d = .int n ∧ S n kk')) (hn : ∀ n kk', S n kk' → -(2 ^ 62) ≤ n ∧ n < 2 ^ 62) (hF : ρ[i]? = some (some (.o (.f a0 kk))))
    (k : ∀ n kk', S n kk' → ∃ Pv : Nat → Ro → Prop, Pv 0 (ρ.set i (some (.o (.f a0 kk')))) ∧
      (∀ (j : Nat) r, j < n.toNat → Pv j r → ∃ r', BindD X tg (.int (j : Nat)) r r' ∧ SEv X body r' { P with nx := Pv (j + 1), ct := Pv (j + 1), bk := fun r => SEv X rest r P }) ∧ (∀ r, Pv n.toNat r → SEv X rest r P))
    (hg : Gl X "range" := by rfl) (hs : starEach [e] X.env = [(false, eval e X.env)] := by rfl)
    (hf : ∀ x, foldedSetIterable (.Call (.Name "range" pr) [e] [] pc) X.env x = pure x := by intro _; rfl) : SEv X (.For tg (.Call (.Name "range" pr) [e] [] pc) body [] p :: rest) ρ P := fun ok =>
  sv_one (ps_for ok.po ok.calm (pi_range1 hg hm (pa_cons pe_w pa_nil hs) hs) pg_w pss_w hf) (fun ok b I H σ D Sr E => by
    refine h a0 kk hF ok b I H σ Sr _ fun v d kk' I1 H1 r f dv => ?_
    obtain ⟨n, rfl, r⟩ := r
    obtain ⟨Pv, h0, hs, hd⟩ := k n kk' r
    have nb := hn n kk' r
    have S1 := Sr.feed hF f
    refine ⟨n, by rw [dp_int dv], nb.1, nb.2, ?_⟩
    refine for_it walk_range (fun j σ' H' => ∃ r I', Pv j r ∧ SR X.K b I' H' σ' r ∧ Same I1 I') ⟨_, I1, h0, S1, Same.refl I1⟩ (fun j σ' H' _ h => trivial) (fun j x σ' H' H'' hi h y => ?_) (fun σ' H' h => ?_)
    · obtain ⟨r, I', hp, S', s⟩ := h
      obtain ⟨rfl, rfl⟩ := y
      have g0 : Gr b.I b.H I1 H1 := S1.g
      obtain ⟨r', hb, hq⟩ := hs j r hi hp
      refine hb ok b I' _ σ' _ S' (by show Dp X.K I' (.int (0 + (j : Int))) _; rw [Int.zero_add]; exact .int _) _ fun σ2 S2 => hq ok ⟨I1, b.H⟩ I' _ σ2 _ (S2.rebase g0.i s) ⟨fun r3 I3 H3 σ3 h3 S3 => ?_, fun d3 r3 v3 I3 H3 σ3 h3 S3 dv3 => E.rt d3 r3 v3 I3 H3 σ3 h3 (S3.unbase g0) dv3,
        fun r3 I3 H3 σ3 h3 S3 => h3 ok b I3 H3 σ3 D (S3.unbase g0) E, fun r3 I3 H3 σ3 h3 S3 => ?_, fun o q u I3 H3 h3 g3 => E.ro o q u I3 H3 h3 (gr_unbase g0 g3)⟩
      all_goals exact ⟨r3, I3, h3, S3.unbase g0, S3.g.i⟩
    · obtain ⟨r, I', hp, S', s⟩ := h
      exact hd r hp ok b I' H' σ' D S' E) ok
end
end G
set_option linter.all false
set_option maxRecDepth 100000
set_option maxHeartbeats 4000000
/-! Spans, plain mathematics: how deep a span is open, its sides, how it is settled. -/
namespace Bm

/-- how often two numbers are halved until they are equal -/
def od (l h : Nat) : Nat := if l = h then 0 else od (l / 2) (h / 2) + 1
termination_by l + h
decreasing_by omega
theorem od_same (l : Nat) : od l l = 0 := by
  unfold od
  rw [if_pos rfl]
theorem od_ne {l h : Nat} (e : l ≠ h) : od l h = od (l / 2) (h / 2) + 1 := by
  rw [od, if_neg e]
theorem pow_pos2 (k : Nat) : 0 < 2 ^ k := Nat.pow_pos (by decide)
theorem pow_s (k : Nat) : 2 ^ (k + 1) = 2 * 2 ^ k := by
  rw [Nat.pow_succ, Nat.mul_comm]
theorem od_spec : ∀ l h : Nat, l / 2 ^ od l h = h / 2 ^ od l h := by
  intro l h
  induction l, h using od.induct with
  | case1 l =>
    rw [od_same]
  | case2 l h e ih =>
    rw [od_ne e, pow_s, ← Nat.div_div_eq_div_mul, ← Nat.div_div_eq_div_mul]
    exact ih
/-- one halving less parts them -/
theorem od_prev : ∀ (l h k : Nat), od l h = k + 1 → l / 2 ^ k ≠ h / 2 ^ k := by
  intro l h
  induction l, h using od.induct with
  | case1 l =>
    intro k e
    rw [od_same] at e
    omega
  | case2 l h e ih =>
    intro k ek
    rw [od_ne e] at ek
    cases k with
    | zero =>
      rw [Nat.pow_zero, Nat.div_one, Nat.div_one]
      exact e
    | succ k =>
      rw [pow_s, ← Nat.div_div_eq_div_mul, ← Nat.div_div_eq_div_mul]
      exact ih k (by omega)
/-- the place within a block is all that counts -/
theorem od_shift : ∀ (J c u v : Nat), u < 2 ^ J → v < 2 ^ J → od (c * 2 ^ J + u) (c * 2 ^ J + v) = od u v
  | 0, c, u, v, hu, hv => by
    have e1 : u = 0 := by
      rw [Nat.pow_zero] at hu
      omega
    have e2 : v = 0 := by
      rw [Nat.pow_zero] at hv
      omega
    subst e1 e2
    rw [od_same, od_same]
  | J + 1, c, u, v, hu, hv => by
    by_cases e : u = v
    · subst e
      rw [od_same, od_same]
    · have e2 : c * 2 ^ (J + 1) + u ≠ c * 2 ^ (J + 1) + v := by omega
      have a : ∀ x : Nat, (c * 2 ^ (J + 1) + x) / 2 = c * 2 ^ J + x / 2 := fun x => by
        rw [pow_s, show c * (2 * 2 ^ J) = 2 * (c * 2 ^ J) by rw [Nat.mul_left_comm]]
        omega
      rw [pow_s] at hu hv
      rw [od_ne e, od_ne e2, a, a, od_shift J c (u / 2) (v / 2) (by omega) (by omega)]
theorem od_le : ∀ (J l h : Nat), l ≤ h → h < 2 ^ J → od l h ≤ J
  | 0, l, h, hl, hh => by
    rw [Nat.pow_zero] at hh
    have : l = h := by omega
    subst this
    rw [od_same]
    exact Nat.le_refl _
  | J + 1, l, h, hl, hh => by
    by_cases e : l = h
    · subst e
      rw [od_same]
      omega
    · rw [pow_s] at hh
      rw [od_ne e]
      have := od_le J (l / 2) (h / 2) (by omega) (by omega)
      omega
theorem od_dbl (l h : Nat) : od (2 * l) (2 * h + 1) = od l h + 1 := by
  rw [od_ne (by omega), show 2 * l / 2 = l by omega, show (2 * h + 1) / 2 = h by omega]
theorem od_up : ∀ (t l w : Nat), 1 ≤ w → od (l * 2 ^ t) (l * 2 ^ t + w * 2 ^ t - 1) = od l (l + w - 1) + t
  | 0, l, w, _ => by
    rw [Nat.pow_zero, Nat.mul_one, Nat.mul_one]
    rfl
  | t + 1, l, w, h => by
    have ih := od_up t l w h
    have hp := pow_pos2 t
    have h1 : 1 ≤ w * 2 ^ t := Nat.mul_pos h hp
    rw [pow_s, show l * (2 * 2 ^ t) = 2 * (l * 2 ^ t) by rw [Nat.mul_left_comm], show w * (2 * 2 ^ t) = 2 * (w * 2 ^ t) by rw [Nat.mul_left_comm],
      show 2 * (l * 2 ^ t) + 2 * (w * 2 ^ t) - 1 = 2 * (l * 2 ^ t + w * 2 ^ t - 1) + 1 by omega, od_dbl, ih]
    omega
/-- how many cells fit -/
theorem od_wide (l w : Nat) (h : 1 ≤ w) : w ≤ 2 ^ od l (l + w - 1) := by
  have e := od_spec l (l + w - 1)
  have hb := pow_pos2 (od l (l + w - 1))
  generalize 2 ^ od l (l + w - 1) = b at e hb ⊢
  have h1 := Nat.div_add_mod l b
  have h2 := Nat.div_add_mod (l + w - 1) b
  have h3 := Nat.mod_lt (l + w - 1) hb
  rw [← e] at h2
  omega
theorem od_split : ∀ (j u v : Nat), u < 2 ^ j → 2 ^ j ≤ v → v < 2 ^ (j + 1) → od u v = j + 1
  | 0, u, v, h1, h2, h3 => by
    rw [Nat.pow_zero] at h1 h2
    have e1 : u = 0 := by omega
    have e2 : v = 1 := by
      have : 2 ^ (0 + 1) = 2 := rfl
      omega
    subst e1 e2
    rw [od_ne (by decide), od_same]
  | j + 1, u, v, h1, h2, h3 => by
    rw [pow_s] at h1 h2
    rw [pow_s] at h3
    have ep := pow_s j
    rw [od_ne (by omega), od_split j (u / 2) (v / 2) (by omega) (by omega) (by omega)]

/-! ### the middle -/
structure Cen (l w m j q : Nat) : Prop where
  e : m = (2 * q + 1) * 2 ^ j
  a : l < m
  b : m < l + w
  c : m ≤ l + 2 ^ j
  d : l + w ≤ m + 2 ^ j
theorem cen_of (l w : Nat) (h : 2 ≤ w) : ∃ m j q, Cen l w m j q := by
  have hne : l ≠ l + w - 1 := by omega
  cases hk : od l (l + w - 1) with
  | zero =>
    rw [od_ne hne] at hk
    omega
  | succ j =>
    have e := od_spec l (l + w - 1)
    have e2 := od_prev l (l + w - 1) j hk
    rw [hk, pow_s, Nat.mul_comm, ← Nat.div_div_eq_div_mul, ← Nat.div_div_eq_div_mul] at e
    have hb := pow_pos2 j
    generalize hB : 2 ^ j = b at e e2 hb
    have h1 := Nat.div_add_mod l b
    have h2 := Nat.div_add_mod (l + w - 1) b
    have h3 := Nat.mod_lt (l + w - 1) hb
    have h4 := Nat.mod_lt l hb
    have hle : l / b ≤ (l + w - 1) / b := Nat.div_le_div_right (by omega)
    have f1 : (l + w - 1) / b = l / b + 1 := by omega
    have f2 : l / b = 2 * (l / b / 2) := by omega
    rw [f1, Nat.mul_add, Nat.mul_one] at h2
    refine ⟨(2 * (l / b / 2) + 1) * b, j, l / b / 2, ⟨by rw [hB], ?_, ?_, ?_, ?_⟩⟩
    all_goals
      rw [← f2, Nat.add_mul, Nat.one_mul, Nat.mul_comm]
      try rw [hB]
      omega
section
variable {l w m j q : Nat}
theorem Cen.od_eq (C : Cen l w m j q) : od l (l + w - 1) = j + 1 := by
  obtain ⟨e, a, b, c, d⟩ := C
  have ep := pow_s j
  have hb := pow_pos2 j
  have em : m = q * 2 ^ (j + 1) + 2 ^ j := by
    rw [e, ep, Nat.add_mul, Nat.one_mul, Nat.mul_comm 2 q, Nat.mul_assoc]
  have e1 : l = q * 2 ^ (j + 1) + (2 ^ j - (m - l)) := by omega
  have e2 : l + w - 1 = q * 2 ^ (j + 1) + (2 ^ j + (l + w - m - 1)) := by omega
  generalize hu : 2 ^ j - (m - l) = u at e1
  generalize hv : 2 ^ j + (l + w - m - 1) = v at e2
  rw [e2, e1, od_shift (j + 1) q u v (by omega) (by omega), od_split j u v (by omega) (by omega) (by omega)]
end
/-- the middle as the law has it; as the program has it -/
def mid (l w : Nat) : Nat := l / 2 ^ od l (l + w - 1) * 2 ^ od l (l + w - 1) + 2 ^ (od l (l + w - 1) - 1)
def midP (l w : Nat) : Nat := (l + w - 1) / 2 ^ (od l (l + w - 1) - 1) * 2 ^ (od l (l + w - 1) - 1)
section
variable {l w m j q : Nat}
theorem Cen.mid_eq (C : Cen l w m j q) : mid l w = m := by
  have ho := C.od_eq
  obtain ⟨e, a, b, c, d⟩ := C
  have ep := pow_s j
  have hb := pow_pos2 j
  have em : m = q * 2 ^ (j + 1) + 2 ^ j := by
    rw [e, ep, Nat.add_mul, Nat.one_mul, Nat.mul_comm 2 q, Nat.mul_assoc]
  unfold mid
  rw [ho, Nat.add_sub_cancel]
  have e1 : l = 2 ^ (j + 1) * q + (l - 2 ^ (j + 1) * q) := by
    rw [Nat.mul_comm]
    omega
  have e2 : l / 2 ^ (j + 1) = q := by
    rw [e1, Nat.mul_add_div (pow_pos2 _), Nat.div_eq_of_lt (by rw [Nat.mul_comm]; omega), Nat.add_zero]
  rw [e2, em]
theorem Cen.midP_eq (C : Cen l w m j q) : midP l w = m := by
  have ho := C.od_eq
  obtain ⟨e, a, b, c, d⟩ := C
  have hb := pow_pos2 j
  unfold midP
  rw [ho, Nat.add_sub_cancel]
  have e1 : l + w - 1 = 2 ^ j * (2 * q + 1) + (l + w - 1 - m) := by
    rw [Nat.mul_comm, ← e]
    omega
  have e2 : (l + w - 1) / 2 ^ j = 2 * q + 1 := by
    rw [e1, Nat.mul_add_div hb, Nat.div_eq_of_lt (by omega), Nat.add_zero]
  rw [e2, ← e]
theorem Cen.up (C : Cen l w m j q) (t : Nat) : Cen (l * 2 ^ t) (w * 2 ^ t) (m * 2 ^ t) (j + t) q := by
  obtain ⟨e, a, b, c, d⟩ := C
  have hp := pow_pos2 t
  have ep : 2 ^ (j + t) = 2 ^ j * 2 ^ t := Nat.pow_add ..
  refine ⟨by rw [e, ep, Nat.mul_assoc], Nat.mul_lt_mul_of_pos_right a hp, ?_, ?_, ?_⟩
  · rw [← Nat.add_mul]
    exact Nat.mul_lt_mul_of_pos_right b hp
  · rw [ep, ← Nat.add_mul]
    exact Nat.mul_le_mul_right _ c
  · rw [ep, ← Nat.add_mul, ← Nat.add_mul]
    exact Nat.mul_le_mul_right _ d
/-- further up by blocks -/
theorem Cen.shift (C : Cen l w m j q) {J : Nat} (hJ : j < J) (c : Nat) : Cen (c * 2 ^ J + l) w (c * 2 ^ J + m) j (c * 2 ^ (J - j - 1) + q) := by
  obtain ⟨e, a, b, c1, d⟩ := C
  refine ⟨?_, by omega, by omega, by omega, by omega⟩
  have ep : 2 ^ J = 2 * 2 ^ (J - j - 1) * 2 ^ j := by
    rw [← pow_s, ← Nat.pow_add]
    congr 1
    omega
  rw [e, ep, ← Nat.mul_assoc, ← Nat.add_mul]
  congr 1
  rw [Nat.mul_add, ← Nat.mul_assoc, ← Nat.mul_assoc, Nat.mul_comm c 2]
  omega
end
def sL (l w : Nat) : Nat := mid l w - l
def sR (l w : Nat) : Nat := l + w - mid l w
theorem sides_cen {l w m j q : Nat} (C : Cen l w m j q) : sL l w = m - l ∧ sR l w = l + w - m := by
  unfold sL sR
  rw [C.mid_eq]
  exact ⟨rfl, rfl⟩
theorem sides_pos {l w : Nat} (h : 2 ≤ w) : 1 ≤ sL l w ∧ 1 ≤ sR l w ∧ sL l w + sR l w = w := by
  obtain ⟨m, j, q, C⟩ := cen_of l w h
  obtain ⟨e1, e2⟩ := sides_cen C
  obtain ⟨e, a, b, c, d⟩ := C
  omega
theorem sides_up {l w : Nat} (h : 2 ≤ w) (t : Nat) : sL (l * 2 ^ t) (w * 2 ^ t) = sL l w * 2 ^ t ∧ sR (l * 2 ^ t) (w * 2 ^ t) = sR l w * 2 ^ t := by
  obtain ⟨m, j, q, C⟩ := cen_of l w h
  obtain ⟨e1, e2⟩ := sides_cen C
  obtain ⟨e3, e4⟩ := sides_cen (C.up t)
  rw [e1, e2, e3, e4, Nat.sub_mul, Nat.sub_mul, Nat.add_mul]
  exact ⟨rfl, rfl⟩

/-! ### settling -/
inductive Man where
  | plain | pending | cut | late
  deriving DecidableEq
structure Spn where
  l : Nat
  w : Nat
  d : Nat
def Spn.o (x : Spn) : Nat := od x.l (x.l + x.w - 1)
def Spn.L (x : Spn) : Nat := sL x.l x.w
def Spn.R (x : Spn) : Nat := sR x.l x.w
def dbl (x : Spn) (t : Nat) : Spn := ⟨x.l * 2 ^ t, x.w * 2 ^ t, x.d + t⟩
/-- how often a number is doubled until it is above another -/
def upT (m lim : Nat) : Nat := if 0 < m ∧ m ≤ lim then upT (m * 2) lim + 1 else 0
termination_by lim + 1 - m
decreasing_by omega
def plT (s : Nat) (x : Spn) : Nat := s - x.o
def peT (s : Nat) (x : Spn) : Nat := plT s x + upT (max (dbl x (plT s x)).L (dbl x (plT s x)).R) (2 ^ (s - 2))
def seT (man : Man) (s : Nat) (x : Spn) : Nat := match man with
  | .late => upT x.w (2 ^ (s - 1))
  | .pending => peT s x
  | _ => plT s x
def first (x : Spn) : Spn := ⟨x.l, x.L, x.d⟩
def last (x : Spn) : Spn := ⟨x.l + x.L, x.R, x.d⟩
def kept (x : Spn) : Spn := if x.R ≤ x.L then first x else last x
def gone (x : Spn) : Spn := if x.R ≤ x.L then last x else first x
/-- the settled span, how often it is doubled, what is lost -/
def settle (man : Man) (s : Nat) (x : Spn) : Spn × Nat × Option Spn :=
  let f := dbl x (seT man s x)
  if man = .cut then
    if 2 ^ (s - 2) < f.w then (dbl f (plT s f), seT man s x + plT s f, none)
    else (dbl (kept f) (plT s (kept f)), seT man s x + plT s (kept f), some (gone f))
  else (f, seT man s x, none)

theorem upT_le {m lim : Nat} (h : m ≤ lim) (h0 : 0 < m) : upT m lim = upT (m * 2) lim + 1 := by
  rw [upT, if_pos ⟨h0, h⟩]
theorem upT_gt {m lim : Nat} (h : lim < m) : upT m lim = 0 := by
  rw [upT, if_neg (by omega)]
theorem upT_above (m lim : Nat) (h0 : 0 < m) : lim < m * 2 ^ upT m lim := by
  induction m using upT.induct (lim := lim) with
  | case1 m h ih =>
    rw [upT_le h.2 h.1, pow_s, ← Nat.mul_assoc]
    exact ih (by omega)
  | case2 m h =>
    rw [upT_gt (by omega), Nat.pow_zero]
    omega
theorem upT_most : ∀ (k m lim : Nat), 0 < m → lim < m * 2 ^ k → upT m lim ≤ k
  | 0, m, lim, h0, h => by
    rw [Nat.pow_zero, Nat.mul_one] at h
    rw [upT_gt h]
    exact Nat.le_refl _
  | k + 1, m, lim, h0, h => by
    by_cases e : m ≤ lim
    · rw [upT_le e h0]
      rw [pow_s, ← Nat.mul_assoc] at h
      have := upT_most k (m * 2) lim (by omega) h
      omega
    · rw [upT_gt (by omega)]
      omega
theorem dbl_o {x : Spn} (h : 1 ≤ x.w) (t : Nat) : (dbl x t).o = x.o + t := od_up t x.l x.w h
theorem dbl_w {x : Spn} (h : 1 ≤ x.w) (t : Nat) : 1 ≤ (dbl x t).w := Nat.mul_pos h (pow_pos2 t)
theorem dbl_LR {x : Spn} (h : 2 ≤ x.w) (t : Nat) : (dbl x t).L = x.L * 2 ^ t ∧ (dbl x t).R = x.R * 2 ^ t := sides_up h t
/-- at least two bits are open: at least two cells -/
theorem two_of {x : Spn} (h : 1 ≤ x.w) (ho : 1 ≤ x.o) : 2 ≤ x.w := by
  by_cases e : x.w = 1
  · have : x.o = 0 := by
      unfold Spn.o
      rw [e, Nat.add_sub_cancel, od_same]
    omega
  · omega
/-- behind the plain manner at least s bits are open -/
theorem pl_open {x : Spn} (h : 1 ≤ x.w) (s : Nat) : s ≤ (dbl x (plT s x)).o := by
  rw [dbl_o h]
  unfold plT
  omega
theorem sp_two {x : Spn} (h : 1 ≤ x.w) {s : Nat} (hs : 2 ≤ s) (ho : s ≤ x.o) : 2 ≤ x.w := two_of h (by omega)

/-! ### spans that are alike -/
/-- in blocks at the same place -/
def BE (x y : Spn) : Prop := x.w = y.w ∧ ∃ J c c' u, x.l = c * 2 ^ J + u ∧ y.l = c' * 2 ^ J + u ∧ u + x.w ≤ 2 ^ J
theorem BE.up {x y : Spn} (h : BE x y) (t : Nat) : BE (dbl x t) (dbl y t) := by
  obtain ⟨e, J, c, c', u, h1, h2, h3⟩ := h
  refine ⟨congrArg (· * 2 ^ t) e, J + t, c, c', u * 2 ^ t, ?_, ?_, ?_⟩
  · show x.l * 2 ^ t = _
    rw [h1, Nat.add_mul, Nat.pow_add, Nat.mul_assoc]
  · show y.l * 2 ^ t = _
    rw [h2, Nat.add_mul, Nat.pow_add, Nat.mul_assoc]
  · show u * 2 ^ t + x.w * 2 ^ t ≤ _
    rw [← Nat.add_mul, Nat.pow_add]
    exact Nat.mul_le_mul_right _ h3
theorem BE.o {x y : Spn} (h : BE x y) (hw : 1 ≤ x.w) : x.o = y.o := by
  obtain ⟨e, J, c, c', u, h1, h2, h3⟩ := h
  unfold Spn.o
  rw [← e, h1, h2, show c * 2 ^ J + u + x.w - 1 = c * 2 ^ J + (u + x.w - 1) by omega, show c' * 2 ^ J + u + x.w - 1 = c' * 2 ^ J + (u + x.w - 1) by omega,
    od_shift J c _ _ (by omega) (by omega), od_shift J c' _ _ (by omega) (by omega)]
theorem BE.LR {x y : Spn} (h : BE x y) (hw : 2 ≤ x.w) : x.L = y.L ∧ x.R = y.R := by
  obtain ⟨e, J, c, c', u, h1, h2, h3⟩ := h
  obtain ⟨m, j, q, C⟩ := cen_of u x.w hw
  have hj : j < J := by
    have h4 := C.od_eq
    have h5 := od_le J u (u + x.w - 1) (by omega) (by omega)
    omega
  obtain ⟨a1, a2⟩ := sides_cen (C.shift hj c)
  obtain ⟨b1, b2⟩ := sides_cen (C.shift hj c')
  unfold Spn.L Spn.R
  rw [← e, h1, h2, a1, a2, b1, b2]
  constructor <;> omega
theorem BE.plT {x y : Spn} (h : BE x y) (hw : 1 ≤ x.w) (s : Nat) : plT s x = plT s y := by
  unfold Bm.plT
  rw [h.o hw]
/-- across the middles of blocks, which are open enough -/
def ST (s : Nat) (x y : Spn) : Prop := x.w = y.w ∧ s ≤ x.o ∧ s ≤ y.o ∧ x.L = y.L ∧ x.R = y.R
def Alike (s : Nat) (x y : Spn) : Prop := BE x y ∨ ST s x y
theorem Alike.w {s : Nat} {x y : Spn} (h : Alike s x y) : x.w = y.w := h.elim (·.1) (·.1)
theorem Alike.plT {s : Nat} {x y : Spn} (h : Alike s x y) (hw : 1 ≤ x.w) : plT s x = plT s y := by
  rcases h with h | h
  · exact h.plT hw s
  · obtain ⟨_, h1, h2, _⟩ := h
    unfold Bm.plT
    omega
/-- doubled as the plain manner says: alike sides -/
theorem Alike.LR {s : Nat} (hs : 2 ≤ s) {x y : Spn} (h : Alike s x y) (hw : 1 ≤ x.w) (t : Nat) (ht : s ≤ (dbl x t).o) (ht2 : s ≤ (dbl y t).o) : (dbl x t).L = (dbl y t).L ∧ (dbl x t).R = (dbl y t).R := by
  rcases h with h | h
  · exact (h.up t).LR (sp_two (dbl_w hw t) hs ht)
  · obtain ⟨e, h1, h2, h3, h4⟩ := h
    have w1 : 2 ≤ x.w := sp_two hw hs h1
    obtain ⟨a1, a2⟩ := dbl_LR w1 t
    obtain ⟨b1, b2⟩ := dbl_LR (show 2 ≤ y.w by omega) t
    rw [a1, a2, b1, b2, h3, h4]
    exact ⟨rfl, rfl⟩
/-- the left, the right cells of alike spans are at the same place of their blocks -/
theorem first_BE {x y : Spn} (hw : 2 ≤ x.w) (hw2 : 2 ≤ y.w) (hL : x.L = y.L) : BE (first x) (first y) := by
  obtain ⟨m, j, q, C⟩ := cen_of x.l x.w hw
  obtain ⟨m', j', q', C'⟩ := cen_of y.l y.w hw2
  obtain ⟨a1, _⟩ := sides_cen C
  obtain ⟨b1, _⟩ := sides_cen C'
  have hL' : sL x.l x.w = sL y.l y.w := hL
  rw [a1, b1] at hL'
  obtain ⟨e, a, b, c, d⟩ := C
  obtain ⟨e', a', b', c', d'⟩ := C'
  refine ⟨hL, ?_⟩
  show ∃ J c c' u, x.l = c * 2 ^ J + u ∧ y.l = c' * 2 ^ J + u ∧ u + sL x.l x.w ≤ 2 ^ J
  rw [a1]
  have key : ∀ (J m j q l : Nat), J ≤ j → m = (2 * q + 1) * 2 ^ j → l < m → m ≤ l + 2 ^ J → ∃ c, l = c * 2 ^ J + (2 ^ J - (m - l)) := by
    intro J m j q l hJ he hl hm
    have hp := pow_pos2 (j - J)
    have ep : 2 ^ j = 2 ^ (j - J) * 2 ^ J := by
      rw [← Nat.pow_add]
      congr 1
      omega
    refine ⟨(2 * q + 1) * 2 ^ (j - J) - 1, ?_⟩
    have h1 : ((2 * q + 1) * 2 ^ (j - J) - 1) * 2 ^ J = m - 2 ^ J := by
      rw [Nat.sub_mul, Nat.one_mul, he, ep, Nat.mul_assoc]
    rw [h1]
    have h2 : 2 ^ J ≤ m := by
      rw [he, ep, ← Nat.mul_assoc]
      exact Nat.le_mul_of_pos_left _ (Nat.mul_pos (by omega) hp)
    omega
  by_cases hj : j ≤ j'
  · obtain ⟨c1, k1⟩ := key j m j q x.l (Nat.le_refl _) e a c
    obtain ⟨c2, k2⟩ := key j m' j' q' y.l hj e' a' (by omega)
    exact ⟨j, c1, c2, _, k1, by rw [hL']; exact k2, by omega⟩
  · obtain ⟨c1, k1⟩ := key j' m j q x.l (by omega) e a (by omega)
    obtain ⟨c2, k2⟩ := key j' m' j' q' y.l (Nat.le_refl _) e' a' c'
    exact ⟨j', c1, c2, _, k1, by rw [hL']; exact k2, by omega⟩
theorem last_BE {x y : Spn} (hw : 2 ≤ x.w) (hw2 : 2 ≤ y.w) (hR : x.R = y.R) : BE (last x) (last y) := by
  obtain ⟨m, j, q, C⟩ := cen_of x.l x.w hw
  obtain ⟨m', j', q', C'⟩ := cen_of y.l y.w hw2
  obtain ⟨a1, a2⟩ := sides_cen C
  obtain ⟨b1, b2⟩ := sides_cen C'
  have hR' : sR x.l x.w = sR y.l y.w := hR
  rw [a2, b2] at hR'
  obtain ⟨e, a, b, c, d⟩ := C
  obtain ⟨e', a', b', c', d'⟩ := C'
  refine ⟨hR, ?_⟩
  show ∃ J c c' u, x.l + sL x.l x.w = c * 2 ^ J + u ∧ y.l + sL y.l y.w = c' * 2 ^ J + u ∧ u + sR x.l x.w ≤ 2 ^ J
  rw [a1, a2, b1]
  have key : ∀ (J m j q l : Nat), J ≤ j → m = (2 * q + 1) * 2 ^ j → l < m → ∃ c, l + (m - l) = c * 2 ^ J + 0 := by
    intro J m j q l hJ he hl
    have ep : 2 ^ j = 2 ^ (j - J) * 2 ^ J := by
      rw [← Nat.pow_add]
      congr 1
      omega
    refine ⟨(2 * q + 1) * 2 ^ (j - J), ?_⟩
    rw [Nat.mul_assoc, ← ep, ← he]
    omega
  by_cases hj : j ≤ j'
  · obtain ⟨c1, k1⟩ := key j m j q x.l (Nat.le_refl _) e a
    obtain ⟨c2, k2⟩ := key j m' j' q' y.l hj e' a'
    exact ⟨j, c1, c2, _, k1, k2, by omega⟩
  · obtain ⟨c1, k1⟩ := key j' m j q x.l (by omega) e a
    obtain ⟨c2, k2⟩ := key j' m' j' q' y.l (Nat.le_refl _) e' a'
    exact ⟨j', c1, c2, _, k1, k2, by omega⟩
theorem kept_BE {x y : Spn} (hw : 2 ≤ x.w) (hw2 : 2 ≤ y.w) (hL : x.L = y.L) (hR : x.R = y.R) : BE (kept x) (kept y) := by
  unfold kept
  rw [← hL, ← hR]
  split
  · exact first_BE hw hw2 hL
  · exact last_BE hw hw2 hR
theorem gone_w {x y : Spn} (hL : x.L = y.L) (hR : x.R = y.R) : (gone x).w = (gone y).w := by
  unfold gone
  rw [← hL, ← hR]
  split
  · exact hR
  · exact hL

/-! ### what settling comes to -/
theorem seT_alike {man : Man} {s : Nat} (hs : 2 ≤ s) {x y : Spn} (h : Alike s x y) (hw : 1 ≤ x.w) : seT man s x = seT man s y := by
  have e := h.plT hw (s := s)
  cases man with
  | plain => exact e
  | cut => exact e
  | late =>
    show upT x.w _ = upT y.w _
    rw [h.w]
  | pending =>
    show peT s x = peT s y
    obtain ⟨a, b⟩ := h.LR hs hw (plT s x) (pl_open hw s) (by rw [e]; exact pl_open (by have := h.w; omega) s)
    unfold peT
    rw [a, b, e]
/-- behind any manner but the cut's second part at least s bits are open -/
theorem seT_open {man : Man} {s : Nat} (hs : 2 ≤ s) {x : Spn} (hw : 1 ≤ x.w) : s ≤ (dbl x (seT man s x)).o := by
  rw [dbl_o hw]
  cases man with
  | plain =>
    show s ≤ x.o + (s - x.o)
    omega
  | cut =>
    show s ≤ x.o + (s - x.o)
    omega
  | pending =>
    show s ≤ x.o + (s - x.o + _)
    omega
  | late =>
    show s ≤ x.o + upT x.w (2 ^ (s - 1))
    have h1 := upT_above x.w (2 ^ (s - 1)) hw
    have h2 := od_wide x.l x.w hw
    have h3 : x.w * 2 ^ upT x.w (2 ^ (s - 1)) ≤ 2 ^ (x.o + upT x.w (2 ^ (s - 1))) := by
      rw [Nat.pow_add]
      exact Nat.mul_le_mul_right _ h2
    have h4 : s - 1 < x.o + upT x.w (2 ^ (s - 1)) := (Nat.pow_lt_pow_iff_right (by decide : 1 < 2)).mp (Nat.lt_of_lt_of_le h1 h3)
    omega
theorem settle_alike {man : Man} {s : Nat} (hs : 2 ≤ s) {x y : Spn} (h : Alike s x y) (hw : 1 ≤ x.w) :
    (settle man s x).2.1 = (settle man s y).2.1 ∧ (settle man s x).1.w = (settle man s y).1.w ∧ (settle man s x).1.L = (settle man s y).1.L ∧ (settle man s x).1.R = (settle man s y).1.R := by
  have et := seT_alike (man := man) hs h hw
  have hy : 1 ≤ y.w := by
    have := h.w
    omega
  have o1 := seT_open (man := man) hs hw
  have o2 := seT_open (man := man) hs hy
  have f1 := dbl_w hw (seT man s x)
  have f2 := dbl_w hy (seT man s y)
  obtain ⟨a, b⟩ := h.LR hs hw (seT man s x) o1 (by rw [et]; exact o2)
  rw [et] at o1 f1 a b
  have ew : (dbl x (seT man s y)).w = (dbl y (seT man s y)).w := by
    show x.w * _ = y.w * _
    rw [h.w]
  unfold settle
  rw [et]
  generalize hX : dbl x (seT man s y) = X at *
  generalize hY : dbl y (seT man s y) = Y at *
  by_cases hc : man = .cut
  · rw [if_pos hc, if_pos hc, ew]
    have w1 : 2 ≤ X.w := sp_two f1 hs o1
    have w2 : 2 ≤ Y.w := sp_two f2 hs o2
    by_cases hl : 2 ^ (s - 2) < Y.w
    · rw [if_pos hl, if_pos hl]
      have p1 : plT s X = 0 := by
        unfold plT
        omega
      have p2 : plT s Y = 0 := by
        unfold plT
        omega
      rw [p1, p2]
      obtain ⟨b1, b2⟩ := dbl_LR w1 0
      obtain ⟨c1, c2⟩ := dbl_LR w2 0
      refine ⟨rfl, ?_, ?_, ?_⟩
      · show X.w * _ = Y.w * _
        rw [ew]
      · show (dbl X 0).L = (dbl Y 0).L
        rw [b1, c1, a]
      · show (dbl X 0).R = (dbl Y 0).R
        rw [b2, c2, b]
    · rw [if_neg hl, if_neg hl]
      have B := kept_BE w1 w2 a b
      have kw : 1 ≤ (kept X).w := by
        have := sides_pos (l := X.l) w1
        unfold kept
        split
        · exact this.1
        · exact this.2.1
      have ep := B.plT kw s
      have B2 := B.up (plT s (kept Y))
      have o3 := pl_open kw s
      rw [ep] at o3
      obtain ⟨c1, c2⟩ := B2.LR (sp_two (dbl_w kw _) hs o3)
      rw [ep]
      exact ⟨rfl, B2.1, c1, c2⟩
  · rw [if_neg hc, if_neg hc]
    exact ⟨rfl, ew, a, b⟩
/-- the settled span is open enough -/
theorem kept_w {x : Spn} (h : 2 ≤ x.w) : 1 ≤ (kept x).w := by
  have := sides_pos (l := x.l) h
  unfold kept
  split
  · exact this.1
  · exact this.2.1
theorem settle_open {man : Man} {s : Nat} (hs : 2 ≤ s) {x : Spn} (hw : 1 ≤ x.w) : s ≤ (settle man s x).1.o ∧ 1 ≤ (settle man s x).1.w := by
  have o1 := seT_open (man := man) hs hw
  have f1 := dbl_w hw (seT man s x)
  unfold settle
  by_cases hc : man = .cut
  · rw [if_pos hc]
    split
    · exact ⟨pl_open f1 s, dbl_w f1 _⟩
    · exact ⟨pl_open (kept_w (sp_two f1 hs o1)) s, dbl_w (kept_w (sp_two f1 hs o1)) _⟩
  · rw [if_neg hc]
    exact ⟨o1, f1⟩
/-- more than half of what is open is used by cells that end, or begin, at the middle -/
theorem kept_half {x : Spn} (h : 2 ≤ x.w) : (kept x).o = 0 ∧ (kept x).w = 1 ∨ ∃ k, (kept x).o = k + 1 ∧ 2 ^ k < (kept x).w := by
  obtain ⟨m, j, q, C⟩ := cen_of x.l x.w h
  obtain ⟨a1, a2⟩ := sides_cen C
  obtain ⟨e, a, b, c, d⟩ := C
  have kp := kept_w h
  have key : ∀ y : Spn, 1 ≤ y.w → (y.l + y.w = m ∧ y.w ≤ 2 ^ j ∨ y.l = m ∧ y.w ≤ 2 ^ j) → y.o = 0 ∧ y.w = 1 ∨ ∃ k, y.o = k + 1 ∧ 2 ^ k < y.w := by
    intro y hy hh
    cases ho : y.o with
    | zero =>
      have := od_wide y.l y.w hy
      have e0 : od y.l (y.l + y.w - 1) = 0 := ho
      rw [e0, Nat.pow_zero] at this
      exact .inl ⟨rfl, by omega⟩
    | succ k =>
      refine .inr ⟨k, rfl, ?_⟩
      have hp := od_prev y.l (y.l + y.w - 1) k ho
      by_cases hlt : 2 ^ k < y.w
      · exact hlt
      · exfalso
        apply hp
        have hkj : k ≤ j := by
          rcases hh with ⟨h1, h2⟩ | ⟨h1, h2⟩
          · have hm : m = q * 2 ^ (j + 1) + 2 ^ j := by rw [e, pow_s, Nat.add_mul, Nat.one_mul, Nat.mul_comm 2 q, Nat.mul_assoc]
            have e3 : y.o = od (2 ^ j - y.w) (2 ^ j - 1) := by
              have hpj := pow_s j
              unfold Spn.o
              rw [show y.l = q * 2 ^ (j + 1) + (2 ^ j - y.w) by omega, show q * 2 ^ (j + 1) + (2 ^ j - y.w) + y.w - 1 = q * 2 ^ (j + 1) + (2 ^ j - 1) by omega]
              exact od_shift (j + 1) q _ _ (by omega) (by omega)
            have := od_le j (2 ^ j - y.w) (2 ^ j - 1) (by omega) (by have := pow_pos2 j; omega)
            omega
          · have hm : m = q * 2 ^ (j + 1) + 2 ^ j := by rw [e, pow_s, Nat.add_mul, Nat.one_mul, Nat.mul_comm 2 q, Nat.mul_assoc]
            have e3 : y.o = od 0 (y.w - 1) := by
              unfold Spn.o
              rw [h1, show m = (2 * q + 1) * 2 ^ j + 0 by omega, show (2 * q + 1) * 2 ^ j + 0 + y.w - 1 = (2 * q + 1) * 2 ^ j + (y.w - 1) by omega]
              exact od_shift j _ _ _ (pow_pos2 j) (by omega)
            have := od_le j 0 (y.w - 1) (by omega) (by omega)
            omega
        have hp2 := pow_pos2 k
        have ep : m = 2 ^ k * ((2 * q + 1) * 2 ^ (j - k)) := by
          rw [e, Nat.mul_left_comm, ← Nat.pow_add, Nat.mul_comm, Nat.mul_comm (2 ^ _)]
          congr 2
          omega
        generalize (2 * q + 1) * 2 ^ (j - k) = M at ep
        rcases hh with ⟨h1, h2⟩ | ⟨h1, h2⟩
        · have hM : 1 ≤ M := by
            cases M with
            | zero =>
              rw [Nat.mul_zero] at ep
              omega
            | succ M => omega
          have f1 : y.l = 2 ^ k * (M - 1) + (2 ^ k - y.w) := by
            rw [Nat.mul_sub, Nat.mul_one]
            have : 2 ^ k ≤ 2 ^ k * M := Nat.le_mul_of_pos_right _ hM
            omega
          have f2 : y.l + y.w - 1 = 2 ^ k * (M - 1) + (2 ^ k - 1) := by omega
          rw [f2, f1, Nat.mul_add_div hp2, Nat.mul_add_div hp2, Nat.div_eq_of_lt (by omega), Nat.div_eq_of_lt (by omega)]
        · rw [h1, ep, show 2 ^ k * M + y.w - 1 = 2 ^ k * M + (y.w - 1) by omega, Nat.mul_add_div hp2, Nat.mul_div_cancel_left _ hp2, Nat.div_eq_of_lt (by omega)]
          omega
  refine key (kept x) kp ?_
  unfold kept
  split
  · refine .inl ⟨?_, ?_⟩
    · show x.l + sL x.l x.w = m
      omega
    · show sL x.l x.w ≤ 2 ^ j
      omega
  · refine .inr ⟨?_, ?_⟩
    · show x.l + sL x.l x.w = m
      omega
    · show sR x.l x.w ≤ 2 ^ j
      omega
/-- settled again it stays -/
theorem settle_again {man : Man} {s : Nat} (hs : 2 ≤ s) {x : Spn} (hw : 1 ≤ x.w) : settle man s (settle man s x).1 = ((settle man s x).1, 0, none) := by
  obtain ⟨o1, w1⟩ := settle_open (man := man) hs hw
  have d0 : ∀ y : Spn, dbl y 0 = y := fun y => by
    unfold dbl
    rw [Nat.pow_zero, Nat.mul_one, Nat.mul_one]
    rfl
  have st : ∀ y : Spn, seT man s y = 0 → (man = .cut → 2 ^ (s - 2) < y.w ∧ plT s y = 0) → settle man s y = (y, 0, none) := fun y h1 h2 => by
    unfold settle
    rw [h1, d0]
    by_cases hc : man = .cut
    · obtain ⟨h3, h4⟩ := h2 hc
      rw [if_pos hc, if_pos h3, h4, d0]
    · rw [if_neg hc]
  have pz : plT s (settle man s x).1 = 0 := by
    unfold plT
    omega
  refine st _ ?_ ?_
  · cases man with
    | plain => exact pz
    | cut => exact pz
    | late =>
      have e : (settle .late s x).1 = dbl x (upT x.w (2 ^ (s - 1))) := by
        unfold settle
        rw [if_neg (by decide)]
        rfl
      rw [e]
      exact upT_gt (upT_above x.w _ hw)
    | pending =>
      show peT s _ = 0
      unfold peT
      rw [pz, Nat.zero_add, d0]
      have e : (settle .pending s x).1 = dbl x (peT s x) := by
        unfold settle
        rw [if_neg (by decide)]
        rfl
      rw [e]
      have o2 := pl_open hw s
      have w2 := sp_two (dbl_w hw (plT s x)) hs o2
      have e2 : dbl x (peT s x) = dbl (dbl x (plT s x)) (upT (max (dbl x (plT s x)).L (dbl x (plT s x)).R) (2 ^ (s - 2))) := by
        unfold peT dbl
        simp only [Nat.pow_add, Nat.mul_assoc, Nat.add_assoc]
      obtain ⟨b1, b2⟩ := dbl_LR w2 (upT (max (dbl x (plT s x)).L (dbl x (plT s x)).R) (2 ^ (s - 2)))
      rw [e2, b1, b2]
      refine upT_gt ?_
      have h1 := (sides_pos (l := (dbl x (plT s x)).l) w2).1
      have h2 : 1 ≤ (dbl x (plT s x)).L := h1
      have h3 := upT_above (max (dbl x (plT s x)).L (dbl x (plT s x)).R) (2 ^ (s - 2)) (by omega)
      rcases Nat.le_total (dbl x (plT s x)).L (dbl x (plT s x)).R with h | h
      · rw [Nat.max_eq_right h] at h3 ⊢
        exact Nat.lt_of_lt_of_le h3 (Nat.le_max_right _ _)
      · rw [Nat.max_eq_left h] at h3 ⊢
        exact Nat.lt_of_lt_of_le h3 (Nat.le_max_left _ _)
  · intro hc
    subst hc
    refine ⟨?_, pz⟩
    have f1 := dbl_w hw (seT .cut s x)
    have o2 := seT_open (man := .cut) hs hw
    have w2 := sp_two f1 hs o2
    unfold settle
    rw [if_pos rfl]
    split
    · rename_i h
      exact Nat.lt_of_lt_of_le h (Nat.le_mul_of_pos_right _ (pow_pos2 _))
    · rename_i h
      generalize dbl x (seT .cut s x) = X at *
      show 2 ^ (s - 2) < (kept X).w * 2 ^ plT s (kept X)
      have hs2 : 2 ^ (s - 2) < 2 ^ (s - 1) := Nat.pow_lt_pow_right (by decide) (by omega)
      have hs3 : 2 ^ (s - 1) < 2 ^ s := Nat.pow_lt_pow_right (by decide) (by omega)
      rcases kept_half w2 with ⟨h1, h2⟩ | ⟨k, h1, h2⟩
      · unfold plT
        rw [h1, h2, Nat.sub_zero, Nat.one_mul]
        omega
      · unfold plT
        rw [h1]
        by_cases hk : k + 1 ≤ s
        · have h3 : 2 ^ k * 2 ^ (s - (k + 1)) = 2 ^ (s - 1) := by
            rw [← Nat.pow_add]
            congr 1
            omega
          have h4 : 2 ^ k * 2 ^ (s - (k + 1)) < (kept X).w * 2 ^ (s - (k + 1)) := Nat.mul_lt_mul_of_pos_right h2 (pow_pos2 _)
          omega
        · have h3 : 2 ^ s ≤ 2 ^ k := Nat.pow_le_pow_right (by decide) (by omega)
          rw [show s - (k + 1) = 0 by omega, Nat.pow_zero, Nat.mul_one]
          omega
end Bm
set_option Elab.async false
set_option linter.all false
set_option maxRecDepth 100000
set_option maxHeartbeats 4000000
/-! Spans and coders as data. -/
namespace G
open PySem PySem.Spec PyProof.Rows L2 Hd Bm
abbrev dI (n : Nat) : PD := .int (n : Int)
def dOpt : Option Nat → PD
  | none => .none
  | some n => dI n
def dSp (x : Spn) : PD := .tuple [dI x.l, dI x.w, dI x.d]
def dSpO : Option Spn → PD
  | none => .none
  | some x => dSp x
structure Ent where
  c : Nat
  n : Nat
  to : Option Nat
structure Cod where
  size : Nat
  ctx : List (List Ent)
  fine : Bool
  man : Man
abbrev sgn (c : Nat) : Str := ⟨#[c]⟩
def dEnt (e : Ent) : PD := .tuple [.str (sgn e.c), dI e.n, dOpt e.to]
def dCtx (x : List Ent) : PD := .tuple (x.map dEnt)
def manS : Man → Str
  | .plain => "plain"
  | .pending => "pending"
  | .cut => "cut"
  | .late => "late"
def divS (b : Bool) : Str := if b then "fine" else "coarse"
def dCod (c : Cod) : PD := .tuple [dI c.size, .tuple (c.ctx.map dCtx), .str (divS c.fine), .str (manS c.man)]
theorem man_late (m : Man) : decide (manS m = "late") = decide (m = .late) := by cases m <;> decide +kernel
theorem man_pending (m : Man) : decide (manS m = "pending") = decide (m = .pending) := by cases m <;> decide +kernel
theorem man_cut (m : Man) : decide (manS m = "cut") = decide (m = .cut) := by cases m <;> decide +kernel
theorem div_fine (b : Bool) : decide (divS b = "fine") = b := by cases b <;> decide +kernel
theorem div_coarse (b : Bool) : decide (divS b = "coarse") = !b := by cases b <;> decide +kernel

/-! ### bits -/
def bitsN (n : Nat) : Nat := if n = 0 then 0 else n.log2 + 1
theorem bitsN_half {n : Nat} (h : n ≠ 0) : bitsN n = bitsN (n / 2) + 1 := by
  unfold bitsN
  rw [if_neg h]
  by_cases e : n / 2 = 0
  · have : n = 1 := by omega
    subst this
    decide
  · rw [if_neg e, Nat.log2_def, if_pos (by omega)]
theorem bits_od (l h : Nat) : bitsN (l ^^^ h) = od l h := by
  induction l, h using od.induct with
  | case1 l =>
    rw [od_same, Nat.xor_self]
    rfl
  | case2 l h e ih =>
    rw [od_ne e, bitsN_half, Nat.xor_div_two, ih]
    intro z
    have q : l ^^^ h ^^^ h = h := by
      rw [z, Nat.zero_xor]
    rw [Nat.xor_assoc, Nat.xor_self, Nat.xor_zero] at q
    exact e q
theorem intBits_nat (n : Nat) : Builtin.Int.intBits (n : Int) = bitsN n := by
  unfold Builtin.Int.intBits bitsN
  by_cases h : n = 0
  · subst h
    rfl
  · rw [if_neg h, if_neg (by simp; exact h), Int.natAbs_natCast]
theorem open_bits (x : Spn) (h : 1 ≤ x.w) : Builtin.Int.intBits (Builtin.bitXor (x.l : Int) ((x.l : Int) + (x.w : Int) - 1)) = x.o := by
  have e : ((x.l : Int) + (x.w : Int) - 1) = ((x.l + x.w - 1 : Nat) : Int) := by omega
  rw [e, Bits.bitXor_pp (Int.natCast_nonneg _) (Int.natCast_nonneg _), Int.toNat_natCast, Int.toNat_natCast, intBits_nat, bits_od]
  rfl
theorem natAbs_nat {n k : Nat} (h : n < k) : (n : Int).natAbs < k := by
  rw [Int.natAbs_natCast]
  exact h
theorem shl_nat {m t : Nat} (hm : m < 2 ^ 250) (ht : t ≤ 1000) : CShl (m : Int) (t : Int) := shl_ok (natAbs_nat hm) (by omega)
theorem i_shl (m t : Nat) : (m : Int) * 2 ^ (t : Int).toNat = ((m * 2 ^ t : Nat) : Int) := by
  rw [Int.toNat_natCast]
  push_cast
  rfl
theorem i_shr (m t : Nat) : (m : Int) / 2 ^ (t : Int).toNat = ((m / 2 ^ t : Nat) : Int) := by
  rw [Int.toNat_natCast]
  push_cast
  rfl
/-- what a span must be for the program's and the law's numbers -/
structure SOk (x : Spn) : Prop where
  w : 1 ≤ x.w
  b : x.l + x.w ≤ 2 ^ x.d
  d : x.d ≤ 200
theorem SOk.lt {x : Spn} (h : SOk x) : x.l < 2 ^ 250 ∧ x.w < 2 ^ 250 ∧ x.l + x.w < 2 ^ 250 := by
  have h1 : 2 ^ x.d < 2 ^ 250 := Nat.pow_lt_pow_right (by decide) (by have := h.d; omega)
  have := h.b
  have := h.w
  generalize 2 ^ 250 = z at *
  generalize 2 ^ x.d = y at *
  omega
theorem SOk.up {x : Spn} (h : SOk x) {t : Nat} (ht : x.d + t ≤ 200) : SOk (dbl x t) :=
  ⟨dbl_w h.w t, by
    show x.l * 2 ^ t + x.w * 2 ^ t ≤ 2 ^ (x.d + t)
    rw [← Nat.add_mul, Nat.pow_add]
    exact Nat.mul_le_mul_right _ h.b, ht⟩
theorem SOk.first {x : Spn} (h : SOk x) (h2 : 2 ≤ x.w) : SOk (Bm.first x) := by
  have p := sides_pos (l := x.l) h2
  exact ⟨p.1, by
    show x.l + sL x.l x.w ≤ 2 ^ x.d
    have := h.b
    omega, h.d⟩
theorem SOk.last {x : Spn} (h : SOk x) (h2 : 2 ≤ x.w) : SOk (Bm.last x) := by
  have p := sides_pos (l := x.l) h2
  exact ⟨p.2.1, by
    show x.l + sL x.l x.w + sR x.l x.w ≤ 2 ^ x.d
    have := h.b
    omega, h.d⟩
theorem SOk.kept {x : Spn} (h : SOk x) (h2 : 2 ≤ x.w) : SOk (Bm.kept x) := by
  unfold Bm.kept
  split
  · exact h.first h2
  · exact h.last h2
theorem SOk.gone {x : Spn} (h : SOk x) (h2 : 2 ≤ x.w) : SOk (Bm.gone x) := by
  unfold Bm.gone
  split
  · exact h.last h2
  · exact h.first h2
theorem plT_le (s : Nat) (x : Spn) : plT s x ≤ s := Nat.sub_le _ _
theorem seT_le {man : Man} {s : Nat} (hs : 2 ≤ s) {x : Spn} (hw : 1 ≤ x.w) : seT man s x ≤ 2 * s := by
  have p := plT_le s x
  cases man with
  | plain =>
    show plT s x ≤ _
    omega
  | cut =>
    show plT s x ≤ _
    omega
  | late =>
    refine Nat.le_trans (upT_most s x.w _ hw ?_) (by omega)
    have h1 : 2 ^ (s - 1) < 2 ^ s := Nat.pow_lt_pow_right (by decide) (by omega)
    exact Nat.lt_of_lt_of_le h1 (Nat.le_mul_of_pos_left _ hw)
  | pending =>
    show plT s x + upT _ _ ≤ _
    have h2 := sp_two (dbl_w hw (plT s x)) hs (pl_open hw s)
    have h3 : 1 ≤ (dbl x (plT s x)).L := (sides_pos (l := (dbl x (plT s x)).l) h2).1
    have h4 := upT_most s (max (dbl x (plT s x)).L (dbl x (plT s x)).R) (2 ^ (s - 2)) (by omega) (by
      have h1 : 2 ^ (s - 2) < 2 ^ s := Nat.pow_lt_pow_right (by decide) (by omega)
      exact Nat.lt_of_lt_of_le h1 (Nat.le_mul_of_pos_left _ (by omega)))
    omega
/-- settled spans keep in bounds -/
theorem settle_ok {man : Man} {s : Nat} (hs : 2 ≤ s) {x : Spn} (h : SOk x) (hd : x.d + 3 * s ≤ 200) : SOk (Bm.settle man s x).1 ∧ (Bm.settle man s x).2.1 ≤ 3 * s ∧ (Bm.settle man s x).1.d = x.d + (Bm.settle man s x).2.1 ∧ (∀ y, (Bm.settle man s x).2.2 = some y → SOk y ∧ y.d ≤ x.d + 2 * s) := by
  have hw := h.w
  have t1 := seT_le (man := man) hs hw
  have o1 := seT_open (man := man) hs hw
  have k1 := h.up (t := seT man s x) (by omega)
  have w2 := sp_two k1.w hs o1
  unfold Bm.settle
  by_cases hc : man = .cut
  · have t2 : seT man s x ≤ s := by
      subst hc
      exact plT_le s x
    rw [if_pos hc]
    split
    · have := plT_le s (dbl x (seT man s x))
      refine ⟨k1.up (by show x.d + _ + _ ≤ 200; omega), by show _ + _ ≤ _; omega, Nat.add_assoc .., fun y e => ?_⟩
      cases e
    · have := plT_le s (kept (dbl x (seT man s x)))
      have kd : (kept (dbl x (seT man s x))).d = x.d + seT man s x := by
        unfold kept
        split <;> rfl
      refine ⟨(k1.kept w2).up (by rw [kd]; omega), by show _ + _ ≤ _; omega, ?_, fun y e => ?_⟩
      · show (kept (dbl x (seT man s x))).d + _ = _
        rw [kd, Nat.add_assoc]
      · cases e
        refine ⟨k1.gone w2, ?_⟩
        have gd : (gone (dbl x (seT man s x))).d = x.d + seT man s x := by
          unfold gone
          split <;> rfl
        rw [gd]
        omega
  · rw [if_neg hc]
    refine ⟨k1, by show seT man s x ≤ _; omega, rfl, fun y e => ?_⟩
    cases e
end G
set_option Elab.async false
set_option linter.all false
set_option maxRecDepth 100000
set_option maxHeartbeats 4000000
namespace G
open PySem PySem.Spec PyProof.Rows L2 Hd Bm
section
variable {P : Program} {w : World} {K : PySem.W.Frag} {mg : Str → Option Value} {base : Heap}
abbrev FF (P : Program) (w : World) (K : PySem.W.Frag) (mg : Str → Option Value) (base : Heap) (k : Nat) (x : Str) (S : List PD → PD → Prop) : Prop := Fn P w K mg base k x S

def S_open_depth : List PD → PD → Prop := fun ds d => ∃ x : Spn, 1 ≤ x.w ∧ ds = [dSp x] ∧ d = dI x.o
theorem sc_open_depth : FnScope ["span", "low", "width", "depth"] ["span"] (defScope s_open_depth) := ⟨rfl, rfl, rfl, by decide +kernel, rfl, by decide +kernel, by decide +kernel⟩
theorem f_open_depth (F : At K mg "open_depth" s_open_depth) : Fn P w K mg base 1 "open_depth" S_open_depth := by
  refine fn_at F sc_open_depth (fun _ _ _ _ _ _ us hl => match us, hl with | [_], _ => rfl) (fun ds d h => ?_) (fun f cdv A outer s H E hr ds d h => ?_)
  · obtain ⟨x, _, rfl, _⟩ := h
    rfl
  · obtain ⟨x, hx, rfl, rfl⟩ := h
    refine sv_bind (nm 0) (bd_tup (bds_cons (bd_nm 1) (bds_cons (bd_nm 2) (bds_cons (bd_nm 3) bds_nil)))) ?_
    exact sv_ret (ev_bits (ev_xor (nm 1) (ev_sub (ev_add (nm 1) (nm 2)) ev_int))) (by
      show dI _ = dI _
      rw [open_bits x hx])
def S_sides_of : List PD → PD → Prop := fun ds d => ∃ x : Spn, SOk x ∧ 2 ≤ x.w ∧ ds = [dSp x] ∧ d = .tuple [dI x.L, dI x.R]
theorem sc_sides_of : FnScope ["span", "place", "middle", "low", "width", "depth"] ["span"] (defScope s_sides_of) := ⟨rfl, rfl, rfl, by decide +kernel, rfl, by decide +kernel, by decide +kernel⟩
theorem f_sides_of (F : At K mg "sides_of" s_sides_of) (F_open_depth : Fn P w K mg base 1 "open_depth" S_open_depth) : Fn P w K mg base 2 "sides_of" S_sides_of := by
  refine fn_at F sc_sides_of (fun _ _ _ _ _ _ us hl => match us, hl with | [_], _ => rfl) (fun ds d h => ?_) (fun f cdv A outer s H E hr ds d h => ?_)
  · obtain ⟨x, _, _, rfl, _⟩ := h
    rfl
  · obtain ⟨x, hx, h2, rfl, rfl⟩ := h
    obtain ⟨m, j, q, C⟩ := cen_of x.l x.w h2
    have ho : x.o = j + 1 := C.od_eq
    have hm := C.midP_eq
    obtain ⟨e1, e2⟩ := sides_cen C
    have ho' : od x.l (x.l + x.w - 1) = j + 1 := ho
    unfold midP at hm
    rw [ho', Nat.add_sub_cancel] at hm
    obtain ⟨_, ma, mb, _, _⟩ := C
    have hj : j ≤ 1000 := by
      have := od_le x.d x.l (x.l + x.w - 1) (by have := hx.w; omega) (by have := hx.b; have := hx.w; omega)
      have := hx.d
      omega
    refine sv_bind (nm 0) (bd_tup (bds_cons (bd_nm 3) (bds_cons (bd_nm 4) (bds_cons (bd_nm 5) bds_nil)))) ?_
    refine sv_asg 1 (ev_is (d := dI j) (ev_sub (ev_call F_open_depth (hr.mono (by decide)) (ea_cons (nm 0) ea_nil) ⟨x, hx.w, rfl, rfl⟩) ev_int) (by
      show PyData.int ((x.o : Int) - 1) = dI j
      rw [ho]
      congr 1
      omega)) ?_
    refine sv_asg 2 (ev_is (d := dI m) (ev_shl (i := (((x.l + x.w - 1) / 2 ^ j : Nat) : Int)) (j := (j : Int)) ?_ (ev_is (ev_shr (j := (j : Int)) (Int.natCast_nonneg _) (ev_sub (ev_add (nm 3) (nm 4)) ev_int) (nm 1)) ?_) (nm 1)) ?_) ?_
    · refine shl_nat (Nat.lt_of_le_of_lt (Nat.div_le_self _ _) ?_) hj
      have := hx.lt
      have := hx.w
      omega
    · rw [show ((x.l : Int) + (x.w : Int) - 1) = ((x.l + x.w - 1 : Nat) : Int) by have := hx.w; omega, i_shr]
    · rw [i_shl, hm]
    exact sv_ret (ev_tup (ea_cons (ev_sub (nm 2) (nm 3)) (ea_cons (ev_sub (ev_add (nm 3) (nm 4)) (nm 2)) ea_nil))) (by
      show PyData.tuple [.int ((m : Int) - (x.l : Int)), .int ((x.l : Int) + (x.w : Int) - (m : Int))] = .tuple [dI (sL x.l x.w), dI (sR x.l x.w)]
      rw [e1, e2]
      congr 2
      · congr 1
        omega
      · congr 2
        omega)
def S_doubled_by : List PD → PD → Prop := fun ds d => ∃ (x : Spn) (t : Nat), x.l < 2 ^ 250 ∧ x.w < 2 ^ 250 ∧ t ≤ 1000 ∧ ds = [dSp x, dI t] ∧ d = dSp (dbl x t)
theorem sc_doubled_by : FnScope ["span", "times", "low", "width", "depth"] ["span", "times"] (defScope s_doubled_by) := ⟨rfl, rfl, rfl, by decide +kernel, rfl, by decide +kernel, by decide +kernel⟩
theorem f_doubled_by (F : At K mg "doubled_by" s_doubled_by) : Fn P w K mg base 1 "doubled_by" S_doubled_by := by
  refine fn_at F sc_doubled_by (fun _ _ _ _ _ _ us hl => match us, hl with | [_, _], _ => rfl) (fun ds d h => ?_) (fun f cdv A outer s H E hr ds d h => ?_)
  · obtain ⟨x, t, _, _, _, rfl, _⟩ := h
    rfl
  · obtain ⟨x, t, hl, hw, ht, rfl, rfl⟩ := h
    refine sv_bind (nm 0) (bd_tup (bds_cons (bd_nm 2) (bds_cons (bd_nm 3) (bds_cons (bd_nm 4) bds_nil)))) ?_
    exact sv_ret (ev_tup (ea_cons (ev_shl (shl_nat hl ht) (nm 2) (nm 1)) (ea_cons (ev_shl (shl_nat hw ht) (nm 3) (nm 1)) (ea_cons (ev_add (nm 4) (nm 1)) ea_nil)))) (by
      rw [i_shl, i_shl]
      rfl)
def S_plain_times : List PD → PD → Prop := fun ds d => ∃ (x : Spn) (s : Nat), 1 ≤ x.w ∧ ds = [dSp x, dI s] ∧ d = dI (plT s x)
theorem sc_plain_times : FnScope ["span", "size"] ["span", "size"] (defScope s_plain_times) := ⟨rfl, rfl, rfl, by decide +kernel, rfl, by decide +kernel, by decide +kernel⟩
theorem f_plain_times (B : Blt mg) (F : At K mg "plain_times" s_plain_times) (F_open_depth : Fn P w K mg base 1 "open_depth" S_open_depth) : Fn P w K mg base 2 "plain_times" S_plain_times := by
  refine fn_at F sc_plain_times (fun _ _ _ _ _ _ us hl => match us, hl with | [_, _], _ => rfl) (fun ds d h => ?_) (fun f cdv A outer s H E hr ds d h => ?_)
  · obtain ⟨x, t, _, rfl, _⟩ := h
    rfl
  · obtain ⟨x, z, hw, rfl, rfl⟩ := h
    exact sv_ret (ev_max2 B.max ev_int (ev_sub (nm 1) (ev_call F_open_depth (hr.mono (by decide)) (ea_cons (nm 0) ea_nil) ⟨x, hw, rfl, rfl⟩))) (by
      show PyData.int (if ((z : Int) - (x.o : Int)) > 0 then ((z : Int) - (x.o : Int)) else 0) = dI (z - x.o)
      congr 1
      split <;> omega)
def S_late_times : List PD → PD → Prop := fun ds d => ∃ (x : Spn) (s : Nat), SOk x ∧ 2 ≤ s ∧ s ≤ 5 ∧ ds = [dSp x, dI s] ∧ d = dI (upT x.w (2 ^ (s - 1)))
theorem sc_late_times : FnScope ["span", "size", "times"] ["span", "size"] (defScope s_late_times) := ⟨rfl, rfl, rfl, by decide +kernel, rfl, by decide +kernel, by decide +kernel⟩
theorem i_one_shl (z k : Nat) (h : k ≤ z) : ((1 : Int) * 2 ^ ((z : Int) - (k : Int)).toNat) = ((2 ^ (z - k) : Nat) : Int) := by
  rw [show ((z : Int) - (k : Int)).toNat = z - k by omega, Int.one_mul]
  push_cast
  rfl
theorem f_late_times (F : At K mg "late_times" s_late_times) : Fn P w K mg base 1 "late_times" S_late_times := by
  refine fn_at F sc_late_times (fun _ _ _ _ _ _ us hl => match us, hl with | [_, _], _ => rfl) (fun ds d h => ?_) (fun f cdv A outer s H E hr ds d h => ?_)
  · obtain ⟨x, z, _, _, _, rfl, _⟩ := h
    rfl
  · obtain ⟨x, z, hx, hz, hz2, rfl, rfl⟩ := h
    have hm : upT x.w (2 ^ (z - 1)) ≤ z := upT_most z x.w _ hx.w (by
      have h1 : 2 ^ (z - 1) < 2 ^ z := Nat.pow_lt_pow_right (by decide) (by omega)
      exact Nat.lt_of_lt_of_le h1 (Nat.le_mul_of_pos_left _ hx.w))
    refine sv_asg 2 ev_int ?_
    refine sv_while (fun m r => ∃ t : Nat, r = [some (.d (dSp x)), some (.d (dI z)), some (.d (dI t))] ∧ upT x.w (2 ^ (z - 1)) = t + m ∧ m = upT (x.w * 2 ^ t) (2 ^ (z - 1))) (upT x.w (2 ^ (z - 1))) ⟨0, rfl, (Nat.zero_add _).symm, by rw [Nat.pow_zero, Nat.mul_one]⟩ (fun m r hw => ?_)
    obtain ⟨t, rfl, h1, h2⟩ := hw
    refine ⟨decide (x.w * 2 ^ t ≤ 2 ^ (z - 1)), et_is (et_cmp c_le (ev_shl (shl_nat hx.lt.2.1 (show t ≤ 1000 by omega)) (ev_ixT (nm 0) ev_int (by rfl)) (nm 2)) (ev_shl (i := 1) (j := (z : Int) - 1) ?_ ev_int (ev_sub (nm 1) ev_int))) ?_, fun h => ?_, fun h => ?_⟩
    · have := shl_nat (m := 1) (t := z - 1) (by decide) (by omega)
      rw [show (((z - 1 : Nat) : Int)) = (z : Int) - 1 by omega] at this
      exact this
    · rw [i_shl, show ((z : Int) - 1) = ((z : Int) - ((1 : Nat) : Int)) by rfl, i_one_shl z 1 (by omega)]
      exact decide_eq_decide.mpr Int.ofNat_le
    ·
      have hle := of_decide_eq_true h
      rw [upT_le hle (Nat.mul_pos hx.w (pow_pos2 t)), Nat.mul_assoc, ← (show 2 ^ (t + 1) = 2 ^ t * 2 from Nat.pow_succ ..)] at h2
      refine sv_aug 2 ev_int (sv_nil ⟨m - 1, by omega, t + 1, rfl, by omega, by omega⟩)
    ·
      have hle := of_decide_eq_false h
      rw [upT_gt (by omega)] at h2
      exact sv_ret (nm 2) (by
        rw [h1, h2]
        rfl)
def S_pending_times : List PD → PD → Prop := fun ds d => ∃ (x : Spn) (s : Nat), SOk x ∧ x.d + 5 ≤ 200 ∧ 2 ≤ s ∧ s ≤ 5 ∧ ds = [dSp x, dI s] ∧ d = dI (peT s x)
theorem sc_pending_times : FnScope ["span", "size", "times", "most"] ["span", "size"] (defScope s_pending_times) := ⟨rfl, rfl, rfl, by decide +kernel, rfl, by decide +kernel, by decide +kernel⟩
/-- max of a pair -/
theorem f_pending_times (B : Blt mg)
    (F : At K mg "pending_times" s_pending_times) (F_plain_times : Fn P w K mg base 2 "plain_times" S_plain_times) (F_sides_of : Fn P w K mg base 2 "sides_of" S_sides_of) (F_doubled_by : Fn P w K mg base 1 "doubled_by" S_doubled_by) : Fn P w K mg base 3 "pending_times" S_pending_times := by
  refine fn_at F sc_pending_times (fun _ _ _ _ _ _ us hl => match us, hl with | [_, _], _ => rfl) (fun ds d h => ?_) (fun f cdv A outer s H E hr ds d h => ?_)
  · obtain ⟨x, z, _, _, _, _, rfl, _⟩ := h
    rfl
  · obtain ⟨x, z, hx, hd, hz, hz2, rfl, rfl⟩ := h
    have hp := plT_le z x
    have k1 := hx.up (t := plT z x) (by omega)
    have w2 := sp_two k1.w hz (pl_open hx.w z)
    have p2 := sides_pos (l := (dbl x (plT z x)).l) w2
    have hL : 1 ≤ (dbl x (plT z x)).L := p2.1
    have hR : 1 ≤ (dbl x (plT z x)).R := p2.2.1
    have hLR : (dbl x (plT z x)).L + (dbl x (plT z x)).R = (dbl x (plT z x)).w := p2.2.2
    have hmx : max (dbl x (plT z x)).L (dbl x (plT z x)).R < 2 ^ 250 := by
      have := k1.lt
      omega
    generalize hM : max (dbl x (plT z x)).L (dbl x (plT z x)).R = M at hmx
    have hM1 : 1 ≤ M := by omega
    have hm : upT M (2 ^ (z - 2)) ≤ z := upT_most z M _ hM1 (by
      have h1 : 2 ^ (z - 2) < 2 ^ z := Nat.pow_lt_pow_right (by decide) (by omega)
      exact Nat.lt_of_lt_of_le h1 (Nat.le_mul_of_pos_left _ hM1))
    refine sv_asg 2 (ev_call F_plain_times (hr.mono (by decide)) (ea_cons (nm 0) (ea_cons (nm 1) ea_nil)) ⟨x, z, hx.w, rfl, rfl⟩) ?_
    refine sv_asg 3 (ev_is (d := dI M) (ev_maxT (rm2 hr) B.max (ev_call F_sides_of (hr.mono (by decide)) (ea_cons (ev_call F_doubled_by (hr.mono (by decide)) (ea_cons (nm 0) (ea_cons (nm 2) ea_nil)) ⟨x, plT z x, hx.lt.1, hx.lt.2.1, by omega, rfl, rfl⟩) ea_nil) ⟨_, k1, w2, rfl, rfl⟩)) ?_) ?_
    · rw [← hM]
      congr 1
      split <;> omega
    refine sv_while (fun m r => ∃ t : Nat, r = [some (.d (dSp x)), some (.d (dI z)), some (.d (dI (plT z x + t))), some (.d (dI (M * 2 ^ t)))] ∧ upT M (2 ^ (z - 2)) = t + m ∧ m = upT (M * 2 ^ t) (2 ^ (z - 2))) (upT M (2 ^ (z - 2))) ⟨0, by rw [Nat.pow_zero, Nat.mul_one]; rfl, (Nat.zero_add _).symm, by rw [Nat.pow_zero, Nat.mul_one]⟩ (fun m r hw => ?_)
    obtain ⟨t, rfl, h1, h2⟩ := hw
    refine ⟨decide (M * 2 ^ t ≤ 2 ^ (z - 2)), et_is (et_cmp c_le (nm 3) (ev_shl (i := 1) (j := (z : Int) - 2) ?_ ev_int (ev_sub (nm 1) ev_int))) ?_, fun h => ?_, fun h => ?_⟩
    · have := shl_nat (m := 1) (t := z - 2) (by decide) (by omega)
      rw [show (((z - 2 : Nat) : Int)) = (z : Int) - 2 by omega] at this
      exact this
    · rw [show ((z : Int) - 2) = ((z : Int) - ((2 : Nat) : Int)) by rfl, i_one_shl z 2 (by omega)]
      exact decide_eq_decide.mpr Int.ofNat_le
    · have hle := of_decide_eq_true h
      have hlt : M * 2 ^ t < 2 ^ 250 := Nat.lt_of_le_of_lt hle (Nat.pow_lt_pow_right (by decide) (by omega))
      rw [upT_le hle (Nat.mul_pos hM1 (pow_pos2 t)), Nat.mul_assoc, ← (show 2 ^ (t + 1) = 2 ^ t * 2 from Nat.pow_succ ..)] at h2
      refine sv_asg 3 (ev_is (d := dI (M * 2 ^ (t + 1))) (ev_shl (shl_nat (t := 1) hlt (by decide)) (nm 3) ev_int) ?_) ?_
      · rw [i_shl (M * 2 ^ t) 1, Nat.pow_one, Nat.mul_assoc, ← Nat.pow_succ]
      exact sv_aug 2 ev_int (sv_nil ⟨m - 1, by omega, t + 1, rfl, by omega, by omega⟩)
    ·
      have hle := of_decide_eq_false h
      rw [upT_gt (by omega)] at h2
      exact sv_ret (nm 2) (by
        unfold peT
        rw [hM, h1, h2]
        rfl)
def S_cut_apart : List PD → PD → Prop := fun ds d => ∃ (x : Spn) (s : Nat), SOk x ∧ 2 ≤ x.w ∧ 2 ≤ s ∧ s ≤ 5 ∧ ds = [dSp x, dI s] ∧ d = .tuple (if 2 ^ (s - 2) < x.w then [dSp x, .none] else [dSp (kept x), dSp (gone x)])
theorem sc_cut_apart : FnScope ["span", "size", "low", "width", "depth", "left", "right", "first", "last"] ["span", "size"] (defScope s_cut_apart) := ⟨rfl, rfl, rfl, by decide +kernel, rfl, by decide +kernel, by decide +kernel⟩
theorem f_cut_apart (F : At K mg "cut_apart" s_cut_apart) (F_sides_of : Fn P w K mg base 2 "sides_of" S_sides_of) : Fn P w K mg base 3 "cut_apart" S_cut_apart := by
  refine fn_at F sc_cut_apart (fun _ _ _ _ _ _ us hl => match us, hl with | [_, _], _ => rfl) (fun ds d h => ?_) (fun f cdv A outer s H E hr ds d h => ?_)
  · obtain ⟨x, z, _, _, _, _, rfl, _⟩ := h
    rfl
  · obtain ⟨x, z, hx, h2, hz, hz2, rfl, rfl⟩ := h
    refine sv_bind (nm 0) (bd_tup (bds_cons (bd_nm 2) (bds_cons (bd_nm 3) (bds_cons (bd_nm 4) bds_nil)))) ?_
    refine sv_if (k := decide (2 ^ (z - 2) < x.w)) (et_is (et_cmp c_gt (nm 3) (ev_shl (i := 1) (j := (z : Int) - 2) ?_ ev_int (ev_sub (nm 1) ev_int))) ?_) (fun h => ?_) (fun h => ?_)
    · have := shl_nat (m := 1) (t := z - 2) (by decide) (by omega)
      rw [show (((z - 2 : Nat) : Int)) = (z : Int) - 2 by omega] at this
      exact this
    · rw [show ((z : Int) - 2) = ((z : Int) - ((2 : Nat) : Int)) by rfl, i_one_shl z 2 (by omega)]
      exact decide_eq_decide.mpr Int.ofNat_lt
    ·
      exact sv_ret (ev_tup (ea_cons (nm 0) (ea_cons ev_non ea_nil))) (by
        rw [if_pos (of_decide_eq_true h)])
    · refine sv_nil ?_
      refine sv_bind (ev_call F_sides_of (hr.mono (by decide)) (ea_cons (nm 0) ea_nil) ⟨x, hx, h2, rfl, rfl⟩) (bd_tup (bds_cons (bd_nm 5) (bds_cons (bd_nm 6) bds_nil))) ?_
      refine sv_par 7 8 (ev_tup (ea_cons (nm 2) (ea_cons (nm 5) (ea_cons (nm 4) ea_nil)))) (ev_tup (ea_cons (ev_add (nm 2) (nm 5)) (ea_cons (nm 6) (ea_cons (nm 4) ea_nil)))) ?_
      refine sv_ret (d := .tuple [dSp (kept x), dSp (gone x)]) (ev_if (et_cmp c_ge (nm 5) (nm 6)) (fun h => ev_is (ev_tup (ea_cons (nm 7) (ea_cons (nm 8) ea_nil))) ?_) (fun h => ev_is (ev_tup (ea_cons (nm 8) (ea_cons (nm 7) ea_nil))) ?_)) (by
        rw [if_neg (of_decide_eq_false ‹_›)])
      · have hle : x.R ≤ x.L := Int.ofNat_le.mp (of_decide_eq_true h)
        unfold kept gone
        rw [if_pos hle, if_pos hle]
        rfl
      · have hle : ¬ x.R ≤ x.L := fun q => of_decide_eq_false h (Int.ofNat_le.mpr q)
        unfold kept gone
        rw [if_neg hle, if_neg hle]
        rfl
def S_settle : List PD → PD → Prop := fun ds d => ∃ (c : Cod) (x : Spn), SOk x ∧ x.d + 3 * c.size ≤ 200 ∧ 2 ≤ c.size ∧ c.size ≤ 5 ∧ ds = [dCod c, dSp x] ∧ d = .tuple [dSp (Bm.settle c.man c.size x).1, dI (Bm.settle c.man c.size x).2.1, dSpO (Bm.settle c.man c.size x).2.2]
theorem sc_settle : FnScope ["coder", "span", "lost", "found", "size", "contexts", "division", "manner", "times", "again"] ["coder", "span"] (defScope s_settle) := ⟨rfl, rfl, rfl, by decide +kernel, rfl, by decide +kernel, by decide +kernel⟩
theorem f_settle (F : At K mg "settle" s_settle) (F_late_times : Fn P w K mg base 1 "late_times" S_late_times) (F_pending_times : Fn P w K mg base 3 "pending_times" S_pending_times) (F_plain_times : Fn P w K mg base 2 "plain_times" S_plain_times)
    (F_doubled_by : Fn P w K mg base 1 "doubled_by" S_doubled_by) (F_cut_apart : Fn P w K mg base 3 "cut_apart" S_cut_apart) : Fn P w K mg base 4 "settle" S_settle := by
  refine fn_at F sc_settle (fun _ _ _ _ _ _ us hl => match us, hl with | [_, _], _ => rfl) (fun ds d h => ?_) (fun f cdv A outer s H E hr ds d h => ?_)
  · obtain ⟨c, x, _, _, _, _, rfl, _⟩ := h
    rfl
  · obtain ⟨c, x, hx, hd, hz, hz2, rfl, rfl⟩ := h
    obtain ⟨z, ctx, fine, man⟩ := c
    have hd : x.d + 3 * z ≤ 200 := hd
    have hz : 2 ≤ z := hz
    have hz2 : z ≤ 5 := hz2
    have t1 := seT_le (man := man) hz hx.w
    have k1 := hx.up (t := seT man z x) (by omega)
    have w2 := sp_two k1.w hz (seT_open (man := man) hz hx.w)
    refine sv_bind (nm 0) (bd_tup (bds_cons (bd_nm 4) (bds_cons (bd_nm 5) (bds_cons (bd_nm 6) (bds_cons (bd_nm 7) bds_nil))))) ?_
    refine sv_asg 2 ev_non ?_
    generalize hQ : ({ nx := fun _ => PyData.tuple [dSp (Bm.settle man z x).1, dI (Bm.settle man z x).2.1, dSpO (Bm.settle man z x).2.2] = PyData.none, rt := fun d' _ => d' = PyData.tuple [dSp (Bm.settle man z x).1, dI (Bm.settle man z x).2.1, dSpO (Bm.settle man z x).2.2] } : Po) = PP
    have rest : ∀ ρ, ρ = [some (.d (dCod ⟨z, ctx, fine, man⟩)), some (.d (dSp x)), some (.d .none), none, some (.d (dI z)), some (.d (.tuple (ctx.map dCtx))), some (.d (.str (divS fine))), some (.d (.str (manS man))), some (.d (dI (seT man z x))), none] →
        SEv (cxOf CX0 P w K mg base ["coder", "span", "lost", "found", "size", "contexts", "division", "manner", "times", "again"] "settle" (defScope s_settle) f cdv A outer s H E).nox (defBody s_settle).tail.tail.tail ρ PP := by
      intro ρ e
      subst e hQ
      refine sv_asg 3 (ev_call F_doubled_by (hr.mono (by decide)) (ea_cons (nm 1) (ea_cons (nm 8) ea_nil)) ⟨x, seT man z x, hx.lt.1, hx.lt.2.1, by omega, rfl, rfl⟩) ?_
      refine sv_if (et_is (et_cmp c_eqS (nm 7) ev_str) (man_cut man)) (fun h => ?_) (fun h => ?_)
      · have hc := of_decide_eq_true h
        subst hc
        have ts : seT .cut z x ≤ z := plT_le z x
        by_cases hw : 2 ^ (z - 2) < (dbl x (seT .cut z x)).w
        · refine sv_bind (d := .tuple [dSp (dbl x (seT .cut z x)), .none]) (ev_call F_cut_apart (hr.mono (by decide)) (ea_cons (nm 3) (ea_cons (nm 4) ea_nil)) ⟨_, z, k1, w2, hz, hz2, rfl, by rw [if_pos hw]⟩) (bd_tup (bds_cons (bd_nm 3) (bds_cons (bd_nm 2) bds_nil))) ?_
          have tp := plT_le z (dbl x (seT .cut z x))
          refine sv_asg 9 (ev_call F_plain_times (hr.mono (by decide)) (ea_cons (nm 3) (ea_cons (nm 4) ea_nil)) ⟨_, z, k1.w, rfl, rfl⟩) ?_
          refine sv_asg 3 (ev_call F_doubled_by (hr.mono (by decide)) (ea_cons (nm 3) (ea_cons (nm 9) ea_nil)) ⟨_, _, k1.lt.1, k1.lt.2.1, by omega, rfl, rfl⟩) ?_
          refine sv_aug 8 (nm 9) (sv_nil ?_)
          refine sv_ret (ev_tup (ea_cons (nm 3) (ea_cons (nm 8) (ea_cons (nm 2) ea_nil)))) ?_
          unfold Bm.settle
          rw [if_pos rfl, if_pos hw]
          rfl
        · refine sv_bind (d := .tuple [dSp (kept (dbl x (seT .cut z x))), dSp (gone (dbl x (seT .cut z x)))]) (ev_call F_cut_apart (hr.mono (by decide)) (ea_cons (nm 3) (ea_cons (nm 4) ea_nil)) ⟨_, z, k1, w2, hz, hz2, rfl, by rw [if_neg hw]⟩) (bd_tup (bds_cons (bd_nm 3) (bds_cons (bd_nm 2) bds_nil))) ?_
          have tp := plT_le z (kept (dbl x (seT .cut z x)))
          have k2 := k1.kept w2
          refine sv_asg 9 (ev_call F_plain_times (hr.mono (by decide)) (ea_cons (nm 3) (ea_cons (nm 4) ea_nil)) ⟨_, z, k2.w, rfl, rfl⟩) ?_
          refine sv_asg 3 (ev_call F_doubled_by (hr.mono (by decide)) (ea_cons (nm 3) (ea_cons (nm 9) ea_nil)) ⟨_, _, k2.lt.1, k2.lt.2.1, by omega, rfl, rfl⟩) ?_
          refine sv_aug 8 (nm 9) (sv_nil ?_)
          refine sv_ret (ev_tup (ea_cons (nm 3) (ea_cons (nm 8) (ea_cons (nm 2) ea_nil)))) ?_
          unfold Bm.settle
          rw [if_pos rfl, if_neg hw]
          rfl
      · have hc := of_decide_eq_false h
        refine sv_nil (sv_ret (ev_tup (ea_cons (nm 3) (ea_cons (nm 8) (ea_cons (nm 2) ea_nil)))) ?_)
        unfold Bm.settle
        rw [if_neg hc]
        rfl
    refine sv_if (et_is (et_cmp c_eqS (nm 7) ev_str) (man_late man)) (fun h => ?_) (fun h => ?_)
    · have hc := of_decide_eq_true h
      subst hc
      exact sv_asg 8 (ev_call F_late_times (hr.mono (by decide)) (ea_cons (nm 1) (ea_cons (nm 4) ea_nil)) ⟨x, z, hx, hz, hz2, rfl, rfl⟩) (sv_nil (rest _ rfl))
    · refine sv_if (et_is (et_cmp c_eqS (nm 7) ev_str) (man_pending man)) (fun h2 => ?_) (fun h2 => ?_)
      · have hc := of_decide_eq_true h2
        subst hc
        exact sv_asg 8 (ev_call F_pending_times (hr.mono (by decide)) (ea_cons (nm 1) (ea_cons (nm 4) ea_nil)) ⟨x, z, hx, by omega, hz, hz2, rfl, rfl⟩) (sv_nil (sv_nil (rest _ rfl)))
      · have hc := of_decide_eq_false h
        have hc2 := of_decide_eq_false h2
        have ep : seT man z x = plT z x := by
          cases man with
          | plain => rfl
          | cut => rfl
          | late => exact absurd rfl hc
          | pending => exact absurd rfl hc2
        exact sv_asg 8 (ev_call F_plain_times (hr.mono (by decide)) (ea_cons (nm 1) (ea_cons (nm 4) ea_nil)) ⟨x, z, hx.w, rfl, rfl⟩) (sv_nil (sv_nil (rest _ (by rw [ep]; rfl))))
end
end G
set_option Elab.async false
set_option linter.all false
set_option maxRecDepth 100000
set_option maxHeartbeats 4000000
/-! A context's parts; what a coder must be. -/
namespace G
open PySem PySem.Spec PyProof.Rows L2 Hd Bm

/-- the counts ahead of the i-th entry; all of them -/
def ah (es : List Ent) (i : Nat) : Nat := ((es.take i).map Ent.n).sum
def tot (es : List Ent) : Nat := (es.map Ent.n).sum
def bgn (fine : Bool) (es : List Ent) (w i : Nat) : Nat := if fine then w * ah es i / tot es else w / tot es * ah es i
def nd (fine : Bool) (es : List Ent) (w i : Nat) : Nat := if i + 1 < es.length then bgn fine es w (i + 1) else w
def cel (fine : Bool) (es : List Ent) (w i : Nat) : Nat := nd fine es w i - bgn fine es w i
theorem ah_zero (es : List Ent) : ah es 0 = 0 := rfl
theorem ah_len (es : List Ent) : ah es es.length = tot es := by
  unfold ah tot
  rw [List.take_length]
theorem ah_succ {es : List Ent} {i : Nat} {e : Ent} (h : es[i]? = some e) : ah es (i + 1) = ah es i + e.n := by
  unfold ah
  rw [List.take_add_one, h, List.map_append, List.sum_append]
  simp
theorem ah_le (es : List Ent) (i : Nat) : ah es i ≤ ah es (i + 1) := by
  cases h : es[i]? with
  | some e =>
    rw [ah_succ h]
    omega
  | none =>
    unfold ah
    rw [List.take_add_one, h]
    simp
theorem ah_mono (es : List Ent) {i j : Nat} (h : i ≤ j) : ah es i ≤ ah es j := by
  induction h with
  | refl => exact Nat.le_refl _
  | step _ ih => exact Nat.le_trans ih (ah_le es _)
theorem ah_tot (es : List Ent) (i : Nat) : ah es i ≤ tot es := by
  rcases Nat.le_total i es.length with h | h
  · rw [← ah_len]
    exact ah_mono es h
  · unfold ah tot
    rw [List.take_of_length_le h]
    exact Nat.le_refl _
theorem bgn_zero (fine : Bool) (es : List Ent) (w : Nat) : bgn fine es w 0 = 0 := by
  unfold bgn
  rw [ah_zero, Nat.mul_zero, Nat.mul_zero, Nat.zero_div]
  split <;> rfl
theorem bgn_mono (fine : Bool) (es : List Ent) (w : Nat) {i j : Nat} (h : i ≤ j) : bgn fine es w i ≤ bgn fine es w j := by
  have := ah_mono es h
  unfold bgn
  split
  · exact Nat.div_le_div_right (Nat.mul_le_mul_left _ this)
  · exact Nat.mul_le_mul_left _ this
theorem bgn_le (fine : Bool) (es : List Ent) (w i : Nat) (ht : 0 < tot es) : bgn fine es w i ≤ w := by
  have := ah_tot es i
  unfold bgn
  split
  · exact Nat.div_le_of_le_mul (by rw [Nat.mul_comm]; exact Nat.mul_le_mul_right _ this)
  · exact Nat.le_trans (Nat.mul_le_mul_left _ this) (Nat.div_mul_le_self _ _)
theorem bgn_nd (fine : Bool) (es : List Ent) (w i : Nat) (ht : 0 < tot es) : bgn fine es w i ≤ nd fine es w i := by
  unfold nd
  split
  · exact bgn_mono _ _ _ (Nat.le_succ i)
  · exact bgn_le _ _ _ _ ht
theorem nd_le (fine : Bool) (es : List Ent) (w i : Nat) (ht : 0 < tot es) : nd fine es w i ≤ w := by
  unfold nd
  split
  · exact bgn_le _ _ _ _ ht
  · exact Nat.le_refl _
theorem cel_le (fine : Bool) (es : List Ent) (w i : Nat) (ht : 0 < tot es) : bgn fine es w i + cel fine es w i ≤ w := by
  have h1 := bgn_nd fine es w i ht
  have h2 := nd_le fine es w i ht
  unfold cel
  omega
theorem bgn_cel (fine : Bool) (es : List Ent) (w i : Nat) (ht : 0 < tot es) (hi : i + 1 < es.length) : bgn fine es w i + cel fine es w i = bgn fine es w (i + 1) := by
  have h1 := bgn_nd fine es w i ht
  unfold cel
  unfold nd at h1 ⊢
  rw [if_pos hi] at h1 ⊢
  omega
theorem last_cel (fine : Bool) (es : List Ent) (w i : Nat) (ht : 0 < tot es) (hi : i + 1 = es.length) : bgn fine es w i + cel fine es w i = w := by
  have h1 := bgn_nd fine es w i ht
  unfold cel
  unfold nd at h1 ⊢
  rw [if_neg (by omega)] at h1 ⊢
  omega
/-! the data -/
def bndD (fine : Bool) (es : List Ent) (w : Nat) : List PD := (List.range es.length).map fun i => .tuple [dI (bgn fine es w i), dI (nd fine es w i)]
def prtD (fine : Bool) (es : List Ent) (w : Nat) : List PD := (List.range es.length).map fun i => .tuple [dI (bgn fine es w i), dI (cel fine es w i)]
/-! coders -/
def okEnt (m : Nat) (e : Ent) : Prop := 1 ≤ e.n ∧ e.n ≤ 9 ∧ (97 ≤ e.c ∧ e.c ≤ 122) ∧ ∀ j, e.to = some j → j < m
structure Wf (c : Cod) : Prop where
  s2 : 2 ≤ c.size
  s4 : c.size ≤ 4
  c1 : 1 ≤ c.ctx.length
  c2 : c.ctx.length ≤ 2
  e2 : ∀ es ∈ c.ctx, 2 ≤ es.length ∧ es.length ≤ 4
  ok : ∀ es ∈ c.ctx, ∀ e ∈ es, okEnt c.ctx.length e
  nd : ∀ es ∈ c.ctx, (es.map Ent.c).Nodup
theorem Wf.mem {c : Cod} (W : Wf c) {k : Nat} {es : List Ent} (h : c.ctx[k]? = some es) : es ∈ c.ctx := List.mem_of_getElem? h
theorem Wf.tot {c : Cod} (W : Wf c) {k : Nat} {es : List Ent} (h : c.ctx[k]? = some es) : 0 < G.tot es := by
  have m := W.mem h
  cases es with
  | nil => exact absurd (W.e2 _ m).1 (by simp)
  | cons e r =>
    have := (W.ok _ m e List.mem_cons_self).1
    unfold G.tot
    rw [List.map_cons, List.sum_cons]
    omega
theorem sum_le (m : Nat) : ∀ ns : List Nat, (∀ n ∈ ns, n ≤ m) → ns.sum ≤ m * ns.length
  | [], _ => Nat.zero_le _
  | n :: ns, h => by
    have h1 := h n List.mem_cons_self
    have h2 := sum_le m ns fun x hx => h x (List.mem_cons_of_mem _ hx)
    rw [List.sum_cons, List.length_cons, Nat.mul_succ]
    omega
theorem Wf.tot36 {c : Cod} (W : Wf c) {k : Nat} {es : List Ent} (h : c.ctx[k]? = some es) : G.tot es ≤ 36 := by
  have m := W.mem h
  have h1 := sum_le 9 (es.map Ent.n) fun n hn => by
    obtain ⟨e, he, rfl⟩ := List.mem_map.mp hn
    exact (W.ok _ m e he).2.1
  have h2 := (W.e2 _ m).2
  rw [List.length_map] at h1
  unfold G.tot
  omega
end G
namespace G
open PySem PySem.Spec PyProof.Rows L2 Hd Bm
/-! numbers: sizes -/
theorem mul_nat {m n : Nat} (a b : Nat) (h1 : m < 2 ^ a) (h2 : n < 2 ^ b) (h : a + b ≤ 134217728 := by decide) : CMulX (m : Int) (n : Int) := mulx_ok (a := a) (b := b) (by rw [Int.natAbs_natCast]; exact h1) (by rw [Int.natAbs_natCast]; exact h2) h
theorem div_nat {i : Int} {n : Nat} (b : Nat) (h0 : 0 < n) (h : n < 2 ^ b) (hb : b ≤ 9000 := by decide) : CDivW i (n : Int) := ⟨by omega, by
  rw [Int.natAbs_natCast]
  have := (Nat.log2_lt (n := n) (k := b) (by omega)).mpr h
  omega⟩
theorem i_div (m n : Nat) : (m : Int) / (n : Int) = ((m / n : Nat) : Int) := (Int.natCast_ediv m n).symm
theorem i_mul (m n : Nat) : (m : Int) * (n : Int) = ((m * n : Nat) : Int) := (Int.natCast_mul m n).symm
theorem i_add (m n : Nat) : (m : Int) + (n : Int) = ((m + n : Nat) : Int) := (Int.natCast_add m n).symm
theorem sum_nat : ∀ ns : List Nat, (ns.map fun (n : Nat) => (n : Int)).sum = ((ns.sum : Nat) : Int)
  | [] => rfl
  | n :: ns => by
    rw [List.map_cons, List.sum_cons, List.sum_cons, sum_nat ns, i_add]
/-- the i-th of a list of data made of i -/
theorem rg_at {n i : Nat} {f : Nat → PD} (h : i < n) : ((List.range n).map f)[i]? = some (f i) := by
  rw [List.getElem?_map, List.getElem?_range h]
  rfl
theorem rg_succ (i : Nat) (f : Nat → PD) : (List.range (i + 1)).map f = (List.range i).map f ++ [f i] := by
  rw [List.range_succ, List.map_append]
  rfl
/-- the last is put in its place -/
theorem bnd_last (fine : Bool) (es : List Ent) (w : Nat) {m : Nat} (h : es.length = m + 1) :
    ((List.range m).map (fun i => PyData.tuple [dI (bgn fine es w i), dI (bgn fine es w (i + 1))]) ++ [PyData.tuple [dI (bgn fine es w m), dI w]]) = bndD fine es w := by
  unfold bndD
  rw [h, rg_succ]
  have e1 : nd fine es w m = w := by
    unfold nd
    rw [if_neg (by omega)]
  rw [e1]
  congr 1
  refine List.map_congr_left fun i hi => ?_
  have hi := List.mem_range.mp hi
  have e2 : nd fine es w i = bgn fine es w (i + 1) := by
    unfold nd
    rw [if_pos (by omega)]
  rw [e2]
end G
set_option Elab.async false
set_option linter.all false
set_option maxRecDepth 100000
set_option maxHeartbeats 4000000
namespace G
open PySem PySem.Spec PyProof.Rows L2 Hd Bm
section
variable {P : Program} {w : World} {K : PySem.W.Frag} {mg : Str → Option Value} {base : Heap}

def S_is_integer : List PD → PD → Prop := fun ds d => ∃ n : Int, ds = [.int n] ∧ d = .bool true
theorem sc_is_integer : FnScope ["thing"] ["thing"] (defScope s_is_integer) := ⟨rfl, rfl, rfl, by decide +kernel, rfl, by decide +kernel, by decide +kernel⟩
theorem f_is_integer (B : Blt mg) (F : At K mg "is_integer" s_is_integer) : Fn P w K mg base 1 "is_integer" S_is_integer := by
  refine fn_at F sc_is_integer (fun _ _ _ _ _ _ us hl => match us, hl with | [_], _ => rfl) (fun ds d h => ?_) (fun f cdv A outer s H E hr ds d h => ?_)
  · obtain ⟨n, rfl, _⟩ := h
    rfl
  · obtain ⟨n, rfl, rfl⟩ := h
    exact sv_ret (ev_and (k1 := true) (k2 := true) (ev_isi B.isinstance (T := "int") (nm 0) rfl B.int (by decide +kernel) (by decide +kernel)) fun h => (ev_one (ev_notV (k := false) (ev_isi B.isinstance (T := "bool") (nm 0) rfl B.bool (by decide +kernel) (by decide +kernel))))) rfl
def S_is_number : List PD → PD → Prop := fun ds d => ∃ n : Int, ds = [.int n] ∧ d = .bool (decide (0 ≤ n))
theorem sc_is_number : FnScope ["thing"] ["thing"] (defScope s_is_number) := ⟨rfl, rfl, rfl, by decide +kernel, rfl, by decide +kernel, by decide +kernel⟩
theorem f_is_number (F : At K mg "is_number" s_is_number) (F_is_integer : Fn P w K mg base 1 "is_integer" S_is_integer) : Fn P w K mg base 2 "is_number" S_is_number := by
  refine fn_at F sc_is_number (fun _ _ _ _ _ _ us hl => match us, hl with | [_], _ => rfl) (fun ds d h => ?_) (fun f cdv A outer s H E hr ds d h => ?_)
  · obtain ⟨n, rfl, _⟩ := h
    rfl
  · obtain ⟨n, rfl, rfl⟩ := h
    exact sv_ret (ev_and (k1 := true) (ev_call F_is_integer (hr.mono (by decide)) (ea_cons (nm 0) ea_nil) ⟨n, rfl, rfl⟩) fun h => (ev_one (ev_cmp c_ge (nm 0) ev_int))) (by rw [Bool.true_and])
def S_is_count : List PD → PD → Prop := fun ds d => ∃ n : Int, ds = [.int n] ∧ d = .bool (decide (0 < n))
theorem sc_is_count : FnScope ["thing"] ["thing"] (defScope s_is_count) := ⟨rfl, rfl, rfl, by decide +kernel, rfl, by decide +kernel, by decide +kernel⟩
theorem f_is_count (F : At K mg "is_count" s_is_count) (F_is_integer : Fn P w K mg base 1 "is_integer" S_is_integer) : Fn P w K mg base 2 "is_count" S_is_count := by
  refine fn_at F sc_is_count (fun _ _ _ _ _ _ us hl => match us, hl with | [_], _ => rfl) (fun ds d h => ?_) (fun f cdv A outer s H E hr ds d h => ?_)
  · obtain ⟨n, rfl, _⟩ := h
    rfl
  · obtain ⟨n, rfl, rfl⟩ := h
    exact sv_ret (ev_and (k1 := true) (ev_call F_is_integer (hr.mono (by decide)) (ea_cons (nm 0) ea_nil) ⟨n, rfl, rfl⟩) fun h => (ev_one (ev_cmp c_gt (nm 0) ev_int))) (by rw [Bool.true_and])
def S_is_depth : List PD → PD → Prop := fun ds d => ∃ n : Int, ds = [.int n] ∧ d = .bool (decide (0 ≤ n) && decide (n ≤ 400))
theorem sc_is_depth : FnScope ["thing"] ["thing"] (defScope s_is_depth) := ⟨rfl, rfl, rfl, by decide +kernel, rfl, by decide +kernel, by decide +kernel⟩
theorem f_is_depth (B : Blt mg) (F : At K mg "is_depth" s_is_depth) (F_is_number : Fn P w K mg base 2 "is_number" S_is_number) : Fn P w K mg base 3 "is_depth" S_is_depth := by
  refine fn_at F sc_is_depth (fun _ _ _ _ _ _ us hl => match us, hl with | [_], _ => rfl) (fun ds d h => ?_) (fun f cdv A outer s H E hr ds d h => ?_)
  · obtain ⟨n, rfl, _⟩ := h
    rfl
  · obtain ⟨n, rfl, rfl⟩ := h
    obtain ⟨t, hD⟩ := B.deepest
    exact sv_ret (ev_and (ev_call F_is_number (hr.mono (by decide)) (ea_cons (nm 0) ea_nil) ⟨n, rfl, rfl⟩) fun h => (ev_one (ev_cmp c_le (nm 0) (ev_gint hD)))) rfl
def S_is_tuple_of : List PD → PD → Prop := fun ds d => ∃ (xs : List PD) (n : Int), ds = [.tuple xs, .int n] ∧ d = .bool (decide ((xs.length : Int) = n))
theorem sc_is_tuple_of : FnScope ["thing", "many"] ["thing", "many"] (defScope s_is_tuple_of) := ⟨rfl, rfl, rfl, by decide +kernel, rfl, by decide +kernel, by decide +kernel⟩
theorem f_is_tuple_of (B : Blt mg) (F : At K mg "is_tuple_of" s_is_tuple_of) : Fn P w K mg base 1 "is_tuple_of" S_is_tuple_of := by
  refine fn_at F sc_is_tuple_of (fun _ _ _ _ _ _ us hl => match us, hl with | [_, _], _ => rfl) (fun ds d h => ?_) (fun f cdv A outer s H E hr ds d h => ?_)
  · obtain ⟨xs, n, rfl, _⟩ := h
    rfl
  · obtain ⟨xs, n, rfl, rfl⟩ := h
    exact sv_ret (ev_and (k1 := true) (ev_isi B.isinstance (T := "tuple") (nm 0) rfl B.tuple (by decide +kernel) (by decide +kernel)) fun h => (ev_one (ev_cmp c_eqI (ev_lenT B.len (nm 0)) (nm 1)))) (by rw [Bool.true_and])
/-- a text all of whose signs are small letters -/
def lett (z : Str) : Bool := (z.cps.toList.map fun c => decide (c ∈ ("abcdefghijklmnopqrstuvwxyz" : Str).cps.toList)).all id
def lettD : PD → PD
  | .str z => .bool (match z.cps.toList with | [c] => decide (c ∈ ("abcdefghijklmnopqrstuvwxyz" : Str).cps.toList) | _ => false)
  | _ => .none
def S_is_letters : List PD → PD → Prop := fun ds d => ∃ z : Str, z.cps.size ≤ 1000 ∧ ds = [.str z] ∧ d = .bool (lett z)
theorem sc_is_letters : FnScope ["thing", "sign"] ["thing"] (defScope s_is_letters) := ⟨rfl, rfl, rfl, by decide +kernel, rfl, by decide +kernel, by decide +kernel⟩
theorem f_is_letters (B : Blt mg) (F : At K mg "is_letters" s_is_letters) : Fn P w K mg base 1 "is_letters" S_is_letters := by
  refine fn_at F sc_is_letters (fun _ _ _ _ _ _ us hl => match us, hl with | [_], _ => rfl) (fun ds d h => ?_) (fun f cdv A outer s H E hr ds d h => ?_)
  · obtain ⟨z, _, rfl, _⟩ := h
    rfl
  · obtain ⟨z, hz, rfl, rfl⟩ := h
    obtain ⟨t, hL⟩ := B.letters
    have e1 : (signsD z).map lettD = ((z.cps.toList.map fun c => decide (c ∈ ("abcdefghijklmnopqrstuvwxyz" : Str).cps.toList))).map PyData.bool := by
      unfold signsD
      rw [List.map_map, List.map_map]
      rfl
    exact sv_ret (ev_and (k1 := true) (ev_isi B.isinstance (T := "str") (nm 0) rfl B.str (by decide +kernel) (by decide +kernel)) fun h => (ev_one (ev_all B.all (ev_is (eo_lc [("sign", 1)] (it_str (nm 0)) lettD (by
        unfold signsD
        rw [List.length_map, Array.length_toList]
        omega) (fun i d hi => by
      unfold signsD at hi
      rw [List.getElem?_map] at hi
      cases hc : z.cps.toList[i]? with
      | none =>
        rw [hc] at hi
        cases hi
      | some c =>
        rw [hc] at hi
        cases hi
        exact ⟨_, fun s H C cl fp => ⟨(bv_nm 1), (ev_cmp c_inS (nm 1) (ev_gstr hL))⟩⟩) (blkOk_by (N := ["thing", "sign"]) (sc := defScope s_is_letters) (by decide +kernel))).data (by rw [e1]))))) (by
      show PyData.bool (true && lett z) = _
      rw [Bool.true_and])
def S_is_span : List PD → PD → Prop := fun ds d => ∃ x : Spn, SOk x ∧ ds = [dSp x] ∧ d = .bool true
theorem sc_is_span : FnScope ["thing", "low", "width", "depth"] ["thing"] (defScope s_is_span) := ⟨rfl, rfl, rfl, by decide +kernel, rfl, by decide +kernel, by decide +kernel⟩
theorem f_is_span (F : At K mg "is_span" s_is_span) (F_is_tuple_of : Fn P w K mg base 1 "is_tuple_of" S_is_tuple_of) (F_is_number : Fn P w K mg base 2 "is_number" S_is_number) (F_is_count : Fn P w K mg base 2 "is_count" S_is_count) (F_is_depth : Fn P w K mg base 3 "is_depth" S_is_depth) : Fn P w K mg base 4 "is_span" S_is_span := by
  refine fn_at F sc_is_span (fun _ _ _ _ _ _ us hl => match us, hl with | [_], _ => rfl) (fun ds d h => ?_) (fun f cdv A outer s H E hr ds d h => ?_)
  · obtain ⟨x, _, rfl, _⟩ := h
    rfl
  · obtain ⟨x, hx, rfl, rfl⟩ := h
    refine sv_skip (et_is (et_not (et_val (k := true) (ev_call F_is_tuple_of (hr.mono (by decide)) (ea_cons (nm 0) (ea_cons ev_int ea_nil)) ⟨_, 3, rfl, rfl⟩))) rfl) ?_
    refine sv_bind (nm 0) (bd_tup (bds_cons (bd_nm 1) (bds_cons (bd_nm 2) (bds_cons (bd_nm 3) bds_nil)))) ?_
    have q1 : decide ((0 : Int) ≤ (x.l : Int)) = true := decide_eq_true (Int.natCast_nonneg _)
    have q2 : decide ((0 : Int) < (x.w : Int)) = true := decide_eq_true (by have := hx.w; omega)
    have q3 : (decide ((0 : Int) ≤ (x.d : Int)) && decide ((x.d : Int) ≤ 400)) = true := by
      have := hx.d
      rw [decide_eq_true (show (0 : Int) ≤ (x.d : Int) by omega), decide_eq_true (show (x.d : Int) ≤ 400 by omega)]
      rfl
    refine sv_ret (ev_and (k1 := true) (k2 := true) (ev_call F_is_number (hr.mono (by decide)) (ea_cons (nm 1) ea_nil) ⟨_, rfl, by rw [q1]⟩) fun h => (ev_and (k1 := true) (k2 := true) (ev_call F_is_count (hr.mono (by decide)) (ea_cons (nm 2) ea_nil) ⟨_, rfl, by rw [q2]⟩) fun h => (ev_and (k1 := true) (k2 := true) (ev_call F_is_depth (hr.mono (by decide)) (ea_cons (nm 3) ea_nil) ⟨_, rfl, by rw [q3]⟩) fun h =>
      (ev_one (ev_is (ev_cmp c_le (ev_add (nm 1) (nm 2)) (ev_shl (i := 1) (j := (x.d : Int)) (shl_nat (m := 1) (by decide) (by have := hx.d; omega)) ev_int (nm 3))) ?_))))) rfl
    congr 1
    refine decide_eq_true ?_
    have := i_shl 1 x.d
    rw [Nat.one_mul] at this
    rw [show ((1 : Int) * 2 ^ ((x.d : Int)).toNat) = ((2 ^ x.d : Nat) : Int) from this]
    have := hx.b
    omega
def S_check_span : List PD → PD → Prop := fun ds d => ∃ x : Spn, SOk x ∧ ds = [dSp x] ∧ d = .none
theorem sc_check_span : FnScope ["span"] ["span"] (defScope s_check_span) := ⟨rfl, rfl, rfl, by decide +kernel, rfl, by decide +kernel, by decide +kernel⟩
theorem f_check_span (F : At K mg "check_span" s_check_span) (F_is_span : Fn P w K mg base 4 "is_span" S_is_span) : Fn P w K mg base 5 "check_span" S_check_span := by
  refine fn_at F sc_check_span (fun _ _ _ _ _ _ us hl => match us, hl with | [_], _ => rfl) (fun ds d h => ?_) (fun f cdv A outer s H E hr ds d h => ?_)
  · obtain ⟨x, _, rfl, _⟩ := h
    rfl
  · obtain ⟨x, hx, rfl, rfl⟩ := h
    exact sv_skip (et_is (et_not (et_val (k := true) (ev_call F_is_span (hr.mono (by decide)) (ea_cons (nm 0) ea_nil) ⟨x, hx, rfl, rfl⟩))) rfl) (sv_nil rfl)
def S_settled : List PD → PD → Prop := fun ds d => ∃ (c : Cod) (x : Spn), SOk x ∧ x.d + 3 * c.size ≤ 200 ∧ 2 ≤ c.size ∧ c.size ≤ 5 ∧ ds = [dCod c, dSp x] ∧ d = dSp (Bm.settle c.man c.size x).1
theorem sc_settled : FnScope ["coder", "span"] ["coder", "span"] (defScope s_settled) := ⟨rfl, rfl, rfl, by decide +kernel, rfl, by decide +kernel, by decide +kernel⟩
theorem f_settled (F : At K mg "settled" s_settled) (F_check_span : Fn P w K mg base 5 "check_span" S_check_span) (F_settle : Fn P w K mg base 4 "settle" S_settle) : Fn P w K mg base 6 "settled" S_settled := by
  refine fn_at F sc_settled (fun _ _ _ _ _ _ us hl => match us, hl with | [_, _], _ => rfl) (fun ds d h => ?_) (fun f cdv A outer s H E hr ds d h => ?_)
  · obtain ⟨c, x, _, _, _, _, rfl, _⟩ := h
    rfl
  · obtain ⟨c, x, hx, hd, h2, h5, rfl, rfl⟩ := h
    refine sv_expr (ev_call F_check_span (hr.mono (by decide)) (ea_cons (nm 1) ea_nil) ⟨x, hx, rfl, rfl⟩) ?_
    exact sv_ret (ev_ixT (ev_call F_settle (hr.mono (by decide)) (ea_cons (nm 0) (ea_cons (nm 1) ea_nil)) ⟨c, x, hx, hd, h2, h5, rfl, rfl⟩) ev_int (by rfl)) rfl
def S_lost_of : List PD → PD → Prop := fun ds d => ∃ (c : Cod) (x : Spn), SOk x ∧ x.d + 3 * c.size ≤ 200 ∧ 2 ≤ c.size ∧ c.size ≤ 5 ∧ ds = [dCod c, dSp x] ∧ d = dSpO (Bm.settle c.man c.size x).2.2
theorem sc_lost_of : FnScope ["coder", "span"] ["coder", "span"] (defScope s_lost_of) := ⟨rfl, rfl, rfl, by decide +kernel, rfl, by decide +kernel, by decide +kernel⟩
theorem f_lost_of (F : At K mg "lost_of" s_lost_of) (F_check_span : Fn P w K mg base 5 "check_span" S_check_span) (F_settle : Fn P w K mg base 4 "settle" S_settle) : Fn P w K mg base 6 "lost_of" S_lost_of := by
  refine fn_at F sc_lost_of (fun _ _ _ _ _ _ us hl => match us, hl with | [_, _], _ => rfl) (fun ds d h => ?_) (fun f cdv A outer s H E hr ds d h => ?_)
  · obtain ⟨c, x, _, _, _, _, rfl, _⟩ := h
    rfl
  · obtain ⟨c, x, hx, hd, h2, h5, rfl, rfl⟩ := h
    refine sv_expr (ev_call F_check_span (hr.mono (by decide)) (ea_cons (nm 1) ea_nil) ⟨x, hx, rfl, rfl⟩) ?_
    exact sv_ret (ev_ixT (ev_call F_settle (hr.mono (by decide)) (ea_cons (nm 0) (ea_cons (nm 1) ea_nil)) ⟨c, x, hx, hd, h2, h5, rfl, rfl⟩) ev_int (by rfl)) rfl
end
end G
set_option Elab.async false
set_option linter.all false
set_option maxRecDepth 100000
set_option maxHeartbeats 4000000
namespace G
open PySem PySem.Spec PyProof.Rows L2 Hd Bm
section
variable {P : Program} {w : World} {K : PySem.W.Frag} {mg : Str → Option Value} {base : Heap}
def cntD : PD → PD
  | .tuple [_, n, _] => n
  | _ => .none
def rawD (fine : Bool) (es : List Ent) (w i : Nat) : List PD := (List.range i).map fun i => .tuple [dI (bgn fine es w i), dI (bgn fine es w (i + 1))]
theorem rawD_len (fine : Bool) (es : List Ent) (w i : Nat) : (rawD fine es w i).length = i := by
  unfold rawD
  rw [List.length_map, List.length_range]
theorem rawD_succ (fine : Bool) (es : List Ent) (w i : Nat) : rawD fine es w (i + 1) = rawD fine es w i ++ [.tuple [dI (bgn fine es w i), dI (bgn fine es w (i + 1))]] := rg_succ i _
def S_bounds_of : List PD → PD → Prop := fun ds d => ∃ (c : Cod) (k w : Nat) (es : List Ent), Wf c ∧ c.ctx[k]? = some es ∧ w < 2 ^ 250 ∧ ds = [dCod c, dI k, dI w] ∧ d = .list (bndD c.fine es w)
theorem sc_bounds_of : FnScope ["coder", "context", "width", "entries", "total", "unit", "bounds", "ahead", "size", "contexts", "division", "manner", "letter", "count", "further", "begin", "end"] ["coder", "context", "width"] (defScope s_bounds_of) := ⟨rfl, rfl, rfl, by decide +kernel, rfl, by decide +kernel, by decide +kernel⟩
theorem f_bounds_of (B : Blt mg) (F : At K mg "bounds_of" s_bounds_of) : Fn P w K mg base 1 "bounds_of" S_bounds_of := by
  refine fn_at F sc_bounds_of (fun _ _ _ _ _ _ us hl => match us, hl with | [_, _, _], _ => rfl) (fun ds d h => ?_) (fun f cdv A outer s H E hr ds d h => ?_)
  · obtain ⟨c, k, w, es, _, _, _, rfl, _⟩ := h
    rfl
  · obtain ⟨c, k, w, es, W, hk, hw, rfl, rfl⟩ := h
    have t0 := W.tot hk
    have t36 := W.tot36 hk
    have el := (W.e2 es (W.mem hk)).2
    have e2 := (W.e2 es (W.mem hk)).1
    refine sv_bind (nm 0) (bd_tup (bds_cons (bd_nm 8) (bds_cons (bd_nm 9) (bds_cons (bd_nm 10) (bds_cons (bd_nm 11) bds_nil))))) ?_
    refine sv_asg 3 (d := dCtx es) (ev_ixT (nm 9) (nm 1) (atI_nat (by rw [List.getElem?_map, hk]; rfl))) ?_
    refine sv_asg 4 (d := dI (tot es)) (ev_is (ev_sum (ns := (es.map Ent.n).map fun (n : Nat) => (n : Int)) B.sum (ev_is (eo_lc [("letter", 12), ("count", 13), ("further", 14)] (it_tup (nm 3)) cntD (by rw [List.length_map]; omega) (fun i d hi => by
      rw [List.getElem?_map] at hi
      cases he : es[i]? with
      | none =>
        rw [he] at hi
        cases hi
      | some e =>
        rw [he] at hi
        cases hi
        exact ⟨_, fun s H C cl fp => ⟨(bv_tup (bvs_cons (bv_nm 12) (bvs_cons (bv_nm 13) (bvs_cons (bv_nm 14) bvs_nil)))), (nm 13)⟩⟩) (blkOk_by (N := ["coder", "context", "width", "entries", "total", "unit", "bounds", "ahead", "size", "contexts", "division", "manner", "letter", "count", "further", "begin", "end"]) (sc := defScope s_bounds_of) (by decide +kernel))).data (by
        rw [List.map_map, List.map_map, List.map_map]
        rfl))) (by rw [sum_nat]; rfl)) ?_
    refine sv_asg 5 (d := dI (w / tot es)) (ev_is (ev_div (div_nat 6 t0 (show tot es < 2 ^ 6 by omega)) (nm 2) (nm 4)) (by rw [i_div])) ?_
    refine sv_new 6 (eo_lst ea_nil) ?_
    refine sv_asg 7 ev_int ?_
    refine sv_for (it_tup (nm 3)) (fun i r => ∃ x y z, r = [some (.d (dCod c)), some (.d (dI k)), some (.d (dI w)), some (.d (dCtx es)), some (.d (dI (tot es))), some (.d (dI (w / tot es))), some (.o (.l (rawD c.fine es w i))), some (.d (dI (ah es i))), some (.d (dI c.size)), some (.d (.tuple (c.ctx.map dCtx))), some (.d (.str (divS c.fine))), some (.d (.str (manS c.man))), x, y, z, none, none]) ⟨none, none, none, rfl⟩ (fun i d r hi hp => ?_) (fun r hp => ?_)
    · obtain ⟨x, y, z, rfl⟩ := hp
      rw [List.getElem?_map] at hi
      cases he : es[i]? with
      | none =>
        rw [he] at hi
        cases hi
      | some e =>
        rw [he] at hi
        cases hi
        have hs := ah_succ he
        have b1 := ah_tot es i
        have b2 := ah_tot es (i + 1)
        have hu : w / tot es < 2 ^ 250 := Nat.lt_of_le_of_lt (Nat.div_le_self _ _) hw
        have a1 : ah es i < 2 ^ 6 := by omega
        have a2 : ah es (i + 1) < 2 ^ 6 := by omega
        refine ⟨_, (bd_tup (bds_cons (bd_nm 12) (bds_cons (bd_nm 13) (bds_cons (bd_nm 14) bds_nil)))), ?_⟩
        refine sv_if (et_is (et_cmp c_eqS (nm 10) ev_str) (div_fine c.fine)) (fun h => ?_) (fun h => ?_)
        ·
          refine sv_app 6 (xs := rawD c.fine es w i) (d := .tuple [dI (bgn c.fine es w i), dI (bgn c.fine es w (i + 1))]) (ev_is (ev_tup (ea_cons (ev_div (div_nat 6 t0 (show tot es < 2 ^ 6 by omega)) (ev_mul (mul_nat 250 6 hw a1) (nm 2) (nm 7)) (nm 4)) (ea_cons (ev_div (div_nat 6 t0 (show tot es < 2 ^ 6 by omega)) (ev_mul (by
              rw [i_add, ← hs]
              exact mul_nat 250 6 hw a2) (nm 2) (ev_add (nm 7) (nm 13))) (nm 4)) ea_nil))) (by
            rw [i_add, ← hs, i_mul, i_mul, i_div, i_div]
            unfold bgn
            rw [if_pos h, if_pos h])) (by rw [rawD_len]; have := (List.getElem?_eq_some_iff.mp he).1; omega) ?_
          refine sv_nil (sv_aug 7 (nm 13) (sv_nil ⟨some (.d (.str (sgn e.c))), some (.d (dI e.n)), some (.d (dOpt e.to)), ?_⟩))
          rw [rawD_succ, hs]
          rfl
        ·
          refine sv_app 6 (xs := rawD c.fine es w i) (d := .tuple [dI (bgn c.fine es w i), dI (bgn c.fine es w (i + 1))]) (ev_is (ev_tup (ea_cons (ev_mul (mul_nat 250 6 hu a1) (nm 5) (nm 7)) (ea_cons (ev_mul (by
              rw [i_add, ← hs]
              exact mul_nat 250 6 hu a2) (nm 5) (ev_add (nm 7) (nm 13))) ea_nil))) (by
            rw [i_add, ← hs, i_mul, i_mul]
            unfold bgn
            rw [if_neg (by rw [h]; decide), if_neg (by rw [h]; decide)])) (by rw [rawD_len]; have := (List.getElem?_eq_some_iff.mp he).1; omega) ?_
          refine sv_nil (sv_aug 7 (nm 13) (sv_nil ⟨some (.d (.str (sgn e.c))), some (.d (dI e.n)), some (.d (dOpt e.to)), ?_⟩))
          rw [rawD_succ, hs]
          rfl
    · obtain ⟨x, y, z, rfl⟩ := hp
      rw [List.length_map]
      obtain ⟨m, hm⟩ : ∃ m, es.length = m + 1 := ⟨es.length - 1, by omega⟩
      rw [hm, rawD_succ]
      refine sv_bind (ev_ixO 6 (ev_neg ev_int) (atI_last _ _)) (bd_tup (bds_cons (bd_nm 15) (bds_cons (bd_nm 16) bds_nil))) ?_
      refine sv_setO 6 (xs := rawD c.fine es w m ++ [.tuple [dI (bgn c.fine es w m), dI (bgn c.fine es w (m + 1))]]) (j := m) (ev_tup (ea_cons (nm 15) (ea_cons (nm 2) ea_nil))) (ev_neg ev_int) (by
        rw [List.length_append, rawD_len, List.length_singleton]
        unfold ixN
        rw [if_neg (by decide), if_pos (by omega)]
        congr 1
        omega) ?_
      refine sv_frz 6 (sv_ret (nm 6) ?_)
      rw [← bnd_last c.fine es w hm, List.set_append_right _ _ (by rw [rawD_len]; exact Nat.le_refl _), rawD_len, Nat.sub_self]
      rfl
end
end G
set_option Elab.async false
set_option linter.all false
set_option maxRecDepth 100000
set_option maxHeartbeats 4000000
namespace G
open PySem PySem.Spec PyProof.Rows L2 Hd Bm
section
variable {P : Program} {w : World} {K : PySem.W.Frag} {mg : Str → Option Value} {base : Heap}
def subD : PD → PD
  | .tuple [.int b, .int e] => .tuple [.int b, .int (e - b)]
  | _ => .none
theorem bnd_prt (fine : Bool) (es : List Ent) (w : Nat) (ht : 0 < tot es) : (bndD fine es w).map subD = prtD fine es w := by
  unfold bndD prtD
  rw [List.map_map]
  refine List.map_congr_left fun i _ => ?_
  show PyData.tuple [.int (bgn fine es w i : Nat), .int (((nd fine es w i : Nat) : Int) - ((bgn fine es w i : Nat) : Int))] = _
  have := bgn_nd fine es w i ht
  unfold cel
  congr 3
  congr 1
  omega
theorem bnd_at {fine : Bool} {es : List Ent} {w i : Nat} {d : PD} (h : (bndD fine es w)[i]? = some d) : i < es.length ∧ d = .tuple [dI (bgn fine es w i), dI (nd fine es w i)] := by
  unfold bndD at h
  by_cases hi : i < es.length
  · rw [rg_at hi] at h
    exact ⟨hi, (Option.some.inj h).symm⟩
  · rw [List.getElem?_eq_none (by rw [List.length_map, List.length_range]; omega)] at h
    cases h
theorem bnd_len (fine : Bool) (es : List Ent) (w : Nat) : (bndD fine es w).length = es.length := by
  unfold bndD
  rw [List.length_map, List.length_range]
def S_parts_of : List PD → PD → Prop := fun ds d => ∃ (c : Cod) (k w : Nat) (es : List Ent), Wf c ∧ c.ctx[k]? = some es ∧ 1 ≤ w ∧ w < 2 ^ 250 ∧ ds = [dCod c, dI k, dI w] ∧ d = .tuple (prtD c.fine es w)
theorem sc_parts_of : FnScope ["coder", "context", "width", "begin", "end"] ["coder", "context", "width"] (defScope s_parts_of) := ⟨rfl, rfl, rfl, by decide +kernel, rfl, by decide +kernel, by decide +kernel⟩
theorem f_parts_of (B : Blt mg) (F : At K mg "parts_of" s_parts_of) (F_is_number : Fn P w K mg base 2 "is_number" S_is_number) (F_bounds_of : Fn P w K mg base 1 "bounds_of" S_bounds_of) : Fn P w K mg base 3 "parts_of" S_parts_of := by
  refine fn_at F sc_parts_of (fun _ _ _ _ _ _ us hl => match us, hl with | [_, _, _], _ => rfl) (fun ds d h => ?_) (fun f cdv A outer s H E hr ds d h => ?_)
  · obtain ⟨c, k, w, es, _, _, _, _, rfl, _⟩ := h
    rfl
  · obtain ⟨c, k, w, es, W, hk, h1, hw, rfl, rfl⟩ := h
    have kl : k < c.ctx.length := (List.getElem?_eq_some_iff.mp hk).1
    have el := (W.e2 es (W.mem hk)).2
    refine sv_skip (et_is (et_w (ew_or (k1 := false) (k2 := false) (et_is (et_not (et_val (k := true) (ev_call F_is_number (hr.mono (by decide)) (ea_cons (nm 1) ea_nil) ⟨_, rfl, by rw [decide_eq_true (Int.natCast_nonneg k)]⟩))) rfl) fun h => (ew_or1 (et_is (et_cmp c_ge (nm 1) (ev_lenT B.len (ev_ixT (nm 0) ev_int (by rfl)))) ?_)))) rfl) ?_
    · rw [List.length_map]
      exact decide_eq_false (by omega)
    refine sv_skip (et_is (et_w (ew_or (k1 := false) (k2 := false) (et_is (et_not (et_val (k := true) (ev_call F_is_number (hr.mono (by decide)) (ea_cons (nm 2) ea_nil) ⟨_, rfl, by rw [decide_eq_true (Int.natCast_nonneg w)]⟩))) rfl) fun h => (ew_or1 (et_is (et_cmp c_eqI (nm 2) ev_int) (decide_eq_false (by omega)))))) rfl) ?_
    refine sv_ret (ev_tupL B.tuple (eo_lc [("begin", 3), ("end", 4)] (it_list (ev_call F_bounds_of (hr.mono (by decide)) (ea_cons (nm 0) (ea_cons (nm 1) (ea_cons (nm 2) ea_nil))) ⟨c, k, w, es, W, hk, hw, rfl, rfl⟩)) subD (by rw [bnd_len]; omega) (fun i d hi => by
      obtain ⟨_, rfl⟩ := bnd_at hi
      exact ⟨_, fun s H C cl fp => ⟨(bv_tup (bvs_cons (bv_nm 3) (bvs_cons (bv_nm 4) bvs_nil))), (ev_tup (ea_cons (nm 3) (ea_cons (ev_sub (nm 4) (nm 3)) ea_nil)))⟩⟩) (blkOk_by (N := ["coder", "context", "width", "begin", "end"]) (sc := defScope s_parts_of) (by decide +kernel))).data) ?_
    rw [bnd_prt _ _ _ (W.tot hk)]
/-! lowest terms -/
def lowD (t b : Nat) : PD := .tuple [dI (t / Nat.gcd t b), dI (b / Nat.gcd t b)]
def S_lowest : List PD → PD → Prop := fun ds d => ∃ t b : Nat, 0 < b ∧ t < 2 ^ 250 ∧ b < 2 ^ 250 ∧ ds = [dI t, dI b] ∧ d = lowD t b
theorem sc_lowest : FnScope ["top", "bottom", "common", "rest"] ["top", "bottom"] (defScope s_lowest) := ⟨rfl, rfl, rfl, by decide +kernel, rfl, by decide +kernel, by decide +kernel⟩
theorem f_lowest (F : At K mg "lowest" s_lowest) : Fn P w K mg base 1 "lowest" S_lowest := by
  refine fn_at F sc_lowest (fun _ _ _ _ _ _ us hl => match us, hl with | [_, _], _ => rfl) (fun ds d h => ?_) (fun f cdv A outer s H E hr ds d h => ?_)
  · obtain ⟨t, b, _, _, _, rfl, _⟩ := h
    rfl
  · obtain ⟨t, b, h0, ht, hb, rfl, rfl⟩ := h
    generalize hZ : 2 ^ 250 = Z at ht hb
    refine sv_par 2 3 (nm 1) (nm 0) ?_
    refine sv_while (fun m r => ∃ x : Nat, r = [some (.d (dI t)), some (.d (dI b)), some (.d (dI x)), some (.d (dI m))] ∧ Nat.gcd x m = Nat.gcd t b ∧ x < Z ∧ m < Z ∧ 0 < x) t ⟨b, rfl, Nat.gcd_comm _ _, hb, ht, h0⟩ (fun m r hw => ?_)
    obtain ⟨x, rfl, hg, hx, hm, x0⟩ := hw
    refine ⟨decide (0 < (m : Int)), (et_cmp c_gt (nm 3) ev_int), fun h => ?_, fun h => ?_⟩
    · have m0 : 0 < m := by
        have := of_decide_eq_true h
        omega
      have hq : x / m < Z := Nat.lt_of_le_of_lt (Nat.div_le_self _ _) hx
      have hmod : x - x / m * m = x % m := by
        have := Nat.div_add_mod x m
        rw [Nat.mul_comm] at this
        omega
      have hle : x / m * m ≤ x := Nat.div_mul_le_self _ _
      refine sv_par 2 3 (d2 := dI (x % m)) (nm 3) (ev_is (ev_sub (nm 2) (ev_mul (by
        rw [i_div]
        exact mul_nat 250 250 (by rw [hZ]; exact hq) (by rw [hZ]; exact hm)) (ev_div (div_nat 250 m0 (by rw [hZ]; exact hm)) (nm 2) (nm 3)) (nm 3))) (by
        rw [i_div, i_mul, ← hmod]
        congr 1
        omega)) (sv_nil ?_)
      have lt := Nat.mod_lt x m0
      refine ⟨x % m, lt, m, rfl, ?_, hm, Nat.lt_trans lt hm, m0⟩
      rw [← hg, Nat.gcd_comm x m, Nat.gcd_rec m x, Nat.gcd_comm]
    · have m0 : m = 0 := by
        have := of_decide_eq_false h
        omega
      subst m0
      rw [Nat.gcd_zero_right] at hg
      subst hg
      refine sv_ret (d := lowD t b) (ev_is (ev_tup (ea_cons (ev_div (div_nat 250 x0 (by rw [hZ]; exact hx)) (nm 0) (nm 2)) (ea_cons (ev_div (div_nat 250 x0 (by rw [hZ]; exact hx)) (nm 1) (nm 2)) ea_nil))) ?_) rfl
      rw [i_div, i_div]
      rfl
abbrev dF (a b : Nat) : PD := .tuple [dI a, dI b]
def S_plus : List PD → PD → Prop := fun ds d => ∃ a b a' b' : Nat, 0 < b ∧ 0 < b' ∧ a < 2 ^ 120 ∧ b < 2 ^ 120 ∧ a' < 2 ^ 120 ∧ b' < 2 ^ 120 ∧ ds = [dF a b, dF a' b'] ∧ d = lowD (a * b' + a' * b) (b * b')
theorem sc_plus : FnScope ["one", "other"] ["one", "other"] (defScope s_plus) := ⟨rfl, rfl, rfl, by decide +kernel, rfl, by decide +kernel, by decide +kernel⟩
theorem mul_lt {a b : Nat} (n : Nat) (h1 : a < 2 ^ n) (h2 : b < 2 ^ n) : a * b < 2 ^ (n + n) := by
  rw [Nat.pow_add]
  exact Nat.mul_lt_mul'' h1 h2
theorem f_plus (F : At K mg "plus" s_plus) (F_lowest : Fn P w K mg base 1 "lowest" S_lowest) : Fn P w K mg base 2 "plus" S_plus := by
  refine fn_at F sc_plus (fun _ _ _ _ _ _ us hl => match us, hl with | [_, _], _ => rfl) (fun ds d h => ?_) (fun f cdv A outer s H E hr ds d h => ?_)
  · obtain ⟨_, _, _, _, _, _, _, _, _, _, rfl, _⟩ := h
    rfl
  · obtain ⟨a, b, a', b', h1, h2, h3, h4, h5, h6, rfl, rfl⟩ := h
    have m1 := mul_lt 120 h3 h6
    have m2 := mul_lt 120 h5 h4
    have m3 := mul_lt 120 h4 h6
    have up : ∀ z : Nat, z < 2 ^ (120 + 120) → z < 2 ^ 249 := fun z hz => Nat.lt_of_lt_of_le hz (Nat.pow_le_pow_right (by decide) (by decide))
    have m1 := up _ m1
    have m2 := up _ m2
    have m3 := up _ m3
    have e2 : 2 ^ 250 = 2 ^ 249 + 2 ^ 249 := by decide
    refine sv_ret (ev_call F_lowest (hr.mono (by decide)) (ea_cons (ev_add (ev_mul (mul_nat 120 120 h3 h6) (ev_ixT (nm 0) ev_int (by rfl)) (ev_ixT (nm 1) ev_int (by rfl))) (ev_mul (mul_nat 120 120 h5 h4) (ev_ixT (nm 1) ev_int (by rfl)) (ev_ixT (nm 0) ev_int (by rfl)))) (ea_cons (ev_mul (mul_nat 120 120 h4 h6) (ev_ixT (nm 0) ev_int (by rfl)) (ev_ixT (nm 1) ev_int (by rfl))) ea_nil)) ⟨a * b' + a' * b, b * b', Nat.mul_pos h1 h2, ?_, ?_, ?_, rfl⟩) rfl
    · rw [e2]
      generalize 2 ^ 249 = z at *
      omega
    · rw [e2]
      generalize 2 ^ 249 = z at *
      omega
    · rw [i_mul, i_mul, i_mul, i_add]
def S_times : List PD → PD → Prop := fun ds d => ∃ a b a' b' : Nat, 0 < b ∧ 0 < b' ∧ a < 2 ^ 120 ∧ b < 2 ^ 120 ∧ a' < 2 ^ 120 ∧ b' < 2 ^ 120 ∧ ds = [dF a b, dF a' b'] ∧ d = lowD (a * a') (b * b')
theorem sc_times : FnScope ["one", "other"] ["one", "other"] (defScope s_times) := ⟨rfl, rfl, rfl, by decide +kernel, rfl, by decide +kernel, by decide +kernel⟩
theorem f_times (F : At K mg "times" s_times) (F_lowest : Fn P w K mg base 1 "lowest" S_lowest) : Fn P w K mg base 2 "times" S_times := by
  refine fn_at F sc_times (fun _ _ _ _ _ _ us hl => match us, hl with | [_, _], _ => rfl) (fun ds d h => ?_) (fun f cdv A outer s H E hr ds d h => ?_)
  · obtain ⟨_, _, _, _, _, _, _, _, _, _, rfl, _⟩ := h
    rfl
  · obtain ⟨a, b, a', b', h1, h2, h3, h4, h5, h6, rfl, rfl⟩ := h
    have up : ∀ z : Nat, z < 2 ^ (120 + 120) → z < 2 ^ 250 := fun z hz => Nat.lt_of_lt_of_le hz (Nat.pow_le_pow_right (by decide) (by decide))
    refine sv_ret (ev_call F_lowest (hr.mono (by decide)) (ea_cons (ev_mul (mul_nat 120 120 h3 h5) (ev_ixT (nm 0) ev_int (by rfl)) (ev_ixT (nm 1) ev_int (by rfl))) (ea_cons (ev_mul (mul_nat 120 120 h4 h6) (ev_ixT (nm 0) ev_int (by rfl)) (ev_ixT (nm 1) ev_int (by rfl))) ea_nil)) ⟨a * a', b * b', Nat.mul_pos h1 h2, up _ (mul_lt 120 h3 h5), up _ (mul_lt 120 h4 h6), ?_, rfl⟩) rfl
    rw [i_mul, i_mul]
end
end G
set_option Elab.async false
set_option linter.all false
set_option maxRecDepth 100000
set_option maxHeartbeats 4000000
namespace G
open PySem PySem.Spec PyProof.Rows L2 Hd Bm

/-! ### words and their spans -/
abbrev wS (cs : List Nat) : Str := ⟨cs.toArray⟩
def root (c : Cod) : Spn := ⟨0, 2 ^ c.size, c.size⟩
def prt (c : Cod) (es : List Ent) (x : Spn) (i : Nat) : Spn := ⟨x.l + bgn c.fine es x.w i, cel c.fine es x.w i, x.d⟩
/-- the span behind the letter of the entry e, the i-th -/
def nxt (c : Cod) (es : List Ent) (x : Spn) (i : Nat) (e : Ent) : Spn := if e.to = none then prt c es x i else (Bm.settle c.man c.size (prt c es x i)).1
/-- the way of a text: the contexts k, the places i -/
structure Pth (c : Cod) (cs : List Nat) (ps : List (Nat × Nat)) (ks : Nat → Option Nat) : Prop where
  len : ps.length = cs.length
  z : ks 0 = some 0
  at' : ∀ j, j < cs.length → ∃ k i es e, ks j = some k ∧ ps[j]? = some (k, i) ∧ c.ctx[k]? = some es ∧ es[i]? = some e ∧ cs[j]? = some e.c ∧ ks (j + 1) = e.to
theorem SOk.prt {c : Cod} {es : List Ent} {x : Spn} {i : Nat} (h : SOk x) (ht : 0 < tot es) (hc : 0 < cel c.fine es x.w i) : SOk (G.prt c es x i) := by
  have := cel_le c.fine es x.w i ht
  have hb := h.b
  exact ⟨hc, by
    show x.l + bgn c.fine es x.w i + cel c.fine es x.w i ≤ 2 ^ x.d
    omega, h.d⟩
theorem root_ok {c : Cod} (W : Wf c) : SOk (root c) := ⟨Nat.pos_of_ne_zero (by
    show 2 ^ c.size ≠ 0
    exact Nat.ne_of_gt (Nat.pow_pos (by decide))), by show 0 + 2 ^ c.size ≤ 2 ^ c.size; omega, by show c.size ≤ 200; have := W.s4; omega⟩
theorem nxt_ok {c : Cod} (W : Wf c) {es : List Ent} {x : Spn} {i : Nat} {e : Ent} (h : SOk x) (hd : x.d + 3 * c.size ≤ 200) (ht : 0 < tot es) (hc : 0 < cel c.fine es x.w i) : SOk (nxt c es x i e) ∧ (nxt c es x i e).d ≤ x.d + 3 * c.size := by
  have hp := h.prt (c := c) (i := i) ht hc
  unfold nxt
  split
  · exact ⟨hp, by show x.d ≤ _; omega⟩
  · obtain ⟨h1, h2, h3, _⟩ := settle_ok (man := c.man) W.s2 hp hd
    exact ⟨h1, by rw [h3]; show x.d + _ ≤ _; omega⟩
theorem dist_at {es : List Ent} (hn : (es.map Ent.c).Nodup) {i j : Nat} {a b : Ent} (h1 : es[i]? = some a) (h2 : es[j]? = some b) (hc : a.c = b.c) : i = j := by
  have e1 : (es.map Ent.c)[i]? = some a.c := by rw [List.getElem?_map, h1]; rfl
  have e2 : (es.map Ent.c)[j]? = some a.c := by rw [List.getElem?_map, h2, hc]; rfl
  obtain ⟨l1, g1⟩ := List.getElem?_eq_some_iff.mp e1
  obtain ⟨l2, g2⟩ := List.getElem?_eq_some_iff.mp e2
  have pw := List.pairwise_iff_getElem.mp hn
  rcases Nat.lt_trichotomy i j with q | q | q
  · exact absurd (g1.trans g2.symm) (pw i j l1 l2 q)
  · exact q
  · exact absurd (g2.trans g1.symm) (pw j i l2 l1 q)
section
variable {P : Program} {w : World} {K : PySem.W.Frag} {mg : Str → Option Value} {base : Heap}
def S_begun : List PD → PD → Prop := fun ds d => ∃ c : Cod, Wf c ∧ ds = [dCod c] ∧ d = dSp (root c)
theorem sc_begun : FnScope ["coder"] ["coder"] (defScope s_begun) := ⟨rfl, rfl, rfl, by decide +kernel, rfl, by decide +kernel, by decide +kernel⟩
theorem f_begun (F : At K mg "begun" s_begun) : Fn P w K mg base 1 "begun" S_begun := by
  refine fn_at F sc_begun (fun _ _ _ _ _ _ us hl => match us, hl with | [_], _ => rfl) (fun ds d h => ?_) (fun f cdv A outer s H E hr ds d h => ?_)
  · obtain ⟨c, _, rfl, _⟩ := h
    rfl
  · obtain ⟨c, W, rfl, rfl⟩ := h
    refine sv_ret (d := dSp (root c)) (ev_is (ev_tup (ea_cons ev_int (ea_cons (ev_shl (i := 1) (shl_nat (m := 1) (by decide) (show c.size ≤ 1000 by have := W.s4; omega)) ev_int (ev_ixT (nm 0) ev_int (by rfl))) (ea_cons (ev_ixT (nm 0) ev_int (by rfl)) ea_nil)))) ?_) rfl
    have := i_shl 1 c.size
    rw [show ((1 : Int) * 2 ^ ((c.size : Int)).toNat) = ((1 * 2 ^ c.size : Nat) : Int) from this, Nat.one_mul]
    rfl
def S_place_of : List PD → PD → Prop := fun ds d => ∃ (c : Cod) (k i : Nat) (es : List Ent) (e : Ent), Wf c ∧ c.ctx[k]? = some es ∧ es[i]? = some e ∧ ds = [dCod c, dI k, .str (sgn e.c)] ∧ d = dI i
theorem sc_place_of : FnScope ["coder", "context", "letter", "place", "entry"] ["coder", "context", "letter"] (defScope s_place_of) := ⟨rfl, rfl, rfl, by decide +kernel, rfl, by decide +kernel, by decide +kernel⟩
theorem sgn_eq (a b : Nat) : decide (sgn a = sgn b) = decide (a = b) := by
  by_cases h : a = b
  · subst h
    rw [decide_eq_true rfl, decide_eq_true rfl]
  · rw [decide_eq_false h]
    exact decide_eq_false fun z => h (by
      have := congrArg (fun s : Str => s.cps.toList) z
      simpa using this)
theorem f_place_of (B : Blt mg) (F : At K mg "place_of" s_place_of) : Fn P w K mg base 1 "place_of" S_place_of := by
  refine fn_at F sc_place_of (fun _ _ _ _ _ _ us hl => match us, hl with | [_, _, _], _ => rfl) (fun ds d h => ?_) (fun f cdv A outer s H E hr ds d h => ?_)
  · obtain ⟨c, k, i, es, e, _, _, _, rfl, _⟩ := h
    rfl
  · obtain ⟨c, k, m, es, e, W, hk, hm, rfl, rfl⟩ := h
    refine sv_for (it_enT (ds := es.map dEnt) B.enumerate (ev_ixT (ev_ixT (nm 0) ev_int (by rfl)) (nm 1) (atI_nat (by rw [List.getElem?_map, hk]; rfl)))) (fun i r => i ≤ m ∧ ∃ x y, r = [some (.d (dCod c)), some (.d (dI k)), some (.d (.str (sgn e.c))), x, y]) ⟨Nat.zero_le _, none, none, rfl⟩ (fun i d r hi hp => ?_) (fun r hp => ?_)
    · obtain ⟨him, x, y, rfl⟩ := hp
      obtain ⟨d', h1, rfl⟩ := enumD_at hi
      rw [List.getElem?_map] at h1
      cases ha : es[i]? with
      | none =>
        rw [ha] at h1
        cases h1
      | some a =>
        rw [ha] at h1
        cases h1
        refine ⟨_, (bd_tup (bds_cons (bd_nm 3) (bds_cons (bd_nm 4) bds_nil))), ?_⟩
        refine sv_if (k := decide (a.c = e.c)) (et_is (et_cmp c_eqS (ev_ixT (nm 4) ev_int (by rfl)) (nm 2)) (sgn_eq _ _)) (fun h => ?_) (fun h => ?_)
        ·
          refine sv_ret (nm 3) ?_
          rw [dist_at (W.nd es (W.mem hk)) ha hm (of_decide_eq_true h)]
        · have hc := of_decide_eq_false h
          refine sv_nil (sv_nil ⟨?_, some (.d (dI i)), some (.d (dEnt a)), rfl⟩)
          rcases Nat.lt_or_ge i m with q | q
          · exact q
          · have : i = m := by omega
            subst this
            rw [ha] at hm
            cases hm
            exact absurd rfl hc
    · obtain ⟨him, _⟩ := hp
      rw [enumD_len, List.length_map] at him
      have := (List.getElem?_eq_some_iff.mp hm).1
      omega
def S_span_behind : List PD → PD → Prop := fun ds d => ∃ (c : Cod) (x : Spn) (k i : Nat) (es : List Ent) (e : Ent), Wf c ∧ SOk x ∧ x.d + 3 * c.size ≤ 200 ∧ c.ctx[k]? = some es ∧ es[i]? = some e ∧ 0 < cel c.fine es x.w i ∧ ds = [dCod c, dSp x, dI k, dI i] ∧ d = dSp (nxt c es x i e)
theorem sc_span_behind : FnScope ["coder", "span", "context", "place", "part", "low", "width", "depth", "begin", "end"] ["coder", "span", "context", "place"] (defScope s_span_behind) := ⟨rfl, rfl, rfl, by decide +kernel, rfl, by decide +kernel, by decide +kernel⟩
theorem isNone_opt (o : Option Nat) : isNone (dOpt o) = decide (o = none) := by
  cases o with
  | none => rfl
  | some n => exact (decide_eq_false fun z => nomatch z).symm
theorem f_span_behind (F : At K mg "span_behind" s_span_behind) (F_bounds_of : Fn P w K mg base 1 "bounds_of" S_bounds_of) (F_settle : Fn P w K mg base 4 "settle" S_settle) : Fn P w K mg base 5 "span_behind" S_span_behind := by
  refine fn_at F sc_span_behind (fun _ _ _ _ _ _ us hl => match us, hl with | [_, _, _, _], _ => rfl) (fun ds d h => ?_) (fun f cdv A outer s H E hr ds d h => ?_)
  · obtain ⟨_, _, _, _, _, _, _, _, _, _, _, _, rfl, _⟩ := h
    rfl
  · obtain ⟨c, x, k, i, es, e, W, hx, hd, hk, hi, hc, rfl, rfl⟩ := h
    have t0 := W.tot hk
    have il := (List.getElem?_eq_some_iff.mp hi).1
    have hle := bgn_nd c.fine es x.w i t0
    refine sv_bind (nm 1) (bd_tup (bds_cons (bd_nm 5) (bds_cons (bd_nm 6) (bds_cons (bd_nm 7) bds_nil)))) ?_
    refine sv_bind (d := .tuple [dI (bgn c.fine es x.w i), dI (nd c.fine es x.w i)]) (ev_ixL (ev_call F_bounds_of (hr.mono (by decide)) (ea_cons (nm 0) (ea_cons (nm 2) (ea_cons (nm 6) ea_nil))) ⟨c, k, x.w, es, W, hk, hx.lt.2.1, rfl, rfl⟩) (nm 3) (atI_nat (by unfold bndD; exact rg_at il))) (bd_tup (bds_cons (bd_nm 8) (bds_cons (bd_nm 9) bds_nil))) ?_
    refine sv_skip (et_is (et_cmp c_eqI (nm 8) (nm 9)) (decide_eq_false (by
      unfold cel at hc
      omega))) ?_
    refine sv_asg 4 (d := dSp (prt c es x i)) (ev_is (ev_tup (ea_cons (ev_add (nm 5) (nm 8)) (ea_cons (ev_sub (nm 9) (nm 8)) (ea_cons (nm 7) ea_nil)))) (by
      rw [i_add]
      show PyData.tuple [_, .int (((nd c.fine es x.w i : Nat) : Int) - ((bgn c.fine es x.w i : Nat) : Int)), _] = .tuple [_, .int ((cel c.fine es x.w i : Nat) : Int), _]
      rw [show (((nd c.fine es x.w i : Nat) : Int) - ((bgn c.fine es x.w i : Nat) : Int)) = ((cel c.fine es x.w i : Nat) : Int) by
        unfold cel
        omega]
      rfl)) ?_
    refine sv_ret (d := dSp (nxt c es x i e)) (ev_if (k := decide (e.to = none)) (et_is (et_cmp c_isN (ev_ixT (d := dOpt e.to) (ev_ixT (d := dEnt e) (ev_ixT (d := dCtx es) (ev_ixT (nm 0) ev_int (by rfl)) (nm 2) (atI_nat (by rw [List.getElem?_map, hk]; rfl))) (nm 3) (atI_nat (by rw [List.getElem?_map, hi]; rfl))) ev_int (by rfl)) ev_non) (isNone_opt _))
      (fun h => ev_is (nm 4) ?_) (fun h => ev_is (ev_ixT (ev_call F_settle (hr.mono (by decide)) (ea_cons (nm 0) (ea_cons (nm 4) ea_nil)) ⟨c, prt c es x i, hx.prt t0 hc, hd, W.s2, by have := W.s4; omega, rfl, rfl⟩) ev_int (by rfl)) ?_)) rfl
    · unfold nxt
      rw [if_pos (of_decide_eq_true h)]
    · unfold nxt
      rw [if_neg (of_decide_eq_false h)]
end
end G
set_option Elab.async false
set_option linter.all false
set_option maxRecDepth 100000
set_option maxHeartbeats 4000000
namespace G
open PySem PySem.Spec PyProof.Rows L2 Hd Bm
def pthD (ps : List (Nat × Nat)) : List PD := ps.map fun p => .tuple [dI p.1, dI p.2]
/-- the spans x of a text's beginnings -/
structure Wr (c : Cod) (cs : List Nat) (ps : List (Nat × Nat)) (ks : Nat → Option Nat) (xs : Nat → Spn) : Prop where
  p : Pth c cs ps ks
  few : cs.length ≤ 10
  z : xs 0 = root c
  s : ∀ j k i es e, j < cs.length → ps[j]? = some (k, i) → c.ctx[k]? = some es → es[i]? = some e → 0 < cel c.fine es (xs j).w i ∧ xs (j + 1) = nxt c es (xs j) i e
theorem Wr.ok {c : Cod} (W : Wf c) {cs : List Nat} {ps : List (Nat × Nat)} {ks : Nat → Option Nat} {xs : Nat → Spn} (h : Wr c cs ps ks xs) : ∀ j, j ≤ cs.length → SOk (xs j) ∧ (xs j).d ≤ c.size + 3 * c.size * j
  | 0, _ => by
    rw [h.z]
    exact ⟨root_ok W, by show c.size ≤ _; omega⟩
  | j + 1, hj => by
    obtain ⟨i1, i2⟩ := Wr.ok W h j (by omega)
    obtain ⟨k, i, es, e, h1, h2, h3, h4, h5, h6⟩ := h.p.at' j (by omega)
    obtain ⟨q1, q2⟩ := h.s j k i es e (by omega) h2 h3 h4
    have s4 := W.s4
    have few := h.few
    have bd : 3 * c.size * j ≤ 12 * 9 := Nat.mul_le_mul (by omega) (by omega)
    obtain ⟨r1, r2⟩ := nxt_ok (e := e) W i1 (show (xs j).d + 3 * c.size ≤ 200 by omega) (W.tot h3) q1
    rw [q2]
    refine ⟨r1, ?_⟩
    rw [Nat.mul_succ]
    omega
theorem Wr.dp {c : Cod} (W : Wf c) {cs : List Nat} {ps : List (Nat × Nat)} {ks : Nat → Option Nat} {xs : Nat → Spn} (h : Wr c cs ps ks xs) {j : Nat} (hj : j ≤ cs.length) : (xs j).d + 3 * c.size ≤ 200 := by
  have := (h.ok W j hj).2
  have s4 := W.s4
  have few := h.few
  have bd : 3 * c.size * j ≤ 12 * 10 := Nat.mul_le_mul (by omega) (by omega)
  omega
theorem abc_mem : ∀ c : Nat, c < 123 → 97 ≤ c → c ∈ ("abcdefghijklmnopqrstuvwxyz" : Str).cps.toList := by decide +kernel
theorem Pth.lett {c : Cod} (W : Wf c) {cs : List Nat} {ps : List (Nat × Nat)} {ks : Nat → Option Nat} (h : Pth c cs ps ks) : G.lett (wS cs) = true := by
  unfold G.lett
  rw [List.all_eq_true]
  intro b hb
  obtain ⟨z, hz, rfl⟩ := List.mem_map.mp hb
  obtain ⟨j, hj⟩ := List.getElem?_of_mem (show z ∈ cs from by simpa using hz)
  obtain ⟨k, i, es, e, h1, h2, h3, h4, h5, h6⟩ := h.at' j (List.getElem?_eq_some_iff.mp hj).1
  rw [hj] at h5
  cases h5
  have q := (W.ok es (W.mem h3) e (List.mem_of_getElem? h4)).2.2.1
  exact decide_eq_true (abc_mem _ (by omega) q.1)
theorem signs_at {cs : List Nat} {i : Nat} {d : PD} (h : (signsD (wS cs))[i]? = some d) : ∃ ch, cs[i]? = some ch ∧ d = .str (sgn ch) := by
  unfold signsD at h
  rw [List.getElem?_map] at h
  cases e : (wS cs).cps.toList[i]? with
  | none =>
    rw [e] at h
    cases h
  | some ch =>
    rw [e] at h
    cases h
    exact ⟨ch, by simpa using e, rfl⟩
theorem signs_len (cs : List Nat) : (signsD (wS cs)).length = cs.length := by
  unfold signsD
  simp
section
variable {P : Program} {w : World} {K : PySem.W.Frag} {mg : Str → Option Value} {base : Heap}
def S_path_of : List PD → PD → Prop := fun ds d => ∃ (c : Cod) (cs : List Nat) (ps : List (Nat × Nat)) (ks : Nat → Option Nat), Wf c ∧ Pth c cs ps ks ∧ cs.length ≤ 10 ∧ ds = [dCod c, .str (wS cs)] ∧ d = .tuple [.list (pthD ps), dOpt (ks cs.length)]
theorem sc_path_of : FnScope ["coder", "word", "path", "context", "number", "letter", "place"] ["coder", "word"] (defScope s_path_of) := ⟨rfl, rfl, rfl, by decide +kernel, rfl, by decide +kernel, by decide +kernel⟩
theorem f_path_of (B : Blt mg) (F : At K mg "path_of" s_path_of) (F_is_letters : Fn P w K mg base 1 "is_letters" S_is_letters) (F_place_of : Fn P w K mg base 1 "place_of" S_place_of) : Fn P w K mg base 2 "path_of" S_path_of := by
  refine fn_at F sc_path_of (fun _ _ _ _ _ _ us hl => match us, hl with | [_, _], _ => rfl) (fun ds d h => ?_) (fun f cdv A outer s H E hr ds d h => ?_)
  · obtain ⟨_, _, _, _, _, _, _, rfl, _⟩ := h
    rfl
  · obtain ⟨c, cs, ps, ks, W, hp, few, rfl, rfl⟩ := h
    refine sv_skip (et_is (et_not (et_val (k := true) (ev_call F_is_letters (hr.mono (by decide)) (ea_cons (nm 1) ea_nil) ⟨wS cs, by show cs.toArray.size ≤ 1000; rw [List.size_toArray]; omega, rfl, by rw [hp.lett W]⟩))) rfl) ?_
    refine sv_new 2 (eo_lst ea_nil) ?_
    refine sv_asg 3 ev_int ?_
    refine sv_for (it_enStr B.enumerate (nm 1)) (fun j r => ∃ x y z, r = [some (.d (dCod c)), some (.d (.str (wS cs))), some (.o (.l (pthD (ps.take j)))), some (.d (dOpt (ks j))), x, y, z]) ⟨none, none, none, by rw [hp.z]; rfl⟩ (fun j d r hi h => ?_) (fun r h => ?_)
    · obtain ⟨x, y, z, rfl⟩ := h
      obtain ⟨d', h1, rfl⟩ := enumD_at hi
      obtain ⟨ch, h2, rfl⟩ := signs_at h1
      obtain ⟨k, i, es, e, g1, g2, g3, g4, g5, g6⟩ := hp.at' j (List.getElem?_eq_some_iff.mp h2).1
      rw [g5] at h2
      cases h2
      rw [g1]
      refine ⟨_, (bd_tup (bds_cons (bd_nm 4) (bds_cons (bd_nm 5) bds_nil))), ?_⟩
      refine sv_asg 6 (d := dI i) (ev_if (k := false) (et_cmp c_isN (nm 3) ev_non) (fun h => nomatch h) (fun h => (ev_call F_place_of (hr.mono (by decide)) (ea_cons (nm 0) (ea_cons (nm 3) (ea_cons (nm 5) ea_nil))) ⟨c, k, i, es, e, W, g3, g4, rfl, rfl⟩))) ?_
      refine sv_skip (et_is (et_cmp c_lt (nm 6) ev_int) (decide_eq_false (by omega))) ?_
      refine sv_app 2 (xs := pthD (ps.take j)) (d := .tuple [dI k, dI i]) (ev_tup (ea_cons (nm 3) (ea_cons (nm 6) ea_nil))) (by
        unfold pthD
        rw [List.length_map, List.length_take]
        have := hp.len
        omega) ?_
      refine sv_asg 3 (d := dOpt e.to) (ev_ixT (d := dOpt e.to) (ev_ixT (d := dEnt e) (ev_ixT (d := dCtx es) (ev_ixT (nm 0) ev_int (by rfl)) (nm 3) (atI_nat (by rw [List.getElem?_map, g3]; rfl))) (nm 6) (atI_nat (by rw [List.getElem?_map, g4]; rfl))) ev_int (by rfl)) (sv_nil ⟨some (.d (.int (j : Nat))), some (.d (.str (sgn e.c))), some (.d (dI i)), ?_⟩)
      rw [g6, List.take_add_one, g2]
      unfold pthD
      rw [List.map_append]
      rfl
    · obtain ⟨x, y, z, rfl⟩ := h
      refine sv_frz 2 (sv_ret (ev_tup (ea_cons (nm 2) (ea_cons (nm 3) ea_nil))) ?_)
      rw [enumD_len, signs_len, ← hp.len, List.take_length]
def S_written_spans : List PD → PD → Prop := fun ds d => ∃ (c : Cod) (cs : List Nat) (ps : List (Nat × Nat)) (ks : Nat → Option Nat) (xs : Nat → Spn), Wf c ∧ Wr c cs ps ks xs ∧ ds = [dCod c, .str (wS cs), .list (pthD ps)] ∧ d = .list ((List.range (cs.length + 1)).map fun j => dSp (xs j))
theorem sc_written_spans : FnScope ["coder", "word", "path", "spans", "number", "span", "context", "place"] ["coder", "word", "path"] (defScope s_written_spans) := ⟨rfl, rfl, rfl, by decide +kernel, rfl, by decide +kernel, by decide +kernel⟩
theorem f_written_spans (B : Blt mg) (F : At K mg "written_spans" s_written_spans) (F_begun : Fn P w K mg base 1 "begun" S_begun) (F_span_behind : Fn P w K mg base 5 "span_behind" S_span_behind) : Fn P w K mg base 6 "written_spans" S_written_spans := by
  refine fn_at F sc_written_spans (fun _ _ _ _ _ _ us hl => match us, hl with | [_, _, _], _ => rfl) (fun ds d h => ?_) (fun f cdv A outer s H E hr ds d h => ?_)
  · obtain ⟨_, _, _, _, _, _, _, rfl, _⟩ := h
    rfl
  · obtain ⟨c, cs, ps, ks, xs, W, hw, rfl, rfl⟩ := h
    refine sv_new 3 (eo_lst (ea_cons (ev_call F_begun (hr.mono (by decide)) (ea_cons (nm 0) ea_nil) ⟨c, W, rfl, rfl⟩) ea_nil)) ?_
    refine sv_for (it_enum B.enumerate (nm 2)) (fun j r => ∃ x y z u, r = [some (.d (dCod c)), some (.d (.str (wS cs))), some (.d (.list (pthD ps))), some (.o (.l ((List.range (j + 1)).map fun j => dSp (xs j)))), x, y, z, u]) ⟨none, none, none, none, by
      rw [rg_succ, hw.z]
      rfl⟩ (fun j d r hi h => ?_) (fun r h => ?_)
    · obtain ⟨x, y, z, u, rfl⟩ := h
      obtain ⟨d', h1, rfl⟩ := enumD_at hi
      have hj : j < cs.length := by
        have := (List.getElem?_eq_some_iff.mp h1).1
        unfold pthD at this
        rw [List.length_map, hw.p.len] at this
        exact this
      obtain ⟨k, i, es, e, g1, g2, g3, g4, g5, g6⟩ := hw.p.at' j hj
      unfold pthD at h1
      rw [List.getElem?_map, g2] at h1
      cases h1
      obtain ⟨q1, q2⟩ := hw.s j k i es e hj g2 g3 g4
      refine ⟨_, (bd_tup (bds_cons (bd_nm 4) (bds_cons (bd_tup (bds_cons (bd_nm 6) (bds_cons (bd_nm 7) bds_nil))) bds_nil))), ?_⟩
      refine sv_asg 5 (d := dSp (xs (j + 1))) (ev_call F_span_behind (hr.mono (by decide)) (ea_cons (nm 0) (ea_cons (ev_ixO 3 (d := dSp (xs j)) (ds := (List.range (j + 1)).map fun j => dSp (xs j)) (ev_neg ev_int) (by
        rw [rg_succ]
        exact atI_last _ _)) (ea_cons (nm 6) (ea_cons (nm 7) ea_nil)))) ⟨c, xs j, k, i, es, e, W, (hw.ok W j (by omega)).1, hw.dp W (by omega), g3, g4, q1, rfl, by rw [q2]⟩) ?_
      refine sv_skip (et_is (et_cmp c_isN (nm 5) ev_non) rfl) ?_
      refine sv_app 3 (xs := (List.range (j + 1)).map fun j => dSp (xs j)) (nm 5) (by
        rw [List.length_map, List.length_range]
        have := hw.few
        omega) (sv_nil ⟨some (.d (.int (j : Nat))), some (.d (dSp (xs (j + 1)))), some (.d (dI k)), some (.d (dI i)), ?_⟩)
      rw [rg_succ (j + 1)]
      rfl
    · obtain ⟨x, y, z, u, rfl⟩ := h
      refine sv_frz 3 (sv_ret (nm 3) ?_)
      rw [enumD_len]
      unfold pthD
      rw [List.length_map, hw.p.len]
def S_span_of : List PD → PD → Prop := fun ds d => ∃ (c : Cod) (cs : List Nat) (ps : List (Nat × Nat)) (ks : Nat → Option Nat) (xs : Nat → Spn), Wf c ∧ Wr c cs ps ks xs ∧ ds = [dCod c, .str (wS cs)] ∧ d = dSp (xs cs.length)
theorem sc_span_of : FnScope ["coder", "word"] ["coder", "word"] (defScope s_span_of) := ⟨rfl, rfl, rfl, by decide +kernel, rfl, by decide +kernel, by decide +kernel⟩
theorem f_span_of (F : At K mg "span_of" s_span_of) (F_path_of : Fn P w K mg base 2 "path_of" S_path_of) (F_written_spans : Fn P w K mg base 6 "written_spans" S_written_spans) : Fn P w K mg base 7 "span_of" S_span_of := by
  refine fn_at F sc_span_of (fun _ _ _ _ _ _ us hl => match us, hl with | [_, _], _ => rfl) (fun ds d h => ?_) (fun f cdv A outer s H E hr ds d h => ?_)
  · obtain ⟨_, _, _, _, _, _, _, rfl, _⟩ := h
    rfl
  · obtain ⟨c, cs, ps, ks, xs, W, hw, rfl, rfl⟩ := h
    exact sv_ret (ev_ixL (ev_call F_written_spans (hr.mono (by decide)) (ea_cons (nm 0) (ea_cons (nm 1) (ea_cons (ev_ixT (d := .list (pthD ps)) (ev_call F_path_of (hr.mono (by decide)) (ea_cons (nm 0) (ea_cons (nm 1) ea_nil)) ⟨c, cs, ps, ks, W, hw.p, hw.few, rfl, rfl⟩) ev_int (by rfl)) ea_nil))) ⟨c, cs, ps, ks, xs, W, hw, rfl, rfl⟩) (ev_neg ev_int) (by
      rw [rg_succ]
      exact atI_last _ _)) rfl
end
end G
set_option Elab.async false
set_option linter.all false
set_option maxRecDepth 100000
set_option maxHeartbeats 4000000
/-! Parts of a settled span: which are alike; how wide they get. -/
namespace Bm
theorem in_block {x : Spn} {J c u : Nat} (hl : x.l = c * 2 ^ J + u) (hu : u + x.w ≤ 2 ^ J) (hw : 1 ≤ x.w) : x.o ≤ J := by
  unfold Spn.o
  rw [hl, show c * 2 ^ J + u + x.w - 1 = c * 2 ^ J + (u + x.w - 1) by omega, od_shift J c u (u + x.w - 1) (by omega) (by omega)]
  exact od_le J u (u + x.w - 1) (by omega) (by omega)
theorem half_sides {x : Spn} (h : 2 ≤ x.w) : x.L ≤ 2 ^ (x.o - 1) ∧ x.R ≤ 2 ^ (x.o - 1) ∧ 1 ≤ x.o := by
  obtain ⟨m, j, q, C⟩ := cen_of x.l x.w h
  have ho : x.o = j + 1 := C.od_eq
  obtain ⟨e1, e2⟩ := sides_cen C
  have e1 : x.L = m - x.l := e1
  have e2 : x.R = x.l + x.w - m := e2
  obtain ⟨e, a, b, c, d⟩ := C
  rw [ho, Nat.add_sub_cancel, e1, e2]
  omega
/-- left of a middle that 2 ^ J divides -/
theorem left_block {J m j q l : Nat} (hJ : J ≤ j) (he : m = (2 * q + 1) * 2 ^ j) (hl : l < m) (hm : m ≤ l + 2 ^ J) : ∃ c, l = c * 2 ^ J + (2 ^ J - (m - l)) := by
  have hp := pow_pos2 (j - J)
  have ep : 2 ^ j = 2 ^ (j - J) * 2 ^ J := by
    rw [← Nat.pow_add]
    congr 1
    omega
  refine ⟨(2 * q + 1) * 2 ^ (j - J) - 1, ?_⟩
  have h1 : ((2 * q + 1) * 2 ^ (j - J) - 1) * 2 ^ J = m - 2 ^ J := by
    rw [Nat.sub_mul, Nat.one_mul, he, ep, Nat.mul_assoc]
  rw [h1]
  have h2 : 2 ^ J ≤ m := by
    rw [he, ep, ← Nat.mul_assoc]
    exact Nat.le_mul_of_pos_left _ (Nat.mul_pos (by omega) hp)
  omega
theorem right_block {J m j q l : Nat} (hJ : J ≤ j) (he : m = (2 * q + 1) * 2 ^ j) (hl : m ≤ l) : ∃ c, l = c * 2 ^ J + (l - m) := by
  have ep : 2 ^ j = 2 ^ (j - J) * 2 ^ J := by
    rw [← Nat.pow_add]
    congr 1
    omega
  refine ⟨(2 * q + 1) * 2 ^ (j - J), ?_⟩
  rw [Nat.mul_assoc, ← ep, ← he]
  omega
/-- the cells b .. b + n of a span -/
def sub (x : Spn) (b n : Nat) : Spn := ⟨x.l + b, n, x.d⟩
theorem sub_cen {x : Spn} {m j q b n : Nat} (C : Cen x.l x.w m j q) (h : b + n ≤ x.w) (h1 : b < x.L) (h2 : x.L < b + n) : Cen (sub x b n).l (sub x b n).w m j q := by
  obtain ⟨e1, e2⟩ := sides_cen C
  have e1 : x.L = m - x.l := e1
  obtain ⟨e, a, b', c, d⟩ := C
  refine ⟨e, ?_, ?_, ?_, ?_⟩
  · show x.l + b < m
    omega
  · show m < x.l + b + n
    omega
  · show m ≤ x.l + b + 2 ^ j
    omega
  · show x.l + b + n ≤ m + 2 ^ j
    omega
/-- parts of alike spans are alike -/
theorem sub_alike {s : Nat} {x y : Spn} (hx : 2 ≤ x.w) (hw : x.w = y.w) (hL : x.L = y.L) (hR : x.R = y.R) (sx : s ≤ x.o) (sy : s ≤ y.o) {b n : Nat} (hn : 1 ≤ n) (h : b + n ≤ x.w) : Alike s (sub x b n) (sub y b n) := by
  obtain ⟨m, j, q, C⟩ := cen_of x.l x.w hx
  obtain ⟨m', j', q', C'⟩ := cen_of y.l y.w (by omega)
  have o1 : x.o = j + 1 := C.od_eq
  have o2 : y.o = j' + 1 := C'.od_eq
  obtain ⟨a1, a2⟩ := sides_cen C
  obtain ⟨b1, b2⟩ := sides_cen C'
  have a1 : x.L = m - x.l := a1
  have b1 : y.L = m' - y.l := b1
  have a2 : x.R = x.l + x.w - m := a2
  have b2 : y.R = y.l + y.w - m' := b2
  by_cases st : b < x.L ∧ x.L < b + n
  · have D := sub_cen C h st.1 st.2
    have D' := sub_cen C' (by omega) (by omega) (by omega) (b := b) (n := n)
    obtain ⟨c1, c2⟩ := sides_cen D
    obtain ⟨d1, d2⟩ := sides_cen D'
    refine .inr ⟨rfl, ?_, ?_, ?_, ?_⟩
    · rw [show (sub x b n).o = j + 1 from D.od_eq]
      omega
    · rw [show (sub y b n).o = j' + 1 from D'.od_eq]
      omega
    · rw [show (sub x b n).L = m - (x.l + b) from c1, show (sub y b n).L = m' - (y.l + b) from d1]
      have := C.a
      have := C'.a
      omega
    · rw [show (sub x b n).R = x.l + b + n - m from c2, show (sub y b n).R = y.l + b + n - m' from d2]
      have := C.a
      have := C'.a
      omega
  · refine .inl ⟨rfl, ?_⟩
    show ∃ J c c' u, x.l + b = c * 2 ^ J + u ∧ y.l + b = c' * 2 ^ J + u ∧ u + n ≤ 2 ^ J
    obtain ⟨e, a, b', c, d⟩ := C
    obtain ⟨e', ad, bd, cd, dd⟩ := C'
    by_cases lf : b + n ≤ x.L
    · rcases Nat.le_total j j' with hj | hj
      · obtain ⟨c1, k1⟩ := left_block (l := x.l + b) (Nat.le_refl j) e (by omega) (by omega)
        obtain ⟨c2, k2⟩ := left_block (l := y.l + b) hj e' (by omega) (by omega)
        exact ⟨j, c1, c2, _, k1, by rw [show m - (x.l + b) = m' - (y.l + b) by omega]; exact k2, by omega⟩
      · obtain ⟨c1, k1⟩ := left_block (l := x.l + b) hj e (by omega) (by omega)
        obtain ⟨c2, k2⟩ := left_block (l := y.l + b) (Nat.le_refl j') e' (by omega) (by omega)
        exact ⟨j', c1, c2, _, k1, by rw [show m - (x.l + b) = m' - (y.l + b) by omega]; exact k2, by omega⟩
    · have rt : x.L ≤ b := by omega
      rcases Nat.le_total j j' with hj | hj
      · obtain ⟨c1, k1⟩ := right_block (l := x.l + b) (Nat.le_refl j) e (by omega)
        obtain ⟨c2, k2⟩ := right_block (l := y.l + b) hj e' (by omega)
        exact ⟨j, c1, c2, _, k1, by rw [show x.l + b - m = y.l + b - m' by omega]; exact k2, by omega⟩
      · obtain ⟨c1, k1⟩ := right_block (l := x.l + b) hj e (by omega)
        obtain ⟨c2, k2⟩ := right_block (l := y.l + b) (Nat.le_refl j') e' (by omega)
        exact ⟨j', c1, c2, _, k1, by rw [show x.l + b - m = y.l + b - m' by omega]; exact k2, by omega⟩
/-- narrow -/
def Nar (s : Nat) (x : Spn) : Prop := x.o ≤ s ∨ (2 ≤ x.w ∧ x.L ≤ 2 ^ s ∧ x.R ≤ 2 ^ s)
theorem sub_nar {s : Nat} {x : Spn} (hx : 2 ≤ x.w) (hL : x.L ≤ 2 ^ s) (hR : x.R ≤ 2 ^ s) (so : s + 1 ≤ x.o) {b n : Nat} (hn : 1 ≤ n) (h : b + n ≤ x.w) : Nar s (sub x b n) := by
  obtain ⟨m, j, q, C⟩ := cen_of x.l x.w hx
  have o1 : x.o = j + 1 := C.od_eq
  obtain ⟨a1, a2⟩ := sides_cen C
  have a1 : x.L = m - x.l := a1
  have a2 : x.R = x.l + x.w - m := a2
  by_cases st : b < x.L ∧ x.L < b + n
  · have D := sub_cen C h st.1 st.2
    obtain ⟨c1, c2⟩ := sides_cen D
    refine .inr ⟨?_, ?_, ?_⟩
    · show 2 ≤ n
      omega
    · rw [show (sub x b n).L = m - (x.l + b) from c1]
      omega
    · rw [show (sub x b n).R = x.l + b + n - m from c2]
      have := C.a
      omega
  · refine .inl ?_
    obtain ⟨e, a, b', c, d⟩ := C
    by_cases lf : b + n ≤ x.L
    · obtain ⟨c1, k1⟩ := left_block (l := x.l + b) (show s ≤ j by omega) e (by omega) (by omega)
      exact in_block (x := sub x b n) k1 (by show 2 ^ s - (m - (x.l + b)) + n ≤ 2 ^ s; omega) hn
    · obtain ⟨c1, k1⟩ := right_block (l := x.l + b) (show s ≤ j by omega) e (by omega)
      exact in_block (x := sub x b n) k1 (by show x.l + b - m + n ≤ 2 ^ s; omega) hn
theorem sum_sides {x : Spn} (h : 2 ≤ x.w) : x.L + x.R = x.w ∧ 1 ≤ x.L ∧ 1 ≤ x.R := by
  obtain ⟨a, b, c⟩ := sides_pos (l := x.l) h
  exact ⟨c, a, b⟩
/-- doubled plainly, a narrow span's sides fit -/
theorem pl_fit {s : Nat} (hs : 2 ≤ s) {x : Spn} (hw : 1 ≤ x.w) (hn : Nar s x) : (dbl x (plT s x)).L ≤ 2 ^ s ∧ (dbl x (plT s x)).R ≤ 2 ^ s := by
  have ho := pl_open hw s
  have h2 := sp_two (dbl_w hw _) hs ho
  have e := dbl_o hw (plT s x)
  by_cases h : x.o ≤ s
  · have es : (dbl x (plT s x)).o = s := by
      rw [e]
      unfold plT
      omega
    obtain ⟨a, b, _⟩ := half_sides h2
    rw [es] at a b
    have : 2 ^ (s - 1) ≤ 2 ^ s := Nat.pow_le_pow_right (by decide) (by omega)
    omega
  · have ez : plT s x = 0 := by
      unfold plT
      omega
    rcases hn with q | ⟨q1, q2, q3⟩
    · exact absurd q h
    · rw [ez]
      obtain ⟨b1, b2⟩ := dbl_LR q1 0
      rw [b1, b2, Nat.pow_zero, Nat.mul_one, Nat.mul_one]
      exact ⟨q2, q3⟩
theorem upT_two : ∀ (k m lim : Nat), 0 < m → upT m lim = k + 1 → m * 2 ^ (k + 1) ≤ 2 * lim
  | 0, m, lim, h0, h => by
    have hl : m ≤ lim := by
      rcases Nat.lt_or_ge lim m with q | q
      · rw [upT_gt q] at h
        cases h
      · exact q
    rw [Nat.zero_add, Nat.pow_one]
    omega
  | k + 1, m, lim, h0, h => by
    have hl : m ≤ lim := by
      rcases Nat.lt_or_ge lim m with q | q
      · rw [upT_gt q] at h
        cases h
      · exact q
    rw [upT_le hl h0] at h
    have := upT_two k (m * 2) lim (by omega) (by omega)
    rw [pow_s]
    rw [Nat.mul_assoc] at this
    exact this
theorem settle_fit {man : Man} {s : Nat} (hs : 2 ≤ s) {x : Spn} (hw : 1 ≤ x.w) (hn : Nar s x) : (settle man s x).1.L ≤ 2 ^ s ∧ (settle man s x).1.R ≤ 2 ^ s := by
  have o1 := seT_open (man := man) hs hw
  have f1 := dbl_w hw (seT man s x)
  have w2 := sp_two f1 hs o1
  have ps : 2 ^ s = 2 * 2 ^ (s - 1) := by
    rw [← pow_s]
    congr 1
    omega
  have ps2 : 2 ^ (s - 1) = 2 * 2 ^ (s - 2) := by
    rw [← pow_s]
    congr 1
    omega
  have fit : (dbl x (seT man s x)).L ≤ 2 ^ s ∧ (dbl x (seT man s x)).R ≤ 2 ^ s := by
    cases man with
    | plain => exact pl_fit hs hw hn
    | cut => exact pl_fit hs hw hn
    | pending =>
      obtain ⟨a, b⟩ := pl_fit hs hw hn
      have h2 := sp_two (dbl_w hw (plT s x)) hs (pl_open hw s)
      have ed : dbl x (peT s x) = dbl (dbl x (plT s x)) (upT (max (dbl x (plT s x)).L (dbl x (plT s x)).R) (2 ^ (s - 2))) := by
        unfold peT dbl
        simp only [Nat.pow_add, Nat.mul_assoc, Nat.add_assoc]
      show (dbl x (peT s x)).L ≤ _ ∧ (dbl x (peT s x)).R ≤ _
      rw [ed]
      generalize hz : dbl x (plT s x) = z at *
      obtain ⟨b1, b2⟩ := dbl_LR h2 (upT (max z.L z.R) (2 ^ (s - 2)))
      rw [b1, b2]
      have m0 : 0 < max z.L z.R := by
        have := (sum_sides h2).2.1
        omega
      cases hk : upT (max z.L z.R) (2 ^ (s - 2)) with
      | zero =>
        rw [Nat.pow_zero, Nat.mul_one, Nat.mul_one]
        exact ⟨a, b⟩
      | succ k =>
        have q := upT_two k _ _ m0 hk
        have l1 : z.L * 2 ^ (k + 1) ≤ max z.L z.R * 2 ^ (k + 1) := Nat.mul_le_mul_right _ (by omega)
        have l2 : z.R * 2 ^ (k + 1) ≤ max z.L z.R * 2 ^ (k + 1) := Nat.mul_le_mul_right _ (by omega)
        omega
    | late =>
      have w2 : 2 ≤ (dbl x (upT x.w (2 ^ (s - 1)))).w := w2
      show (dbl x (upT x.w (2 ^ (s - 1)))).L ≤ _ ∧ (dbl x (upT x.w (2 ^ (s - 1)))).R ≤ _
      cases hk : upT x.w (2 ^ (s - 1)) with
      | zero =>
        rw [hk] at w2
        have hx2 : 2 ≤ x.w := by
          have : x.w * 2 ^ 0 = (dbl x 0).w := rfl
          omega
        obtain ⟨b1, b2⟩ := dbl_LR hx2 0
        rw [b1, b2, Nat.pow_zero, Nat.mul_one, Nat.mul_one]
        rcases hn with q | ⟨q1, q2, q3⟩
        · obtain ⟨a, b, c⟩ := half_sides hx2
          have : 2 ^ (x.o - 1) ≤ 2 ^ s := Nat.pow_le_pow_right (by decide) (by omega)
          omega
        · exact ⟨q2, q3⟩
      | succ k =>
        rw [hk] at w2
        have q := upT_two k _ _ hw hk
        have ss := sum_sides w2
        have ew : (dbl x (k + 1)).w = x.w * 2 ^ (k + 1) := rfl
        omega
  unfold settle
  generalize hz : dbl x (seT man s x) = z at *
  by_cases hc : man = .cut
  · rw [if_pos hc]
    split
    · rename_i hl
      have ez : plT s z = 0 := by
        unfold plT
        omega
      rw [ez]
      obtain ⟨b1, b2⟩ := dbl_LR w2 0
      show (dbl z 0).L ≤ _ ∧ (dbl z 0).R ≤ _
      rw [b1, b2, Nat.pow_zero, Nat.mul_one, Nat.mul_one]
      exact fit
    · rename_i hl
      refine pl_fit hs (kept_w w2) (.inl ?_)
      obtain ⟨m, j, q, C⟩ := cen_of z.l z.w w2
      have oz : z.o = j + 1 := C.od_eq
      obtain ⟨a1, a2⟩ := sides_cen C
      have a1 : z.L = m - z.l := a1
      have a2 : z.R = z.l + z.w - m := a2
      have ss := sum_sides w2
      obtain ⟨e, a, b, c, d⟩ := C
      unfold kept
      split
      · obtain ⟨c1, k1⟩ := left_block (l := z.l) (show s - 2 ≤ j by omega) e (by omega) (by omega)
        have := in_block (x := first z) (J := s - 2) k1 (by show 2 ^ (s - 2) - (m - z.l) + z.L ≤ _; omega) ss.2.1
        omega
      · obtain ⟨c1, k1⟩ := right_block (l := z.l + z.L) (show s - 2 ≤ j by omega) e (by omega)
        have := in_block (x := last z) (J := s - 2) k1 (by show z.l + z.L - m + z.R ≤ _; omega) ss.2.2
        omega
  · rw [if_neg hc]
    exact fit
/-- no wider than what was doubled -/
theorem settle_w {man : Man} {s : Nat} (hs : 2 ≤ s) {x : Spn} (hw : 1 ≤ x.w) : (settle man s x).1.w ≤ x.w * 2 ^ (settle man s x).2.1 := by
  have o1 := seT_open (man := man) hs hw
  have w2 := sp_two (dbl_w hw (seT man s x)) hs o1
  unfold settle
  by_cases hc : man = .cut
  · rw [if_pos hc]
    split
    · show x.w * _ * _ ≤ x.w * 2 ^ (_ + _)
      rw [Nat.pow_add, Nat.mul_assoc]
      exact Nat.le_refl _
    · show (kept (dbl x (seT man s x))).w * _ ≤ x.w * 2 ^ (_ + _)
      rw [Nat.pow_add, ← Nat.mul_assoc]
      refine Nat.mul_le_mul_right _ ?_
      have ss := sum_sides w2
      have ew : (dbl x (seT man s x)).w = x.w * 2 ^ seT man s x := rfl
      unfold kept
      split
      · show (dbl x (seT man s x)).L ≤ _
        omega
      · show (dbl x (seT man s x)).R ≤ _
        omega
  · rw [if_neg hc]
    exact Nat.le_refl _
end Bm
set_option Elab.async false
set_option linter.all false
set_option maxRecDepth 100000
set_option maxHeartbeats 4000000
/-! States and steps. -/
namespace G
open PySem PySem.Spec PyProof.Rows L2 Hd Bm
abbrev Sta := Nat × Nat × Nat
def keyS (s : Sta) : List Key := [.inl (s.1 : Int), .inl (s.2.1 : Int), .inl (s.2.2 : Int)]
def dSta (s : Sta) : PD := .tuple [dI s.1, dI s.2.1, dI s.2.2]
theorem dSta_key (s : Sta) : dSta s = keyD (keyS s) := rfl
theorem keyS_inj {a b : Sta} (h : keyS a = keyS b) : a = b := by
  obtain ⟨a1, a2, a3⟩ := a
  obtain ⟨b1, b2, b3⟩ := b
  unfold keyS at h
  injection h with h1 h
  injection h with h2 h
  injection h with h3 h
  have h1 := Int.ofNat.inj (Sum.inl.inj h1)
  have h2 := Int.ofNat.inj (Sum.inl.inj h2)
  have h3 := Int.ofNat.inj (Sum.inl.inj h3)
  have h1 : a1 = b1 := h1
  have h2 : a2 = b2 := h2
  have h3 : a3 = b3 := h3
  rw [h1, h2, h3]
def wid (s : Sta) : Nat := s.2.1 + s.2.2
/-- the span that stands for the state -/
def rep (c : Cod) (s : Sta) : Spn := ⟨2 ^ (2 * c.size - 1) - s.2.1, s.2.1 + s.2.2, 2 * c.size⟩
structure OkS (c : Cod) (s : Sta) : Prop where
  k : s.1 < c.ctx.length
  l1 : 1 ≤ s.2.1
  l2 : s.2.1 ≤ 2 ^ c.size
  r1 : 1 ≤ s.2.2
  r2 : s.2.2 ≤ 2 ^ c.size
inductive Tg where
  | mt | en | go (t : Sta)
  deriving DecidableEq
structure Step where
  ch : Nat
  tg : Tg
  db : Nat
  n : Nat
def tgD : Tg → PD
  | .mt => .str "empty"
  | .en => .str "end"
  | .go t => dSta t
def stepD (p : Step) : PD := .tuple [.str (sgn p.ch), tgD p.tg, dI p.db, dI p.n]
def staOf (k : Nat) (x : Spn) : Sta := (k, x.L, x.R)
def stp (c : Cod) (es : List Ent) (s : Sta) (i : Nat) (e : Ent) : Step :=
  if cel c.fine es (wid s) i = 0 then ⟨e.c, .mt, 0, 0⟩ else match e.to with
    | none => ⟨e.c, .en, 0, cel c.fine es (wid s) i⟩
    | some k => ⟨e.c, .go (staOf k (Bm.settle c.man c.size (prt c es (rep c s) i)).1), (Bm.settle c.man c.size (prt c es (rep c s) i)).2.1, cel c.fine es (wid s) i⟩
def ents (c : Cod) (k : Nat) : List Ent := c.ctx.getD k []
theorem ents_at {c : Cod} {k : Nat} {es : List Ent} (h : c.ctx[k]? = some es) : ents c k = es := by
  unfold ents
  rw [List.getD_eq_getElem?_getD, h]
  rfl
theorem ents_get {c : Cod} {k : Nat} (h : k < c.ctx.length) : c.ctx[k]? = some (ents c k) := by
  unfold ents
  rw [List.getD_eq_getElem?_getD, List.getElem?_eq_getElem h]
  rfl
def stps (c : Cod) (s : Sta) : List Step := (ents c s.1).mapIdx fun i e => stp c (ents c s.1) s i e
def stpsD (c : Cod) (s : Sta) : PD := .tuple ((stps c s).map stepD)
theorem stps_at {c : Cod} {s : Sta} {i : Nat} {p : Step} (h : (stps c s)[i]? = some p) : ∃ e, (ents c s.1)[i]? = some e ∧ p = stp c (ents c s.1) s i e := by
  unfold stps at h
  rw [List.getElem?_mapIdx] at h
  cases he : (ents c s.1)[i]? with
  | none =>
    rw [he] at h
    cases h
  | some e =>
    rw [he] at h
    exact ⟨e, rfl, (Option.some.inj h).symm⟩
theorem stps_len (c : Cod) (s : Sta) : (stps c s).length = (ents c s.1).length := by
  unfold stps
  rw [List.length_mapIdx]
/-- the middle of the span of a state -/
theorem rep_cen {c : Cod} (W : Wf c) {s : Sta} (h : OkS c s) : Cen (rep c s).l (rep c s).w (2 ^ (2 * c.size - 1)) (2 * c.size - 1) 0 := by
  have s2 := W.s2
  have e : 2 ^ c.size ≤ 2 ^ (2 * c.size - 1) := Nat.pow_le_pow_right (by decide) (by omega)
  have h1 := h.l1
  have h2 := h.l2
  have h3 := h.r1
  have h4 := h.r2
  refine ⟨by omega, ?_, ?_, ?_, ?_⟩
  · show 2 ^ (2 * c.size - 1) - s.2.1 < _
    omega
  · show _ < 2 ^ (2 * c.size - 1) - s.2.1 + (s.2.1 + s.2.2)
    omega
  · show _ ≤ 2 ^ (2 * c.size - 1) - s.2.1 + _
    omega
  · show 2 ^ (2 * c.size - 1) - s.2.1 + (s.2.1 + s.2.2) ≤ _
    omega
theorem rep_is {c : Cod} (W : Wf c) {s : Sta} (h : OkS c s) : (rep c s).L = s.2.1 ∧ (rep c s).R = s.2.2 ∧ (rep c s).o = 2 * c.size ∧ 2 ≤ (rep c s).w ∧ SOk (rep c s) := by
  have C := rep_cen W h
  have s2 := W.s2
  have s4 := W.s4
  have e : 2 ^ c.size ≤ 2 ^ (2 * c.size - 1) := Nat.pow_le_pow_right (by decide) (by omega)
  have e2 : 2 ^ (2 * c.size) = 2 * 2 ^ (2 * c.size - 1) := by
    rw [← pow_s]
    congr 1
    omega
  have h1 := h.l1
  have h2 := h.l2
  have h3 := h.r1
  have h4 := h.r2
  obtain ⟨a, b⟩ := sides_cen C
  refine ⟨?_, ?_, ?_, ?_, ⟨?_, ?_, ?_⟩⟩
  · show sL _ _ = _
    rw [a]
    show 2 ^ (2 * c.size - 1) - (2 ^ (2 * c.size - 1) - s.2.1) = _
    omega
  · show sR _ _ = _
    rw [b]
    show 2 ^ (2 * c.size - 1) - s.2.1 + (s.2.1 + s.2.2) - 2 ^ (2 * c.size - 1) = _
    omega
  · show od _ _ = _
    rw [C.od_eq]
    omega
  · show 2 ≤ s.2.1 + s.2.2
    omega
  · show 1 ≤ s.2.1 + s.2.2
    omega
  · show 2 ^ (2 * c.size - 1) - s.2.1 + (s.2.1 + s.2.2) ≤ 2 ^ (2 * c.size)
    omega
  · show 2 * c.size ≤ 200
    omega
theorem prt_sub (c : Cod) (es : List Ent) (x : Spn) (i : Nat) : prt c es x i = sub x (bgn c.fine es x.w i) (cel c.fine es x.w i) := rfl
/-- where a step goes on, the state behind is one -/
theorem go_ok {c : Cod} (W : Wf c) {s : Sta} (h : OkS c s) {i : Nat} {e : Ent} {t : Sta} (he : (ents c s.1)[i]? = some e) (ht : (stp c (ents c s.1) s i e).tg = .go t) :
    ∃ k, e.to = some k ∧ 0 < cel c.fine (ents c s.1) (wid s) i ∧ t = staOf k (Bm.settle c.man c.size (prt c (ents c s.1) (rep c s) i)).1 ∧ OkS c t ∧ SOk (prt c (ents c s.1) (rep c s) i) ∧
      stp c (ents c s.1) s i e = ⟨e.c, .go t, (Bm.settle c.man c.size (prt c (ents c s.1) (rep c s) i)).2.1, cel c.fine (ents c s.1) (wid s) i⟩ ∧ wid t ≤ cel c.fine (ents c s.1) (wid s) i * 2 ^ (Bm.settle c.man c.size (prt c (ents c s.1) (rep c s) i)).2.1 ∧
      (Bm.settle c.man c.size (prt c (ents c s.1) (rep c s) i)).2.1 ≤ 3 * c.size := by
  have hk := ents_get h.k
  have t0 := W.tot hk
  unfold stp at ht ⊢
  by_cases hc : cel c.fine (ents c s.1) (wid s) i = 0
  · rw [if_pos hc] at ht
    cases ht
  · rw [if_neg hc] at ht ⊢
    cases hto : e.to with
    | none =>
      rw [hto] at ht
      cases ht
    | some k =>
      rw [hto] at ht
      have et : staOf k (Bm.settle c.man c.size (prt c (ents c s.1) (rep c s) i)).1 = t := Tg.go.inj ht
      obtain ⟨r1, r2, r3, r4, r5⟩ := rep_is W h
      have hn : 1 ≤ cel c.fine (ents c s.1) (rep c s).w i := Nat.pos_of_ne_zero hc
      have sp := r5.prt (c := c) (i := i) t0 hn
      have hle := cel_le c.fine (ents c s.1) (rep c s).w i t0
      have nar : Nar c.size (prt c (ents c s.1) (rep c s) i) := by
        rw [prt_sub]
        exact sub_nar r4 (by rw [r1]; exact h.l2) (by rw [r2]; exact h.r2) (by have := W.s2; omega) hn hle
      obtain ⟨f1, f2⟩ := settle_fit (man := c.man) W.s2 (x := prt c (ents c s.1) (rep c s) i) hn nar
      obtain ⟨o1, o2⟩ := settle_open (man := c.man) W.s2 (x := prt c (ents c s.1) (rep c s) i) hn
      have w2 := sp_two o2 W.s2 o1
      have ss := sum_sides w2
      obtain ⟨_, q2, _, _⟩ := settle_ok (man := c.man) W.s2 sp (by show 2 * c.size + _ ≤ 200; have := W.s4; omega)
      refine ⟨k, rfl, Nat.pos_of_ne_zero hc, et.symm, ?_, sp, by rw [← et], ?_, q2⟩
      · rw [← et]
        refine ⟨(W.ok _ (W.mem hk) e (List.mem_of_getElem? he)).2.2.2 k hto, ss.2.1, f1, ss.2.2, f2⟩
      · rw [← et]
        show (Bm.settle c.man c.size (prt c (ents c s.1) (rep c s) i)).1.L + (Bm.settle c.man c.size (prt c (ents c s.1) (rep c s) i)).1.R ≤ _
        rw [ss.1]
        exact settle_w W.s2 hn
def st0 (c : Cod) : Sta := (0, 2 ^ (c.size - 1), 2 ^ (c.size - 1))
theorem st0_ok {c : Cod} (W : Wf c) : OkS c (st0 c) := by
  have p := pow_pos2 (c.size - 1)
  have e : 2 ^ (c.size - 1) ≤ 2 ^ c.size := Nat.pow_le_pow_right (by decide) (by omega)
  exact ⟨W.c1, p, e, p, e⟩
inductive Reach (c : Cod) : Sta → Prop
  | z : Reach c (st0 c)
  | s {s t : Sta} {p : Step} (h : Reach c s) (m : p ∈ stps c s) (e : p.tg = .go t) : Reach c t
theorem Reach.ok {c : Cod} (W : Wf c) {s : Sta} (h : Reach c s) : OkS c s := by
  induction h with
  | z => exact st0_ok W
  | @s s t p h m e ih =>
    obtain ⟨i, hi⟩ := List.getElem?_of_mem m
    obtain ⟨en, he, rfl⟩ := stps_at hi
    obtain ⟨_, _, _, _, q, _⟩ := go_ok W ih he e
    exact q
/-- all states -/
def allS (c : Cod) : List Sta := (List.range c.ctx.length).flatMap fun k => (List.range (2 ^ c.size + 1)).flatMap fun l => (List.range (2 ^ c.size + 1)).map fun r => (k, l, r)
theorem allS_mem {c : Cod} {s : Sta} (h : OkS c s) : s ∈ allS c := by
  obtain ⟨k, l, r⟩ := s
  have h1 := h.k
  have h2 := h.l2
  have h3 := h.r2
  simp only [allS, List.mem_flatMap, List.mem_map, List.mem_range]
  exact ⟨k, h1, l, by have : l ≤ _ := h2; omega, r, by have : r ≤ _ := h3; omega, rfl⟩
theorem flat_len {α β : Type} (f : α → List β) (n : Nat) : ∀ l : List α, (∀ a ∈ l, (f a).length ≤ n) → (l.flatMap f).length ≤ n * l.length
  | [], _ => by simp
  | a :: l, h => by
    rw [List.flatMap_cons, List.length_append, List.length_cons, Nat.mul_succ]
    have h1 := h a List.mem_cons_self
    have h2 := flat_len f n l fun x hx => h x (List.mem_cons_of_mem _ hx)
    omega
theorem allS_len {c : Cod} (W : Wf c) : (allS c).length ≤ 578 := by
  have p : 2 ^ c.size + 1 ≤ 17 := by
    have : 2 ^ c.size ≤ 2 ^ 4 := Nat.pow_le_pow_right (by decide) W.s4
    omega
  have h1 : ∀ k : Nat, ((List.range (2 ^ c.size + 1)).flatMap fun l => (List.range (2 ^ c.size + 1)).map fun r => (k, l, r)).length ≤ 289 := fun k => by
    refine Nat.le_trans (flat_len _ 17 _ fun l _ => ?_) ?_
    · rw [List.length_map, List.length_range]
      exact p
    · rw [List.length_range]
      omega
  have h2 := flat_len (fun k => (List.range (2 ^ c.size + 1)).flatMap fun l => (List.range (2 ^ c.size + 1)).map fun r => (k, l, r)) 289 (List.range c.ctx.length) fun k _ => h1 k
  rw [List.length_range] at h2
  have c2 := W.c2
  unfold allS
  omega
/-- states without repeats are few -/
theorem few_states {c : Cod} (W : Wf c) {gs : List Sta} (hn : gs.Nodup) (h : ∀ s ∈ gs, OkS c s) : gs.length ≤ 578 := by
  have := List.Nodup.length_le_of_subset hn (l₂ := allS c) fun s hs => allS_mem (h s hs)
  exact Nat.le_trans this (allS_len W)
end G
set_option Elab.async false
set_option linter.all false
set_option maxRecDepth 100000
set_option maxHeartbeats 4000000
namespace G
open PySem PySem.Spec PyProof.Rows L2 Hd Bm
section
variable {P : Program} {w : World} {K : PySem.W.Frag} {mg : Str → Option Value} {base : Heap}
def S_first_state : List PD → PD → Prop := fun ds d => ∃ c : Cod, Wf c ∧ ds = [dCod c] ∧ d = keyD (keyS (st0 c))
theorem sc_first_state : FnScope ["coder", "half"] ["coder"] (defScope s_first_state) := ⟨rfl, rfl, rfl, by decide +kernel, rfl, by decide +kernel, by decide +kernel⟩
theorem f_first_state (F : At K mg "first_state" s_first_state) : Fn P w K mg base 1 "first_state" S_first_state := by
  refine fn_at F sc_first_state (fun _ _ _ _ _ _ us hl => match us, hl with | [_], _ => rfl) (fun ds d h => ?_) (fun f cdv A outer s H E hr ds d h => ?_)
  · obtain ⟨_, _, rfl, _⟩ := h
    rfl
  · obtain ⟨c, W, rfl, rfl⟩ := h
    refine sv_asg 1 (d := dI (2 ^ (c.size - 1))) (ev_is (ev_shl (i := 1) (j := (c.size : Int) - 1) ?_ ev_int (ev_sub (ev_ixT (nm 0) ev_int (by rfl)) ev_int)) ?_) ?_
    · have := shl_nat (m := 1) (t := c.size - 1) (by decide) (by have := W.s4; omega)
      rw [show (((c.size - 1 : Nat) : Int)) = (c.size : Int) - 1 by have := W.s2; omega] at this
      exact this
    · rw [show ((c.size : Int) - 1) = ((c.size : Int) - ((1 : Nat) : Int)) by rfl, i_one_shl c.size 1 (by have := W.s2; omega)]
    exact sv_ret (ev_tup (ea_cons ev_int (ea_cons (nm 1) (ea_cons (nm 1) ea_nil)))) rfl
theorem zip_at {es : List Ent} {fine : Bool} {w i : Nat} {d : PD} (h : (zipD (es.map dEnt) (bndD fine es w))[i]? = some d) : ∃ e, es[i]? = some e ∧ d = .tuple [dEnt e, .tuple [dI (bgn fine es w i), dI (nd fine es w i)]] := by
  unfold zipD at h
  rw [List.getElem?_zipWith, List.getElem?_map] at h
  cases he : es[i]? with
  | none =>
    rw [he] at h
    cases h
  | some e =>
    rw [he] at h
    unfold bndD at h
    rw [rg_at (List.getElem?_eq_some_iff.mp he).1] at h
    exact ⟨e, rfl, (Option.some.inj h).symm⟩
theorem zip_len (es : List Ent) (fine : Bool) (w : Nat) : (zipD (es.map dEnt) (bndD fine es w)).length = es.length := by
  unfold zipD
  rw [List.length_zipWith, List.length_map, bnd_len, Nat.min_self]
def S_steps_from : List PD → PD → Prop := fun ds d => ∃ (c : Cod) (s : Sta), Wf c ∧ OkS c s ∧ ds = [dCod c, keyD (keyS s)] ∧ d = stpsD c s
theorem sc_steps_from : FnScope ["coder", "state", "depth", "low", "steps", "context", "left", "right", "cells", "letter", "count", "further", "begin", "end", "span", "doublings", "lost"] ["coder", "state"] (defScope s_steps_from) := ⟨rfl, rfl, rfl, by decide +kernel, rfl, by decide +kernel, by decide +kernel⟩
theorem f_steps_from (B : Blt mg) (F : At K mg "steps_from" s_steps_from) (F_bounds_of : Fn P w K mg base 1 "bounds_of" S_bounds_of) (F_settle : Fn P w K mg base 4 "settle" S_settle) (F_sides_of : Fn P w K mg base 2 "sides_of" S_sides_of) : Fn P w K mg base 5 "steps_from" S_steps_from := by
  refine fn_at F sc_steps_from (fun _ _ _ _ _ _ us hl => match us, hl with | [_, _], _ => rfl) (fun ds d h => ?_) (fun f cdv A outer s H E hr ds d h => ?_)
  · obtain ⟨_, _, _, _, rfl, _⟩ := h
    rfl
  · obtain ⟨c, st, W, hs, rfl, rfl⟩ := h
    have s2 := W.s2
    have s4 := W.s4
    have hk := ents_get hs.k
    have t0 := W.tot hk
    have el := (W.e2 _ (W.mem hk)).2
    obtain ⟨r1, r2, r3, r4, r5⟩ := rep_is W hs
    have e1 : 2 ^ c.size ≤ 2 ^ (2 * c.size - 1) := Nat.pow_le_pow_right (by decide) (by omega)
    have hl2 := hs.l2
    have hw : wid st < 2 ^ 250 := r5.lt.2.1
    refine sv_bind (d := dSta st) (nm 1) (bd_tup (bds_cons (bd_nm 5) (bds_cons (bd_nm 6) (bds_cons (bd_nm 7) bds_nil)))) ?_
    refine sv_asg 2 (d := dI (2 * c.size)) (ev_is (ev_mul (mul_nat (m := 2) (n := c.size) 2 3 (by decide) (by omega)) ev_int (ev_ixT (nm 0) ev_int (by rfl))) (i_mul 2 c.size ▸ rfl)) ?_
    refine sv_asg 3 (d := dI (rep c st).l) (ev_is (ev_sub (ev_shl (i := 1) (j := ((2 * c.size : Nat) : Int) - 1) ?_ ev_int (ev_sub (nm 2) ev_int)) (nm 6)) ?_) ?_
    · have := shl_nat (m := 1) (t := 2 * c.size - 1) (by decide) (by omega)
      rw [show (((2 * c.size - 1 : Nat) : Int)) = ((2 * c.size : Nat) : Int) - 1 by omega] at this
      exact this
    · rw [show (((2 * c.size : Nat) : Int) - 1) = (((2 * c.size : Nat) : Int) - ((1 : Nat) : Int)) by rfl, i_one_shl (2 * c.size) 1 (by omega)]
      show PyData.int (((2 ^ (2 * c.size - 1) : Nat) : Int) - ((st.2.1 : Nat) : Int)) = .int ((2 ^ (2 * c.size - 1) - st.2.1 : Nat) : Int)
      congr 1
      omega
    refine sv_new 4 (eo_lst ea_nil) ?_
    refine sv_for (it_zpTL (xs := (ents c st.1).map dEnt) (ys := bndD c.fine (ents c st.1) (wid st)) B.zip (ev_ixT (d := dCtx (ents c st.1)) (ev_ixT (nm 0) ev_int (by rfl)) (nm 5) (atI_nat (by rw [List.getElem?_map, hk]; rfl))) (ev_call F_bounds_of (hr.mono (by decide)) (ea_cons (nm 0) (ea_cons (nm 5) (ea_cons (ev_add (nm 6) (nm 7)) ea_nil))) ⟨c, st.1, wid st, ents c st.1, W, hk, hw, by rw [i_add]; rfl, rfl⟩))
      (fun i r => ∃ a0 a1 a2 a3 a4 a5 a6 a7 a8, r = [some (.d (dCod c)), some (.d (keyD (keyS st))), some (.d (dI (2 * c.size))), some (.d (dI (rep c st).l)), some (.o (.l (((stps c st).take i).map stepD))), some (.d (dI st.1)), some (.d (dI st.2.1)), some (.d (dI st.2.2)), a0, a1, a2, a3, a4, a5, a6, a7, a8]) ⟨none, none, none, none, none, none, none, none, none, rfl⟩ (fun i d r hi hp => ?_) (fun r hp => ?_)
    · obtain ⟨a0, a1, a2, a3, a4, a5, a6, a7, a8, rfl⟩ := hp
      obtain ⟨e, he, rfl⟩ := zip_at hi
      have hst : (stps c st)[i]? = some (stp c (ents c st.1) st i e) := by
        unfold stps
        rw [List.getElem?_mapIdx, he]
        rfl
      have hle := bgn_nd c.fine (ents c st.1) (wid st) i t0
      have tk : ((stps c st).take (i + 1)).map stepD = ((stps c st).take i).map stepD ++ [stepD (stp c (ents c st.1) st i e)] := by
        rw [List.take_add_one, hst, List.map_append]
        rfl
      have few : (((stps c st).take i).map stepD).length < 100000 := by
        rw [List.length_map, List.length_take, stps_len]
        omega
      refine ⟨_, (bd_tup (bds_cons (bd_tup (bds_cons (bd_nm 9) (bds_cons (bd_nm 10) (bds_cons (bd_nm 11) bds_nil)))) (bds_cons (bd_tup (bds_cons (bd_nm 12) (bds_cons (bd_nm 13) bds_nil))) bds_nil))), ?_⟩
      refine sv_asg 8 (d := dI (cel c.fine (ents c st.1) (wid st) i)) (ev_is (ev_sub (nm 13) (nm 12)) (by
        unfold cel
        congr 1
        omega)) ?_
      refine sv_if (k := decide (cel c.fine (ents c st.1) (wid st) i = 0)) (et_is (et_cmp c_eqI (nm 8) ev_int) (decide_eq_decide.mpr (by omega))) (fun h => ?_) (fun h => ?_)
      ·
        have hz := of_decide_eq_true h
        refine sv_app 4 (xs := ((stps c st).take i).map stepD) (d := stepD (stp c (ents c st.1) st i e)) (ev_is (ev_tup (ea_cons (nm 9) (ea_cons ev_str (ea_cons ev_int (ea_cons ev_int ea_nil))))) (by
          unfold stp
          rw [if_pos hz]
          rfl)) few (sv_nil (sv_nil ⟨_, _, _, _, _, _, a6, a7, a8, by rw [tk]; rfl⟩))
      · have hz := of_decide_eq_false h
        refine sv_if (et_is (et_cmp c_isN (nm 11) ev_non) (isNone_opt e.to)) (fun h2 => ?_) (fun h2 => ?_)
        ·
          have h2 := of_decide_eq_true h2
          refine sv_app 4 (xs := ((stps c st).take i).map stepD) (d := stepD (stp c (ents c st.1) st i e)) (ev_is (ev_tup (ea_cons (nm 9) (ea_cons ev_str (ea_cons ev_int (ea_cons (nm 8) ea_nil))))) (by
            unfold stp
            rw [if_neg hz, h2]
            rfl)) few (sv_nil (sv_nil (sv_nil ⟨_, _, _, _, _, _, a6, a7, a8, by rw [tk]; rfl⟩)))
        · have h2 := of_decide_eq_false h2
          cases hto : e.to with
          | none => exact absurd hto h2
          | some k =>
            have hn : 1 ≤ cel c.fine (ents c st.1) (rep c st).w i := Nat.pos_of_ne_zero hz
            have sp := r5.prt (c := c) (i := i) t0 hn
            obtain ⟨q1, q2, q3, _⟩ := settle_ok (man := c.man) W.s2 sp (show (2 * c.size) + 3 * c.size ≤ 200 by omega)
            obtain ⟨o1, o2⟩ := settle_open (man := c.man) W.s2 (x := prt c (ents c st.1) (rep c st) i) hn
            refine sv_bind (ev_call F_settle (hr.mono (by decide)) (ea_cons (nm 0) (ea_cons (ev_tup (ea_cons (ev_add (nm 3) (nm 12)) (ea_cons (nm 8) (ea_cons (nm 2) ea_nil)))) ea_nil)) ⟨c, prt c (ents c st.1) (rep c st) i, sp, (show (2 * c.size) + 3 * c.size ≤ 200 by omega), s2, by omega, by
              rw [i_add]
              rfl, rfl⟩) (bd_tup (bds_cons (bd_nm 14) (bds_cons (bd_nm 15) (bds_cons (bd_nm 16) bds_nil)))) ?_
            refine sv_app 4 (xs := ((stps c st).take i).map stepD) (d := stepD (stp c (ents c st.1) st i e)) (ev_is (ev_tup (ea_cons (nm 9) (ea_cons (ev_tup (ea_cons (nm 11) (ea_star (ev_call F_sides_of (hr.mono (by decide)) (ea_cons (nm 14) ea_nil) ⟨_, q1, sp_two o2 W.s2 o1, rfl, rfl⟩) ea_nil))) (ea_cons (nm 15) (ea_cons (nm 8) ea_nil))))) (by
              unfold stp
              rw [if_neg hz, hto]
              rfl)) few (sv_nil (sv_nil (sv_nil ⟨_, _, _, _, _, _, _, _, _, by rw [tk]; rfl⟩)))
    · obtain ⟨a0, a1, a2, a3, a4, a5, a6, a7, a8, rfl⟩ := hp
      rw [zip_len, ← stps_len c st, List.take_length]
      exact sv_frz 4 (sv_ret (ev_tupL B.tuple (nm 4)) rfl)
end
end G
set_option Elab.async false
set_option linter.all false
set_option maxRecDepth 100000
set_option maxHeartbeats 4000000
namespace G
open PySem PySem.Spec PyProof.Rows L2 Hd Bm
/-! the states that steps go on to -/
def tgs (c : Cod) (s : Sta) : List Sta := (stps c s).filterMap fun p => match p.tg with
  | .go t => some t
  | _ => none
def tgtD : PD → Option PD
  | .tuple [_, .tuple t, _, _] => some (.tuple t)
  | _ => none
theorem tgs_mem {c : Cod} {s t : Sta} : t ∈ tgs c s ↔ ∃ p ∈ stps c s, p.tg = .go t := by
  unfold tgs
  rw [List.mem_filterMap]
  constructor
  · rintro ⟨p, hp, e⟩
    refine ⟨p, hp, ?_⟩
    cases h : p.tg with
    | mt =>
      rw [h] at e
      cases e
    | en =>
      rw [h] at e
      cases e
    | go u =>
      rw [h] at e
      cases e
      rfl
  · rintro ⟨p, hp, e⟩
    exact ⟨p, hp, by rw [e]⟩
theorem tgs_len (c : Cod) (s : Sta) : (tgs c s).length ≤ (ents c s.1).length := by
  unfold tgs
  have := List.length_filterMap_le (fun p : Step => match p.tg with
    | .go t => some t
    | _ => none) (stps c s)
  rw [stps_len] at this
  exact this
theorem tgs_dat (c : Cod) (s : Sta) : ((stps c s).map stepD).filterMap tgtD = (tgs c s).map dSta := by
  unfold tgs
  rw [List.filterMap_map, List.map_filterMap]
  congr 1
  funext p
  show tgtD (stepD p) = _
  unfold stepD
  cases h : p.tg with
  | mt => rfl
  | en => rfl
  | go t => rfl
/-- the graph as far as it is drawn -/
structure Gph (c : Cod) (kvs : List (List Key × PD)) (gs : List Sta) : Prop where
  nd : gs.Nodup
  ok : ∀ s ∈ gs, OkS c s
  at' : ∀ s, s ∈ gs → vget kvs (keyS s) = some (stpsD c s)
  no : ∀ s, s ∉ gs → vget kvs (keyS s) = none
  len : kvs.length ≤ gs.length
theorem Gph.add {c : Cod} {kvs : List (List Key × PD)} {gs : List Sta} (h : Gph c kvs gs) {s : Sta} (hs : OkS c s) (hn : s ∉ gs) : Gph c (vput kvs (keyS s) (stpsD c s)) (s :: gs) := by
  refine ⟨List.nodup_cons.mpr ⟨hn, h.nd⟩, fun t ht => ?_, fun t ht => ?_, fun t ht => ?_, ?_⟩
  · rcases List.mem_cons.mp ht with e | e
    · rw [e]
      exact hs
    · exact h.ok t e
  · rw [vget_put]
    rcases List.mem_cons.mp ht with e | e
    · rw [e, if_pos rfl]
    · rw [if_neg fun z => hn (by rw [← keyS_inj z]; exact e)]
      exact h.at' t e
  · rw [vget_put, if_neg fun z => ht (by rw [keyS_inj z]; exact List.mem_cons_self)]
    exact h.no t fun z => ht (List.mem_cons_of_mem _ z)
  · have h1 := vput_len kvs (keyS s) (stpsD c s)
    have h2 := h.len
    rw [List.length_cons]
    omega
section
variable {P : Program} {w : World} {K : PySem.W.Frag} {mg : Str → Option Value} {base : Heap}
def Pre_graph : List PD → Prop := fun ds => ∃ c : Cod, Wf c ∧ ds = [dCod c]
def Post_graph : List PD → PD → Prop := fun ds d => ∀ c : Cod, ds = [dCod c] → ∃ kvs, d = dDict kvs ∧ ∀ s, Reach c s → vget kvs (keyS s) = some (stpsD c s)
theorem man_inj {a b : Man} (h : manS a = manS b) : a = b := by
  have := man_late a
  have := man_pending a
  have := man_cut a
  cases a <;> cases b <;> first | rfl | exact absurd h (by decide +kernel)
theorem div_inj {a b : Bool} (h : divS a = divS b) : a = b := by
  cases a <;> cases b <;> first | rfl | exact absurd h (by decide +kernel)
theorem dOpt_inj {a b : Option Nat} (h : dOpt a = dOpt b) : a = b := by
  cases a <;> cases b
  · rfl
  · exact nomatch h
  · exact nomatch h
  · rw [Int.ofNat.inj (PyData.int.inj h)]
theorem dEnt_inj {a b : Ent} (h : dEnt a = dEnt b) : a = b := by
  obtain ⟨a1, a2, a3⟩ := a
  obtain ⟨b1, b2, b3⟩ := b
  have h := PyData.tuple.inj h
  injection h with h1 h
  injection h with h2 h
  injection h with h3 h
  have e1 := congrArg (fun s : Str => s.cps.toList) (PyData.str.inj h1)
  have e1 : [a1] = [b1] := by simpa using e1
  have e1 : a1 = b1 := by injection e1
  have e2 : a2 = b2 := Int.ofNat.inj (PyData.int.inj h2)
  have e3 : a3 = b3 := dOpt_inj h3
  rw [e1, e2, e3]
theorem map_inj {α : Type} {f : α → PD} (hf : ∀ a b, f a = f b → a = b) : ∀ {xs ys : List α}, xs.map f = ys.map f → xs = ys
  | [], [], _ => rfl
  | [], _ :: _, h => nomatch h
  | _ :: _, [], h => nomatch h
  | x :: xs, y :: ys, h => by
    rw [List.map_cons, List.map_cons] at h
    injection h with h1 h2
    rw [hf _ _ h1, map_inj hf h2]
theorem dCod_inj {a b : Cod} (h : dCod a = dCod b) : a = b := by
  obtain ⟨a1, a2, a3, a4⟩ := a
  obtain ⟨b1, b2, b3, b4⟩ := b
  have h := PyData.tuple.inj h
  injection h with h1 h
  injection h with h2 h
  injection h with h3 h
  injection h with h4 h
  have e1 : a1 = b1 := Int.ofNat.inj (PyData.int.inj h1)
  have e2 : a2 = b2 := map_inj (fun x y z => map_inj (fun _ _ => dEnt_inj) (PyData.tuple.inj z)) (PyData.tuple.inj h2)
  have e3 : a3 = b3 := div_inj (PyData.str.inj h3)
  have e4 : a4 = b4 := man_inj (PyData.str.inj h4)
  rw [e1, e2, e3, e4]
theorem sc_graph_of : FnScope ["coder", "graph", "waiting", "state", "step"] ["coder"] (defScope s_graph_of) := ⟨rfl, rfl, rfl, by decide +kernel, rfl, by decide +kernel, by decide +kernel⟩
theorem f_graph_of (B : Blt mg) (F : At K mg "graph_of" s_graph_of) (F_first_state : Fn P w K mg base 1 "first_state" S_first_state) (F_steps_from : Fn P w K mg base 5 "steps_from" S_steps_from) : FnN P w K mg base 6 "graph_of" Pre_graph Post_graph := by
  refine fn_atN F sc_graph_of (fun _ _ _ _ _ _ us hl => match us, hl with | [_], _ => rfl) (fun ds h => ?_) (fun f cdv A outer s H E hr ds h => ?_)
  · obtain ⟨_, _, rfl⟩ := h
    rfl
  · obtain ⟨c, W, rfl⟩ := h
    refine sv_new 1 eo_dT ?_
    refine sv_new 2 (eo_lst (ea_cons (ev_call F_first_state (hr.mono (by decide)) (ea_cons (nm 0) ea_nil) ⟨c, W, rfl, rfl⟩) ea_nil)) ?_
    refine sv_while (fun m r => ∃ kvs gs ws a b, r = [some (.d (dCod c)), some (.o (.t kvs)), some (.o (.l (ws.map dSta))), a, b] ∧ Gph c kvs gs ∧ (∀ t ∈ ws, OkS c t) ∧ (st0 c ∈ gs ∨ st0 c ∈ ws) ∧ (∀ s ∈ gs, ∀ t ∈ tgs c s, t ∈ gs ∨ t ∈ ws) ∧ m + 5 * gs.length = 2890 + ws.length ∧ m ≤ 2891) 2891
      ⟨[], [], [st0 c], none, none, rfl, ⟨List.nodup_nil, fun _ h => (nomatch h), fun _ h => (nomatch h), fun _ _ => rfl, Nat.le_refl _⟩, fun t ht => by rw [List.mem_singleton.mp ht]; exact st0_ok W, .inr List.mem_cons_self, fun _ h => (nomatch h), rfl, Nat.le_refl _⟩ (fun m r hw => ?_)
    obtain ⟨kvs, gs, ws, a, b, rfl, hg, hok, h0, hcl, hm, hm2⟩ := hw
    refine ⟨!(ws.map dSta).isEmpty, et_ownL 2, fun h => ?_, fun h => ?_⟩
    · rcases List.eq_nil_or_concat ws with e | ⟨vs, st, e⟩
      · subst e
        cases h
      · rw [List.concat_eq_append] at e
        subst e
        have hst : OkS c st := hok st (List.mem_append_right _ List.mem_cons_self)
        rw [List.map_append]
        refine sv_pop 2 3 (xs := vs.map dSta) (d := keyD (keyS st)) ?_
        refine sv_if (et_notinT 1 (rm1 hr) (nm 3)) (fun h2 => ?_) (fun h2 => ?_)
        · have hnot : st ∉ gs := fun z => by
            rw [hg.at' st z] at h2
            cases h2
          have hg' := hg.add hst hnot
          have few := few_states W hg'.nd hg'.ok
          rw [List.length_cons] at few
          have ks := hg.len
          have te := tgs_len c st
          have el := (W.e2 _ (W.mem (ents_get hst.k))).2
          refine sv_putT 1 (d := stpsD c st) (ks := keyS st) (kvs := kvs) (rm1 hr) (ev_call F_steps_from (hr.mono (by decide)) (ea_cons (nm 0) (ea_cons (nm 3) ea_nil)) ⟨c, st, W, hst, rfl, rfl⟩) (nm 3) (by omega) ?_
          refine sv_ext 2 (xs := vs.map dSta) (ys := (tgs c st).map dSta) (eo_is (eo_lcF [("step", 4)] (it_tup (ds := (stps c st).map stepD) (ev_getT 1 (d := stpsD c st) (ks := keyS st) (kvs := vput kvs (keyS st) (stpsD c st)) (rm1 hr) (nm 3) (by rw [vget_put, if_pos rfl]))) tgtD (by
            rw [List.length_map, stps_len]
            omega) (fun i d hi => by
            rw [List.getElem?_map] at hi
            cases hp : (stps c st)[i]? with
            | none =>
              rw [hp] at hi
              cases hi
            | some p =>
              rw [hp] at hi
              cases hi
              obtain ⟨ch, tg, db, n⟩ := p
              cases tg with
              | mt => exact ⟨_, false, fun s H C cl fp => ⟨bv_nm 4, et_val (ev_isi B.isinstance (U := "str") (T := "tuple") (ev_ixT (nm 4) ev_int (by rfl)) rfl B.tuple (by decide +kernel) (by decide +kernel)), fun _ => rfl, fun z => nomatch z⟩⟩
              | en => exact ⟨_, false, fun s H C cl fp => ⟨bv_nm 4, et_val (ev_isi B.isinstance (U := "str") (T := "tuple") (ev_ixT (nm 4) ev_int (by rfl)) rfl B.tuple (by decide +kernel) (by decide +kernel)), fun _ => rfl, fun z => nomatch z⟩⟩
              | go t => exact ⟨_, true, fun s H C cl fp => ⟨bv_nm 4, et_val (ev_isi B.isinstance (U := "tuple") (T := "tuple") (ev_ixT (d := dSta t) (nm 4) ev_int (by rfl)) rfl B.tuple (by decide +kernel) (by decide +kernel)), fun z => (nomatch z), fun _ => ⟨dSta t, rfl, ev_ixT (nm 4) ev_int (by rfl)⟩⟩⟩) (blkOk_by (N := ["coder", "graph", "waiting", "state", "step"]) (sc := defScope s_graph_of) (by decide +kernel))) (by rw [tgs_dat])) ?_ ?_
          · rw [List.length_map, List.length_map]
            rw [List.length_append, List.length_singleton] at hm
            omega
          · refine sv_nil (sv_nil ⟨2890 + (vs.length + (tgs c st).length) - 5 * (gs.length + 1), ?_, vput kvs (keyS st) (stpsD c st), st :: gs, vs ++ tgs c st, _, _, by rw [List.map_append]; rfl, hg', fun t ht => ?_, ?_, fun s hs t ht => ?_, ?_, by rw [List.length_append, List.length_singleton] at hm; omega⟩)
            · rw [List.length_append, List.length_singleton] at hm
              omega
            · rcases List.mem_append.mp ht with q | q
              · exact hok t (List.mem_append_left _ q)
              · obtain ⟨p, hp, e⟩ := tgs_mem.mp q
                obtain ⟨i, hi⟩ := List.getElem?_of_mem hp
                obtain ⟨en, he, rfl⟩ := stps_at hi
                obtain ⟨_, _, _, _, q5, _⟩ := go_ok W hst he e
                exact q5
            · rcases h0 with q | q
              · exact .inl (List.mem_cons_of_mem _ q)
              · rcases List.mem_append.mp q with q | q
                · exact .inr (List.mem_append_left _ q)
                · rw [List.mem_singleton.mp q]
                  exact .inl List.mem_cons_self
            · rcases List.mem_cons.mp hs with e | e
              · subst e
                exact .inr (List.mem_append_right _ ht)
              · rcases hcl s e t ht with q | q
                · exact .inl (List.mem_cons_of_mem _ q)
                · rcases List.mem_append.mp q with q | q
                  · exact .inr (List.mem_append_left _ q)
                  · rw [List.mem_singleton.mp q]
                    exact .inl List.mem_cons_self
            · rw [List.length_append, List.length_cons]
              omega
        · have hin : st ∈ gs := Classical.byContradiction fun z => by
            rw [hg.no st z] at h2
            cases h2
          rw [List.length_append, List.length_singleton] at hm
          have few := few_states W hg.nd hg.ok
          have mem : ∀ t, t ∈ gs ∨ t ∈ vs ++ [st] → t ∈ gs ∨ t ∈ vs := fun t q => by
            rcases q with q | q
            · exact .inl q
            · rcases List.mem_append.mp q with q | q
              · exact .inr q
              · rw [List.mem_singleton.mp q]
                exact .inl hin
          refine sv_nil (sv_nil ⟨m - 1, by omega, kvs, gs, vs, _, _, rfl, hg, fun t ht => hok t (List.mem_append_left _ ht), mem _ h0, fun s hs t ht => mem _ (hcl s hs t ht), by omega, by omega⟩)
    · have e : ws = [] := by
        cases ws with
        | nil => rfl
        | cons x xs => cases h
      subst e
      refine sv_frzT 1 (sv_ret (nm 1) fun c' hc' => ?_)
      injection hc' with hc'
      have := dCod_inj hc'
      subst this
      refine ⟨kvs, rfl, fun s hs => hg.at' s ?_⟩
      induction hs with
      | z => exact h0.elim id fun z => nomatch z
      | @s s t p hs mp e ih => exact (hcl s ih t (tgs_mem.mpr ⟨p, mp, e⟩)).elim id fun z => nomatch z
def S_check_length : List PD → PD → Prop := fun ds d => ∃ n : Nat, n ≤ 30 ∧ ds = [dI n] ∧ d = .none
theorem sc_check_length : FnScope ["n"] ["n"] (defScope s_check_length) := ⟨rfl, rfl, rfl, by decide +kernel, rfl, by decide +kernel, by decide +kernel⟩
theorem f_check_length (B : Blt mg) (F : At K mg "check_length" s_check_length) (F_is_number : Fn P w K mg base 2 "is_number" S_is_number) : Fn P w K mg base 3 "check_length" S_check_length := by
  refine fn_at F sc_check_length (fun _ _ _ _ _ _ us hl => match us, hl with | [_], _ => rfl) (fun ds d h => ?_) (fun f cdv A outer s H E hr ds d h => ?_)
  · obtain ⟨_, _, rfl, _⟩ := h
    rfl
  · obtain ⟨n, hn, rfl, rfl⟩ := h
    obtain ⟨t, hM⟩ := B.most
    exact sv_skip (et_is (et_w (ew_or (k1 := false) (k2 := false) (et_is (et_not (et_val (k := true) (ev_call F_is_number (hr.mono (by decide)) (ea_cons (nm 0) ea_nil) ⟨_, rfl, by rw [decide_eq_true (Int.natCast_nonneg n)]⟩))) rfl) fun h => (ew_or1 (et_is (et_cmp c_gt (nm 0) (ev_gint hM)) (decide_eq_false (by omega)))))) rfl) (sv_nil rfl)
end
end G
set_option Elab.async false
set_option linter.all false
set_option maxRecDepth 100000
set_option maxHeartbeats 4000000
/-! Shares: whole numbers over 2 ^ 64, by states. -/
namespace G
open PySem PySem.Spec PyProof.Rows L2 Hd Bm
theorem lowD_scale (a b : Nat) {k : Nat} (hk : 0 < k) : lowD (a * k) (b * k) = lowD a b := by
  unfold lowD
  rw [Nat.gcd_mul_right, Nat.mul_div_mul_right _ _ hk, Nat.mul_div_mul_right _ _ hk]
abbrev Z64 : Nat := 18446744073709551616
def nfA (m : Nat) : Nat := m / Nat.gcd m Z64
def nfB (m : Nat) : Nat := Z64 / Nat.gcd m Z64
def nfD (m : Nat) : PD := dF (nfA m) (nfB m)
theorem nf_low (m : Nat) : nfD m = lowD m Z64 := rfl
theorem nf_g (m : Nat) : 0 < Nat.gcd m Z64 := Nat.gcd_pos_of_pos_right _ (by decide)
theorem nfA_mul (m : Nat) : nfA m * Nat.gcd m Z64 = m := Nat.div_mul_cancel (Nat.gcd_dvd_left _ _)
theorem nfB_mul (m : Nat) : nfB m * Nat.gcd m Z64 = Z64 := Nat.div_mul_cancel (Nat.gcd_dvd_right _ _)
theorem nfB_pos (m : Nat) : 0 < nfB m := by
  have := nfB_mul m
  rcases Nat.eq_zero_or_pos (nfB m) with h | h
  · rw [h, Nat.zero_mul] at this
    cases this
  · exact h
theorem nfA_lt {m : Nat} (h : m ≤ Z64) : nfA m < 2 ^ 120 := Nat.lt_of_le_of_lt (Nat.le_trans (Nat.div_le_self _ _) h) (by decide)
theorem nfB_lt (m : Nat) : nfB m < 2 ^ 120 := Nat.lt_of_le_of_lt (Nat.div_le_self _ _) (by decide)
theorem nf_plus (m n : Nat) : lowD (nfA m * nfB n + nfA n * nfB m) (nfB m * nfB n) = nfD (m + n) := by
  have g1 := nf_g m
  have g2 := nf_g n
  rw [← lowD_scale _ _ (Nat.mul_pos g1 g2)]
  have e1 : nfB m * nfB n * (Nat.gcd m Z64 * Nat.gcd n Z64) = Z64 * Z64 := by
    rw [Nat.mul_mul_mul_comm, nfB_mul, nfB_mul]
  have e2 : (nfA m * nfB n + nfA n * nfB m) * (Nat.gcd m Z64 * Nat.gcd n Z64) = (m + n) * Z64 := by
    rw [Nat.add_mul, Nat.mul_mul_mul_comm, nfA_mul, nfB_mul, Nat.mul_comm (Nat.gcd m Z64), Nat.mul_mul_mul_comm, nfA_mul, nfB_mul, Nat.add_mul]
  rw [e1, e2, lowD_scale _ _ (by decide)]
  rfl
/-- a share times n / w -/
theorem nf_times (m n w : Nat) (hw : 0 < w) : lowD (nfA m * (n / Nat.gcd n w)) (nfB m * (w / Nat.gcd n w)) = lowD (m * n) (Z64 * w) := by
  have g1 := nf_g m
  have g2 : 0 < Nat.gcd n w := Nat.gcd_pos_of_pos_right _ hw
  rw [← lowD_scale _ _ (Nat.mul_pos g1 g2), Nat.mul_mul_mul_comm, nfA_mul, Nat.div_mul_cancel (Nat.gcd_dvd_left _ _), Nat.mul_mul_mul_comm, nfB_mul, Nat.div_mul_cancel (Nat.gcd_dvd_right _ _)]
theorem nf_zero : nfD 0 = dF 0 1 := by
  unfold nfD
  rw [show nfA 0 = 0 by decide +kernel, show nfB 0 = 1 by decide +kernel]
theorem nf_one : nfD Z64 = dF 1 1 := by
  unfold nfD
  rw [show nfA Z64 = 1 by decide +kernel, show nfB Z64 = 1 by decide +kernel]

/-! ### the sums -/
abbrev Shs := List (Sta × Nat)
def addS (sh : Shs) (t : Sta) (v : Nat) : Shs := if t ∈ sh.map (·.1) then sh.map (fun q => if q.1 = t then (q.1, q.2 + v) else q) else sh ++ [(t, v)]
def getU : Shs → Sta → Nat
  | [], _ => 0
  | q :: r, t => if q.1 = t then q.2 else getU r t
def sumF (f : Sta → Nat) (sh : Shs) : Nat := (sh.map fun q => q.2 * f q.1).sum
def mass (sh : Shs) : Nat := sumF wid sh
theorem sumF_nil (f : Sta → Nat) : sumF f [] = 0 := rfl
theorem sumF_cons (f : Sta → Nat) (q : Sta × Nat) (r : Shs) : sumF f (q :: r) = q.2 * f q.1 + sumF f r := by
  unfold sumF
  rw [List.map_cons, List.sum_cons]
theorem sumF_app (f : Sta → Nat) (a b : Shs) : sumF f (a ++ b) = sumF f a + sumF f b := by
  unfold sumF
  rw [List.map_append, List.sum_append]
theorem addS_keys (sh : Shs) (t : Sta) (v : Nat) : (addS sh t v).map (·.1) = if t ∈ sh.map (·.1) then sh.map (·.1) else sh.map (·.1) ++ [t] := by
  unfold addS
  split
  · rw [List.map_map]
    refine List.map_congr_left fun q _ => ?_
    show (if q.1 = t then (q.1, q.2 + v) else q).1 = q.1
    split <;> rfl
  · rw [List.map_append]
    rfl
theorem addS_nd {sh : Shs} {t : Sta} {v : Nat} (h : (sh.map (·.1)).Nodup) : ((addS sh t v).map (·.1)).Nodup := by
  rw [addS_keys]
  split
  · exact h
  · rename_i hn
    rw [List.nodup_append]
    refine ⟨h, by simp, fun a ha b hb => ?_⟩
    rw [List.mem_singleton.mp hb]
    exact fun z => hn (z ▸ ha)
theorem sumF_add (f : Sta → Nat) {sh : Shs} {t : Sta} {v : Nat} (h : (sh.map (·.1)).Nodup) : sumF f (addS sh t v) = sumF f sh + v * f t := by
  unfold addS
  split
  · rename_i hm
    have no : ∀ sh : Shs, t ∉ sh.map (·.1) → sh.map (fun q => if q.1 = t then (q.1, q.2 + v) else q) = sh := fun sh hn => by
      conv => rhs; rw [← List.map_id sh]
      refine List.map_congr_left fun q hq => ?_
      rw [if_neg fun z => hn (List.mem_map.mpr ⟨q, hq, z⟩)]
      rfl
    induction sh with
    | nil => cases hm
    | cons q r ih =>
      rw [List.map_cons] at h hm
      obtain ⟨h1, h2⟩ := List.nodup_cons.mp h
      rw [List.map_cons, sumF_cons, sumF_cons]
      by_cases e : q.1 = t
      · rw [if_pos e, no r (e ▸ h1)]
        show (q.2 + v) * f q.1 + _ = _
        rw [e, Nat.add_mul]
        omega
      · rw [if_neg e, ih h2 (by
          rcases List.mem_cons.mp hm with z | z
          · exact absurd z.symm e
          · exact z)]
        omega
  · rw [sumF_app, sumF_cons, sumF_nil, Nat.add_zero]
theorem mem_addS {sh : Shs} {t : Sta} {v : Nat} {q : Sta × Nat} (h : q ∈ addS sh t v) : (∃ u, (q.1, u) ∈ sh ∧ (q.2 = u ∨ (q.1 = t ∧ q.2 = u + v))) ∨ q = (t, v) := by
  unfold addS at h
  split at h
  · obtain ⟨p, hp, rfl⟩ := List.mem_map.mp h
    split
    · rename_i e
      exact .inl ⟨p.2, hp, .inr ⟨e, rfl⟩⟩
    · exact .inl ⟨p.2, hp, .inl rfl⟩
  · rcases List.mem_append.mp h with h | h
    · exact .inl ⟨q.2, h, .inl rfl⟩
    · exact .inr (List.mem_singleton.mp h)
structure Acc where
  en : Nat
  lo : Nat
  fu : Shs
def total (a : Acc) : Nat := a.en + a.lo + mass a.fu
def stepF (u : Nat) (a : Acc) (p : Step) : Acc := match p.tg with
  | .mt => a
  | .en => ⟨a.en + u * p.n, a.lo, a.fu⟩
  | .go t => ⟨a.en, a.lo + (u * p.n - u / 2 ^ p.db * wid t), addS a.fu t (u / 2 ^ p.db)⟩
def stateF (c : Cod) (a : Acc) (q : Sta × Nat) : Acc := (stps c q.1).foldl (stepF q.2) a
def levelF (c : Cod) (sh : Shs) (en lo : Nat) : Acc := sh.foldl (stateF c) ⟨en, lo, []⟩
def lev (c : Cod) : Nat → Acc
  | 0 => ⟨0, 0, [(st0 c, 2 ^ (64 - c.size))]⟩
  | n + 1 => levelF c (lev c n).fu (lev c n).en (lev c n).lo
/-- the shares' divisor: all depths at the n-th letter are at most this -/
def dep (n : Nat) : Nat := 4 + 12 * n
structure AccOk (c : Cod) (n : Nat) (a : Acc) : Prop where
  nd : (a.fu.map (·.1)).Nodup
  re : ∀ q ∈ a.fu, Reach c q.1
  dv : ∀ q ∈ a.fu, 2 ^ (64 - dep n) ∣ q.2
/-- of the cells, how many lie ahead of the i-th entry -/
def con (fine : Bool) (es : List Ent) (w i : Nat) : Nat := if i < es.length then bgn fine es w i else w
theorem con_zero (fine : Bool) (es : List Ent) (w : Nat) (h : 0 < es.length) : con fine es w 0 = 0 := by
  unfold con
  rw [if_pos h, bgn_zero]
theorem con_succ (fine : Bool) (es : List Ent) (w i : Nat) (ht : 0 < tot es) (h : i < es.length) : con fine es w (i + 1) = con fine es w i + cel fine es w i := by
  unfold con
  rw [if_pos h]
  by_cases h2 : i + 1 < es.length
  · rw [if_pos h2, bgn_cel fine es w i ht h2]
  · rw [if_neg h2, last_cel fine es w i ht (by omega)]
theorem con_le (fine : Bool) (es : List Ent) (w i : Nat) (ht : 0 < tot es) : con fine es w i ≤ w := by
  unfold con
  split
  · exact bgn_le _ _ _ _ ht
  · exact Nat.le_refl _
theorem step_cel {c : Cod} (W : Wf c) {s : Sta} (h : OkS c s) {i : Nat} {e : Ent} (he : (ents c s.1)[i]? = some e) : ((stp c (ents c s.1) s i e).tg = .mt ∧ cel c.fine (ents c s.1) (wid s) i = 0) ∨ ((stp c (ents c s.1) s i e).tg = .en ∧ (stp c (ents c s.1) s i e).n = cel c.fine (ents c s.1) (wid s) i) ∨
    ∃ t, (stp c (ents c s.1) s i e).tg = .go t := by
  unfold stp
  split
  · rename_i h0
    exact .inl ⟨rfl, h0⟩
  · split
    · exact .inr (.inl ⟨rfl, rfl⟩)
    · exact .inr (.inr ⟨_, rfl⟩)
/-- a step moves its cells -/
theorem step_ok {c : Cod} (W : Wf c) {n : Nat} (hn : dep (n + 1) ≤ 64) {s : Sta} {u : Nat} (hs : Reach c s) (hu : 2 ^ (64 - dep n) ∣ u) {a : Acc} (A : AccOk c (n + 1) a) {i : Nat} {e : Ent} (he : (ents c s.1)[i]? = some e) :
    AccOk c (n + 1) (stepF u a (stp c (ents c s.1) s i e)) ∧ total (stepF u a (stp c (ents c s.1) s i e)) = total a + u * cel c.fine (ents c s.1) (wid s) i := by
  have ok := hs.ok W
  have mem : stp c (ents c s.1) s i e ∈ stps c s := by
    refine List.mem_of_getElem? (i := i) ?_
    unfold stps
    rw [List.getElem?_mapIdx, he]
    rfl
  rcases step_cel W ok he with ⟨h1, h2⟩ | ⟨h1, h2⟩ | ⟨t, h1⟩
  · unfold stepF
    rw [h1, h2]
    exact ⟨A, rfl⟩
  · unfold stepF
    rw [h1, h2]
    refine ⟨⟨A.nd, A.re, A.dv⟩, ?_⟩
    unfold total
    show a.en + _ + a.lo + mass a.fu = _
    omega
  · obtain ⟨k, g1, g2, g3, g4, g5, g6, g7, g8⟩ := go_ok W ok he h1
    have rt : Reach c t := hs.s mem h1
    rw [g6]
    unfold stepF
    generalize hd : (Bm.settle c.man c.size (prt c (ents c s.1) (rep c s) i)).2.1 = db at *
    generalize hc : cel c.fine (ents c s.1) (wid s) i = n0 at *
    have s4 := W.s4
    have dn : dep (n + 1) = dep n + 12 := by
      unfold dep
      omega
    obtain ⟨v, hv⟩ := hu
    have e1 : 2 ^ (64 - dep n) = 2 ^ (64 - dep n - db) * 2 ^ db := by
      rw [← Nat.pow_add]
      congr 1
      omega
    have e2 : u / 2 ^ db = 2 ^ (64 - dep n - db) * v := by
      rw [hv, e1, Nat.mul_assoc, Nat.mul_comm (2 ^ db) v, ← Nat.mul_assoc, Nat.mul_div_cancel _ (pow_pos2 db)]
    have e3 : u / 2 ^ db * 2 ^ db = u := by
      rw [e2, hv, e1, Nat.mul_assoc, Nat.mul_comm v, ← Nat.mul_assoc]
    have dv : 2 ^ (64 - dep (n + 1)) ∣ u / 2 ^ db := by
      rw [e2]
      exact Nat.dvd_trans (Nat.pow_dvd_pow 2 (by omega)) (Nat.dvd_mul_right _ _)
    refine ⟨⟨addS_nd A.nd, fun q hq => ?_, fun q hq => ?_⟩, ?_⟩
    · rcases mem_addS hq with ⟨u', h, _⟩ | h
      · exact A.re (q.1, u') h
      · rw [h]
        exact rt
    · rcases mem_addS hq with ⟨u', h, r | ⟨_, r⟩⟩ | h
      · rw [r]
        exact A.dv _ h
      · rw [r]
        exact Nat.dvd_add (A.dv _ h) dv
      · rw [h]
        exact dv
    · have le : u / 2 ^ db * wid t ≤ u * n0 := by
        refine Nat.le_trans (Nat.mul_le_mul_left _ g7) ?_
        rw [Nat.mul_comm n0, ← Nat.mul_assoc, e3]
        exact Nat.le_refl _
      unfold total mass
      show a.en + (a.lo + (u * n0 - u / 2 ^ db * wid t)) + sumF wid (addS a.fu t (u / 2 ^ db)) = _
      rw [sumF_add wid A.nd]
      omega
theorem steps_ok {c : Cod} (W : Wf c) {n : Nat} (hn : dep (n + 1) ≤ 64) {s : Sta} {u : Nat} (hs : Reach c s) (hu : 2 ^ (64 - dep n) ∣ u) {a : Acc} (A : AccOk c (n + 1) a) : ∀ i, i ≤ (stps c s).length →
    AccOk c (n + 1) (((stps c s).take i).foldl (stepF u) a) ∧ total (((stps c s).take i).foldl (stepF u) a) = total a + u * con c.fine (ents c s.1) (wid s) i
  | 0, _ => by
    have e2 := (W.e2 _ (W.mem (ents_get (hs.ok W).k))).1
    rw [con_zero _ _ _ (by omega)]
    exact ⟨A, rfl⟩
  | i + 1, hi => by
    obtain ⟨h1, h2⟩ := steps_ok W hn hs hu A i (by omega)
    have t0 := W.tot (ents_get (hs.ok W).k)
    have hi' : i < (ents c s.1).length := by
      rw [stps_len] at hi
      omega
    have he : (ents c s.1)[i]? = some (ents c s.1)[i] := List.getElem?_eq_getElem hi'
    have hst : (stps c s)[i]? = some (stp c (ents c s.1) s i (ents c s.1)[i]) := by
      unfold stps
      rw [List.getElem?_mapIdx, he]
      rfl
    obtain ⟨g1, g2⟩ := step_ok W hn hs hu h1 he
    rw [List.take_add_one, hst, List.foldl_append]
    refine ⟨g1, g2.trans ?_⟩
    rw [h2, con_succ _ _ _ _ t0 hi', Nat.mul_add, Nat.add_assoc]
theorem state_ok {c : Cod} (W : Wf c) {n : Nat} (hn : dep (n + 1) ≤ 64) {q : Sta × Nat} (hs : Reach c q.1) (hu : 2 ^ (64 - dep n) ∣ q.2) {a : Acc} (A : AccOk c (n + 1) a) : AccOk c (n + 1) (stateF c a q) ∧ total (stateF c a q) = total a + q.2 * wid q.1 := by
  obtain ⟨h1, h2⟩ := steps_ok W hn hs hu A (stps c q.1).length (Nat.le_refl _)
  rw [List.take_length] at h1 h2
  refine ⟨h1, h2.trans ?_⟩
  unfold con
  rw [stps_len, if_neg (Nat.lt_irrefl _)]
theorem states_ok {c : Cod} (W : Wf c) {n : Nat} (hn : dep (n + 1) ≤ 64) {a : Acc} (A : AccOk c (n + 1) a) : ∀ sh : Shs, (∀ q ∈ sh, Reach c q.1 ∧ 2 ^ (64 - dep n) ∣ q.2) → AccOk c (n + 1) (sh.foldl (stateF c) a) ∧ total (sh.foldl (stateF c) a) = total a + mass sh := by
  intro sh
  induction sh generalizing a with
  | nil => exact fun _ => ⟨A, rfl⟩
  | cons q r ih =>
    intro h
    obtain ⟨h1, h2⟩ := h q List.mem_cons_self
    obtain ⟨g1, g2⟩ := state_ok W hn h1 h2 A
    obtain ⟨k1, k2⟩ := ih g1 fun x hx => h x (List.mem_cons_of_mem _ hx)
    refine ⟨k1, k2.trans ?_⟩
    rw [g2]
    unfold mass
    rw [sumF_cons]
    omega
theorem acc0_ok (c : Cod) (n en lo : Nat) : AccOk c n ⟨en, lo, []⟩ := ⟨List.nodup_nil, fun _ h => (nomatch h), fun _ h => (nomatch h)⟩
theorem lev_ok {c : Cod} (W : Wf c) : ∀ n, dep n ≤ 64 → AccOk c n (lev c n) ∧ total (lev c n) = Z64
  | 0, _ => by
    have s4 := W.s4
    have s2 := W.s2
    refine ⟨⟨by simp [lev], fun q hq => ?_, fun q hq => ?_⟩, ?_⟩
    · rw [List.mem_singleton.mp hq]
      exact .z
    · rw [List.mem_singleton.mp hq]
      exact Nat.pow_dvd_pow 2 (by unfold dep; omega)
    · unfold total mass lev
      show 0 + 0 + sumF wid [(st0 c, 2 ^ (64 - c.size))] = _
      rw [sumF_cons, sumF_nil]
      show 0 + 0 + (2 ^ (64 - c.size) * (2 ^ (c.size - 1) + 2 ^ (c.size - 1)) + 0) = 2 ^ 64
      have : 2 ^ (c.size - 1) + 2 ^ (c.size - 1) = 2 ^ c.size := by
        rw [← Nat.two_mul, ← pow_s]
        congr 1
        omega
      rw [this, ← Nat.pow_add, show 64 - c.size + c.size = 64 by omega]
  | n + 1, hn => by
    have hn0 : dep n ≤ 64 := by
      unfold dep at *
      omega
    obtain ⟨h1, h2⟩ := lev_ok W n hn0
    obtain ⟨g1, g2⟩ := states_ok W hn (acc0_ok c (n + 1) (lev c n).en (lev c n).lo) (lev c n).fu fun q hq => ⟨h1.re q hq, h1.dv q hq⟩
    refine ⟨g1, g2.trans ?_⟩
    show (lev c n).en + (lev c n).lo + sumF wid [] + mass (lev c n).fu = Z64
    rw [sumF_nil, Nat.add_zero]
    exact h2
/-! ### as data -/
def shD (sh : Shs) : List (List Key × PD) := sh.map fun q => (keyS q.1, nfD (q.2 * wid q.1))
theorem shD_get : ∀ (sh : Shs) (t : Sta), (vget (shD sh) (keyS t)).getD (dF 0 1) = nfD (getU sh t * wid t)
  | [], t => by
    show dF 0 1 = nfD (0 * wid t)
    rw [Nat.zero_mul, nf_zero]
  | q :: r, t => by
    unfold shD getU
    rw [List.map_cons, vget_cons]
    by_cases e : q.1 = t
    · rw [if_pos (by rw [e]), if_pos e]
      show nfD (q.2 * wid q.1) = _
      rw [e]
    · rw [if_neg fun z => e (keyS_inj z), if_neg e]
      exact shD_get r t
theorem shD_is (sh : Shs) (t : Sta) : (vget (shD sh) (keyS t)).isSome = decide (t ∈ sh.map (·.1)) := by
  induction sh with
  | nil => rfl
  | cons q r ih =>
    unfold shD
    rw [List.map_cons, vget_cons]
    by_cases e : q.1 = t
    · rw [if_pos (by rw [e]), decide_eq_true (by rw [List.map_cons, e]; exact List.mem_cons_self)]
      rfl
    · rw [if_neg fun z => e (keyS_inj z)]
      refine ih.trans (decide_eq_decide.mpr ?_)
      rw [List.map_cons, List.mem_cons]
      exact ⟨.inr, fun h => h.elim (fun z => absurd z.symm e) id⟩
theorem getU_mem {sh : Shs} {q : Sta × Nat} (hn : (sh.map (·.1)).Nodup) (h : q ∈ sh) : getU sh q.1 = q.2 := by
  induction sh with
  | nil => cases h
  | cons p r ih =>
    rw [List.map_cons] at hn
    obtain ⟨h1, h2⟩ := List.nodup_cons.mp hn
    unfold getU
    rcases List.mem_cons.mp h with e | e
    · rw [e, if_pos rfl]
    · rw [if_neg fun z => h1 (by rw [z]; exact List.mem_map.mpr ⟨q, e, rfl⟩)]
      exact ih h2 e
theorem shD_put {sh : Shs} (hn : (sh.map (·.1)).Nodup) (t : Sta) (v : Nat) : vput (shD sh) (keyS t) (nfD ((getU sh t + v) * wid t)) = shD (addS sh t v) := by
  unfold vput addS
  rw [shD_is]
  by_cases h : t ∈ sh.map (·.1)
  · rw [if_pos (decide_eq_true h), if_pos h]
    unfold shD
    rw [List.map_map, List.map_map]
    refine List.map_congr_left fun q hq => ?_
    show (if keyS q.1 = keyS t then (keyS q.1, nfD ((getU sh t + v) * wid t)) else (keyS q.1, nfD (q.2 * wid q.1))) = (keyS (if q.1 = t then (q.1, q.2 + v) else q).1, nfD ((if q.1 = t then (q.1, q.2 + v) else q).2 * wid (if q.1 = t then (q.1, q.2 + v) else q).1))
    by_cases e : q.1 = t
    · rw [if_pos (by rw [e]), if_pos e, ← e, getU_mem hn hq]
    · rw [if_neg fun z => e (keyS_inj z), if_neg e]
  · rw [if_neg (by rw [decide_eq_false h]; decide), if_neg h]
    unfold shD
    rw [List.map_append]
    have e0 : getU sh t = 0 := by
      clear hn
      induction sh with
      | nil => rfl
      | cons p r ih =>
        rw [List.map_cons, List.mem_cons] at h
        unfold getU
        rw [if_neg fun z => h (.inl z.symm)]
        exact ih fun z => h (.inr z)
    rw [e0, Nat.zero_add]
    rfl
theorem shD_at {sh : Shs} (hn : (sh.map (·.1)).Nodup) {q : Sta × Nat} (h : q ∈ sh) : vget (shD sh) (keyS q.1) = some (nfD (q.2 * wid q.1)) := by
  have h1 := shD_get sh q.1
  rw [getU_mem hn h] at h1
  have h2 := shD_is sh q.1
  rw [decide_eq_true (List.mem_map.mpr ⟨q, h, rfl⟩)] at h2
  cases e : vget (shD sh) (keyS q.1) with
  | none =>
    rw [e] at h2
    cases h2
  | some d =>
    rw [e] at h1
    rw [show d = _ from h1]
/-- the comprehension's dict is the one it walks -/
theorem tab_shD {sh : Shs} (hn : (sh.map (·.1)).Nodup) : tab (shD sh) = shD sh := by
  have aux : ∀ (pre sh : Shs), ((pre ++ sh).map (·.1)).Nodup → (shD sh).foldl (fun acc q => vput acc q.1 q.2) (shD pre) = shD (pre ++ sh) := by
    intro pre sh
    induction sh generalizing pre with
    | nil =>
      intro _
      rw [List.append_nil]
      rfl
    | cons q r ih =>
      intro h
      have hq : q.1 ∉ pre.map (·.1) := by
        rw [List.map_append, List.map_cons, List.nodup_append] at h
        exact fun z => h.2.2 _ z _ List.mem_cons_self rfl
      have e1 : vput (shD pre) (keyS q.1) (nfD (q.2 * wid q.1)) = shD (pre ++ [q]) := by
        unfold vput
        rw [shD_is, if_neg (by rw [decide_eq_false hq]; decide)]
        unfold shD
        rw [List.map_append]
        rfl
      unfold shD at e1 ⊢
      rw [List.map_cons, List.foldl_cons, e1]
      have := ih (pre ++ [q]) (by rw [List.append_assoc]; exact h)
      unfold shD at this
      rw [this, List.append_assoc]
      rfl
  exact aux [] sh hn
end G
set_option Elab.async false
set_option linter.all false
set_option maxRecDepth 100000
set_option maxHeartbeats 4000000
namespace G
open PySem PySem.Spec PyProof.Rows L2 Hd Bm
theorem div_exact {n u db : Nat} (hn : dep (n + 1) ≤ 64) (hd : db ≤ 12) (hu : 2 ^ (64 - dep n) ∣ u) : u / 2 ^ db * 2 ^ db = u := by
  refine Nat.div_mul_cancel (Nat.dvd_trans (Nat.pow_dvd_pow 2 ?_) hu)
  unfold dep at *
  omega
theorem getU_mass (sh : Shs) (t : Sta) : getU sh t * wid t ≤ mass sh := by
  induction sh with
  | nil =>
    show 0 * _ ≤ _
    rw [Nat.zero_mul]
    exact Nat.zero_le _
  | cons q r ih =>
    unfold getU mass
    rw [sumF_cons]
    split
    · rename_i e
      rw [e]
      exact Nat.le_add_right _ _
    · exact Nat.le_trans ih (Nat.le_add_left _ _)
theorem mass_take {sh : Shs} {j : Nat} {q : Sta × Nat} (h : sh[j]? = some q) : mass (sh.take (j + 1)) = mass (sh.take j) + q.2 * wid q.1 ∧ mass (sh.take (j + 1)) ≤ mass sh := by
  have e : sh.take (j + 1) = sh.take j ++ [q] := by
    rw [List.take_add_one, h]
    rfl
  constructor
  · unfold mass
    rw [e, sumF_app, sumF_cons, sumF_nil, Nat.add_zero]
  · have := List.take_append_drop (j + 1) sh
    conv => rhs; rw [← this]
    unfold mass
    rw [sumF_app]
    exact Nat.le_add_right _ _
def unkd : PD → Key
  | .int i => .inl i
  | .str z => .inr z
  | _ => .inl 0
def unkey : PD → List Key
  | .tuple ds => ds.map unkd
  | _ => []
theorem unkey_keyD (ks : List Key) : unkey (keyD ks) = ks := by
  show (ks.map kd).map unkd = ks
  rw [List.map_map]
  conv => rhs; rw [← List.map_id ks]
  refine List.map_congr_left fun k _ => ?_
  cases k <;> rfl
theorem OkS.w5 {c : Cod} (W : Wf c) {s : Sta} (h : OkS c s) : 0 < wid s ∧ wid s ≤ 32 := by
  have p : 2 ^ c.size ≤ 2 ^ 4 := Nat.pow_le_pow_right (by decide) W.s4
  have h1 := h.l1
  have h2 := h.l2
  have h3 := h.r2
  unfold wid
  omega
section
variable {P : Program} {w : World} {K : PySem.W.Frag} {mg : Str → Option Value} {base : Heap}
/-- share * n / w, the share u cells of wd, in lowest terms -/
theorem ev_share {X : Cx} {ρ : Ro} {k : Nat} {e1 e2 e3 : Expr} {p1 p2 p3 p4 : Pos} {M n wd : Nat} (F_times : Fn X.prog X.w X.K X.mg X.base 2 "times" S_times) (F_lowest : Fn X.prog X.w X.K X.mg X.base 1 "lowest" S_lowest) (hr : Room k X.A) (hk : 2 ≤ k) (hM : M ≤ Z64) (hw : 0 < wd) (hw2 : wd < 2 ^ 60) (hn : n < 2 ^ 60)
    (h1 : EvD X e1 ρ (nfD M)) (h2 : EvD X e2 ρ (dI n)) (h3 : EvD X e3 ρ (dI wd)) (hg1 : Gl X "times") (hg2 : Gl X "lowest")
    (s1 : starEach [e1, .Call (.Name "lowest" p1) [e2, e3] [] p2] X.env = (false, eval e1 X.env) :: starEach [.Call (.Name "lowest" p1) [e2, e3] [] p2] X.env := by rfl)
    (s2 : starEach [.Call (.Name "lowest" p1) [e2, e3] [] p2] X.env = [(false, eval (.Call (.Name "lowest" p1) [e2, e3] [] p2) X.env)] := by rfl)
    (s3 : starEach [e2, e3] X.env = (false, eval e2 X.env) :: starEach [e3] X.env := by rfl) (s4 : starEach [e3] X.env = [(false, eval e3 X.env)] := by rfl)
    (pl1 : (backTo p4 (starEach [.Call (.Name "lowest" p1) [e2, e3] [] p2] X.env)).any (·.1) = false := by rfl) (pl2 : (backTo p2 (starEach [e3] X.env)).any (·.1) = false := by rfl) :
    EvD X (.Call (.Name "times" p3) [e1, .Call (.Name "lowest" p1) [e2, e3] [] p2] [] p4) ρ (lowD (M * n) (Z64 * wd)) := by
  have b60 : ∀ z : Nat, z < 2 ^ 60 → z < 2 ^ 120 := fun z h => Nat.lt_trans h (by decide)
  have b60' : ∀ z : Nat, z < 2 ^ 60 → z < 2 ^ 250 := fun z h => Nat.lt_trans h (by decide)
  have gp : 0 < Nat.gcd n wd := Nat.gcd_pos_of_pos_right _ hw
  refine ev_call F_times (hr.mono hk) (ea_cons h1 (ea_cons (ev_call F_lowest (hr.mono (by omega)) (ea_cons h2 (ea_cons h3 ea_nil s4) s3) ⟨n, wd, hw, b60' _ hn, b60' _ hw2, rfl, rfl⟩ hg2 (by decide) s3 pl2) ea_nil s2) s1) ⟨nfA M, nfB M, n / Nat.gcd n wd, wd / Nat.gcd n wd, nfB_pos M, ?_, nfA_lt hM, nfB_lt M, b60 _ (Nat.lt_of_le_of_lt (Nat.div_le_self _ _) hn), b60 _ (Nat.lt_of_le_of_lt (Nat.div_le_self _ _) hw2), rfl, (nf_times M n wd hw).symm⟩ hg1 (by decide) s1 pl1
  exact Nat.div_pos (Nat.le_of_dvd hw (Nat.gcd_dvd_right _ _)) gp
theorem ev_plus {X : Cx} {ρ : Ro} {k : Nat} {e1 e2 : Expr} {p1 p2 : Pos} {m n : Nat} (F_plus : Fn X.prog X.w X.K X.mg X.base 2 "plus" S_plus) (hr : Room k X.A) (hk : 2 ≤ k) (hm : m ≤ Z64) (hn : n ≤ Z64) (h1 : EvD X e1 ρ (nfD m)) (h2 : EvD X e2 ρ (nfD n)) (hg : Gl X "plus")
    (s1 : starEach [e1, e2] X.env = (false, eval e1 X.env) :: starEach [e2] X.env := by rfl) (s2 : starEach [e2] X.env = [(false, eval e2 X.env)] := by rfl) (pl : (backTo p2 (starEach [e2] X.env)).any (·.1) = false := by rfl) :
    EvD X (.Call (.Name "plus" p1) [e1, e2] [] p2) ρ (nfD (m + n)) :=
  ev_call F_plus (hr.mono hk) (ea_cons h1 (ea_cons h2 ea_nil s2) s1) ⟨nfA m, nfB m, nfA n, nfB n, nfB_pos m, nfB_pos n, nfA_lt hm, nfB_lt m, nfA_lt hn, nfB_lt n, rfl, (nf_plus m n).symm⟩ hg (by decide) s1 pl
theorem sta_shaped (t : Sta) : SeqAt.shaped (dSta t) = true := by
  unfold SeqAt.shaped dSta
  rfl
theorem str_shaped (z : Str) (h : SeqAt.shaped (.str z) = true) : SeqAt.shaped (.str z) = true := h
def S_shares_sum : List PD → PD → Prop := fun ds d => ∃ (c : Cod) (n : Nat), Wf c ∧ n ≤ 4 ∧ ds = [dCod c, dI n] ∧ d = .tuple [nfD (lev c n).en, nfD (mass (lev c n).fu), nfD (lev c n).lo]
theorem sc_shares_sum : FnScope ["coder", "n", "graph", "shares", "ended", "lost", "length", "begun", "state", "further", "share", "width", "letter", "target", "doublings", "cells", "kept", "part"] ["coder", "n"] (defScope s_shares_sum) := ⟨rfl, rfl, rfl, by decide +kernel, rfl, by decide +kernel, by decide +kernel⟩
theorem f_shares_sum (B : Blt mg) (F : At K mg "shares_sum" s_shares_sum) (F_check_length : Fn P w K mg base 3 "check_length" S_check_length) (F_graph_of : FnN P w K mg base 6 "graph_of" Pre_graph Post_graph) (F_first_state : Fn P w K mg base 1 "first_state" S_first_state)
    (F_plus : Fn P w K mg base 2 "plus" S_plus) (F_times : Fn P w K mg base 2 "times" S_times) (F_lowest : Fn P w K mg base 1 "lowest" S_lowest) : Fn P w K mg base 7 "shares_sum" S_shares_sum := by
  refine fn_at F sc_shares_sum (fun _ _ _ _ _ _ us hl => match us, hl with | [_, _], _ => rfl) (fun ds d h => ?_) (fun f cdv A outer s H E hr ds d h => ?_)
  · obtain ⟨_, _, _, _, rfl, _⟩ := h
    rfl
  · obtain ⟨c, n, W, hn4, rfl, rfl⟩ := h
    have s2 := W.s2
    have s4 := W.s4
    refine sv_expr (ev_call F_check_length (hr.mono (by decide)) (ea_cons (nm 1) ea_nil) ⟨n, by omega, rfl, rfl⟩) ?_
    refine sv_asgX 2 (en_call F_graph_of (hr.mono (by decide)) (ea_cons (nm 0) ea_nil) ⟨c, W, rfl⟩).x (fun cl hc => ?_)
    obtain ⟨gd, rfl, hpost⟩ := hc
    obtain ⟨gk, rfl, hgk⟩ := hpost c rfl
    refine sv_new 3 (o := .t (shD (lev c 0).fu)) (eo_is (eo_dT1 (ks := keyS (st0 c)) (rm1 hr) (ev_call F_first_state (hr.mono (by decide)) (ea_cons (nm 0) ea_nil) ⟨c, W, rfl, rfl⟩) (ev_tup (ea_cons ev_int (ea_cons ev_int ea_nil)))) (by
      show OD.t [(keyS (st0 c), dF 1 1)] = .t [(keyS (st0 c), nfD (2 ^ (64 - c.size) * wid (st0 c)))]
      have : 2 ^ (64 - c.size) * wid (st0 c) = Z64 := by
        have e : wid (st0 c) = 2 ^ c.size := by
          show 2 ^ (c.size - 1) + 2 ^ (c.size - 1) = 2 ^ c.size
          rw [← Nat.two_mul, ← pow_s]
          congr 1
          omega
        rw [e, ← Nat.pow_add, show 64 - c.size + c.size = 64 by omega]
      rw [this, nf_one])) ?_
    refine sv_frzT 3 ?_
    refine sv_asg2 4 5 (d := nfD 0) (ev_is (ev_tup (ea_cons ev_int (ea_cons ev_int ea_nil))) nf_zero.symm) ?_
    refine sv_for (it_range1 (n := ((n : Nat) : Int)) B.range (by omega) (nm 1)) (fun i r => i ≤ n ∧ ∃ a6 a8 a9 a10 a11 a12 a13 a14 a15 a16 a17, r = [some (.d (dCod c)), some (.d (dI n)), some (.d (dDict gk)), some (.d (dDict (shD (lev c i).fu))), some (.d (nfD (lev c i).en)), some (.d (nfD (lev c i).lo)), a6, none, a8, a9, a10, a11, a12, a13, a14, a15, a16, a17]) ⟨Nat.zero_le _, none, none, none, none, none, none, none, none, none, none, none, rfl⟩ (fun i d r hi hp => ?_) (fun r hp => ?_)
    · obtain ⟨_, a6, a8, a9, a10, a11, a12, a13, a14, a15, a16, a17, rfl⟩ := hp
      obtain ⟨rfl, hin⟩ := rangeD_at hi
      rw [Int.toNat_natCast] at hin
      have hdep : dep (i + 1) ≤ 64 := by
        unfold dep
        omega
      obtain ⟨L1, L2⟩ := lev_ok W i (by unfold dep at *; omega)
      have few := few_states W L1.nd fun t ht => by
        obtain ⟨q, hq, rfl⟩ := List.mem_map.mp ht
        exact (L1.re q hq).ok W
      rw [List.length_map] at few
      generalize hsh : (lev c i).fu = sh at *
      generalize hen : (lev c i).en = en at *
      generalize hlo : (lev c i).lo = lo at *
      have hlev : lev c (i + 1) = levelF c sh en lo := by
        rw [← hsh, ← hen, ← hlo]
        rfl
      have Lt : en + lo + mass sh = Z64 := by
        rw [← hen, ← hlo, ← hsh]
        exact L2
      have Lre : ∀ q ∈ sh, Reach c q.1 ∧ 2 ^ (64 - dep i) ∣ q.2 := fun q hq => ⟨L1.re q (hsh ▸ hq), L1.dv q (hsh ▸ hq)⟩
      have A0 := acc0_ok c (i + 1) en lo
      refine ⟨_, (bd_nm 6), ?_⟩
      refine sv_new 9 eo_dT ?_
      refine sv_for (it_itemsZ (kvs := shD sh) (nm 3)) (fun j r => ∃ a8 a10 a11 a12 a13 a14 a15 a16 a17, r = [some (.d (dCod c)), some (.d (dI n)), some (.d (dDict gk)), some (.d (dDict (shD sh))), some (.d (nfD ((sh.take j).foldl (stateF c) ⟨en, lo, []⟩).en)), some (.d (nfD ((sh.take j).foldl (stateF c) ⟨en, lo, []⟩).lo)), some (.d (.int (0 + (i : Int)))), none, a8, some (.o (.t (shD ((sh.take j).foldl (stateF c) ⟨en, lo, []⟩).fu))), a10, a11, a12, a13, a14, a15, a16, a17]) ⟨a8, a10, a11, a12, a13, a14, a15, a16, a17, rfl⟩ (fun j d r hj hp => ?_) (fun r hp => ?_)
      · obtain ⟨b8, b10, b11, b12, b13, b14, b15, b16, b17, rfl⟩ := hp
        unfold shD at hj
        rw [List.map_map, List.getElem?_map] at hj
        cases hq : sh[j]? with
        | none =>
          rw [hq] at hj
          cases hj
        | some q =>
          rw [hq] at hj
          cases hj
          obtain ⟨st, u⟩ := q
          obtain ⟨hre, hdv⟩ : Reach c st ∧ 2 ^ (64 - dep i) ∣ u := Lre _ (List.mem_of_getElem? hq)
          have ok := hre.ok W
          obtain ⟨wp, w32⟩ := ok.w5 W
          obtain ⟨m1, m2⟩ : mass (sh.take (j + 1)) = mass (sh.take j) + u * wid st ∧ mass (sh.take (j + 1)) ≤ mass sh := mass_take hq
          obtain ⟨S1, S2⟩ := states_ok W hdep A0 (sh.take j) fun q hq => Lre q (List.mem_of_mem_take hq)
          generalize hacc : (sh.take j).foldl (stateF c) ⟨en, lo, []⟩ = acc at *
          have Tot : total acc = en + lo + mass (sh.take j) := by
            rw [S2]
            show en + lo + sumF wid [] + _ = _
            rw [sumF_nil]
            omega
          have hM : u * wid st ≤ Z64 := by
            omega
          refine ⟨_, (bd_tup (bds_cons (bd_nm 8) (bds_cons (bd_nm 10) bds_nil))), ?_⟩
          refine sv_asg 11 (d := dI (wid st)) (ev_is (ev_add (i := (st.2.1 : Nat)) (j := (st.2.2 : Nat)) (ev_ixT (nm 8) ev_int (by rfl)) (ev_ixT (nm 8) ev_int (by rfl))) (by rw [i_add]; rfl)) ?_
          refine sv_for (it_tup (ds := (stps c st).map stepD) (ev_getZ (ks := keyS st) (rm1 hr) (nm 2) (nm 8) (hgk st hre))) (fun k r => ∃ a12 a13 a14 a15 a16 a17, r = [some (.d (dCod c)), some (.d (dI n)), some (.d (dDict gk)), some (.d (dDict (shD sh))), some (.d (nfD (((stps c st).take k).foldl (stepF u) acc).en)), some (.d (nfD (((stps c st).take k).foldl (stepF u) acc).lo)), some (.d (.int (0 + (i : Int)))), none, some (.d (keyD (keyS st))), some (.o (.t (shD (((stps c st).take k).foldl (stepF u) acc).fu))), some (.d (nfD (u * wid st))), some (.d (dI (wid st))), a12, a13, a14, a15, a16, a17]) ⟨b12, b13, b14, b15, b16, b17, rfl⟩ (fun k d r hk hp => ?_) (fun r hp => ?_)
          · obtain ⟨c12, c13, c14, c15, c16, c17, rfl⟩ := hp
            rw [List.getElem?_map] at hk
            cases hpk : (stps c st)[k]? with
            | none =>
              rw [hpk] at hk
              cases hk
            | some p =>
              rw [hpk] at hk
              cases hk
              have kl := (List.getElem?_eq_some_iff.mp hpk).1
              obtain ⟨en', he, hpe⟩ := stps_at hpk
              have t0 := W.tot (ents_get ok.k)
              obtain ⟨T1, T2⟩ := steps_ok W hdep hre hdv S1 k (Nat.le_of_lt kl)
              obtain ⟨T3, T4⟩ := step_ok W hdep hre hdv T1 he
              have fold1 : ((stps c st).take (k + 1)).foldl (stepF u) acc = stepF u (((stps c st).take k).foldl (stepF u) acc) p := by
                rw [List.take_add_one, hpk, List.foldl_append]
                rfl
              rw [← hpe] at T3 T4
              have cl := con_le c.fine (ents c st.1) (wid st) (k + 1) t0
              have cs := con_succ c.fine (ents c st.1) (wid st) k t0 (by rw [stps_len] at kl; exact kl)
              have bound : total (stepF u (((stps c st).take k).foldl (stepF u) acc) p) ≤ Z64 := by
                rw [T4, T2, Nat.add_assoc, ← Nat.mul_add, ← cs, Tot]
                have := Nat.mul_le_mul_left u cl
                omega
              have bound0 : total (((stps c st).take k).foldl (stepF u) acc) ≤ Z64 := by
                rw [T4] at bound
                omega
              generalize hac : ((stps c st).take k).foldl (stepF u) acc = ac at *
              refine ⟨_, (bd_tup (bds_cons (bd_nm 12) (bds_cons (bd_nm 13) (bds_cons (bd_nm 14) (bds_cons (bd_nm 15) bds_nil))))), ?_⟩
              unfold total at bound bound0
              rcases step_cel W ok he with ⟨h1, h2⟩ | ⟨h1, h2⟩ | ⟨t, h1⟩
              · rw [← hpe] at h1
                rw [h1]
                refine sv_ifF (et_is (et_cmp c_eqS (nm 13) ev_str) (by decide +kernel)) ?_
                refine sv_skip (et_is (et_cmp c_neS (nm 13) ev_str) (by decide +kernel)) (sv_nil (sv_nil ⟨_, _, _, _, c16, c17, by
                  rw [fold1]
                  unfold stepF
                  rw [h1]
                  rfl⟩))
              · rw [← hpe] at h1 h2
                have hcn : p.n ≤ wid st := by
                  rw [h2]
                  have := cel_le c.fine (ents c st.1) (wid st) k t0
                  omega
                have hs : stepF u ac p = ⟨ac.en + u * p.n, ac.lo, ac.fu⟩ := by
                  unfold stepF
                  rw [h1]
                rw [hs] at bound
                have bound : ac.en + u * p.n + ac.lo + mass ac.fu ≤ Z64 := bound
                rw [h1]
                refine sv_ifT (et_is (et_cmp c_eqS (nm 13) ev_str) (by decide +kernel)) ?_
                refine sv_asg 4 (d := nfD (ac.en + u * p.n)) (ev_plus F_plus hr (by decide) (by omega) (by omega) (nm 4) (ev_is (ev_share (M := u * wid st) (n := p.n) (wd := wid st) F_times F_lowest hr (by decide) hM wp (by omega) (by omega) (nm 10) (nm 15) (nm 11) rfl rfl) ?_) rfl) (sv_nil (sv_nil ⟨_, _, _, _, c16, c17, by
                  rw [fold1, hs]
                  rfl⟩))
                · rw [Nat.mul_right_comm, lowD_scale _ _ wp]
                  rfl
              · obtain ⟨kk, g1, g2, g3, g4, g5, g6, g7, g8⟩ := go_ok W ok he h1
                rw [← hpe] at h1 g6
                have hdb : p.db ≤ 12 := by
                  rw [g6]
                  show (Bm.settle c.man c.size (prt c (ents c st.1) (rep c st) k)).2.1 ≤ 12
                  omega
                have hcn : p.n ≤ 32 := by
                  rw [g6]
                  have := cel_le c.fine (ents c st.1) (wid st) k t0
                  show cel c.fine (ents c st.1) (wid st) k ≤ 32
                  omega
                have hkp : wid t ≤ p.n * 2 ^ p.db := by
                  rw [g6]
                  exact g7
                obtain ⟨tp, t32⟩ := g4.w5 W
                have hex := div_exact hdep hdb hdv
                have hpp := pow_pos2 p.db
                have hpd : 2 ^ p.db ≤ 2 ^ 12 := Nat.pow_le_pow_right (by decide) hdb
                have pl : p.n * 2 ^ p.db ≤ 32 * 2 ^ 12 := Nat.mul_le_mul hcn hpd
                have wl : wid st * 2 ^ p.db ≤ 32 * 2 ^ 12 := Nat.mul_le_mul w32 hpd
                have w0 : 0 < wid st * 2 ^ p.db := Nat.mul_pos wp hpp
                generalize hv : u / 2 ^ p.db = v at *
                have eu : u * p.n = v * (p.n * 2 ^ p.db) := by
                  rw [← hex, Nat.mul_assoc, Nat.mul_comm (2 ^ p.db)]
                have hs : stepF u ac p = ⟨ac.en, ac.lo + (u * p.n - v * wid t), addS ac.fu t v⟩ := by
                  unfold stepF
                  rw [h1, hv]
                have hle : v * wid t ≤ u * p.n := by
                  rw [eu]
                  exact Nat.mul_le_mul_left _ hkp
                rw [hs] at bound
                have bound : ac.en + (ac.lo + (u * p.n - v * wid t)) + sumF wid (addS ac.fu t v) ≤ Z64 := bound
                rw [sumF_add wid T1.nd] at bound
                have gm := getU_mass ac.fu t
                have bm : mass ac.fu = sumF wid ac.fu := rfl
                have sc : ∀ x : Nat, lowD (u * wid st * x) (Z64 * (wid st * 2 ^ p.db)) = nfD (v * x) := fun x => by
                  rw [show u * wid st * x = v * x * (wid st * 2 ^ p.db) by
                    rw [← hex]
                    simp only [Nat.mul_assoc, Nat.mul_comm, Nat.mul_left_comm], lowD_scale _ _ w0]
                  rfl
                have fl : ac.fu.length ≤ 578 := by
                  have := few_states W T1.nd fun s hs => by
                    obtain ⟨q, hq, rfl⟩ := List.mem_map.mp hs
                    exact (T1.re q hq).ok W
                  rw [List.length_map] at this
                  exact this
                rw [h1]
                refine sv_ifF (et_is (et_cmp (c_eqD (rm64 hr) (sta_shaped t) (by decide +kernel) rfl rfl) (nm 13) ev_str) rfl) ?_
                refine sv_ifT (et_is (et_cmp (c_neD (rm64 hr) (sta_shaped t) (by decide +kernel) rfl rfl) (nm 13) ev_str) rfl) ?_
                refine sv_asg 16 (d := dI (wid t)) (ev_is (ev_add (i := (t.2.1 : Nat)) (j := (t.2.2 : Nat)) (ev_ixT (nm 13) ev_int (by rfl)) (ev_ixT (nm 13) ev_int (by rfl))) (by rw [i_add]; rfl)) ?_
                refine sv_asg 17 (d := dI (wid st * 2 ^ p.db)) (ev_is (ev_shl (shl_nat (m := wid st) (t := p.db) (by omega) (by omega)) (nm 11) (nm 14)) (by rw [i_shl])) ?_
                refine sv_putT 9 (d := nfD (getU ac.fu t * wid t + v * wid t)) (ks := keyS t) (kvs := shD ac.fu) (rm1 hr) (ev_plus F_plus hr (by decide) (by omega) (by omega) (ev_is (ev_get2T 9 (ks := keyS t) (kvs := shD ac.fu) (d := dF 0 1) (rm1 hr) (nm 13) (ev_tup (ea_cons ev_int (ea_cons ev_int ea_nil)))) (shD_get ac.fu t)) (ev_is (ev_share (M := u * wid st) (n := wid t) (wd := wid st * 2 ^ p.db) F_times F_lowest hr (by decide) hM w0 (by omega) (by omega) (nm 10) (nm 16) (nm 17) rfl rfl) (sc _)) rfl) (nm 13) (by
                  unfold shD
                  rw [List.length_map]
                  omega) ?_
                rw [← Nat.add_mul, shD_put T1.nd]
                refine sv_asg 5 (d := nfD (ac.lo + (u * p.n - v * wid t))) (ev_plus F_plus hr (by decide) (by omega) (by omega) (nm 5) (ev_is (ev_share (M := u * wid st) (n := p.n * 2 ^ p.db - wid t) (wd := wid st * 2 ^ p.db) F_times F_lowest hr (by decide) hM w0 (by omega) (by omega) (nm 10) (ev_is (ev_sub (ev_shl (shl_nat (m := p.n) (t := p.db) (by omega) (by omega)) (nm 15) (nm 14)) (nm 16)) ?_) (nm 17) rfl rfl) ?_) rfl) (sv_nil (sv_nil (sv_nil ⟨_, _, _, _, _, _, by
                  rw [fold1, hs]
                  rfl⟩)))
                · rw [i_shl]
                  congr 1
                  omega
                · rw [sc, Nat.mul_sub, ← eu]
          · obtain ⟨c12, c13, c14, c15, c16, c17, rfl⟩ := hp
            rw [List.length_map, List.take_length]
            refine sv_nil ⟨_, _, _, c12, c13, c14, c15, c16, c17, by
              rw [List.take_add_one, hq, List.foldl_append, hacc]
              rfl⟩
      · obtain ⟨b8, b10, b11, b12, b13, b14, b15, b16, b17, rfl⟩ := hp
        rw [List.length_map, show (shD sh).length = sh.length by unfold shD; rw [List.length_map], List.take_length]
        have hlf : sh.foldl (stateF c) ⟨en, lo, []⟩ = lev c (i + 1) := hlev.symm
        rw [hlf]
        obtain ⟨L3, _⟩ := lev_ok W (i + 1) hdep
        have few' := few_states W L3.nd fun t ht => by
          obtain ⟨q, hq, rfl⟩ := List.mem_map.mp ht
          exact (L3.re q hq).ok W
        rw [List.length_map] at few'
        generalize hfu : lev c (i + 1) = ac at *
        refine sv_frzT 9 ?_
        have efl : (shD ac.fu).map (fun q => keyD q.1) |>.map (fun d => (unkey d, (vget (shD ac.fu) (unkey d)).getD .none)) |> (· = shD ac.fu) := by
          show ((shD ac.fu).map (fun q => keyD q.1)).map (fun d => (unkey d, (vget (shD ac.fu) (unkey d)).getD .none)) = shD ac.fu
          rw [List.map_map]
          unfold shD
          rw [List.map_map]
          refine List.map_congr_left fun q hq => ?_
          show (unkey (keyD (keyS q.1)), (vget (shD ac.fu) (unkey (keyD (keyS q.1)))).getD .none) = _
          rw [unkey_keyD, shD_at L3.nd hq]
          rfl
        refine sv_dcT 3 [("state", 8)] (rm0 hr) (it_keysZ (kvs := shD ac.fu) (nm 9)) (fun d => (unkey d, (vget (shD ac.fu) (unkey d)).getD .none)) (by
          rw [List.length_map]
          unfold shD
          rw [List.length_map]
          omega) (fun m d hm => by
          rw [List.getElem?_map] at hm
          cases hq : ac.fu[m]? with
          | none =>
            unfold shD at hm
            rw [List.getElem?_map, hq] at hm
            cases hm
          | some q =>
            unfold shD at hm
            rw [List.getElem?_map, hq] at hm
            cases hm
            have e1 := shD_at L3.nd (List.mem_of_getElem? hq)
            have e2 : unkey (keyD (keyS q.1)) = keyS q.1 := unkey_keyD _
            refine ⟨_, fun s H C cl fp => ⟨bv_nm 8, ?_, ?_⟩⟩
            · show EvD _ _ _ (keyD (unkey (keyD (keyS q.1))))
              rw [e2]
              exact nm 8
            · show EvD _ _ _ ((vget (shD ac.fu) (unkey (keyD (keyS q.1)))).getD .none)
              rw [e2, e1]
              exact ev_getZ (ks := keyS q.1) (kvs := shD ac.fu) (rm1 hr) (nm 9) (nm 8) e1) (blkOk_by (N := ["coder", "n", "graph", "shares", "ended", "lost", "length", "begun", "state", "further", "share", "width", "letter", "target", "doublings", "cells", "kept", "part"]) (sc := defScope s_shares_sum) (by decide +kernel)) ?_
        rw [show ((shD ac.fu).map (fun q => keyD q.1)).map (fun d => (unkey d, (vget (shD ac.fu) (unkey d)).getD .none)) = shD ac.fu from efl, tab_shD L3.nd]
        exact sv_frzT 3 (sv_nil ⟨hin, _, b8, _, b10, b11, b12, b13, b14, b15, b16, b17, rfl⟩)
    · obtain ⟨_, a6, a8, a9, a10, a11, a12, a13, a14, a15, a16, a17, rfl⟩ := hp
      rw [rangeD_len, Int.toNat_natCast]
      obtain ⟨L1, L2⟩ := lev_ok W n (by unfold dep; omega)
      unfold total at L2
      generalize lev c n = ac at *
      refine sv_asg 7 (d := nfD 0) (ev_is (ev_tup (ea_cons ev_int (ea_cons ev_int ea_nil))) nf_zero.symm) ?_
      refine sv_for (it_keysZ (kvs := shD ac.fu) (nm 3)) (fun j r => ∃ a8, r = [some (.d (dCod c)), some (.d (dI n)), some (.d (dDict gk)), some (.d (dDict (shD ac.fu))), some (.d (nfD ac.en)), some (.d (nfD ac.lo)), a6, some (.d (nfD (mass (ac.fu.take j)))), a8, a9, a10, a11, a12, a13, a14, a15, a16, a17]) ⟨a8, rfl⟩ (fun j d r hj hp => ?_) (fun r hp => ?_)
      · obtain ⟨b8, rfl⟩ := hp
        unfold shD at hj
        rw [List.map_map, List.getElem?_map] at hj
        cases hq : ac.fu[j]? with
        | none =>
          rw [hq] at hj
          cases hj
        | some q =>
          rw [hq] at hj
          cases hj
          obtain ⟨m1, m2⟩ := mass_take hq
          refine ⟨_, bd_nm 8, ?_⟩
          refine sv_asg 7 (d := nfD (mass (ac.fu.take (j + 1)))) (ev_is (ev_plus (m := mass (ac.fu.take j)) (n := q.2 * wid q.1) F_plus hr (by decide) (by omega) (by omega) (nm 7) (ev_getZ (ks := keyS q.1) (kvs := shD ac.fu) (d := nfD (q.2 * wid q.1)) (rm1 hr) (nm 3) (nm 8) (shD_at L1.nd (List.mem_of_getElem? hq))) rfl) (by rw [m1])) (sv_nil ⟨_, rfl⟩)
      · obtain ⟨b8, rfl⟩ := hp
        rw [List.length_map, show (shD ac.fu).length = ac.fu.length by unfold shD; rw [List.length_map], List.take_length]
        exact sv_ret (ev_tup (ea_cons (nm 4) (ea_cons (nm 7) (ea_cons (nm 5) ea_nil)))) rfl
end
end G
set_option Elab.async false
set_option linter.all false
set_option maxRecDepth 100000
set_option maxHeartbeats 4000000
/-! The law's own spans. -/
namespace G
open PySem PySem.Spec PyProof.Rows L2 Hd Bm
theorem dbl_zero (x : Spn) : dbl x 0 = x := by
  unfold dbl
  rw [Nat.pow_zero, Nat.mul_one, Nat.mul_one]
  rfl
theorem dbl_dbl (x : Spn) (s t : Nat) : dbl (dbl x s) t = dbl x (s + t) := by
  unfold dbl
  simp only [Nat.pow_add, Nat.mul_assoc, Nat.add_assoc]
theorem range_one {α : Type} (F : Nat → α) (i : Nat) : ∀ n, (List.range n).filterMap (fun k => if k = i then some (F k) else none) = if i < n then [F i] else []
  | 0 => rfl
  | n + 1 => by
    rw [List.range_succ, List.filterMap_append, range_one F i n]
    by_cases h : i < n
    · rw [if_pos h, if_pos (by omega), List.filterMap_cons, if_neg (by omega)]
      rfl
    · rw [if_neg h]
      by_cases e : n = i
      · rw [if_pos (by omega), List.filterMap_cons, if_pos e, e]
        rfl
      · rw [if_neg (by omega), List.filterMap_cons, if_neg e]
        rfl
theorem maxL_two (a b : Int) : maxL [a, b] = if b > a then b else a := rfl
section
variable {P : Program} {w : World} {K : PySem.W.Frag} {mg : Str → Option Value} {base : Heap}
def S_law_two : List PD → PD → Prop := fun ds d => ∃ n : Nat, n ≤ 1000 ∧ ds = [dI n] ∧ d = dI (2 ^ n)
theorem sc_law_two : FnScope ["_law_many"] ["_law_many"] (defScope s_law_two) := ⟨rfl, rfl, rfl, by decide +kernel, rfl, by decide +kernel, by decide +kernel⟩
theorem f_law_two (F : At K mg "_law_two" s_law_two) : Fn P w K mg base 1 "_law_two" S_law_two := by
  refine fn_at F sc_law_two (fun _ _ _ _ _ _ us hl => match us, hl with | [_], _ => rfl) (fun ds d h => ?_) (fun f cdv A outer s H E hr ds d h => ?_)
  · obtain ⟨_, _, rfl, _⟩ := h
    rfl
  · obtain ⟨n, hn, rfl, rfl⟩ := h
    exact sv_ret (ev_is (ev_shl (i := 1) (shl_nat (m := 1) (by decide) hn) ev_int (nm 0)) (by
      have := i_shl 1 n
      rw [Nat.one_mul] at this
      exact congrArg PyData.int this)) rfl
def S_law_known : List PD → PD → Prop := fun ds d => ∃ x : Spn, SOk x ∧ ds = [dSp x] ∧ d = .int ((x.d : Int) - (x.o : Int))
theorem sc_law_known : FnScope ["_law_cover", "_law_low_here", "_law_high", "_law_known_here"] ["_law_cover"] (defScope s_law_known) := ⟨rfl, rfl, rfl, by decide +kernel, rfl, by decide +kernel, by decide +kernel⟩
theorem f_law_known (F : At K mg "_law_known" s_law_known) : Fn P w K mg base 1 "_law_known" S_law_known := by
  refine fn_at F sc_law_known (fun _ _ _ _ _ _ us hl => match us, hl with | [_], _ => rfl) (fun ds d h => ?_) (fun f cdv A outer s H E hr ds d h => ?_)
  · obtain ⟨_, _, rfl, _⟩ := h
    rfl
  · obtain ⟨x, hx, rfl, rfl⟩ := h
    refine sv_parX3 1 2 3 (ev_ixT (d := dI x.l) (nm 0) ev_int (by rfl)).x (ev_is (d := dI (x.l + x.w - 1)) (ev_sub (ev_add (i := (x.l : Nat)) (j := (x.w : Nat)) (ev_ixT (nm 0) ev_int (by rfl)) (ev_ixT (nm 0) ev_int (by rfl))) ev_int) (by
      congr 1
      have := hx.w
      omega)).x (ev_ixT (d := dI x.d) (nm 0) ev_int (by rfl)).x (fun c1 c2 c3 h1 h2 h3 => ?_)
    subst h1 h2 h3
    refine sv_while (fun m r => ∃ (l h : Nat) (k : Int), r = [some (.d (dSp x)), some (.d (dI l)), some (.d (dI h)), some (.d (.int k))] ∧ od l h = m ∧ k - (od l h : Int) = (x.d : Int) - (x.o : Int)) x.o ⟨x.l, x.l + x.w - 1, x.d, rfl, rfl, rfl⟩ (fun m r hw => ?_)
    obtain ⟨l, h, k, rfl, hm, hk⟩ := hw
    refine ⟨!decide ((l : Int) = (h : Int)), (et_cmp c_neI (nm 1) (nm 2)), fun h1 => ?_, fun h1 => ?_⟩
    · have hne : l ≠ h := fun z => by
        rw [z, decide_eq_true rfl] at h1
        cases h1
      have e := od_ne hne
      refine sv_parX3 1 2 3 (ev_is (d := dI (l / 2)) (ev_div (i := (l : Nat)) (j := ((2 : Nat) : Int)) (div_nat (n := 2) 2 (by decide) (by decide)) (nm 1) ev_int) (by rw [i_div])).x (ev_is (d := dI (h / 2)) (ev_div (i := (h : Nat)) (j := ((2 : Nat) : Int)) (div_nat (n := 2) 2 (by decide) (by decide)) (nm 2) ev_int) (by rw [i_div])).x (ev_sub (nm 3) ev_int).x (fun c1 c2 c3 h1 h2 h3 => ?_)
      subst h1 h2 h3
      exact sv_nil ⟨od (l / 2) (h / 2), by omega, l / 2, h / 2, k - 1, rfl, rfl, by omega⟩
    · have he : l = h := by
        have : decide ((l : Int) = (h : Int)) = true := by
          cases q : decide ((l : Int) = (h : Int)) with
          | true => rfl
          | false =>
            rw [q] at h1
            cases h1
        have := of_decide_eq_true this
        omega
      subst he
      rw [od_same] at hk
      refine sv_ret (nm 3) ?_
      show PyData.int k = _
      congr 1
      omega
def S_law_middle : List PD → PD → Prop := fun ds d => ∃ x : Spn, SOk x ∧ 2 ≤ x.w ∧ ds = [dSp x] ∧ d = .tuple [dI x.L, dI x.R]
theorem sc_law_middle : FnScope ["_law_cover", "_law_half", "_law_middle_here"] ["_law_cover"] (defScope s_law_middle) := ⟨rfl, rfl, rfl, by decide +kernel, rfl, by decide +kernel, by decide +kernel⟩
theorem SOk.o {x : Spn} (h : SOk x) : x.o ≤ x.d := od_le x.d x.l (x.l + x.w - 1) (by have := h.w; omega) (by have := h.b; have := h.w; omega)
theorem f_law_middle (F : At K mg "_law_middle" s_law_middle) (F_law_two : Fn P w K mg base 1 "_law_two" S_law_two) (F_law_known : Fn P w K mg base 1 "_law_known" S_law_known) : Fn P w K mg base 2 "_law_middle" S_law_middle := by
  refine fn_at F sc_law_middle (fun _ _ _ _ _ _ us hl => match us, hl with | [_], _ => rfl) (fun ds d h => ?_) (fun f cdv A outer s H E hr ds d h => ?_)
  · obtain ⟨_, _, _, rfl, _⟩ := h
    rfl
  · obtain ⟨x, hx, h2, rfl, rfl⟩ := h
    obtain ⟨_, _, ho⟩ := half_sides h2
    have hd := hx.d
    have hod := hx.o
    obtain ⟨m, j, q, C⟩ := cen_of x.l x.w h2
    have oj : x.o = j + 1 := C.od_eq
    have em : mid x.l x.w = m := C.mid_eq
    have em2 : mid x.l x.w = x.l / 2 ^ x.o * 2 ^ x.o + 2 ^ (x.o - 1) := rfl
    have p2 : 2 ^ x.o = 2 * 2 ^ (x.o - 1) := by
      rw [← pow_s]
      congr 1
      omega
    have b1 : 2 ^ (x.o - 1) < 2 ^ 200 := Nat.pow_lt_pow_right (by decide) (by omega)
    have b2 : 2 ^ x.o < 2 ^ 201 := Nat.pow_lt_pow_right (by decide) (by omega)
    have ca := C.a
    have cb := C.b
    have lx := hx.lt.1
    refine sv_asg 1 (d := dI (2 ^ (x.o - 1))) (ev_call F_law_two (hr.mono (by decide)) (ea_cons (ev_is (d := dI (x.o - 1)) (ev_sub (ev_sub (ev_ixT (d := dI x.d) (nm 0) ev_int (by rfl)) (ev_call F_law_known (hr.mono (by decide)) (ea_cons (nm 0) ea_nil) ⟨x, hx, rfl, rfl⟩)) ev_int) (by
      congr 1
      omega)) ea_nil) ⟨x.o - 1, by omega, rfl, rfl⟩) ?_
    have q1 : x.l / 2 ^ x.o < 2 ^ 250 := Nat.lt_of_le_of_lt (Nat.div_le_self _ _) lx
    refine sv_asg 2 (d := dI m) (ev_is (ev_add (i := ((x.l / 2 ^ x.o * 2 * 2 ^ (x.o - 1) : Nat) : Int)) (j := ((2 ^ (x.o - 1) : Nat) : Int)) (ev_is (ev_mul (i := ((x.l / 2 ^ x.o * 2 : Nat) : Int)) (j := ((2 ^ (x.o - 1) : Nat) : Int)) (mul_nat 251 200 (by rw [show 2 ^ 251 = 2 ^ 250 * 2 by decide]; exact Nat.mul_lt_mul_of_pos_right q1 (by decide)) b1) (ev_is (ev_mul (i := ((x.l / 2 ^ x.o : Nat) : Int)) (j := ((2 : Nat) : Int)) (mul_nat 250 2 q1 (by decide)) (ev_is (ev_div (i := (x.l : Nat)) (j := ((2 ^ x.o : Nat) : Int)) (div_nat 201 (pow_pos2 _) b2) (ev_ixT (nm 0) ev_int (by rfl)) (ev_is (ev_mul (i := ((2 : Nat) : Int)) (j := ((2 ^ (x.o - 1) : Nat) : Int)) (mul_nat 2 200 (by decide) b1) ev_int (nm 1)) (by rw [i_mul, p2]))) (by rw [i_div])) ev_int) (by rw [i_mul])) (nm 1)) (by rw [i_mul])) (nm 1)) (by
      rw [i_add, ← em, em2, p2, Nat.mul_assoc])) ?_
    obtain ⟨e1, e2⟩ := sides_cen C
    have e1 : x.L = m - x.l := e1
    have e2 : x.R = x.l + x.w - m := e2
    refine sv_ret (d := .tuple [dI x.L, dI x.R]) (ev_is (ev_tup (ea_cons (ev_sub (i := (m : Nat)) (j := (x.l : Nat)) (nm 2) (ev_ixT (nm 0) ev_int (by rfl))) (ea_cons (ev_sub (i := (x.l : Int) + (x.w : Int)) (j := (m : Nat)) (ev_add (i := (x.l : Nat)) (j := (x.w : Nat)) (ev_ixT (nm 0) ev_int (by rfl)) (ev_ixT (nm 0) ev_int (by rfl))) (nm 2)) ea_nil))) ?_) rfl
    rw [e1, e2]
    congr 2
    · congr 1
      omega
    · congr 2
      omega
def S_law_doubled : List PD → PD → Prop := fun ds d => ∃ x : Spn, SOk x ∧ ds = [dSp x] ∧ d = dSp (dbl x 1)
theorem sc_law_doubled : FnScope ["_law_cover"] ["_law_cover"] (defScope s_law_doubled) := ⟨rfl, rfl, rfl, by decide +kernel, rfl, by decide +kernel, by decide +kernel⟩
theorem f_law_doubled (F : At K mg "_law_doubled" s_law_doubled) : Fn P w K mg base 1 "_law_doubled" S_law_doubled := by
  refine fn_at F sc_law_doubled (fun _ _ _ _ _ _ us hl => match us, hl with | [_], _ => rfl) (fun ds d h => ?_) (fun f cdv A outer s H E hr ds d h => ?_)
  · obtain ⟨_, _, rfl, _⟩ := h
    rfl
  · obtain ⟨x, hx, rfl, rfl⟩ := h
    have e1 : ((2 : Nat) : Int) * (x.l : Int) = ((x.l * 2 ^ 1 : Nat) : Int) := by
      rw [i_mul, Nat.pow_one, Nat.mul_comm]
    have e2 : ((2 : Nat) : Int) * (x.w : Int) = ((x.w * 2 ^ 1 : Nat) : Int) := by
      rw [i_mul, Nat.pow_one, Nat.mul_comm]
    refine sv_ret (d := dSp (dbl x 1)) (ev_is (ev_tup (ea_cons (ev_mul (i := ((2 : Nat) : Int)) (j := (x.l : Nat)) (mul_nat 2 250 (by decide) hx.lt.1) ev_int (ev_ixT (nm 0) ev_int (by rfl))) (ea_cons (ev_mul (i := ((2 : Nat) : Int)) (j := (x.w : Nat)) (mul_nat 2 250 (by decide) hx.lt.2.1) ev_int (ev_ixT (nm 0) ev_int (by rfl))) (ea_cons (ev_add (i := (x.d : Nat)) (ev_ixT (nm 0) ev_int (by rfl)) ev_int) ea_nil)))) ?_) rfl
    rw [e1, e2]
    rfl
def S_law_plain : List PD → PD → Prop := fun ds d => ∃ (c : Cod) (x : Spn), SOk x ∧ x.d + c.size ≤ 200 ∧ ds = [dCod c, dSp x] ∧ d = dSp (dbl x (plT c.size x))
theorem sc_law_plain : FnScope ["_law_rig", "_law_cover"] ["_law_rig", "_law_cover"] (defScope s_law_plain) := ⟨rfl, rfl, rfl, by decide +kernel, rfl, by decide +kernel, by decide +kernel⟩
theorem f_law_plain (F : At K mg "_law_plain" s_law_plain) (F_law_known : Fn P w K mg base 1 "_law_known" S_law_known) (F_law_doubled : Fn P w K mg base 1 "_law_doubled" S_law_doubled) : Fn P w K mg base 2 "_law_plain" S_law_plain := by
  refine fn_at F sc_law_plain (fun _ _ _ _ _ _ us hl => match us, hl with | [_, _], _ => rfl) (fun ds d h => ?_) (fun f cdv A outer s H E hr ds d h => ?_)
  · obtain ⟨_, _, _, _, rfl, _⟩ := h
    rfl
  · obtain ⟨c, x, hx, hd, rfl, rfl⟩ := h
    have pl := plT_le c.size x
    refine sv_while (fun m r => ∃ t : Nat, r = [some (.d (dCod c)), some (.d (dSp (dbl x t)))] ∧ t + m = plT c.size x) (plT c.size x) ⟨0, by rw [dbl_zero]; rfl, Nat.zero_add _⟩ (fun m r hw => ?_)
    obtain ⟨t, rfl, ht⟩ := hw
    have k1 := hx.up (t := t) (by omega)
    have eo := dbl_o hx.w t
    refine ⟨decide ((dbl x t).o < c.size), et_is (et_cmp c_lt (ev_is (d := dI (dbl x t).o) (ev_sub (ev_ixT (d := dI (dbl x t).d) (nm 1) ev_int (by rfl)) (ev_call F_law_known (hr.mono (by decide)) (ea_cons (nm 1) ea_nil) ⟨_, k1, rfl, rfl⟩)) (by
      congr 1
      omega)) (ev_ixT (d := dI c.size) (nm 0) ev_int (by rfl))) (decide_eq_decide.mpr Int.ofNat_lt), fun h => ?_, fun h => ?_⟩
    · have h := of_decide_eq_true h
      refine sv_asg 1 (ev_call F_law_doubled (hr.mono (by decide)) (ea_cons (nm 1) ea_nil) ⟨_, k1, rfl, rfl⟩) (sv_nil ⟨m - 1, ?_, t + 1, by rw [dbl_dbl]; rfl, ?_⟩)
      · unfold plT at ht
        omega
      · unfold plT at ht ⊢
        omega
    · have h := of_decide_eq_false h
      refine sv_ret (nm 1) ?_
      have : t = plT c.size x := by
        unfold plT at ht ⊢
        omega
      rw [this]
def S_law_settled : List PD → PD → Prop := fun ds d => ∃ (c : Cod) (x : Spn), SOk x ∧ x.d + 3 * c.size ≤ 200 ∧ 2 ≤ c.size ∧ c.size ≤ 5 ∧ ds = [dCod c, dSp x] ∧ d = .tuple [dSp (Bm.settle c.man c.size x).1, dSpO (Bm.settle c.man c.size x).2.2]
theorem sc_law_settled : FnScope ["_law_rig", "_law_cover", "_law_limit", "_law_left", "_law_right", "_law_first", "_law_last"] ["_law_rig", "_law_cover"] (defScope s_law_settled) := ⟨rfl, rfl, rfl, by decide +kernel, rfl, by decide +kernel, by decide +kernel⟩
theorem f_law_settled (B : Blt mg) (F : At K mg "_law_settled" s_law_settled) (F_law_two : Fn P w K mg base 1 "_law_two" S_law_two) (F_law_doubled : Fn P w K mg base 1 "_law_doubled" S_law_doubled) (F_law_plain : Fn P w K mg base 2 "_law_plain" S_law_plain) (F_law_middle : Fn P w K mg base 2 "_law_middle" S_law_middle) : Fn P w K mg base 3 "_law_settled" S_law_settled := by
  refine fn_at F sc_law_settled (fun _ _ _ _ _ _ us hl => match us, hl with | [_, _], _ => rfl) (fun ds d h => ?_) (fun f cdv A outer s H E hr ds d h => ?_)
  · obtain ⟨_, _, _, _, _, _, rfl, _⟩ := h
    rfl
  · obtain ⟨c, x, hx, hd, hz, hz2, rfl, rfl⟩ := h
    obtain ⟨z, ctx, fine, man⟩ := c
    have hd : x.d + 3 * z ≤ 200 := hd
    have hz : 2 ≤ z := hz
    have hz2 : z ≤ 5 := hz2
    have ps : 2 ^ z = 2 * 2 ^ (z - 1) := by
      rw [← pow_s]
      congr 1
      omega
    have ps2 : 2 ^ (z - 1) = 2 * 2 ^ (z - 2) := by
      rw [← pow_s]
      congr 1
      omega
    have t1 := seT_le (man := man) hz hx.w
    have k1 := hx.up (t := seT man z x) (by omega)
    have w2 := sp_two k1.w hz (seT_open (man := man) hz hx.w)
    refine sv_asg 2 (d := dI (2 ^ z)) (ev_call F_law_two (hr.mono (by decide)) (ea_cons (ev_ixT (d := dI z) (nm 0) ev_int (by rfl)) ea_nil) ⟨z, by omega, rfl, rfl⟩) ?_
    refine sv_if (et_is (et_cmp c_eqS (ev_ixT (d := .str (manS man)) (nm 0) ev_int (by rfl)) ev_str) (man_late man)) (fun h => ?_) (fun h => ?_)
    · have hc := of_decide_eq_true h
      subst hc
      refine sv_while (fun m r => ∃ t : Nat, r = [some (.d (dCod ⟨z, ctx, fine, .late⟩)), some (.d (dSp (dbl x t))), some (.d (dI (2 ^ z))), none, none, none, none] ∧ t + m = upT x.w (2 ^ (z - 1)) ∧ m = upT (x.w * 2 ^ t) (2 ^ (z - 1))) (upT x.w (2 ^ (z - 1))) ⟨0, by rw [dbl_zero]; rfl, Nat.zero_add _, by rw [Nat.pow_zero, Nat.mul_one]⟩ (fun m r hw => ?_)
      obtain ⟨t, rfl, ht, hm⟩ := hw
      have t2 : upT x.w (2 ^ (z - 1)) ≤ 2 * z := t1
      have kt := hx.up (t := t) (by omega)
      have wp : 0 < x.w * 2 ^ t := Nat.mul_pos hx.w (pow_pos2 t)
      refine ⟨decide (x.w * 2 ^ t * 2 ≤ 2 ^ z), et_is (et_cmp c_le (ev_is (ev_mul (i := ((x.w * 2 ^ t : Nat) : Int)) (j := ((2 : Nat) : Int)) (mul_nat 250 2 kt.lt.2.1 (by decide)) (ev_ixT (nm 1) ev_int (by rfl)) ev_int) (by rw [i_mul])) (nm 2)) (decide_eq_decide.mpr Int.ofNat_le), fun h => ?_, fun h => ?_⟩
      · have h := of_decide_eq_true h
        have e := upT_le (m := x.w * 2 ^ t) (lim := 2 ^ (z - 1)) (by omega) wp
        refine sv_asg 1 (ev_call F_law_doubled (hr.mono (by decide)) (ea_cons (nm 1) ea_nil) ⟨_, kt, rfl, rfl⟩) (sv_nil ⟨m - 1, by omega, t + 1, by rw [dbl_dbl]; rfl, by omega, ?_⟩)
        rw [Nat.pow_succ, ← Nat.mul_assoc]
        omega
      · have h := of_decide_eq_false h
        have e := upT_gt (m := x.w * 2 ^ t) (lim := 2 ^ (z - 1)) (by omega)
        refine sv_ret (ev_tup (ea_cons (nm 1) (ea_cons ev_non ea_nil))) ?_
        have : t = upT x.w (2 ^ (z - 1)) := by omega
        rw [this]
        unfold Bm.settle
        rw [if_neg (fun q => nomatch q)]
        rfl
    · have hl := of_decide_eq_false h
      refine sv_nil ?_
      have pl := plT_le z x
      refine sv_asg 1 (d := dSp (dbl x (plT z x))) (ev_call F_law_plain (hr.mono (by decide)) (ea_cons (nm 0) (ea_cons (nm 1) ea_nil)) ⟨_, x, hx, by show x.d + z ≤ 200; omega, rfl, rfl⟩) ?_
      generalize hQ : ({ nx := fun _ => PyData.tuple [dSp (Bm.settle man z x).1, dSpO (Bm.settle man z x).2.2] = PyData.none, rt := fun d' _ => d' = PyData.tuple [dSp (Bm.settle man z x).1, dSpO (Bm.settle man z x).2.2] } : Po) = PP
      have rest : ∀ ρ, ρ = [some (.d (dCod ⟨z, ctx, fine, man⟩)), some (.d (dSp (dbl x (seT man z x)))), some (.d (dI (2 ^ z))), none, none, none, none] →
          SEv (cxOf CX0 P w K mg base ["_law_rig", "_law_cover", "_law_limit", "_law_left", "_law_right", "_law_first", "_law_last"] "_law_settled" (defScope s_law_settled) f cdv A outer s H E).nox (defBody s_law_settled).tail.tail.tail.tail ρ PP := by
        intro ρ e
        subst e hQ
        refine sv_if (et_w (ew_or (k1 := !decide (man = .cut)) (k2 := decide (2 ^ (z - 2) < (dbl x (seT man z x)).w)) (et_is (et_cmp c_neS (ev_ixT (d := .str (manS man)) (nm 0) ev_int (by rfl)) ev_str) (by rw [man_cut])) fun h => (ew_or1 (et_is (et_cmp c_gt (ev_is (ev_mul (i := (((dbl x (seT man z x)).w : Nat) : Int)) (j := ((4 : Nat) : Int)) (mul_nat 250 3 k1.lt.2.1 (by decide)) (ev_ixT (nm 1) ev_int (by rfl)) ev_int) (by rw [i_mul])) (nm 2)) (decide_eq_decide.mpr (by
          rw [Int.ofNat_lt]
          omega)))))) (fun h => ?_) (fun h => ?_)
        ·
          refine sv_ret (ev_tup (ea_cons (nm 1) (ea_cons ev_non ea_nil))) ?_
          unfold Bm.settle
          by_cases hc : man = .cut
          · rw [if_pos hc]
            have hw : 2 ^ (z - 2) < (dbl x (seT man z x)).w := by
              rw [decide_eq_true hc] at h
              exact of_decide_eq_true h
            rw [if_pos hw]
            have ez : plT z (dbl x (seT man z x)) = 0 := by
              have := seT_open (man := man) hz hx.w
              unfold plT
              omega
            rw [ez]
            show _ = PyData.tuple [dSp (dbl (dbl x (seT man z x)) 0), dSpO none]
            rw [dbl_zero]
            rfl
          · rw [if_neg hc]
            rfl
        · have hc : man = .cut := by
            cases q : decide (man = .cut) with
            | true => exact of_decide_eq_true q
            | false =>
              rw [q] at h
              cases h
          have hw : ¬ 2 ^ (z - 2) < (dbl x (seT man z x)).w := by
            rw [decide_eq_true hc] at h
            exact of_decide_eq_false h
          refine sv_nil ?_
          generalize hy : dbl x (seT man z x) = y at *
          have yd : y.d + z ≤ 200 := by
            rw [← hy]
            show x.d + seT man z x + z ≤ 200
            omega
          have es : (Bm.settle man z x).1 = dbl (kept y) (plT z (kept y)) ∧ (Bm.settle man z x).2.2 = some (gone y) := by
            unfold Bm.settle
            rw [hy, if_pos hc, if_neg hw]
            exact ⟨rfl, rfl⟩
          refine sv_bind (ev_call F_law_middle (hr.mono (by decide)) (ea_cons (nm 1) ea_nil) ⟨y, k1, w2, rfl, rfl⟩) (bd_tup (bds_cons (bd_nm 3) (bds_cons (bd_nm 4) bds_nil))) ?_
          refine sv_par 5 6 (d1 := dSp (Bm.first y)) (d2 := dSp (Bm.last y)) (ev_tup (ea_cons (ev_ixT (nm 1) ev_int (by rfl)) (ea_cons (nm 3) (ea_cons (ev_ixT (nm 1) ev_int (by rfl)) ea_nil)))) (ev_is (ev_tup (ea_cons (ev_add (i := (y.l : Nat)) (j := (y.L : Nat)) (ev_ixT (nm 1) ev_int (by rfl)) (nm 3)) (ea_cons (nm 4) (ea_cons (ev_ixT (d := dI y.d) (nm 1) ev_int (by rfl)) ea_nil)))) rfl) ?_
          refine sv_if (et_cmp c_ge (nm 3) (nm 4)) (fun h => ?_) (fun h => ?_)
          · have hle : y.R ≤ y.L := Int.ofNat_le.mp (of_decide_eq_true h)
            have ek : kept y = Bm.first y := by
              unfold kept
              rw [if_pos hle]
            have eg : gone y = Bm.last y := by
              unfold gone
              rw [if_pos hle]
            refine sv_ret (ev_tup (ea_cons (ev_call F_law_plain (hr.mono (by decide)) (ea_cons (nm 0) (ea_cons (nm 5) ea_nil)) ⟨⟨z, ctx, fine, man⟩, Bm.first y, k1.first w2, yd, rfl, rfl⟩) (ea_cons (nm 6) ea_nil))) ?_
            rw [es.1, es.2, ek, eg]
            rfl
          · have hle : ¬ y.R ≤ y.L := fun q => of_decide_eq_false h (Int.ofNat_le.mpr q)
            have ek : kept y = Bm.last y := by
              unfold kept
              rw [if_neg hle]
            have eg : gone y = Bm.first y := by
              unfold gone
              rw [if_neg hle]
            refine sv_nil (sv_ret (ev_tup (ea_cons (ev_call F_law_plain (hr.mono (by decide)) (ea_cons (nm 0) (ea_cons (nm 6) ea_nil)) ⟨⟨z, ctx, fine, man⟩, Bm.last y, k1.last w2, yd, rfl, rfl⟩) (ea_cons (nm 5) ea_nil))) ?_)
            rw [es.1, es.2, ek, eg]
            rfl
      refine sv_if (et_is (et_cmp c_eqS (ev_ixT (d := .str (manS man)) (nm 0) ev_int (by rfl)) ev_str) (man_pending man)) (fun h => ?_) (fun h => ?_)
      · have hc := of_decide_eq_true h
        subst hc
        generalize hy : dbl x (plT z x) = y at *
        have ky : SOk y := by
          rw [← hy]
          exact hx.up (by omega)
        have yo : z ≤ y.o := by
          rw [← hy]
          exact pl_open hx.w z
        have y2 := sp_two ky.w hz yo
        have ss := sum_sides y2
        have yd : y.d ≤ x.d + z := by
          rw [← hy]
          show x.d + plT z x ≤ _
          omega
        have ep : seT .pending z x = plT z x + upT (max y.L y.R) (2 ^ (z - 2)) := by
          show peT z x = _
          unfold peT
          rw [hy]
        have ed : dbl x (seT .pending z x) = dbl y (upT (max y.L y.R) (2 ^ (z - 2))) := by
          rw [ep, ← dbl_dbl, hy]
        refine sv_while (fun m r => ∃ t : Nat, r = [some (.d (dCod ⟨z, ctx, fine, .pending⟩)), some (.d (dSp (dbl y t))), some (.d (dI (2 ^ z))), none, none, none, none] ∧ t + m = upT (max y.L y.R) (2 ^ (z - 2)) ∧ m = upT (max y.L y.R * 2 ^ t) (2 ^ (z - 2))) (upT (max y.L y.R) (2 ^ (z - 2))) ⟨0, by rw [dbl_zero]; rfl, Nat.zero_add _, by rw [Nat.pow_zero, Nat.mul_one]⟩ (fun m r hw => ?_)
        obtain ⟨t, rfl, ht, hm⟩ := hw
        have kt := ky.up (t := t) (by omega)
        have t2 : 2 ≤ (dbl y t).w := by
          have : y.w * 1 ≤ y.w * 2 ^ t := Nat.mul_le_mul_left _ (pow_pos2 t)
          show 2 ≤ y.w * 2 ^ t
          omega
        obtain ⟨l1, l2⟩ := dbl_LR y2 t
        have ml : max y.L y.R * 2 ^ t = max (y.L * 2 ^ t) (y.R * 2 ^ t) := by
          rcases Nat.le_total y.L y.R with q | q
          · rw [Nat.max_eq_right q, Nat.max_eq_right (Nat.mul_le_mul_right _ q)]
          · rw [Nat.max_eq_left q, Nat.max_eq_left (Nat.mul_le_mul_right _ q)]
        have mp : 0 < max y.L y.R * 2 ^ t := Nat.mul_pos (by omega) (pow_pos2 t)
        have sst := sum_sides t2
        have mb : max y.L y.R * 2 ^ t < 2 ^ 250 := by
          rw [ml, ← l1, ← l2]
          have := kt.lt.2.1
          omega
        have em : maxL [((dbl y t).L : Int), ((dbl y t).R : Int)] = ((max y.L y.R * 2 ^ t : Nat) : Int) := by
          rw [maxL_two, ml, l1, l2]
          split <;> omega
        refine ⟨decide (max y.L y.R * 2 ^ t * 4 ≤ 2 ^ z), et_is (et_cmp c_le (ev_is (ev_mul (i := ((max y.L y.R * 2 ^ t : Nat) : Int)) (j := ((4 : Nat) : Int)) (mul_nat 250 3 mb (by decide)) (ev_is (ev_maxL (ns := [((dbl y t).L : Int), ((dbl y t).R : Int)]) B.max (by show 0 < 2; decide) (ev_listT B.list (ev_call F_law_middle (hr.mono (by decide)) (ea_cons (nm 1) ea_nil) ⟨_, kt, t2, rfl, rfl⟩))) (by rw [em])) ev_int) (by rw [i_mul])) (nm 2)) (decide_eq_decide.mpr Int.ofNat_le), fun h => ?_, fun h => ?_⟩
        · have h := of_decide_eq_true h
          have e := upT_le (m := max y.L y.R * 2 ^ t) (lim := 2 ^ (z - 2)) (by omega) mp
          refine sv_asg 1 (ev_call F_law_doubled (hr.mono (by decide)) (ea_cons (nm 1) ea_nil) ⟨_, kt, rfl, rfl⟩) (sv_nil ⟨m - 1, by omega, t + 1, by rw [dbl_dbl]; rfl, by omega, ?_⟩)
          rw [Nat.pow_succ, ← Nat.mul_assoc]
          omega
        · have h := of_decide_eq_false h
          have e := upT_gt (m := max y.L y.R * 2 ^ t) (lim := 2 ^ (z - 2)) (by omega)
          have : t = upT (max y.L y.R) (2 ^ (z - 2)) := by omega
          refine sv_nil (rest _ ?_)
          rw [this, ed]
      · have hp := of_decide_eq_false h
        refine sv_nil (rest _ ?_)
        have ep : seT man z x = plT z x := by
          cases man with
          | plain => rfl
          | cut => rfl
          | late => exact absurd rfl hl
          | pending => exact absurd rfl hp
        rw [ep]
        rfl
end
end G
set_option Elab.async false
set_option linter.all false
set_option maxRecDepth 100000
set_option maxHeartbeats 4000000
namespace G
open PySem PySem.Spec PyProof.Rows L2 Hd Bm
def snd3 : PD → PD
  | .tuple [_, n, _] => n
  | _ => .none
def prtN (fine : Bool) (es : List Ent) (w i : Nat) : List PD := (List.range i).map fun i => .tuple [dI (bgn fine es w i), dI (cel fine es w i)]
theorem prtN_len (fine : Bool) (es : List Ent) (w i : Nat) : (prtN fine es w i).length = i := by
  unfold prtN
  rw [List.length_map, List.length_range]
theorem prtN_succ (fine : Bool) (es : List Ent) (w i : Nat) : prtN fine es w (i + 1) = prtN fine es w i ++ [.tuple [dI (bgn fine es w i), dI (cel fine es w i)]] := rg_succ i _
/-- what follows a letter: the span, the lost one -/
def nextD (c : Cod) (es : List Ent) (x : Spn) (i : Nat) (e : Ent) : PD :=
  if cel c.fine es x.w i = 0 then .tuple [.none, .none] else if e.to = none then .tuple [dSp (prt c es x i), .none] else .tuple [dSp (Bm.settle c.man c.size (prt c es x i)).1, dSpO (Bm.settle c.man c.size (prt c es x i)).2.2]
/-- the depth, the numerator over 2 ^ 64 -/
def val (x : Spn) : Nat := x.w * 2 ^ (64 - x.d)
def vals (xs : List Spn) : Nat := (xs.map val).sum
theorem maxL_le {ns : List Int} {n : Int} (h : n ∈ ns) : n ≤ maxL ns := by
  have : 0 < ns.length := by
    cases ns with
    | nil => cases h
    | cons => simp
  exact (maxL_max this).2 n h
section
variable {P : Program} {w : World} {K : PySem.W.Frag} {mg : Str → Option Value} {base : Heap}
def S_law_parts : List PD → PD → Prop := fun ds d => ∃ (c : Cod) (k w : Nat) (es : List Ent), Wf c ∧ c.ctx[k]? = some es ∧ w < 2 ^ 250 ∧ ds = [dCod c, dCtx es, dI w] ∧ d = .list (prtD c.fine es w)
theorem sc_law_parts : FnScope ["_law_rig", "_law_entries", "_law_wide", "_law_k", "_law_total", "_law_ahead", "_law_found", "_law_count", "_law_begin", "_law_end", "_law_share", "_law_entry"] ["_law_rig", "_law_entries", "_law_wide"] (defScope s_law_parts) := ⟨rfl, rfl, rfl, by decide +kernel, rfl, by decide +kernel, by decide +kernel⟩
theorem f_law_parts (B : Blt mg) (F : At K mg "_law_parts" s_law_parts) : Fn P w K mg base 1 "_law_parts" S_law_parts := by
  refine fn_at F sc_law_parts (fun _ _ _ _ _ _ us hl => match us, hl with | [_, _, _], _ => rfl) (fun ds d h => ?_) (fun f cdv A outer s H E hr ds d h => ?_)
  · obtain ⟨_, _, _, _, _, _, _, rfl, _⟩ := h
    rfl
  · obtain ⟨c, k, w, es, W, hk, hw, rfl, rfl⟩ := h
    have t0 := W.tot hk
    have t36 := W.tot36 hk
    have el := (W.e2 es (W.mem hk)).2
    have e2 := (W.e2 es (W.mem hk)).1
    refine sv_parX3 4 5 6 (ev_is (d := dI (tot es)) (ev_sum (ns := (es.map Ent.n).map fun (n : Nat) => (n : Int)) B.sum (ev_is (eo_lc [("_law_entry", 11)] (it_tup (ds := es.map dEnt) (nm 1)) snd3 (by rw [List.length_map]; omega) (fun i d hi => by
      rw [List.getElem?_map] at hi
      cases he : es[i]? with
      | none =>
        rw [he] at hi
        cases hi
      | some e =>
        rw [he] at hi
        cases hi
        exact ⟨_, fun s H C cl fp => ⟨(bv_nm 11), (ev_ixT (nm 11) ev_int (by rfl))⟩⟩) (blkOk_by (N := ["_law_rig", "_law_entries", "_law_wide", "_law_k", "_law_total", "_law_ahead", "_law_found", "_law_count", "_law_begin", "_law_end", "_law_share", "_law_entry"]) (sc := defScope s_law_parts) (by decide +kernel))).data (by
        rw [List.map_map, List.map_map, List.map_map]
        rfl))) (by rw [sum_nat]; rfl)).x (ev_int (i := 0)).x (eo_lst ea_nil).x (fun c1 c2 c3 h1 h2 h3 => ?_)
    subst h1 h2 h3
    refine sv_for (it_range1 (n := (((es.map dEnt).length : Nat) : Int)) B.range (by rw [List.length_map]; omega) (ev_lenT B.len (nm 1))) (fun i r => ∃ a3 a7 a8 a9 a10 a11, r = [some (.d (dCod c)), some (.d (dCtx es)), some (.d (dI w)), a3, some (.d (dI (tot es))), some (.d (dI (ah es i))), some (.o (.l (prtN c.fine es w i))), a7, a8, a9, a10, a11]) ⟨none, none, none, none, none, none, rfl⟩ (fun i d r hi hp => ?_) (fun r hp => ?_)
    · obtain ⟨a3, a7, a8, a9, a10, a11, rfl⟩ := hp
      obtain ⟨rfl, hil⟩ := rangeD_at hi
      rw [Int.toNat_natCast, List.length_map] at hil
      rw [Int.zero_add]
      have he : es[i]? = some es[i] := List.getElem?_eq_getElem hil
      have hs := ah_succ he
      have b1 := ah_tot es i
      have b2 := ah_tot es (i + 1)
      have a1 : ah es i < 2 ^ 6 := by omega
      have a2 : ah es (i + 1) < 2 ^ 6 := by omega
      have hu : w / tot es < 2 ^ 250 := Nat.lt_of_le_of_lt (Nat.div_le_self _ _) hw
      have hle := bgn_nd c.fine es w i t0
      refine ⟨_, (bd_nm 3), ?_⟩
      refine sv_asg 7 (d := dI es[i].n) (ev_ixT (d := dI es[i].n) (ev_ixT (d := dEnt es[i]) (nm 1) (nm 3) (atI_nat (by rw [List.getElem?_map, he]; rfl))) ev_int (by rfl)) ?_
      refine sv_asg 8 (d := dI (w * ah es i / tot es)) (ev_is (ev_div (div_nat 6 t0 (show tot es < 2 ^ 6 by omega)) (ev_mul (mul_nat 250 6 hw a1) (nm 2) (nm 5)) (nm 4)) (by rw [i_mul, i_div])) ?_
      refine sv_asg 9 (d := dI (w * ah es (i + 1) / tot es)) (ev_is (ev_div (div_nat 6 t0 (show tot es < 2 ^ 6 by omega)) (ev_mul (i := (w : Nat)) (j := ((ah es (i + 1) : Nat) : Int)) (mul_nat 250 6 hw a2) (nm 2) (ev_is (ev_add (nm 5) (nm 7)) (by rw [i_add, hs]))) (nm 4)) (by rw [i_mul, i_div])) ?_
      refine sv_if (et_is (et_cmp c_eqS (ev_ixT (d := .str (divS c.fine)) (nm 0) ev_int (by rfl)) ev_str) (div_coarse c.fine)) (fun h => ?_) (fun h => ?_)
      · have hf : c.fine = false := by
          cases q : c.fine with
          | true =>
            rw [q] at h
            cases h
          | false => rfl
        refine sv_asg 10 (d := dI (w / tot es)) (ev_is (ev_div (div_nat 6 t0 (show tot es < 2 ^ 6 by omega)) (nm 2) (nm 4)) (by rw [i_div])) ?_
        refine sv_par 8 9 (d1 := dI (w / tot es * ah es i)) (d2 := dI (w / tot es * ah es (i + 1))) (ev_is (ev_mul (mul_nat 250 6 hu a1) (nm 10) (nm 5)) (by rw [i_mul])) (ev_is (ev_mul (i := ((w / tot es : Nat) : Int)) (j := ((ah es (i + 1) : Nat) : Int)) (mul_nat 250 6 hu a2) (nm 10) (ev_is (ev_add (nm 5) (nm 7)) (by rw [i_add, hs]))) (by rw [i_mul])) ?_
        refine sv_asg 9 (d := dI (nd c.fine es w i)) (ev_if (k := decide (i + 1 < es.length)) (et_is (et_cmp c_lt (nm 3) (ev_sub (ev_lenT B.len (nm 1)) ev_int)) (by
          rw [List.length_map]
          exact decide_eq_decide.mpr (by omega))) (fun h2 => ev_is (nm 9) ?_) (fun h2 => ev_is (nm 2) ?_)) ?_
        · unfold nd bgn
          rw [if_pos (of_decide_eq_true h2), if_neg (by rw [hf]; decide)]
        · unfold nd
          rw [if_neg (of_decide_eq_false h2)]
        refine sv_nil (sv_app 6 (xs := prtN c.fine es w i) (d := .tuple [dI (bgn c.fine es w i), dI (cel c.fine es w i)]) (ev_is (ev_tup (ea_cons (nm 8) (ea_cons (ev_sub (nm 9) (nm 8)) ea_nil))) ?_) (by rw [prtN_len]; omega) ?_)
        · have eb : w / tot es * ah es i = bgn c.fine es w i := by
            unfold bgn
            rw [if_neg (by rw [hf]; decide)]
          rw [eb]
          unfold cel
          congr 3
          congr 1
          omega
        refine sv_asg 5 (d := dI (ah es (i + 1))) (ev_is (ev_add (nm 5) (nm 7)) (by rw [i_add, hs])) (sv_nil ⟨_, _, _, _, _, a11, by rw [prtN_succ]; rfl⟩)
      · have hf : c.fine = true := by
          cases q : c.fine with
          | true => rfl
          | false =>
            rw [q] at h
            cases h
        have eb : w * ah es i / tot es = bgn c.fine es w i := by
          unfold bgn
          rw [if_pos hf]
        have en : w * ah es (i + 1) / tot es = nd c.fine es w i := by
          unfold nd
          split
          · unfold bgn
            rw [if_pos hf]
          · rw [show i + 1 = es.length by omega, ah_len, Nat.mul_div_cancel _ t0]
        rw [eb, en]
        refine sv_nil (sv_app 6 (xs := prtN c.fine es w i) (d := .tuple [dI (bgn c.fine es w i), dI (cel c.fine es w i)]) (ev_is (ev_tup (ea_cons (nm 8) (ea_cons (ev_sub (nm 9) (nm 8)) ea_nil))) ?_) (by rw [prtN_len]; omega) ?_)
        · unfold cel
          congr 3
          congr 1
          omega
        refine sv_asg 5 (d := dI (ah es (i + 1))) (ev_is (ev_add (nm 5) (nm 7)) (by rw [i_add, hs])) (sv_nil ⟨_, _, _, _, a10, a11, by rw [prtN_succ]; rfl⟩)
    · obtain ⟨a3, a7, a8, a9, a10, a11, rfl⟩ := hp
      rw [rangeD_len, Int.toNat_natCast, List.length_map]
      exact sv_frz 6 (sv_ret (nm 6) rfl)
def onlyI (i : Nat) : PD → Option PD
  | .int n => if n = (i : Int) then some (dI i) else none
  | _ => none
def S_law_place : List PD → PD → Prop := fun ds d => ∃ (c : Cod) (k i : Nat) (es : List Ent) (e : Ent), Wf c ∧ c.ctx[k]? = some es ∧ es[i]? = some e ∧ ds = [dCod c, dI k, .str (sgn e.c)] ∧ d = dI i
theorem sc_law_place : FnScope ["_law_rig", "_law_room", "_law_letter", "_law_entries", "_law_found", "_law_k"] ["_law_rig", "_law_room", "_law_letter"] (defScope s_law_place) := ⟨rfl, rfl, rfl, by decide +kernel, rfl, by decide +kernel, by decide +kernel⟩
theorem f_law_place (B : Blt mg) (F : At K mg "_law_place" s_law_place) : Fn P w K mg base 1 "_law_place" S_law_place := by
  refine fn_at F sc_law_place (fun _ _ _ _ _ _ us hl => match us, hl with | [_, _, _], _ => rfl) (fun ds d h => ?_) (fun f cdv A outer s H E hr ds d h => ?_)
  · obtain ⟨_, _, _, _, _, _, _, _, rfl, _⟩ := h
    rfl
  · obtain ⟨c, k, i, es, e, W, hk, hi, rfl, rfl⟩ := h
    have el := (W.e2 es (W.mem hk)).2
    have il := (List.getElem?_eq_some_iff.mp hi).1
    refine sv_skip (et_is (et_cmp c_isN (nm 1) ev_non) rfl) ?_
    refine sv_asg 3 (d := dCtx es) (ev_ixT (ev_ixT (nm 0) ev_int (by rfl)) (nm 1) (atI_nat (by rw [List.getElem?_map, hk]; rfl))) ?_
    refine sv_lcF 4 [("_law_k", 5)] (it_range1 (n := (((es.map dEnt).length : Nat) : Int)) B.range (by rw [List.length_map]; omega) (ev_lenT (ds := es.map dEnt) B.len (nm 3))) (onlyI i) (by rw [rangeD_len, Int.toNat_natCast, List.length_map]; omega) (fun m d hm => by
      obtain ⟨rfl, hml⟩ := rangeD_at hm
      rw [Int.toNat_natCast, List.length_map] at hml
      rw [Int.zero_add]
      have he : es[m]? = some es[m] := List.getElem?_eq_getElem hml
      refine ⟨_, decide (es[m].c = e.c), fun s H C cl fp => ⟨(bv_nm 5), (et_is (et_cmp c_eqS (ev_ixT (d := .str (sgn es[m].c)) (ev_ixT (d := dEnt es[m]) (nm 3) (nm 5) (atI_nat (by rw [List.getElem?_map, he]; rfl))) ev_int (by rfl)) (nm 2)) (sgn_eq _ _)), fun q => ?_, fun q => ?_⟩⟩
      · have q := of_decide_eq_false q
        refine if_neg fun z => q ?_
        have : m = i := by omega
        subst this
        rw [hi] at he
        cases he
        rfl
      · have : m = i := dist_at (W.nd es (W.mem hk)) he hi (of_decide_eq_true q)
        subst this
        exact ⟨_, if_pos rfl, nm 5⟩) (blkOk_by (N := ["_law_rig", "_law_room", "_law_letter", "_law_entries", "_law_found", "_law_k"]) (sc := defScope s_law_place) (by decide +kernel)) ?_
    have ef : (rangeD 0 ((((es.map dEnt).length : Nat) : Int)).toNat).filterMap (onlyI i) = [dI i] := by
      unfold rangeD
      rw [Int.toNat_natCast, List.length_map, List.filterMap_map]
      have := range_one (fun _ => dI i) i es.length
      rw [if_pos il] at this
      rw [← this]
      congr 1
      funext m
      show (if 0 + (m : Int) = (i : Int) then some (dI i) else none) = _
      rw [Int.zero_add]
      by_cases q : m = i
      · rw [if_pos q, if_pos (by rw [q])]
      · rw [if_neg q, if_neg fun z => q (by omega)]
    rw [ef]
    exact sv_frz 4 (sv_ret (ev_if (k := true) (et_is (et_cmp (c_neD (rm64 hr) rfl (by decide +kernel) rfl rfl) (nm 4) (eo_lst ea_nil).data) rfl) (fun _ => ev_ixL (ds := [dI i]) (nm 4) ev_int (by rfl)) (fun h => nomatch h)) rfl)
def S_law_next : List PD → PD → Prop := fun ds d => ∃ (c : Cod) (x : Spn) (k i : Nat) (es : List Ent) (e : Ent), Wf c ∧ SOk x ∧ x.d + 3 * c.size ≤ 200 ∧ c.ctx[k]? = some es ∧ es[i]? = some e ∧ ds = [dCod c, dI k, dSp x, .str (sgn e.c)] ∧ d = nextD c es x i e
theorem sc_law_next : FnScope ["_law_rig", "_law_room", "_law_cover", "_law_letter", "_law_place_here", "_law_part", "_law_begin", "_law_cells"] ["_law_rig", "_law_room", "_law_cover", "_law_letter"] (defScope s_law_next) := ⟨rfl, rfl, rfl, by decide +kernel, rfl, by decide +kernel, by decide +kernel⟩
theorem f_law_next (F : At K mg "_law_next" s_law_next) (F_law_place : Fn P w K mg base 1 "_law_place" S_law_place) (F_law_parts : Fn P w K mg base 1 "_law_parts" S_law_parts) (F_law_settled : Fn P w K mg base 3 "_law_settled" S_law_settled) : Fn P w K mg base 4 "_law_next" S_law_next := by
  refine fn_at F sc_law_next (fun _ _ _ _ _ _ us hl => match us, hl with | [_, _, _, _], _ => rfl) (fun ds d h => ?_) (fun f cdv A outer s H E hr ds d h => ?_)
  · obtain ⟨_, _, _, _, _, _, _, _, _, _, _, rfl, _⟩ := h
    rfl
  · obtain ⟨c, x, k, i, es, e, W, hx, hd, hk, hi, rfl, rfl⟩ := h
    have t0 := W.tot hk
    have il := (List.getElem?_eq_some_iff.mp hi).1
    refine sv_asg 4 (ev_call F_law_place (hr.mono (by decide)) (ea_cons (nm 0) (ea_cons (nm 1) (ea_cons (nm 3) ea_nil))) ⟨c, k, i, es, e, W, hk, hi, rfl, rfl⟩) ?_
    refine sv_bind (d := .tuple [dI (bgn c.fine es x.w i), dI (cel c.fine es x.w i)]) (ev_ixL (ev_call F_law_parts (hr.mono (by decide)) (ea_cons (nm 0) (ea_cons (ev_ixT (d := dCtx es) (ev_ixT (nm 0) ev_int (by rfl)) (nm 1) (atI_nat (by rw [List.getElem?_map, hk]; rfl))) (ea_cons (ev_ixT (d := dI x.w) (nm 2) ev_int (by rfl)) ea_nil))) ⟨c, k, x.w, es, W, hk, hx.lt.2.1, rfl, rfl⟩) (nm 4) (atI_nat (by unfold prtD; exact rg_at il))) (bd_tup (bds_cons (bd_nm 6) (bds_cons (bd_nm 7) bds_nil))) ?_
    refine sv_if (k := decide (cel c.fine es x.w i = 0)) (et_is (et_cmp c_eqI (nm 7) ev_int) (decide_eq_decide.mpr (by omega))) (fun h => ?_) (fun h => ?_)
    ·
      refine sv_ret (ev_tup (ea_cons ev_non (ea_cons ev_non ea_nil))) ?_
      unfold nextD
      rw [if_pos (of_decide_eq_true h)]
    · have h0 := of_decide_eq_false h
      refine sv_nil ?_
      refine sv_asg 5 (d := dSp (prt c es x i)) (ev_is (ev_tup (ea_cons (ev_add (i := (x.l : Nat)) (ev_ixT (nm 2) ev_int (by rfl)) (nm 6)) (ea_cons (nm 7) (ea_cons (ev_ixT (d := dI x.d) (nm 2) ev_int (by rfl)) ea_nil)))) rfl) ?_
      refine sv_if (k := decide (e.to = none)) (et_is (et_cmp c_isN (ev_ixT (d := dOpt e.to) (ev_ixT (d := dEnt e) (ev_ixT (d := dCtx es) (ev_ixT (nm 0) ev_int (by rfl)) (nm 1) (atI_nat (by rw [List.getElem?_map, hk]; rfl))) (nm 4) (atI_nat (by rw [List.getElem?_map, hi]; rfl))) ev_int (by rfl)) ev_non) (isNone_opt _)) (fun h2 => ?_) (fun h2 => ?_)
      ·
        refine sv_ret (ev_tup (ea_cons (nm 5) (ea_cons ev_non ea_nil))) ?_
        unfold nextD
        rw [if_neg h0, if_pos (of_decide_eq_true h2)]
      ·
        refine sv_nil (sv_ret (ev_call F_law_settled (hr.mono (by decide)) (ea_cons (nm 0) (ea_cons (nm 5) ea_nil)) ⟨c, prt c es x i, hx.prt t0 (Nat.pos_of_ne_zero h0), hd, W.s2, by have := W.s4; omega, rfl, rfl⟩) ?_)
        unfold nextD
        rw [if_neg h0, if_neg (of_decide_eq_false h2)]
def S_law_low : List PD → PD → Prop := fun ds d => ∃ t b : Nat, 0 < b ∧ b < 2 ^ 250 ∧ ds = [dI t, dI b] ∧ d = lowD t b
theorem sc_law_low : FnScope ["_law_many", "_law_whole", "_law_one", "_law_other"] ["_law_many", "_law_whole"] (defScope s_law_low) := ⟨rfl, rfl, rfl, by decide +kernel, rfl, by decide +kernel, by decide +kernel⟩
theorem f_law_low (B : Blt mg) (F : At K mg "_law_low" s_law_low) : Fn P w K mg base 1 "_law_low" S_law_low := by
  refine fn_at F sc_law_low (fun _ _ _ _ _ _ us hl => match us, hl with | [_, _], _ => rfl) (fun ds d h => ?_) (fun f cdv A outer s H E hr ds d h => ?_)
  · obtain ⟨_, _, _, _, rfl, _⟩ := h
    rfl
  · obtain ⟨t, b, h0, hb, rfl, rfl⟩ := h
    refine sv_par 2 3 (nm 0) (nm 1) ?_
    refine sv_while (fun m r => ∃ x : Nat, r = [some (.d (dI t)), some (.d (dI b)), some (.d (dI x)), some (.d (dI m))] ∧ Nat.gcd x m = Nat.gcd t b) b ⟨t, rfl, rfl⟩ (fun m r hw => ?_)
    obtain ⟨x, rfl, hg⟩ := hw
    refine ⟨!decide ((m : Int) = 0), (et_cmp c_neI (nm 3) ev_int), fun h => ?_, fun h => ?_⟩
    · have m0 : 0 < m := by
        rcases Nat.eq_zero_or_pos m with q | q
        · subst q
          cases h
        · exact q
      have lt := Nat.mod_lt x m0
      refine sv_par 2 3 (d2 := dI (x % m)) (nm 3) (ev_is (ev_mod (i := (x : Nat)) (j := (m : Nat)) (by omega) (ev_int1 B.int (nm 2)) (nm 3)) (by rw [← Int.natCast_emod])) (sv_nil ⟨x % m, lt, m, rfl, ?_⟩)
      rw [← hg, Nat.gcd_comm x m, Nat.gcd_rec m x, Nat.gcd_comm]
    · have m0 : m = 0 := by
        rcases Nat.eq_zero_or_pos m with q | q
        · exact q
        · rw [decide_eq_false (by omega)] at h
          cases h
      subst m0
      rw [Nat.gcd_zero_right] at hg
      have x0 : 0 < x := by
        rw [hg]
        exact Nat.gcd_pos_of_pos_right _ h0
      have xl : x < 2 ^ 250 := by
        rw [hg]
        exact Nat.lt_of_le_of_lt (Nat.le_of_dvd h0 (Nat.gcd_dvd_right _ _)) hb
      subst hg
      refine sv_ret (d := lowD t b) (ev_is (ev_tup (ea_cons (ev_div (div_nat 250 x0 xl) (nm 0) (nm 2)) (ea_cons (ev_div (div_nat 250 x0 xl) (nm 1) (nm 2)) ea_nil))) ?_) rfl
      rw [i_div, i_div]
      rfl
def deepD (x : Spn) (D : Nat) : PD := .tuple [dI (x.l * 2 ^ (D - x.d)), dI ((x.l + x.w) * 2 ^ (D - x.d))]
def S_law_deep : List PD → PD → Prop := fun ds d => ∃ (x : Spn) (D : Nat), SOk x ∧ x.d ≤ D ∧ D ≤ 200 ∧ ds = [dSp x, dI D] ∧ d = deepD x D
theorem sc_law_deep : FnScope ["_law_cover", "_law_depth", "_law_power"] ["_law_cover", "_law_depth"] (defScope s_law_deep) := ⟨rfl, rfl, rfl, by decide +kernel, rfl, by decide +kernel, by decide +kernel⟩
theorem f_law_deep (F : At K mg "_law_deep" s_law_deep) (F_law_two : Fn P w K mg base 1 "_law_two" S_law_two) : Fn P w K mg base 2 "_law_deep" S_law_deep := by
  refine fn_at F sc_law_deep (fun _ _ _ _ _ _ us hl => match us, hl with | [_, _], _ => rfl) (fun ds d h => ?_) (fun f cdv A outer s H E hr ds d h => ?_)
  · obtain ⟨_, _, _, _, _, rfl, _⟩ := h
    rfl
  · obtain ⟨x, D, hx, h1, h2, rfl, rfl⟩ := h
    have pb : 2 ^ (D - x.d) < 2 ^ 201 := Nat.pow_lt_pow_right (by decide) (by omega)
    have lw : x.l + x.w < 2 ^ 250 := hx.lt.2.2
    refine sv_asg 2 (d := dI (2 ^ (D - x.d))) (ev_call F_law_two (hr.mono (by decide)) (ea_cons (ev_is (d := dI (D - x.d)) (ev_sub (nm 1) (ev_ixT (d := dI x.d) (nm 0) ev_int (by rfl))) (by
      congr 1
      omega)) ea_nil) ⟨D - x.d, by omega, rfl, rfl⟩) ?_
    refine sv_ret (d := deepD x D) (ev_is (ev_tup (ea_cons (ev_mul (i := (x.l : Nat)) (mul_nat 250 201 hx.lt.1 pb) (ev_ixT (nm 0) ev_int (by rfl)) (nm 2)) (ea_cons (ev_mul (i := ((x.l + x.w : Nat) : Int)) (mul_nat 250 201 lw pb) (ev_is (ev_add (i := (x.l : Nat)) (j := (x.w : Nat)) (ev_ixT (nm 0) ev_int (by rfl)) (ev_ixT (nm 0) ev_int (by rfl))) (by rw [i_add])) (nm 2)) ea_nil))) ?_) rfl
    rw [i_mul, i_mul]
    rfl
def thd : PD → PD
  | .tuple [_, _, n] => n
  | _ => .none
def S_law_sum : List PD → PD → Prop := fun ds d => ∃ xs : List Spn, xs.length ≤ 1000 ∧ (∀ x ∈ xs, SOk x ∧ x.d ≤ 64) ∧ ds = [.list (xs.map dSp)] ∧ d = nfD (vals xs)
theorem sc_law_sum : FnScope ["_law_spans_here", "_law_depth", "_law_cover"] ["_law_spans_here"] (defScope s_law_sum) := ⟨rfl, rfl, rfl, by decide +kernel, rfl, by decide +kernel, by decide +kernel⟩
theorem f_law_sum (B : Blt mg) (F : At K mg "_law_sum" s_law_sum) (F_law_two : Fn P w K mg base 1 "_law_two" S_law_two) (F_law_low : Fn P w K mg base 1 "_law_low" S_law_low) : Fn P w K mg base 2 "_law_sum" S_law_sum := by
  refine fn_at F sc_law_sum (fun _ _ _ _ _ _ us hl => match us, hl with | [_], _ => rfl) (fun ds d h => ?_) (fun f cdv A outer s H E hr ds d h => ?_)
  · obtain ⟨_, _, _, rfl, _⟩ := h
    rfl
  · obtain ⟨xs, few, hx, rfl, rfl⟩ := h
    have memD : maxL ((xs.map fun x => ((x.d : Nat) : Int)) ++ [0]) ∈ ((xs.map fun x => ((x.d : Nat) : Int)) ++ [0]) := (maxL_max (by simp)).1
    obtain ⟨D, hD, hD64⟩ : ∃ D : Nat, maxL ((xs.map fun x => ((x.d : Nat) : Int)) ++ [0]) = (D : Int) ∧ D ≤ 64 := by
      rcases List.mem_append.mp memD with q | q
      · obtain ⟨x, hm, e⟩ := List.mem_map.mp q
        exact ⟨x.d, e.symm, (hx x hm).2⟩
      · exact ⟨0, List.mem_singleton.mp q, by omega⟩
    have hDx : ∀ x ∈ xs, x.d ≤ D := fun x hm => by
      have := maxL_le (ns := (xs.map fun x => ((x.d : Nat) : Int)) ++ [0]) (List.mem_append_left _ (List.mem_map.mpr ⟨x, hm, rfl⟩))
      rw [hD] at this
      omega
    refine sv_asg 1 (d := dI D) (ev_is (ev_maxL (ns := (xs.map fun x => ((x.d : Nat) : Int)) ++ [0]) B.max (by simp) (ev_is (eo_cat (eo_lc [("_law_cover", 2)] (it_list (ds := xs.map dSp) (nm 0)) thd (by rw [List.length_map]; omega) (fun i d hi => by
      rw [List.getElem?_map] at hi
      cases he : xs[i]? with
      | none =>
        rw [he] at hi
        cases hi
      | some e =>
        rw [he] at hi
        cases hi
        exact ⟨_, fun s H C cl fp => ⟨(bv_nm 2), (ev_ixT (nm 2) ev_int (by rfl))⟩⟩) (blkOk_by (N := ["_law_spans_here", "_law_depth", "_law_cover"]) (sc := defScope s_law_sum) (by decide +kernel))) (eo_lst (ea_cons ev_int ea_nil)) (by
        rw [List.length_map, List.length_map]
        show xs.length + 1 ≤ _
        omega)).data (by
        rw [List.map_append, List.map_map, List.map_map]
        rfl))) (by rw [hD])) ?_
    have pD : 2 ^ D < 2 ^ 250 := Nat.pow_lt_pow_right (by decide) (by omega)
    refine sv_ret (d := nfD (vals xs)) (ev_is (ev_call F_law_low (hr.mono (by decide)) (ea_cons (ev_is (d := dI (xs.map fun x => x.w * 2 ^ (D - x.d)).sum) (ev_sum (ns := (xs.map fun x => x.w * 2 ^ (D - x.d)).map fun (n : Nat) => (n : Int)) B.sum (ev_is (eo_lc [("_law_cover", 2)] (it_list (ds := xs.map dSp) (nm 0)) (fun d => match d with
        | .tuple [_, .int w, .int d] => .int (w * ((2 ^ (D - d.toNat) : Nat) : Int))
        | _ => .none) (by rw [List.length_map]; omega) (fun i d hi => by
      rw [List.getElem?_map] at hi
      cases he : xs[i]? with
      | none =>
        rw [he] at hi
        cases hi
      | some x =>
        rw [he] at hi
        cases hi
        obtain ⟨hx1, hx2⟩ := hx x (List.mem_of_getElem? he)
        have hdx := hDx x (List.mem_of_getElem? he)
        refine ⟨_, fun s H C cl fp => ⟨(bv_nm 2), ?_⟩⟩
        refine ev_mul (i := (x.w : Nat)) (j := ((2 ^ (D - x.d) : Nat) : Int)) (mul_nat 250 201 hx1.lt.2.1 (Nat.pow_lt_pow_right (by decide) (by omega))) (ev_ixT (nm 2) ev_int (by rfl)) (ev_call F_law_two (hr.mono (by decide)) (ea_cons (ev_is (d := dI (D - x.d)) (ev_sub (nm 1) (ev_ixT (d := dI x.d) (nm 2) ev_int (by rfl))) (by
          congr 1
          omega)) ea_nil) ⟨D - x.d, by omega, rfl, rfl⟩)) (blkOk_by (N := ["_law_spans_here", "_law_depth", "_law_cover"]) (sc := defScope s_law_sum) (by decide +kernel))).data (by
        rw [List.map_map, List.map_map, List.map_map]
        rfl))) (by rw [sum_nat])) (ea_cons (ev_call F_law_two (hr.mono (by decide)) (ea_cons (nm 1) ea_nil) ⟨D, by omega, rfl, rfl⟩) ea_nil)) ⟨_, 2 ^ D, pow_pos2 D, pD, rfl, rfl⟩) ?_) rfl
    rw [nf_low, ← lowD_scale _ _ (pow_pos2 (64 - D))]
    have e1 : 2 ^ D * 2 ^ (64 - D) = Z64 := by
      rw [← Nat.pow_add, show D + (64 - D) = 64 by omega]
    have e2 : (xs.map fun x => x.w * 2 ^ (D - x.d)).sum * 2 ^ (64 - D) = vals xs := by
      unfold vals val
      clear memD hD few
      induction xs with
      | nil => simp
      | cons x r ih =>
        rw [List.map_cons, List.map_cons, List.sum_cons, List.sum_cons, Nat.add_mul, ih (fun y hy => hx y (List.mem_cons_of_mem _ hy)) (fun y hy => hDx y (List.mem_cons_of_mem _ hy)), Nat.mul_assoc, ← Nat.pow_add]
        have := hDx x List.mem_cons_self
        rw [show D - x.d + (64 - D) = 64 - x.d by omega]
    rw [e1, e2]
end
end G
set_option Elab.async false
set_option linter.all false
set_option maxRecDepth 100000
set_option maxHeartbeats 4000000
/-! The words: texts with their spans, by breadth. -/
namespace G
open PySem PySem.Spec PyProof.Rows L2 Hd Bm
structure Nd where
  cs : List Nat
  x : Spn
  k : Option Nat
def ndD (v : Nd) : PD := .tuple [.str (wS v.cs), dSp v.x, dOpt v.k]
abbrev Gn := List Nat × Spn
def goD (g : Gn) : PD := .tuple [.str (wS g.1), dSp g.2]
def root1 (c : Cod) : Nd := ⟨[], root c, some 0⟩
/-- what the j-th letter of the context k gives -/
def kidE (c : Cod) (v : Nd) (k j : Nat) : Option Nd := (ents c k)[j]?.bind fun e => if cel c.fine (ents c k) v.x.w j = 0 then none else some ⟨v.cs ++ [e.c], nxt c (ents c k) v.x j e, e.to⟩
def gonE (c : Cod) (v : Nd) (k j : Nat) : Option Gn := (ents c k)[j]?.bind fun e => if cel c.fine (ents c k) v.x.w j = 0 ∨ e.to = none then none else (Bm.settle c.man c.size (prt c (ents c k) v.x j)).2.2.map fun y => (v.cs ++ [e.c], y)
def kids (c : Cod) (most : Nat) (v : Nd) : List Nd := match v.k with
  | none => []
  | some k => if v.cs.length < most then (List.range (ents c k).length).filterMap (kidE c v k) else []
def gons (c : Cod) (most : Nat) (v : Nd) : List Gn := match v.k with
  | none => []
  | some k => if v.cs.length < most then (List.range (ents c k).length).filterMap (gonE c v k) else []
def bfs (c : Cod) (most : Nat) : Nat → List Nd × List Gn
  | 0 => ([root1 c], [])
  | k + 1 => match (bfs c most k).1[k]? with
    | none => bfs c most k
    | some v => ((bfs c most k).1 ++ kids c most v, (bfs c most k).2 ++ gons c most v)
theorem bfs_fix (c : Cod) (most : Nat) : ∀ k, (bfs c most k).1 = root1 c :: ((bfs c most k).1.take k).flatMap (kids c most) ∧ (bfs c most k).2 = ((bfs c most k).1.take k).flatMap (gons c most)
  | 0 => ⟨rfl, rfl⟩
  | k + 1 => by
    obtain ⟨h1, h2⟩ := bfs_fix c most k
    unfold bfs
    cases hv : (bfs c most k).1[k]? with
    | none =>
      have hl : (bfs c most k).1.length ≤ k := List.getElem?_eq_none_iff.mp hv
      rw [List.take_of_length_le hl] at h1 h2
      show (bfs c most k).1 = _ ∧ (bfs c most k).2 = _
      rw [List.take_of_length_le (Nat.le_succ_of_le hl)]
      exact ⟨h1, h2⟩
    | some v =>
      have hl : k < (bfs c most k).1.length := (List.getElem?_eq_some_iff.mp hv).1
      show (bfs c most k).1 ++ kids c most v = root1 c :: (((bfs c most k).1 ++ kids c most v).take (k + 1)).flatMap (kids c most) ∧ (bfs c most k).2 ++ gons c most v = (((bfs c most k).1 ++ kids c most v).take (k + 1)).flatMap (gons c most)
      rw [List.take_append_of_le_length hl, List.take_add_one, hv]
      rw [List.flatMap_append, List.flatMap_append]
      refine ⟨?_, ?_⟩
      · conv => lhs; rw [h1]
        simp
      · conv => lhs; rw [h2]
        simp
/-- what holds of every word that is reached -/
structure NdOk (c : Cod) (most : Nat) (v : Nd) : Prop where
  ok : SOk v.x
  d : v.x.d ≤ c.size + 3 * c.size * v.cs.length
  l : v.cs.length ≤ most
  k : ∀ j, v.k = some j → j < c.ctx.length
theorem kid_ok {c : Cod} (W : Wf c) {most : Nat} (hm : most ≤ 4) {v v' : Nd} (h : NdOk c most v) {k j : Nat} (hk : v.k = some k) (hl : v.cs.length < most) (he : kidE c v k j = some v') : NdOk c most v' := by
  unfold kidE at he
  cases hen : (ents c k)[j]? with
  | none =>
    rw [hen] at he
    cases he
  | some e =>
    rw [hen] at he
    have he : (if cel c.fine (ents c k) v.x.w j = 0 then none else some (⟨v.cs ++ [e.c], nxt c (ents c k) v.x j e, e.to⟩ : Nd)) = some v' := he
    split at he
    · cases he
    · rename_i hc
      cases he
      have hkl := h.k k hk
      have s4 := W.s4
      have bd : 3 * c.size * v.cs.length ≤ 12 * 4 := Nat.mul_le_mul (by omega) (by omega)
      have hd := h.d
      obtain ⟨q1, q2⟩ := nxt_ok (i := j) (e := e) W h.ok (show v.x.d + 3 * c.size ≤ 200 by omega) (W.tot (ents_get hkl)) (Nat.pos_of_ne_zero hc)
      refine ⟨q1, ?_, ?_, fun i hi => (W.ok _ (W.mem (ents_get hkl)) e (List.mem_of_getElem? hen)).2.2.2 i hi⟩
      · show (nxt c (ents c k) v.x j e).d ≤ c.size + 3 * c.size * (v.cs ++ [e.c]).length
        rw [List.length_append, List.length_singleton, Nat.mul_add]
        omega
      · rw [List.length_append, List.length_singleton]
        omega
theorem kids_mem {c : Cod} {most : Nat} {v v' : Nd} (h : v' ∈ kids c most v) : ∃ k j, v.k = some k ∧ v.cs.length < most ∧ j < (ents c k).length ∧ kidE c v k j = some v' := by
  unfold kids at h
  cases hk : v.k with
  | none =>
    rw [hk] at h
    cases h
  | some k =>
    rw [hk] at h
    have h : v' ∈ (if v.cs.length < most then (List.range (ents c k).length).filterMap (kidE c v k) else []) := h
    split at h
    · rename_i hl
      obtain ⟨j, hj, e⟩ := List.mem_filterMap.mp h
      exact ⟨k, j, rfl, hl, List.mem_range.mp hj, e⟩
    · cases h
theorem kid_len {c : Cod} {v v' : Nd} {k j : Nat} (he : kidE c v k j = some v') : v'.cs.length = v.cs.length + 1 := by
  unfold kidE at he
  cases hen : (ents c k)[j]? with
  | none =>
    rw [hen] at he
    cases he
  | some e =>
    rw [hen] at he
    have he : (if cel c.fine (ents c k) v.x.w j = 0 then none else some (⟨v.cs ++ [e.c], nxt c (ents c k) v.x j e, e.to⟩ : Nd)) = some v' := he
    split at he
    · cases he
    · cases he
      rw [List.length_append, List.length_singleton]
theorem bfs_ok {c : Cod} (W : Wf c) {most : Nat} (hm : most ≤ 4) : ∀ k, ∀ v ∈ (bfs c most k).1, NdOk c most v
  | 0, v, hv => by
    rw [List.mem_singleton.mp hv]
    exact ⟨root_ok W, by show c.size ≤ _; omega, Nat.zero_le _, fun j hj => by cases hj; exact W.c1⟩
  | k + 1, v, hv => by
    unfold bfs at hv
    cases hu : (bfs c most k).1[k]? with
    | none =>
      rw [hu] at hv
      exact bfs_ok W hm k v hv
    | some u =>
      rw [hu] at hv
      rcases List.mem_append.mp hv with q | q
      · exact bfs_ok W hm k v q
      · obtain ⟨k', j, h1, h2, h3, h4⟩ := kids_mem q
        exact kid_ok W hm (bfs_ok W hm k u (List.mem_of_getElem? hu)) h1 h2 h4
/-! ### how many -/
theorem len_by (f : Nd → Nat) : ∀ (F : List Nd) (m : Nat), (∀ v ∈ F, f v ≤ m) → F.length = ((List.range (m + 1)).map fun n => (F.filter fun v => f v = n).length).sum
  | [], m, _ => by
    have : ((List.range (m + 1)).map fun n => (([] : List Nd).filter fun v => f v = n).length) = (List.range (m + 1)).map fun _ => 0 := rfl
    rw [this]
    have z : ∀ l : List Nat, (l.map fun _ => 0).sum = 0 := fun l => by
      induction l with
      | nil => rfl
      | cons a l ih => rw [List.map_cons, List.sum_cons, ih]
    rw [z]
    rfl
  | v :: F, m, h => by
    have hv := h v List.mem_cons_self
    have ih := len_by f F m fun u hu => h u (List.mem_cons_of_mem _ hu)
    have e : ∀ n, ((v :: F).filter fun v => f v = n).length = (if f v = n then 1 else 0) + (F.filter fun v => f v = n).length := fun n => by
      rw [List.filter_cons]
      by_cases q : f v = n
      · rw [if_pos (decide_eq_true q), if_pos q, List.length_cons]
        omega
      · rw [if_neg (by rw [decide_eq_false q]; decide), if_neg q, Nat.zero_add]
    have s : ∀ l : List Nat, (l.map fun n => ((v :: F).filter fun v => f v = n).length).sum = (l.map fun n => if f v = n then 1 else 0).sum + (l.map fun n => (F.filter fun v => f v = n).length).sum := fun l => by
      induction l with
      | nil => rfl
      | cons a l ih =>
        rw [List.map_cons, List.map_cons, List.map_cons, List.sum_cons, List.sum_cons, List.sum_cons, ih, e a]
        omega
    have one : ∀ m, f v ≤ m → ((List.range (m + 1)).map fun n => if f v = n then 1 else 0).sum = 1 := by
      intro m hm
      induction m with
      | zero =>
        have : f v = 0 := by omega
        rw [List.range_one, List.map_singleton, if_pos this]
        rfl
      | succ m ih =>
        rw [List.range_succ, List.map_append, List.sum_append, List.map_singleton]
        by_cases q : f v = m + 1
        · rw [if_pos q]
          have z : ∀ k, k ≤ m + 1 → ((List.range k).map fun n => if f v = n then 1 else 0).sum = 0 := by
            intro k hk
            induction k with
            | zero => rfl
            | succ k ih2 =>
              rw [List.range_succ, List.map_append, List.sum_append, List.map_singleton, ih2 (by omega), if_neg (by omega)]
              rfl
          rw [z (m + 1) (Nat.le_refl _)]
          rfl
        · rw [if_neg q, ih (by omega)]
          rfl
    rw [List.length_cons, ih, s, one m hv]
    omega
theorem kids_len (c : Cod) (most : Nat) (v : Nd) (e : Nat) (h : ∀ k, v.k = some k → (ents c k).length ≤ e) : (kids c most v).length ≤ e := by
  unfold kids
  cases hk : v.k with
  | none => exact Nat.zero_le _
  | some k =>
    show (if v.cs.length < most then (List.range (ents c k).length).filterMap (kidE c v k) else []).length ≤ e
    split
    · refine Nat.le_trans (List.length_filterMap_le _ _) ?_
      rw [List.length_range]
      exact h k hk
    · exact Nat.zero_le _
/-- the words of n letters -/
def lvl (F : List Nd) (n : Nat) : List Nd := F.filter fun v => v.cs.length = n
theorem lvl_kids (c : Cod) (most : Nat) (F : List Nd) (n : Nat) : (F.flatMap (kids c most)).filter (fun v => v.cs.length = n + 1) = (lvl F n).flatMap (kids c most) := by
  unfold lvl
  induction F with
  | nil => rfl
  | cons v F ih =>
    rw [List.flatMap_cons, List.filter_append, ih, List.filter_cons]
    by_cases q : v.cs.length = n
    · rw [if_pos (decide_eq_true q), List.flatMap_cons]
      congr 1
      refine List.filter_eq_self.mpr fun u hu => ?_
      obtain ⟨k, j, h1, h2, h3, h4⟩ := kids_mem hu
      exact decide_eq_true (by rw [kid_len h4, q])
    · rw [if_neg (by rw [decide_eq_false q]; decide)]
      have : (kids c most v).filter (fun v => v.cs.length = n + 1) = [] := by
        refine List.filter_eq_nil_iff.mpr fun u hu => ?_
        obtain ⟨k, j, h1, h2, h3, h4⟩ := kids_mem hu
        have := kid_len h4
        intro z
        have := of_decide_eq_true z
        omega
      rw [this, List.nil_append]
theorem kids_pos (c : Cod) (most : Nat) (F : List Nd) : (F.flatMap (kids c most)).filter (fun v => v.cs.length = 0) = [] := by
  refine List.filter_eq_nil_iff.mpr fun u hu => ?_
  obtain ⟨v, hv, hu⟩ := List.mem_flatMap.mp hu
  obtain ⟨k, j, h1, h2, h3, h4⟩ := kids_mem hu
  have := kid_len h4
  intro z
  have := of_decide_eq_true z
  omega
/-- how far the words go, by how many letters a context may have -/
def Cap (c : Cod) (most : Nat) : Prop := ∃ e, (∀ es ∈ c.ctx, es.length ≤ e) ∧ ((e = 2 ∧ most = 4) ∨ (e = 3 ∧ most = 3) ∨ (e = 4 ∧ most = 2))
theorem Cap.le {c : Cod} {most : Nat} (h : Cap c most) : 2 ≤ most ∧ most ≤ 4 := by
  obtain ⟨e, _, h⟩ := h
  omega
theorem lvl_few {c : Cod} (W : Wf c) {most : Nat} (C : Cap c most) (k : Nat) {e : Nat} (he : ∀ es ∈ c.ctx, es.length ≤ e) : ∀ n, (lvl (bfs c most k).1 n).length ≤ e ^ n
  | 0 => by
    obtain ⟨h1, _⟩ := bfs_fix c most k
    unfold lvl
    rw [h1, List.filter_cons, kids_pos]
    split
    · exact Nat.le_refl _
    · exact Nat.zero_le _
  | n + 1 => by
    obtain ⟨h1, _⟩ := bfs_fix c most k
    have ih := lvl_few W C k he n
    have e0 : lvl (bfs c most k).1 (n + 1) = (lvl ((bfs c most k).1.take k) n).flatMap (kids c most) := by
      conv => lhs; unfold lvl; rw [h1]
      rw [List.filter_cons, if_neg (by simp [root1]), lvl_kids]
    rw [e0]
    have h2 : (lvl ((bfs c most k).1.take k) n).length ≤ (lvl (bfs c most k).1 n).length := by
      unfold lvl
      exact (List.Sublist.filter _ (List.take_sublist _ _)).length_le
    refine Nat.le_trans (flat_len _ e _ fun v hv => ?_) ?_
    · refine kids_len c most v e fun j hj => ?_
      have hm : v ∈ (bfs c most k).1 := List.mem_of_mem_take (List.mem_filter.mp hv).1
      exact he _ (W.mem (ents_get ((bfs_ok W C.le.2 k v hm).k j hj)))
    · rw [Nat.pow_succ, Nat.mul_comm (e ^ n)]
      exact Nat.mul_le_mul_left _ (Nat.le_trans h2 ih)
theorem bfs_few {c : Cod} (W : Wf c) {most : Nat} (C : Cap c most) (k : Nat) : (bfs c most k).1.length ≤ 40 := by
  obtain ⟨e, he, hc⟩ := id C
  have h1 := len_by (fun v => v.cs.length) (bfs c most k).1 most fun v hv => (bfs_ok W C.le.2 k v hv).l
  have h2 : ∀ l : List Nat, (l.map fun n => (lvl (bfs c most k).1 n).length).sum ≤ (l.map fun n => e ^ n).sum := fun l => by
    induction l with
    | nil => exact Nat.le_refl _
    | cons a l ih =>
      rw [List.map_cons, List.map_cons, List.sum_cons, List.sum_cons]
      have := lvl_few W C k he a
      omega
  have h3 := h2 (List.range (most + 1))
  have h1 : (bfs c most k).1.length = ((List.range (most + 1)).map fun n => (lvl (bfs c most k).1 n).length).sum := h1
  rw [h1]
  refine Nat.le_trans h3 ?_
  rcases hc with ⟨rfl, rfl⟩ | ⟨rfl, rfl⟩ | ⟨rfl, rfl⟩
  · decide
  · decide
  · decide
/-- all words -/
def words (c : Cod) (most : Nat) : List Nd := (bfs c most 80).1
def losts (c : Cod) (most : Nat) : List Gn := (bfs c most 80).2
theorem words_fix {c : Cod} (W : Wf c) {most : Nat} (C : Cap c most) : words c most = root1 c :: (words c most).flatMap (kids c most) ∧ losts c most = (words c most).flatMap (gons c most) := by
  have h := bfs_fix c most 80
  have few := bfs_few W C 80
  rw [List.take_of_length_le (by omega)] at h
  exact h
theorem wS_app (cs : List Nat) (ch : Nat) : wS cs ++ sgn ch = wS (cs ++ [ch]) := by
  show Str.mk _ = Str.mk _
  congr 1
  simp
theorem wS_len (cs : List Nat) : (wS cs).length = cs.length := by
  show cs.toArray.size = _
  simp
theorem wS_inj {a b : List Nat} (h : wS a = wS b) : a = b := by
  have := congrArg (fun s : Str => s.cps.toList) h
  simpa using this
theorem nextD_eq {c : Cod} {v : Nd} {k j : Nat} {e : Ent} (h : (ents c k)[j]? = some e) : nextD c (ents c k) v.x j e = .tuple [dSpO ((kidE c v k j).map Nd.x), dSpO ((gonE c v k j).map (·.2))] := by
  unfold nextD kidE gonE nxt
  rw [h]
  show _ = PyData.tuple [dSpO (Option.map Nd.x (if cel c.fine (ents c k) v.x.w j = 0 then none else some _)), dSpO (Option.map (fun g : Gn => g.2) (if cel c.fine (ents c k) v.x.w j = 0 ∨ e.to = none then none else _))]
  by_cases h0 : cel c.fine (ents c k) v.x.w j = 0
  · rw [if_pos h0, if_pos h0, if_pos (.inl h0)]
    rfl
  · have h2 : (cel c.fine (ents c k) v.x.w j = 0 ∨ e.to = none) ↔ e.to = none := ⟨fun q => q.elim (fun z => absurd z h0) id, .inr⟩
    rw [if_neg h0, if_neg h0]
    by_cases h1 : e.to = none
    · rw [if_pos h1, if_pos h1, if_pos (h2.mpr h1)]
      rfl
    · rw [if_neg h1, if_neg h1, if_neg (fun q => h1 (h2.mp q))]
      cases (Bm.settle c.man c.size (prt c (ents c k) v.x j)).2.2 <;> rfl
theorem kidE_is {c : Cod} {v v' : Nd} {k j : Nat} {e : Ent} (h : (ents c k)[j]? = some e) (hk : kidE c v k j = some v') : v'.cs = v.cs ++ [e.c] ∧ v'.k = e.to ∧ cel c.fine (ents c k) v.x.w j ≠ 0 ∧ v'.x = nxt c (ents c k) v.x j e := by
  unfold kidE at hk
  rw [h] at hk
  have hk : (if cel c.fine (ents c k) v.x.w j = 0 then none else some (⟨v.cs ++ [e.c], nxt c (ents c k) v.x j e, e.to⟩ : Nd)) = some v' := hk
  split at hk
  · cases hk
  · rename_i h0
    cases hk
    exact ⟨rfl, rfl, h0, rfl⟩
theorem gonE_is {c : Cod} {v : Nd} {k j : Nat} {e : Ent} {g : Gn} (h : (ents c k)[j]? = some e) (hk : gonE c v k j = some g) : g.1 = v.cs ++ [e.c] ∧ cel c.fine (ents c k) v.x.w j ≠ 0 ∧ e.to ≠ none ∧ (Bm.settle c.man c.size (prt c (ents c k) v.x j)).2.2 = some g.2 := by
  unfold gonE at hk
  rw [h] at hk
  have hk : (if cel c.fine (ents c k) v.x.w j = 0 ∨ e.to = none then none else (Bm.settle c.man c.size (prt c (ents c k) v.x j)).2.2.map fun y => (v.cs ++ [e.c], y)) = some g := hk
  split at hk
  · cases hk
  · rename_i h0
    cases hs : (Bm.settle c.man c.size (prt c (ents c k) v.x j)).2.2 with
    | none =>
      rw [hs] at hk
      cases hk
    | some y =>
      rw [hs] at hk
      cases hk
      exact ⟨rfl, fun z => h0 (.inl z), fun z => h0 (.inr z), rfl⟩
end G
set_option Elab.async false
set_option linter.all false
set_option maxRecDepth 100000
set_option maxHeartbeats 4000000
namespace G
open PySem PySem.Spec PyProof.Rows L2 Hd Bm
theorem isNone_sp (o : Option Spn) : isNone (dSpO o) = o.isNone := by
  cases o <;> rfl
theorem fm_succ {β : Type} (f : Nat → Option β) (n : Nat) : (List.range (n + 1)).filterMap f = (List.range n).filterMap f ++ (f n).toList := by
  rw [List.range_succ, List.filterMap_append]
  have : List.filterMap f [n] = (f n).toList := by
    rw [List.filterMap_cons]
    cases f n <;> rfl
  rw [this]
section
variable {P : Program} {w : World} {K : PySem.W.Frag} {mg : Str → Option Value} {base : Heap}
def S_law_all : List PD → PD → Prop := fun ds d => ∃ (c : Cod) (most : Nat), Wf c ∧ Cap c most ∧ ds = [dCod c, dI most] ∧ d = .tuple [.list ((words c most).map ndD), .list ((losts c most).map goD)]
theorem sc_law_all : FnScope ["_law_rig", "_law_most", "_law_k", "_law_found", "_law_lost", "_law_term", "_law_cover", "_law_room", "_law_entry", "_law_late", "_law_gone"] ["_law_rig", "_law_most"] (defScope s_law_all) := ⟨rfl, rfl, rfl, by decide +kernel, rfl, by decide +kernel, by decide +kernel⟩
theorem f_law_all (B : Blt mg) (F : At K mg "_law_all" s_law_all) (F_law_two : Fn P w K mg base 1 "_law_two" S_law_two) (F_law_next : Fn P w K mg base 4 "_law_next" S_law_next) : Fn P w K mg base 5 "_law_all" S_law_all := by
  refine fn_at F sc_law_all (fun _ _ _ _ _ _ us hl => match us, hl with | [_, _], _ => rfl) (fun ds d h => ?_) (fun f cdv A outer s H E hr ds d h => ?_)
  · obtain ⟨_, _, _, _, rfl, _⟩ := h
    rfl
  · obtain ⟨c, most, W, C, rfl, rfl⟩ := h
    have s4 := W.s4
    have m4 := C.le.2
    refine sv_parX 3 4 (eo_lst (ea_cons (ev_is (d := ndD (root1 c)) (ev_tup (ea_cons ev_str (ea_cons (ev_tup (ea_cons ev_int (ea_cons (ev_call F_law_two (hr.mono (by decide)) (ea_cons (ev_ixT (d := dI c.size) (nm 0) ev_int (by rfl)) ea_nil) ⟨c.size, by omega, rfl, rfl⟩) (ea_cons (ev_ixT (d := dI c.size) (nm 0) ev_int (by rfl)) ea_nil)))) (ea_cons ev_int ea_nil)))) rfl) ea_nil)).x (eo_lst ea_nil).x (fun c1 c2 h1 h2 => ?_)
    subst h1 h2
    refine sv_for (it_range1 (n := 80) B.range (by omega) ev_int) (fun k r => ∃ a2 a5 a6 a7 a8 a9 a10, r = [some (.d (dCod c)), some (.d (dI most)), a2, some (.o (.l ((bfs c most k).1.map ndD))), some (.o (.l ((bfs c most k).2.map goD))), a5, a6, a7, a8, a9, a10]) ⟨none, none, none, none, none, none, none, rfl⟩ (fun k d r hi hp => ?_) (fun r hp => ?_)
    · obtain ⟨a2, a5, a6, a7, a8, a9, a10, rfl⟩ := hp
      obtain ⟨rfl, hk80⟩ := rangeD_at hi
      rw [Int.zero_add]
      have few := bfs_few W C k
      have few2 : (bfs c most k).2.length ≤ 4 * 40 := by
        rw [(bfs_fix c most k).2]
        refine Nat.le_trans (flat_len _ 4 _ fun v hv => ?_) (Nat.mul_le_mul_left _ ?_)
        · unfold gons
          cases hv' : v.k with
          | none => exact Nat.zero_le _
          | some q =>
            show (if v.cs.length < most then (List.range (ents c q).length).filterMap (gonE c v q) else []).length ≤ 4
            split
            · refine Nat.le_trans (List.length_filterMap_le _ _) ?_
              rw [List.length_range]
              exact (W.e2 _ (W.mem (ents_get ((bfs_ok W m4 k v (List.mem_of_mem_take hv)).k q hv')))).2
            · exact Nat.zero_le _
        · rw [List.length_take]
          omega
      refine ⟨_, (bd_nm 2), ?_⟩
      refine sv_if (k := decide (k < (bfs c most k).1.length)) (et_is (et_cmp c_lt (nm 2) (ev_lenO 3 (xs := (bfs c most k).1.map ndD) B.len)) (by
        rw [List.length_map]
        exact decide_eq_decide.mpr Int.ofNat_lt)) (fun h => ?_) (fun h => ?_)
      · have hl := of_decide_eq_true h
        have hv : (bfs c most k).1[k]? = some (bfs c most k).1[k] := List.getElem?_eq_getElem hl
        generalize hvv : (bfs c most k).1[k] = v at hv
        have nok := bfs_ok W m4 k v (List.mem_of_getElem? hv)
        have hnext : bfs c most (k + 1) = ((bfs c most k).1 ++ kids c most v, (bfs c most k).2 ++ gons c most v) := by
          conv => lhs; unfold bfs
          rw [hv]
        refine sv_bind (d := ndD v) (ev_ixO 3 (ds := (bfs c most k).1.map ndD) (nm 2) (atI_nat (by rw [List.getElem?_map, hv]; rfl))) (bd_tup (bds_cons (bd_nm 5) (bds_cons (bd_nm 6) (bds_cons (bd_nm 7) bds_nil)))) ?_
        refine sv_if (k := !decide (v.k = none) && decide (v.cs.length < most)) (et_is (et_w (ew_and (k2 := decide (v.cs.length < most)) (et_cmp c_notN (nm 7) ev_non) fun h => (ew_and1 (et_is (et_cmp c_lt (ev_lenS (z := wS v.cs) B.len (by rw [wS_len]; have := nok.l; exact Nat.le_trans (show v.cs.length ≤ 4 by omega) (by decide)) (nm 5)) (nm 1)) (by
          rw [wS_len]
          exact decide_eq_decide.mpr Int.ofNat_lt))))) (by rw [isNone_opt])) (fun h2 => ?_) (fun h2 => ?_)
        · obtain ⟨h3, h4⟩ := Bool.and_eq_true_iff.mp h2
          have h4 := of_decide_eq_true h4
          cases hk : v.k with
          | none =>
            rw [hk] at h3
            cases h3
          | some q =>
            have hq := nok.k q hk
            have el := (W.e2 _ (W.mem (ents_get hq))).2
            have ek : kids c most v = (List.range (ents c q).length).filterMap (kidE c v q) := by
              unfold kids
              rw [hk]
              show (if v.cs.length < most then _ else _) = _
              rw [if_pos h4]
            have eg : gons c most v = (List.range (ents c q).length).filterMap (gonE c v q) := by
              unfold gons
              rw [hk]
              show (if v.cs.length < most then _ else _) = _
              rw [if_pos h4]
            have bd : 3 * c.size * v.cs.length ≤ 12 * 4 := Nat.mul_le_mul (by omega) (by omega)
            have nd := nok.d
            refine sv_for (it_tup (ds := (ents c q).map dEnt) (ev_ixT (ev_ixT (nm 0) ev_int (by rfl)) (nm 7) (atI_nat (by rw [List.getElem?_map, ents_get hq]; rfl)))) (fun j r => ∃ b8 b9 b10, r = [some (.d (dCod c)), some (.d (dI most)), some (.d (.int (k : Int))), some (.o (.l (((bfs c most k).1 ++ (List.range j).filterMap (kidE c v q)).map ndD))), some (.o (.l (((bfs c most k).2 ++ (List.range j).filterMap (gonE c v q)).map goD))), some (.d (.str (wS v.cs))), some (.d (dSp v.x)), some (.d (dI q)), b8, b9, b10]) ⟨a8, a9, a10, by rw [List.range_zero, List.filterMap_nil, List.filterMap_nil, List.append_nil, List.append_nil]; rfl⟩ (fun j d r hj hp => ?_) (fun r hp => ?_)
            · obtain ⟨b8, b9, b10, rfl⟩ := hp
              rw [List.getElem?_map] at hj
              cases he : (ents c q)[j]? with
              | none =>
                rw [he] at hj
                cases hj
              | some e =>
                rw [he] at hj
                cases hj
                have jl := (List.getElem?_eq_some_iff.mp he).1
                have l1 : (((bfs c most k).1 ++ (List.range j).filterMap (kidE c v q)).map ndD).length < 100000 := by
                  rw [List.length_map, List.length_append]
                  have := List.length_filterMap_le (kidE c v q) (List.range j)
                  rw [List.length_range] at this
                  omega
                have l2 : (((bfs c most k).2 ++ (List.range j).filterMap (gonE c v q)).map goD).length < 100000 := by
                  rw [List.length_map, List.length_append]
                  have := List.length_filterMap_le (gonE c v q) (List.range j)
                  rw [List.length_range] at this
                  omega
                have sz : (wS v.cs).length + (sgn e.c).length ≤ sizeLine := by
                  rw [wS_len]
                  have := nok.l
                  exact Nat.le_trans (show v.cs.length + 1 ≤ 5 by omega) (by decide)
                refine ⟨_, bd_nm 8, ?_⟩
                refine sv_bind (d := .tuple [dSpO ((kidE c v q j).map Nd.x), dSpO ((gonE c v q j).map (·.2))]) (ev_is (ev_call F_law_next (hr.mono (by decide)) (ea_cons (nm 0) (ea_cons (nm 7) (ea_cons (nm 6) (ea_cons (ev_ixT (d := .str (sgn e.c)) (nm 8) ev_int (by rfl)) ea_nil)))) ⟨c, v.x, q, j, ents c q, e, W, nok.ok, by omega, ents_get hq, he, rfl, rfl⟩) (nextD_eq he)) (bd_tup (bds_cons (bd_nm 9) (bds_cons (bd_nm 10) bds_nil))) ?_
                have fin : ∀ (o : Option Nd), kidE c v q j = o → (bfs c most k).1 ++ (List.range (j + 1)).filterMap (kidE c v q) = ((bfs c most k).1 ++ (List.range j).filterMap (kidE c v q)) ++ o.toList := fun o ho => by
                  rw [fm_succ, ho, List.append_assoc]
                have fin2 : ∀ (o : Option Gn), gonE c v q j = o → (bfs c most k).2 ++ (List.range (j + 1)).filterMap (gonE c v q) = ((bfs c most k).2 ++ (List.range j).filterMap (gonE c v q)) ++ o.toList := fun o ho => by
                  rw [fm_succ, ho, List.append_assoc]
                cases hkk : kidE c v q j with
                | none =>
                  have f1 := fin none hkk
                  refine sv_skip (et_is (et_cmp c_notN (nm 9) ev_non) rfl) ?_
                  cases hgg : gonE c v q j with
                  | none =>
                    have f2 := fin2 none hgg
                    refine sv_skip (et_is (et_cmp c_notN (nm 10) ev_non) rfl) (sv_nil ⟨_, _, _, by
                      rw [f1, f2, Option.toList_none, Option.toList_none, List.append_nil, List.append_nil]
                      rfl⟩)
                  | some g =>
                    have f2 := fin2 _ hgg
                    obtain ⟨g1, _⟩ := gonE_is he hgg
                    refine sv_ifT (et_is (et_cmp c_notN (nm 10) ev_non) rfl) ?_
                    refine sv_app 4 (xs := ((bfs c most k).2 ++ (List.range j).filterMap (gonE c v q)).map goD) (d := goD g) (ev_is (ev_tup (ea_cons (ev_adds sz (nm 5) (ev_ixT (d := .str (sgn e.c)) (nm 8) ev_int (by rfl))) (ea_cons (nm 10) ea_nil))) (by
                      unfold goD
                      rw [wS_app, g1]
                      rfl)) l2 (sv_nil (sv_nil ⟨_, _, _, by
                      rw [f1, f2, Option.toList_none, List.append_nil, Option.toList_some, List.map_append (l₁ := (bfs c most k).2 ++ _)]
                      rfl⟩))
                | some v' =>
                  have f1 := fin _ hkk
                  obtain ⟨k1, k2, _⟩ := kidE_is he hkk
                  refine sv_ifT (et_is (et_cmp c_notN (nm 9) ev_non) rfl) ?_
                  refine sv_app 3 (xs := ((bfs c most k).1 ++ (List.range j).filterMap (kidE c v q)).map ndD) (d := ndD v') (ev_is (ev_tup (ea_cons (ev_adds sz (nm 5) (ev_ixT (d := .str (sgn e.c)) (nm 8) ev_int (by rfl))) (ea_cons (nm 9) (ea_cons (ev_ixT (d := dOpt e.to) (nm 8) ev_int (by rfl)) ea_nil)))) (by
                    unfold ndD
                    rw [wS_app, k1, k2]
                    rfl)) l1 (sv_nil ?_)
                  cases hgg : gonE c v q j with
                  | none =>
                    have f2 := fin2 none hgg
                    refine sv_skip (et_is (et_cmp c_notN (nm 10) ev_non) rfl) (sv_nil ⟨_, _, _, by
                      rw [f1, f2, Option.toList_none, List.append_nil, Option.toList_some, List.map_append (l₁ := (bfs c most k).1 ++ _)]
                      rfl⟩)
                  | some g =>
                    have f2 := fin2 _ hgg
                    obtain ⟨g1, _⟩ := gonE_is he hgg
                    refine sv_ifT (et_is (et_cmp c_notN (nm 10) ev_non) rfl) ?_
                    refine sv_app 4 (xs := ((bfs c most k).2 ++ (List.range j).filterMap (gonE c v q)).map goD) (d := goD g) (ev_is (ev_tup (ea_cons (ev_adds sz (nm 5) (ev_ixT (d := .str (sgn e.c)) (nm 8) ev_int (by rfl))) (ea_cons (nm 10) ea_nil))) (by
                      unfold goD
                      rw [wS_app, g1]
                      rfl)) l2 (sv_nil (sv_nil ⟨_, _, _, by
                      rw [f1, f2, Option.toList_some, Option.toList_some, List.map_append (l₁ := (bfs c most k).1 ++ _), List.map_append (l₁ := (bfs c most k).2 ++ _)]
                      rfl⟩))
            · obtain ⟨b8, b9, b10, rfl⟩ := hp
              rw [List.length_map, ← ek, ← eg]
              exact sv_nil (sv_nil (sv_nil ⟨_, _, _, _, b8, b9, b10, by rw [hnext]⟩))
        ·
          have e0 : kids c most v = [] ∧ gons c most v = [] := by
            unfold kids gons
            cases hk : v.k with
            | none => exact ⟨rfl, rfl⟩
            | some q =>
              rw [hk] at h2
              have h2 : decide (v.cs.length < most) = false := h2
              have := of_decide_eq_false h2
              show (if v.cs.length < most then _ else _) = _ ∧ (if v.cs.length < most then _ else _) = _
              rw [if_neg this, if_neg this]
              exact ⟨rfl, rfl⟩
          exact sv_nil (sv_nil (sv_nil ⟨_, _, _, _, a8, a9, a10, by rw [hnext, e0.1, e0.2, List.append_nil, List.append_nil]; rfl⟩))
      · have hl := of_decide_eq_false h
        have hnext : bfs c most (k + 1) = bfs c most k := by
          conv => lhs; unfold bfs
          rw [List.getElem?_eq_none (by omega)]
        exact sv_nil (sv_nil ⟨_, a5, a6, a7, a8, a9, a10, by rw [hnext]; rfl⟩)
    · obtain ⟨a2, a5, a6, a7, a8, a9, a10, rfl⟩ := hp
      rw [rangeD_len]
      exact sv_frz 3 (sv_frz 4 (sv_ret (ev_tup (ea_cons (nm 3) (ea_cons (nm 4) ea_nil))) rfl))
end
end G
set_option Elab.async false
set_option linter.all false
set_option maxRecDepth 100000
set_option maxHeartbeats 4000000
namespace G
open PySem PySem.Spec PyProof.Rows L2 Hd Bm
/-! a span's ends, at the depth 64 -/
def lo64 (x : Spn) : Nat := x.l * 2 ^ (64 - x.d)
def hi64 (x : Spn) : Nat := (x.l + x.w) * 2 ^ (64 - x.d)
/-- the spans lie side by side from a to b -/
inductive Til : Nat → Nat → List Spn → Prop
  | nil (a : Nat) : Til a a []
  | cons {b : Nat} {y : Spn} {ys : List Spn} (t : Til (hi64 y) b ys) : Til (lo64 y) b (y :: ys)
structure FilOk (x : Spn) (ys : List Spn) : Prop where
  ox : SOk x ∧ x.d ≤ 64
  oy : ∀ y ∈ ys, SOk y ∧ y.d ≤ 64
  few : ys.length ≤ 1000
  til : ∃ zs : List Spn, zs.Perm ys ∧ Til (lo64 x) (hi64 x) zs
theorem lo_D {x : Spn} {D : Nat} (h1 : x.d ≤ D) (h2 : D ≤ 64) : x.l * 2 ^ (D - x.d) * 2 ^ (64 - D) = lo64 x ∧ (x.l + x.w) * 2 ^ (D - x.d) * 2 ^ (64 - D) = hi64 x := by
  unfold lo64 hi64
  rw [Nat.mul_assoc, Nat.mul_assoc, ← Nat.pow_add, show D - x.d + (64 - D) = 64 - x.d by omega]
  exact ⟨rfl, rfl⟩
def deepP (D : Nat) (x : Spn) : Int × Int := (((x.l * 2 ^ (D - x.d) : Nat) : Int), (((x.l + x.w) * 2 ^ (D - x.d) : Nat) : Int))
/-- a tiling's pairs are in order -/
theorem til_sorted {D : Nat} (hD : D ≤ 64) : ∀ {a b : Nat} {zs : List Spn}, Til a b zs → (∀ z ∈ zs, SOk z ∧ z.d ≤ D) → (zs.map (deepP D)).Pairwise lexle ∧ ∀ z ∈ zs, a ≤ lo64 z := by
  intro a b zs h
  induction h with
  | nil => exact fun _ => ⟨.nil, fun _ h => (nomatch h)⟩
  | @cons b y ys t ih =>
    intro hz
    obtain ⟨h1, h2⟩ := ih fun z hz' => hz z (List.mem_cons_of_mem _ hz')
    have hy := hz y List.mem_cons_self
    have lt : lo64 y < hi64 y := by
      unfold lo64 hi64
      exact Nat.mul_lt_mul_of_pos_right (by have := hy.1.w; omega) (pow_pos2 _)
    refine ⟨List.pairwise_cons.mpr ⟨fun q hq => ?_, h1⟩, fun z hz' => ?_⟩
    · obtain ⟨z, hm, rfl⟩ := List.mem_map.mp hq
      refine .inl ?_
      have := h2 z hm
      have zd := (hz z (List.mem_cons_of_mem _ hm)).2
      obtain ⟨e1, _⟩ := lo_D hy.2 hD
      obtain ⟨e2, _⟩ := lo_D zd hD
      have l2 : y.l * 2 ^ (D - y.d) * 2 ^ (64 - D) < z.l * 2 ^ (D - z.d) * 2 ^ (64 - D) := by
        rw [e1, e2]
        omega
      have l3 := Nat.lt_of_mul_lt_mul_right l2
      show ((y.l * 2 ^ (D - y.d) : Nat) : Int) < ((z.l * 2 ^ (D - z.d) : Nat) : Int)
      omega
    · rcases List.mem_cons.mp hz' with e | e
      · rw [e]
        exact Nat.le_refl _
      · have := h2 z e
        omega
section
variable {P : Program} {w : World} {K : PySem.W.Frag} {mg : Str → Option Value} {base : Heap}
def S_law_side_by_side : List PD → PD → Prop := fun ds d => ∃ c : Cod, Wf c ∧ ds = [dCod c] ∧ d = .bool true
theorem sc_law_side_by_side : FnScope ["_law_rig", "_law_room", "_law_wide", "_law_last", "_law_begin", "_law_cells"] ["_law_rig"] (defScope s_law_side_by_side) := ⟨rfl, rfl, rfl, by decide +kernel, rfl, by decide +kernel, by decide +kernel⟩
theorem f_law_side_by_side (B : Blt mg) (F : At K mg "_law_side_by_side" s_law_side_by_side) (F_law_two : Fn P w K mg base 1 "_law_two" S_law_two) (F_parts_of : Fn P w K mg base 3 "parts_of" S_parts_of) : Fn P w K mg base 4 "_law_side_by_side" S_law_side_by_side := by
  refine fn_at F sc_law_side_by_side (fun _ _ _ _ _ _ us hl => match us, hl with | [_], _ => rfl) (fun ds d h => ?_) (fun f cdv A outer s H E hr ds d h => ?_)
  · obtain ⟨_, _, rfl, _⟩ := h
    rfl
  · obtain ⟨c, W, rfl, rfl⟩ := h
    have s4 := W.s4
    have p16 : 2 ^ c.size ≤ 2 ^ 4 := Nat.pow_le_pow_right (by decide) s4
    have c2 := W.c2
    refine sv_for (it_range1 (n := (((c.ctx.map dCtx).length : Nat) : Int)) B.range (by rw [List.length_map]; omega) (ev_lenT B.len (ev_ixT (nm 0) ev_int (by rfl)))) (fun i r => ∃ a1 a2 a3 a4 a5, r = [some (.d (dCod c)), a1, a2, a3, a4, a5]) ⟨none, none, none, none, none, rfl⟩ (fun i d r hi hp => ?_) (fun r hp => ?_)
    · obtain ⟨a1, a2, a3, a4, a5, rfl⟩ := hp
      obtain ⟨rfl, hil⟩ := rangeD_at hi
      rw [Int.toNat_natCast, List.length_map] at hil
      rw [Int.zero_add]
      have hk := ents_get hil
      have t0 := W.tot hk
      have e2 := (W.e2 _ (W.mem hk)).1
      refine ⟨_, bd_nm 1, ?_⟩
      refine sv_for (it_range2 (m := 1) (n := ((2 * 2 ^ c.size + 1 : Nat) : Int)) B.range (by omega) ev_int (ev_is (ev_add (i := ((2 * 2 ^ c.size : Nat) : Int)) (j := ((1 : Nat) : Int)) (ev_is (ev_mul (i := ((2 : Nat) : Int)) (j := ((2 ^ c.size : Nat) : Int)) (mul_nat 2 5 (by decide) (by omega)) ev_int (ev_call F_law_two (hr.mono (by decide)) (ea_cons (ev_ixT (d := dI c.size) (nm 0) ev_int (by rfl)) ea_nil) ⟨c.size, by omega, rfl, rfl⟩)) (by rw [i_mul])) ev_int) (by rw [i_add]))) (fun j r => ∃ a2 a3 a4 a5, r = [some (.d (dCod c)), some (.d (.int (i : Int))), a2, a3, a4, a5]) ⟨a2, a3, a4, a5, rfl⟩ (fun j d r hj hp => ?_) (fun r hp => ?_)
      · obtain ⟨b2, b3, b4, b5, rfl⟩ := hp
        obtain ⟨rfl, hjl⟩ := rangeD_at hj
        have hj2 : j < 2 * 2 ^ c.size := by omega
        rw [show ((1 : Int) + (j : Int)) = ((j + 1 : Nat) : Int) by omega]
        refine ⟨_, bd_nm 2, ?_⟩
        refine sv_asg 3 ev_int ?_
        refine sv_for (it_tup (ds := prtD c.fine (ents c i) (j + 1)) (ev_call F_parts_of (hr.mono (by decide)) (ea_cons (nm 0) (ea_cons (nm 1) (ea_cons (nm 2) ea_nil))) ⟨c, i, j + 1, ents c i, W, hk, by omega, by
          have : j + 1 < 2 ^ 6 := by omega
          exact Nat.lt_trans this (by decide), rfl, rfl⟩)) (fun k r => ∃ a4 a5, r = [some (.d (dCod c)), some (.d (.int (i : Int))), some (.d (dI (j + 1))), some (.d (dI (con c.fine (ents c i) (j + 1) k))), a4, a5]) ⟨b4, b5, by rw [con_zero _ _ _ (by omega)]; rfl⟩ (fun k d r hk' hp => ?_) (fun r hp => ?_)
        · obtain ⟨c4, c5, rfl⟩ := hp
          have kl : k < (ents c i).length := by
            have := (List.getElem?_eq_some_iff.mp hk').1
            unfold prtD at this
            rw [List.length_map, List.length_range] at this
            exact this
          unfold prtD at hk'
          rw [rg_at kl] at hk'
          cases hk'
          have ec : con c.fine (ents c i) (j + 1) k = bgn c.fine (ents c i) (j + 1) k := by
            unfold con
            rw [if_pos kl]
          have es := con_succ c.fine (ents c i) (j + 1) k t0 kl
          refine ⟨_, (bd_tup (bds_cons (bd_nm 4) (bds_cons (bd_nm 5) bds_nil))), ?_⟩
          refine sv_skip (et_is (et_w (ew_or (k1 := false) (k2 := false) (et_is (et_cmp c_neI (nm 4) (nm 3)) (by rw [ec, decide_eq_true rfl]; rfl)) fun h => (ew_or1 (et_is (et_cmp c_lt (nm 5) ev_int) (decide_eq_false (by omega)))))) rfl) ?_
          refine sv_asg 3 (d := dI (con c.fine (ents c i) (j + 1) (k + 1))) (ev_is (ev_add (nm 4) (nm 5)) (by rw [i_add, es, ec])) (sv_nil ⟨_, _, rfl⟩)
        · obtain ⟨c4, c5, rfl⟩ := hp
          have : con c.fine (ents c i) (j + 1) (prtD c.fine (ents c i) (j + 1)).length = j + 1 := by
            unfold con prtD
            rw [List.length_map, List.length_range, if_neg (Nat.lt_irrefl _)]
          rw [this]
          refine sv_skip (et_is (et_cmp c_neI (nm 3) (nm 2)) (by rw [decide_eq_true rfl]; rfl)) (sv_nil ⟨_, _, _, _, rfl⟩)
      · obtain ⟨b2, b3, b4, b5, rfl⟩ := hp
        exact sv_nil ⟨_, _, _, _, _, rfl⟩
    · obtain ⟨a1, a2, a3, a4, a5, rfl⟩ := hp
      exact sv_ret ev_bl rfl
def S_law_filled : List PD → PD → Prop := fun ds d => ∃ (x : Spn) (ys : List Spn), FilOk x ys ∧ ds = [dSp x, .list (ys.map dSp)] ∧ d = .bool true
theorem sc_law_filled : FnScope ["_law_cover", "_law_inner", "_law_depth", "_law_first", "_law_last", "_law_low_here", "_law_high", "_law_one"] ["_law_cover", "_law_inner"] (defScope s_law_filled) := ⟨rfl, rfl, rfl, by decide +kernel, rfl, by decide +kernel, by decide +kernel⟩
theorem f_law_filled (B : Blt mg) (F : At K mg "_law_filled" s_law_filled) (F_law_deep : Fn P w K mg base 2 "_law_deep" S_law_deep) : Fn P w K mg base 3 "_law_filled" S_law_filled := by
  refine fn_at F sc_law_filled (fun _ _ _ _ _ _ us hl => match us, hl with | [_, _], _ => rfl) (fun ds d h => ?_) (fun f cdv A outer s H E hr ds d h => ?_)
  · obtain ⟨_, _, _, rfl, _⟩ := h
    rfl
  · obtain ⟨x, ys, hf, rfl, rfl⟩ := h
    obtain ⟨hx, hx64⟩ := hf.ox
    have few := hf.few
    have memD : maxL ((ys.map fun y => ((y.d : Nat) : Int)) ++ [(x.d : Int)]) ∈ ((ys.map fun y => ((y.d : Nat) : Int)) ++ [(x.d : Int)]) := (maxL_max (by simp)).1
    obtain ⟨D, hD, hD64⟩ : ∃ D : Nat, maxL ((ys.map fun y => ((y.d : Nat) : Int)) ++ [(x.d : Int)]) = (D : Int) ∧ D ≤ 64 := by
      rcases List.mem_append.mp memD with q | q
      · obtain ⟨y, hm, e⟩ := List.mem_map.mp q
        exact ⟨y.d, e.symm, (hf.oy y hm).2⟩
      · exact ⟨x.d, List.mem_singleton.mp q, hx64⟩
    have hDy : ∀ y ∈ ys, y.d ≤ D := fun y hm => by
      have := maxL_le (ns := (ys.map fun y => ((y.d : Nat) : Int)) ++ [(x.d : Int)]) (List.mem_append_left _ (List.mem_map.mpr ⟨y, hm, rfl⟩))
      rw [hD] at this
      omega
    have hDx : x.d ≤ D := by
      have := maxL_le (ns := (ys.map fun y => ((y.d : Nat) : Int)) ++ [(x.d : Int)]) (List.mem_append_right _ (List.mem_singleton.mpr rfl))
      rw [hD] at this
      omega
    obtain ⟨zs, hperm, htil⟩ := hf.til
    refine sv_asg 2 (d := dI D) (ev_is (ev_maxL (ns := (ys.map fun y => ((y.d : Nat) : Int)) ++ [(x.d : Int)]) B.max (by simp) (ev_is (eo_cat (eo_lc [("_law_one", 7)] (it_list (ds := ys.map dSp) (nm 1)) thd (by rw [List.length_map]; omega) (fun i d hi => by
      rw [List.getElem?_map] at hi
      cases he : ys[i]? with
      | none =>
        rw [he] at hi
        cases hi
      | some e =>
        rw [he] at hi
        cases hi
        exact ⟨_, fun s H C cl fp => ⟨(bv_nm 7), (ev_ixT (nm 7) ev_int (by rfl))⟩⟩) (blkOk_by (N := ["_law_cover", "_law_inner", "_law_depth", "_law_first", "_law_last", "_law_low_here", "_law_high", "_law_one"]) (sc := defScope s_law_filled) (by decide +kernel))) (eo_lst (ea_cons (ev_ixT (d := dI x.d) (nm 0) ev_int (by rfl)) ea_nil)) (by
        rw [List.length_map, List.length_map]
        show ys.length + 1 ≤ _
        omega)).data (by
        rw [List.map_append, List.map_map, List.map_map]
        rfl))) (by rw [hD])) ?_
    refine sv_bind (d := deepD x D) (ev_call F_law_deep (hr.mono (by decide)) (ea_cons (nm 0) (ea_cons (nm 2) ea_nil)) ⟨x, D, hx, hDx, by omega, rfl, rfl⟩) (bd_tup (bds_cons (bd_nm 3) (bds_cons (bd_nm 4) bds_nil))) ?_
    have srt := til_sorted hD64 htil fun z hz => ⟨(hf.oy z (hperm.mem_iff.mp hz)).1, hDy z (hperm.mem_iff.mp hz)⟩
    refine sv_for (it_list (ds := (zs.map (deepP D)).map pairD) (EvN.one (en_sortO (ps := ys.map (deepP D)) B.sorted (ev_is (eo_lc [("_law_one", 7)] (it_list (ds := ys.map dSp) (nm 1)) (fun d => match d with
        | .tuple [.int l, .int w, .int d] => .tuple [.int ((l.toNat * 2 ^ (D - d.toNat) : Nat) : Int), .int (((l.toNat + w.toNat) * 2 ^ (D - d.toNat) : Nat) : Int)]
        | _ => .none) (by rw [List.length_map]; omega) (fun i d hi => by
      rw [List.getElem?_map] at hi
      cases he : ys[i]? with
      | none =>
        rw [he] at hi
        cases hi
      | some y =>
        rw [he] at hi
        cases hi
        have hy := hf.oy y (List.mem_of_getElem? he)
        exact ⟨_, fun s H C cl fp => ⟨(bv_nm 7), ev_call F_law_deep (hr.mono (by decide)) (ea_cons (nm 7) (ea_cons (nm 2) ea_nil)) ⟨y, D, hy.1, hDy y (List.mem_of_getElem? he), by omega, rfl, rfl⟩⟩⟩) (blkOk_by (N := ["_law_cover", "_law_inner", "_law_depth", "_law_first", "_law_last", "_law_low_here", "_law_high", "_law_one"]) (sc := defScope s_law_filled) (by decide +kernel))).data (by
        rw [List.map_map, List.map_map]
        rfl)) (fun qs hq hs => ?_)))) (fun i r => ∃ (a b5 b6 b7 : _) (f : Nat), r = [some (.d (dSp x)), some (.d (.list (ys.map dSp))), some (.d (dI D)), some (.d (dI f)), some (.d (dI ((x.l + x.w) * 2 ^ (D - x.d)))), b5, b6, b7] ∧ a = f * 2 ^ (64 - D) ∧ Til a (hi64 x) (zs.drop i)) ⟨lo64 x, none, none, none, x.l * 2 ^ (D - x.d), rfl, (lo_D hDx hD64).1.symm, htil⟩ (fun i d r hi hp => ?_) (fun r hp => ?_)
    · have e : qs = zs.map (deepP D) := by
        refine List.Perm.eq_of_pairwise (le := lexle) (fun a b _ _ h1 h2 => ?_) hs srt.1 (hq.trans (hperm.map _).symm)
        unfold lexle at h1 h2
        exact Prod.ext (by omega) (by omega)
      rw [e]
    · obtain ⟨a, b5, b6, b7, f0, rfl, ha, ht⟩ := hp
      rw [List.getElem?_map, List.getElem?_map] at hi
      cases hz : zs[i]? with
      | none =>
        rw [hz] at hi
        cases hi
      | some z =>
        rw [hz] at hi
        cases hi
        have zl := (List.getElem?_eq_some_iff.mp hz).1
        have zd : zs.drop i = z :: zs.drop (i + 1) := by
          rw [List.drop_eq_getElem_cons zl]
          rw [(List.getElem?_eq_some_iff.mp hz).2]
        rw [zd] at ht
        have hzD := hDy z (hperm.mem_iff.mp (List.mem_of_getElem? hz))
        obtain ⟨e1, e2⟩ := lo_D hzD hD64
        generalize hq : lo64 z = q at e1
        have key : z.l * 2 ^ (D - z.d) = f0 := by
          cases ht with
          | cons t =>
            rw [hq, ← e1] at ha
            exact Nat.eq_of_mul_eq_mul_right (pow_pos2 _) ha
        have ht' : Til (hi64 z) (hi64 x) (zs.drop (i + 1)) := by
          cases ht with
          | cons t => exact t
        refine ⟨_, (bd_tup (bds_cons (bd_nm 5) (bds_cons (bd_nm 6) bds_nil))), ?_⟩
        refine sv_skip (et_is (et_cmp c_neI (nm 5) (nm 3)) (by
          show (!decide (((z.l * 2 ^ (D - z.d) : Nat) : Int) = (f0 : Int))) = false
          rw [key, decide_eq_true rfl]
          rfl)) ?_
        exact sv_asg 3 (nm 6) (sv_nil ⟨hi64 z, _, _, b7, (z.l + z.w) * 2 ^ (D - z.d), rfl, e2.symm, ht'⟩)
    · obtain ⟨a, b5, b6, b7, f0, rfl, ha, ht⟩ := hp
      rw [List.length_map, List.length_map, List.drop_length] at ht
      have key : f0 = (x.l + x.w) * 2 ^ (D - x.d) := by
        have e2 := (lo_D hDx hD64).2
        generalize hq : hi64 x = q at e2 ht
        cases ht with
        | nil =>
          rw [ha] at e2
          exact (Nat.eq_of_mul_eq_mul_right (pow_pos2 _) e2).symm
      refine sv_ret (ev_cmp c_eqI (nm 3) (nm 4)) ?_
      rw [key, decide_eq_true rfl]
end
end G
set_option Elab.async false
set_option linter.all false
set_option maxRecDepth 100000
set_option maxHeartbeats 4000000
/-! The words: each has one way; the spans behind a word fill it. -/
namespace G
open PySem PySem.Spec PyProof.Rows L2 Hd Bm
/-- the node has the way of its text -/
def Way (c : Cod) (v : Nd) : Prop := ∃ ps ks xs, Wr c v.cs ps ks xs ∧ xs v.cs.length = v.x ∧ ks v.cs.length = v.k
theorem way_root (c : Cod) : Way c (root1 c) := ⟨[], fun _ => some 0, fun _ => root c, ⟨⟨rfl, rfl, fun j hj => absurd hj (Nat.not_lt_zero j)⟩, by show 0 ≤ 10; omega, rfl, fun j _ _ _ _ hj => absurd hj (Nat.not_lt_zero j)⟩, rfl, rfl⟩
theorem way_kid {c : Cod} (W : Wf c) {v v' : Nd} {k j : Nat} (hw : Way c v) (hl : v.cs.length + 1 ≤ 10) (hk : v.k = some k) (hkl : k < c.ctx.length) (he : kidE c v k j = some v') : Way c v' := by
  obtain ⟨ps, ks, xs, w, e1, e2⟩ := hw
  cases hen : (ents c k)[j]? with
  | none =>
    unfold kidE at he
    rw [hen] at he
    cases he
  | some e =>
    obtain ⟨k1, k2, k3, k4⟩ := kidE_is hen he
    have n := v.cs.length
    refine ⟨ps ++ [(k, j)], fun m => if m ≤ v.cs.length then ks m else e.to, fun m => if m ≤ v.cs.length then xs m else v'.x, ⟨⟨?_, ?_, fun m hm => ?_⟩, ?_, ?_, fun m k' i es e' hm h1 h2 h3 => ?_⟩, ?_, ?_⟩
    · rw [k1, List.length_append, List.length_append, w.p.len]
      rfl
    · show (if 0 ≤ _ then _ else _) = _
      rw [if_pos (Nat.zero_le _)]
      exact w.p.z
    · rw [k1, List.length_append, List.length_singleton] at hm
      by_cases q : m < v.cs.length
      · obtain ⟨k', i, es, e', h1, h2, h3, h4, h5, h6⟩ := w.p.at' m q
        refine ⟨k', i, es, e', ?_, ?_, h3, h4, ?_, ?_⟩
        · show (if m ≤ _ then _ else _) = _
          rw [if_pos (by omega)]
          exact h1
        · rw [List.getElem?_append_left (by rw [w.p.len]; exact q)]
          exact h2
        · rw [k1, List.getElem?_append_left q]
          exact h5
        · show (if m + 1 ≤ _ then _ else _) = _
          rw [if_pos (by omega)]
          exact h6
      · have : m = v.cs.length := by omega
        subst this
        refine ⟨k, j, ents c k, e, ?_, ?_, ents_get hkl, hen, ?_, ?_⟩
        · show (if _ ≤ _ then _ else _) = _
          rw [if_pos (Nat.le_refl _), e2, hk]
        · rw [List.getElem?_append_right (by rw [w.p.len]; exact Nat.le_refl _), w.p.len, Nat.sub_self]
          rfl
        · rw [k1, List.getElem?_append_right (Nat.le_refl _), Nat.sub_self]
          rfl
        · show (if _ ≤ _ then _ else _) = _
          rw [if_neg (by omega)]
    · rw [k1, List.length_append, List.length_singleton]
      exact hl
    · show (if 0 ≤ _ then _ else _) = _
      rw [if_pos (Nat.zero_le _)]
      exact w.z
    · rw [k1, List.length_append, List.length_singleton] at hm
      show 0 < cel c.fine es (if m ≤ _ then xs m else v'.x).w i ∧ (if m + 1 ≤ _ then xs (m + 1) else v'.x) = nxt c es (if m ≤ _ then xs m else v'.x) i e'
      rw [if_pos (by omega : m ≤ v.cs.length)]
      by_cases q : m < v.cs.length
      · rw [if_pos (by omega : m + 1 ≤ v.cs.length)]
        rw [List.getElem?_append_left (by rw [w.p.len]; exact q)] at h1
        exact w.s m k' i es e' q h1 h2 h3
      · have : m = v.cs.length := by omega
        subst this
        rw [List.getElem?_append_right (by rw [w.p.len]; exact Nat.le_refl _), w.p.len, Nat.sub_self] at h1
        cases h1
        rw [ents_get hkl] at h2
        cases h2
        rw [hen] at h3
        cases h3
        rw [if_neg (by omega), e1]
        exact ⟨Nat.pos_of_ne_zero k3, k4⟩
    · show (if _ ≤ _ then _ else _) = _
      rw [k1, List.length_append, List.length_singleton, if_neg (by omega)]
    · show (if _ ≤ _ then _ else _) = _
      rw [k1, List.length_append, List.length_singleton, if_neg (by omega), k2]
theorem way_one {c : Cod} (W : Wf c) {v u : Nd} (hv : Way c v) (hu : Way c u) (h : v.cs = u.cs) : v.x = u.x ∧ v.k = u.k := by
  obtain ⟨ps, ks, xs, w, e1, e2⟩ := hv
  obtain ⟨ps', ks', xs', w', f1, f2⟩ := hu
  have key : ∀ j, j ≤ v.cs.length → ks j = ks' j ∧ xs j = xs' j := by
    intro j
    induction j with
    | zero => exact fun _ => ⟨by rw [w.p.z, w'.p.z], by rw [w.z, w'.z]⟩
    | succ j ih =>
      intro hj
      obtain ⟨i1, i2⟩ := ih (by omega)
      obtain ⟨k, i, es, e, h1, h2, h3, h4, h5, h6⟩ := w.p.at' j (by omega)
      obtain ⟨k', i', es', e', g1, g2, g3, g4, g5, g6⟩ := w'.p.at' j (by rw [← h]; omega)
      rw [i1, g1] at h1
      cases h1
      rw [g3] at h3
      cases h3
      rw [h, g5] at h5
      have hc : e'.c = e.c := Option.some.inj h5
      have := dist_at (W.nd _ (W.mem g3)) g4 h4 hc
      subst this
      rw [g4] at h4
      cases h4
      obtain ⟨_, q1⟩ := w.s j k _ _ _ (by omega) h2 g3 g4
      obtain ⟨_, q2⟩ := w'.s j k _ _ _ (by rw [← h]; omega) g2 g3 g4
      exact ⟨by rw [h6, g6], by rw [q1, q2, i2]⟩
  obtain ⟨a, b⟩ := key _ (Nat.le_refl _)
  rw [← e1, ← f1, ← e2, ← f2, ← h]
  exact ⟨b, a⟩
theorem bfs_way {c : Cod} (W : Wf c) {most : Nat} (hm : most ≤ 4) : ∀ k, ∀ v ∈ (bfs c most k).1, Way c v
  | 0, v, hv => by
    rw [List.mem_singleton.mp hv]
    exact way_root c
  | k + 1, v, hv => by
    unfold bfs at hv
    cases hu : (bfs c most k).1[k]? with
    | none =>
      rw [hu] at hv
      exact bfs_way W hm k v hv
    | some u =>
      rw [hu] at hv
      rcases List.mem_append.mp hv with q | q
      · exact bfs_way W hm k v q
      · obtain ⟨k', j, h1, h2, h3, h4⟩ := kids_mem q
        have ok := bfs_ok W hm k u (List.mem_of_getElem? hu)
        exact way_kid W (bfs_way W hm k u (List.mem_of_getElem? hu)) (by omega) h1 (ok.k _ h1) h4
/-- a word's letter is a word, if it has cells; no other text with that letter is one -/
theorem word_kid {c : Cod} (W : Wf c) {most : Nat} (C : Cap c most) {v : Nd} (hv : v ∈ words c most) {k j : Nat} (hk : v.k = some k) (hl : v.cs.length < most) {v' : Nd} (hj : kidE c v k j = some v') : v' ∈ words c most := by
  rw [(words_fix W C).1]
  refine List.mem_cons_of_mem _ (List.mem_flatMap.mpr ⟨v, hv, ?_⟩)
  unfold kids
  rw [hk]
  show v' ∈ (if v.cs.length < most then (List.range (ents c k).length).filterMap (kidE c v k) else [])
  rw [if_pos hl]
  refine List.mem_filterMap.mpr ⟨j, List.mem_range.mpr ?_, hj⟩
  unfold kidE at hj
  cases he : (ents c k)[j]? with
  | none =>
    rw [he] at hj
    cases hj
  | some e => exact (List.getElem?_eq_some_iff.mp he).1
theorem word_only {c : Cod} (W : Wf c) {most : Nat} (C : Cap c most) {v u : Nd} (hv : v ∈ words c most) (hu : u ∈ words c most) {k j : Nat} {e : Ent} (hk : v.k = some k) (he : (ents c k)[j]? = some e) (hc : u.cs = v.cs ++ [e.c]) : ∃ v', kidE c v k j = some v' ∧ v'.cs = u.cs := by
  rw [(words_fix W C).1] at hu
  rcases List.mem_cons.mp hu with q | q
  · rw [q] at hc
    have := congrArg List.length hc
    rw [List.length_append] at this
    exact absurd this (by show ¬ 0 = _ + 1; omega)
  · obtain ⟨p, hp, q⟩ := List.mem_flatMap.mp q
    obtain ⟨k', j', h1, h2, h3, h4⟩ := kids_mem q
    have pk := (bfs_ok W C.le.2 80 p hp).k _ h1
    cases he' : (ents c k')[j']? with
    | none =>
      unfold kidE at h4
      rw [he'] at h4
      cases h4
    | some e' =>
      obtain ⟨g1, g2, g3, g4⟩ := kidE_is he' h4
      rw [g1] at hc
      have hcs : p.cs = v.cs := by
        have := congrArg List.dropLast hc
        rw [List.dropLast_concat, List.dropLast_concat] at this
        exact this
      have hce : e'.c = e.c := by
        have := congrArg List.getLast? hc
        rw [List.getLast?_concat, List.getLast?_concat] at this
        exact Option.some.inj this
      obtain ⟨o1, o2⟩ := way_one W (bfs_way W C.le.2 80 p hp) (bfs_way W C.le.2 80 v hv) hcs
      rw [h1, hk] at o2
      cases o2
      have := dist_at (W.nd _ (W.mem (ents_get pk))) he' he hce
      subst this
      refine ⟨⟨v.cs ++ [e'.c], nxt c (ents c k) v.x j' e', e'.to⟩, ?_, by rw [g1, hcs]⟩
      unfold kidE
      rw [he']
      show (if cel c.fine (ents c k) v.x.w j' = 0 then none else _) = _
      rw [← o1, if_neg g3]
/-! ### filling -/
theorem Til.app {a b d : Nat} {xs ys : List Spn} (h1 : Til a b xs) (h2 : Til b d ys) : Til a d (xs ++ ys) := by
  induction h1 with
  | nil => exact h2
  | cons t ih => exact .cons (ih h2)
theorem til_one (y : Spn) : Til (lo64 y) (hi64 y) [y] := .cons (.nil _)
theorem dbl_ends {x : Spn} {t : Nat} (h : x.d + t ≤ 64) : lo64 (dbl x t) = lo64 x ∧ hi64 (dbl x t) = hi64 x := by
  unfold lo64 hi64 dbl
  have e : 2 ^ t * 2 ^ (64 - (x.d + t)) = 2 ^ (64 - x.d) := by
    rw [← Nat.pow_add]
    congr 1
    omega
  constructor
  · show x.l * 2 ^ t * 2 ^ (64 - (x.d + t)) = _
    rw [Nat.mul_assoc, e]
  · show (x.l * 2 ^ t + x.w * 2 ^ t) * 2 ^ (64 - (x.d + t)) = _
    rw [← Nat.add_mul, Nat.mul_assoc, e]
theorem til_two {x y : Spn} {l h : Nat} (h1 : lo64 x = l) (h2 : hi64 x = lo64 y) (h3 : hi64 y = h) : Til l h [x, y] := by
  subst h1 h3
  refine .cons ?_
  rw [h2]
  exact til_one y
theorem cut_ends {z : Spn} (h : 2 ≤ z.w) : lo64 (Bm.first z) = lo64 z ∧ hi64 (Bm.first z) = lo64 (Bm.last z) ∧ hi64 (Bm.last z) = hi64 z := by
  have ss := sum_sides h
  refine ⟨rfl, rfl, ?_⟩
  show (z.l + z.L + z.R) * 2 ^ (64 - z.d) = (z.l + z.w) * 2 ^ (64 - z.d)
  rw [← ss.1, Nat.add_assoc]
theorem settle_til {man : Man} {s : Nat} (hs : 2 ≤ s) {p : Spn} (h : SOk p) (hd : p.d + 3 * s ≤ 64) : ∃ zs : List Spn, zs.Perm ((Bm.settle man s p).1 :: (Bm.settle man s p).2.2.toList) ∧ Til (lo64 p) (hi64 p) zs := by
  have t1 := seT_le (man := man) hs h.w
  have k1 := h.up (t := seT man s p) (by omega)
  have w2 := sp_two k1.w hs (seT_open (man := man) hs h.w)
  obtain ⟨e1, e2⟩ := dbl_ends (x := p) (t := seT man s p) (by omega)
  unfold Bm.settle
  by_cases hc : man = .cut
  · rw [if_pos hc]
    have ts : seT man s p ≤ s := by
      subst hc
      exact plT_le s p
    split
    · have pl := plT_le s (dbl p (seT man s p))
      obtain ⟨f1, f2⟩ := dbl_ends (x := dbl p (seT man s p)) (t := plT s (dbl p (seT man s p))) (by show p.d + _ + _ ≤ 64; omega)
      refine ⟨[dbl (dbl p (seT man s p)) (plT s (dbl p (seT man s p)))], .refl _, ?_⟩
      have := til_one (dbl (dbl p (seT man s p)) (plT s (dbl p (seT man s p))))
      rw [f1, f2, e1, e2] at this
      exact this
    · generalize hz : dbl p (seT man s p) = z at *
      have zd : z.d ≤ p.d + s := by
        rw [← hz]
        show p.d + seT man s p ≤ _
        omega
      have pl := plT_le s (kept z)
      have kd : (kept z).d = z.d := by
        unfold kept
        split <;> rfl
      obtain ⟨f1, f2⟩ := dbl_ends (x := kept z) (t := plT s (kept z)) (by rw [kd]; omega)
      obtain ⟨c1, c2, c3⟩ := cut_ends w2
      by_cases q : z.R ≤ z.L
      · have ek : kept z = Bm.first z := if_pos q
        have eg : gone z = Bm.last z := if_pos q
        rw [ek] at f1 f2
        rw [ek, eg]
        exact ⟨[dbl (Bm.first z) (plT s (Bm.first z)), Bm.last z], .refl _, til_two (by rw [f1, c1, e1]) (by rw [f2, c2]) (by rw [c3, e2])⟩
      · have ek : kept z = Bm.last z := if_neg q
        have eg : gone z = Bm.first z := if_neg q
        rw [ek] at f1 f2
        rw [ek, eg]
        exact ⟨[Bm.first z, dbl (Bm.last z) (plT s (Bm.last z))], .swap _ _ _, til_two (by rw [c1, e1]) (by rw [f1, c2]) (by rw [f2, c3, e2])⟩
  · rw [if_neg hc]
    refine ⟨[dbl p (seT man s p)], .refl _, ?_⟩
    have := til_one (dbl p (seT man s p))
    rw [e1, e2] at this
    exact this
theorem root_cen (c : Cod) (hs : 2 ≤ c.size) : Cen (root c).l (root c).w (2 ^ (c.size - 1)) (c.size - 1) 0 := by
  have p := pow_pos2 (c.size - 1)
  have e : 2 ^ c.size = 2 * 2 ^ (c.size - 1) := by
    rw [← pow_s]
    congr 1
    omega
  refine ⟨by omega, ?_, ?_, ?_, ?_⟩
  · show 0 < _
    exact p
  · show _ < 0 + 2 ^ c.size
    omega
  · show _ ≤ 0 + _
    omega
  · show 0 + 2 ^ c.size ≤ _
    omega
theorem root_is (c : Cod) (hs : 2 ≤ c.size) : (root c).o = c.size ∧ (root c).L = 2 ^ (c.size - 1) ∧ (root c).R = 2 ^ (c.size - 1) ∧ 2 ≤ (root c).w := by
  have C := root_cen c hs
  obtain ⟨a, b⟩ := sides_cen C
  have e : 2 ^ c.size = 2 * 2 ^ (c.size - 1) := by
    rw [← pow_s]
    congr 1
    omega
  have p := pow_pos2 (c.size - 1)
  refine ⟨?_, ?_, ?_, ?_⟩
  · show od _ _ = _
    rw [C.od_eq]
    omega
  · show sL _ _ = _
    rw [a]
    show 2 ^ (c.size - 1) - 0 = _
    omega
  · show sR _ _ = _
    rw [b]
    show 0 + 2 ^ c.size - 2 ^ (c.size - 1) = _
    omega
  · show 2 ≤ 2 ^ c.size
    omega
theorem root_settled (c : Cod) (hs : 2 ≤ c.size) : (Bm.settle c.man c.size (root c)).1 = root c := by
  obtain ⟨h1, h2, h3, h4⟩ := root_is c hs
  have e : 2 ^ c.size = 2 * 2 ^ (c.size - 1) := by
    rw [← pow_s]
    congr 1
    omega
  have e2 : 2 ^ (c.size - 1) = 2 * 2 ^ (c.size - 2) := by
    rw [← pow_s]
    congr 1
    omega
  have p := pow_pos2 (c.size - 2)
  have pl : plT c.size (root c) = 0 := by
    unfold plT
    omega
  have ew : (root c).w = 2 ^ c.size := rfl
  have t0 : seT c.man c.size (root c) = 0 := by
    cases c.man with
    | plain => exact pl
    | cut => exact pl
    | late => exact upT_gt (by omega)
    | pending =>
      show peT _ _ = 0
      unfold peT
      rw [pl, dbl_zero, h2, h3, Nat.max_self, upT_gt (by omega)]
  unfold Bm.settle
  rw [t0, dbl_zero]
  split
  · rw [if_pos (by omega)]
    show dbl (root c) (plT c.size (root c)) = _
    rw [pl, dbl_zero]
  · rfl
/-- every word's span with a room is settled -/
theorem word_settled {c : Cod} (W : Wf c) {most : Nat} (C : Cap c most) {v : Nd} (hv : v ∈ words c most) {k : Nat} (hk : v.k = some k) : (Bm.settle c.man c.size v.x).1 = v.x := by
  rw [(words_fix W C).1] at hv
  rcases List.mem_cons.mp hv with q | q
  · rw [q]
    exact root_settled c W.s2
  · obtain ⟨p, hp, q⟩ := List.mem_flatMap.mp q
    obtain ⟨k', j', h1, h2, h3, h4⟩ := kids_mem q
    cases he' : (ents c k')[j']? with
    | none =>
      unfold kidE at h4
      rw [he'] at h4
      cases h4
    | some e' =>
      obtain ⟨g1, g2, g3, g4⟩ := kidE_is he' h4
      rw [g2] at hk
      rw [g4]
      unfold nxt
      rw [if_neg (by rw [hk]; exact fun z => nomatch z)]
      rw [settle_again W.s2 (Nat.pos_of_ne_zero g3)]
/-- where the i-th part begins -/
def atI' (c : Cod) (es : List Ent) (x : Spn) (i : Nat) : Nat := (x.l + con c.fine es x.w i) * 2 ^ (64 - x.d)
theorem piece {c : Cod} (W : Wf c) {v : Nd} (hx : SOk v.x) (hd : v.x.d + 3 * c.size ≤ 64) {k : Nat} (hk : k < c.ctx.length) {i : Nat} (hi : i < (ents c k).length) :
    ∃ zs : List Spn, zs.Perm (((kidE c v k i).map Nd.x).toList ++ ((gonE c v k i).map (·.2)).toList) ∧ Til (atI' c (ents c k) v.x i) (atI' c (ents c k) v.x (i + 1)) zs := by
  have t0 := W.tot (ents_get hk)
  have he : (ents c k)[i]? = some (ents c k)[i] := List.getElem?_eq_getElem hi
  have cs := con_succ c.fine (ents c k) v.x.w i t0 hi
  have cb : con c.fine (ents c k) v.x.w i = bgn c.fine (ents c k) v.x.w i := by
    unfold con
    rw [if_pos hi]
  have lo : lo64 (prt c (ents c k) v.x i) = atI' c (ents c k) v.x i := by
    unfold atI'
    rw [cb]
    rfl
  have hi' : hi64 (prt c (ents c k) v.x i) = atI' c (ents c k) v.x (i + 1) := by
    unfold atI'
    rw [cs, cb, ← Nat.add_assoc]
    rfl
  unfold kidE gonE
  rw [he]
  show ∃ zs : List Spn, zs.Perm ((Option.map Nd.x (if cel c.fine (ents c k) v.x.w i = 0 then none else some _)).toList ++ (Option.map (fun g : Gn => g.2) (if cel c.fine (ents c k) v.x.w i = 0 ∨ (ents c k)[i].to = none then none else _)).toList) ∧ _
  by_cases h0 : cel c.fine (ents c k) v.x.w i = 0
  · rw [if_pos h0, if_pos (.inl h0)]
    refine ⟨[], .refl _, ?_⟩
    rw [h0, Nat.add_zero] at cs
    unfold atI'
    rw [cs]
    exact .nil _
  · have sp := hx.prt (c := c) (i := i) t0 (Nat.pos_of_ne_zero h0)
    rw [if_neg h0, ← lo, ← hi']
    by_cases h1 : (ents c k)[i].to = none
    · rw [if_pos (.inr h1)]
      refine ⟨[prt c (ents c k) v.x i], ?_, til_one _⟩
      unfold nxt
      rw [if_pos h1]
      exact .refl _
    · rw [if_neg (fun q => q.elim h0 h1)]
      obtain ⟨zs, p1, p2⟩ := settle_til (man := c.man) W.s2 sp (show v.x.d + 3 * c.size ≤ 64 from hd)
      refine ⟨zs, ?_, p2⟩
      unfold nxt
      rw [if_neg h1]
      refine p1.trans ?_
      cases (Bm.settle c.man c.size (prt c (ents c k) v.x i)).2.2 <;> exact .refl _
theorem pieces {c : Cod} (W : Wf c) {v : Nd} (hx : SOk v.x) (hd : v.x.d + 3 * c.size ≤ 64) {k : Nat} (hk : k < c.ctx.length) : ∀ i, i ≤ (ents c k).length →
    ∃ zs : List Spn, zs.Perm ((List.range i).filterMap (fun i => (kidE c v k i).map Nd.x) ++ (List.range i).filterMap (fun i => (gonE c v k i).map (·.2))) ∧ Til (lo64 v.x) (atI' c (ents c k) v.x i) zs
  | 0, _ => by
    have e2 := (W.e2 _ (W.mem (ents_get hk))).1
    refine ⟨[], .refl _, ?_⟩
    unfold atI'
    rw [con_zero _ _ _ (by omega)]
    exact .nil _
  | i + 1, hi => by
    obtain ⟨zs, p1, p2⟩ := pieces W hx hd hk i (by omega)
    obtain ⟨ws, q1, q2⟩ := piece W hx hd hk (i := i) (by omega)
    refine ⟨zs ++ ws, ?_, p2.app q2⟩
    rw [fm_succ, fm_succ]
    refine (p1.append q1).trans ?_
    rw [List.append_assoc, List.append_assoc]
    exact List.Perm.append_left _ (List.perm_append_comm_assoc _ _ _)
theorem filled {c : Cod} (W : Wf c) {most : Nat} (C : Cap c most) {v : Nd} (hv : v ∈ words c most) {k : Nat} (hk : v.k = some k) (hl : v.cs.length < most) :
    FilOk v.x ((List.range (ents c k).length).filterMap (fun i => (kidE c v k i).map Nd.x) ++ (List.range (ents c k).length).filterMap (fun i => (gonE c v k i).map (·.2))) := by
  have ok := bfs_ok W C.le.2 80 v hv
  have m4 := C.le.2
  have s4 := W.s4
  have hkl := ok.k k hk
  have bd : 3 * c.size * v.cs.length ≤ 12 * 3 := Nat.mul_le_mul (by omega) (by omega)
  have od := ok.d
  have el := (W.e2 _ (W.mem (ents_get hkl))).2
  have hd : v.x.d + 3 * c.size ≤ 64 := by omega
  refine ⟨⟨ok.ok, by omega⟩, fun y hy => ?_, ?_, ?_⟩
  · rcases List.mem_append.mp hy with q | q
    · obtain ⟨i, hi, e⟩ := List.mem_filterMap.mp q
      cases hj : kidE c v k i with
      | none =>
        rw [hj] at e
        cases e
      | some v' =>
        rw [hj] at e
        cases e
        have ok' := kid_ok W m4 ok hk hl hj
        have := ok'.d
        have := kid_len hj
        have : 3 * c.size * v'.cs.length ≤ 12 * 4 := Nat.mul_le_mul (by omega) (by omega)
        exact ⟨ok'.ok, by omega⟩
    · obtain ⟨i, hi, e⟩ := List.mem_filterMap.mp q
      cases hj : gonE c v k i with
      | none =>
        rw [hj] at e
        cases e
      | some g =>
        rw [hj] at e
        cases e
        have il := List.mem_range.mp hi
        obtain ⟨g1, g2, g3, g4⟩ := gonE_is (List.getElem?_eq_getElem il) hj
        have sp := ok.ok.prt (c := c) (i := i) (W.tot (ents_get hkl)) (Nat.pos_of_ne_zero g2)
        obtain ⟨_, _, _, q4⟩ := settle_ok (man := c.man) W.s2 sp (show v.x.d + 3 * c.size ≤ 200 by omega)
        obtain ⟨r1, r2⟩ := q4 _ g4
        have r2 : g.2.d ≤ v.x.d + 2 * c.size := r2
        exact ⟨r1, by show g.2.d ≤ 64; omega⟩
  · rw [List.length_append]
    have h1 := List.length_filterMap_le (fun i => (kidE c v k i).map Nd.x) (List.range (ents c k).length)
    have h2 := List.length_filterMap_le (fun i => (gonE c v k i).map (·.2)) (List.range (ents c k).length)
    rw [List.length_range] at h1 h2
    omega
  · obtain ⟨zs, p1, p2⟩ := pieces W ok.ok hd hkl (ents c k).length (Nat.le_refl _)
    refine ⟨zs, p1, ?_⟩
    have : atI' c (ents c k) v.x (ents c k).length = hi64 v.x := by
      unfold atI' con
      rw [if_neg (Nat.lt_irrefl _)]
      rfl
    rw [← this]
    exact p2
end G
set_option Elab.async false
set_option linter.all false
set_option maxRecDepth 100000
set_option maxHeartbeats 4000000
namespace G
open PySem PySem.Spec PyProof.Rows L2 Hd Bm
def toldF (acc : List (Key × PD)) (v : Nd) : List (Key × PD) := vput acc (.inr (wS v.cs)) (dSp v.x)
theorem told_get (z : List Nat) (x : Spn) : ∀ (vs : List Nd) (acc : List (Key × PD)), (∀ v ∈ vs, v.cs = z → v.x = x) → ((∃ v ∈ vs, v.cs = z) → vget (vs.foldl toldF acc) (.inr (wS z)) = some (dSp x)) ∧ ((¬ ∃ v ∈ vs, v.cs = z) → vget (vs.foldl toldF acc) (.inr (wS z)) = vget acc (.inr (wS z)))
  | [], acc, _ => ⟨fun ⟨_, hv, _⟩ => (nomatch hv), fun _ => rfl⟩
  | v :: vs, acc, h => by
    obtain ⟨i1, i2⟩ := told_get z x vs (toldF acc v) fun u hu => h u (List.mem_cons_of_mem _ hu)
    rw [List.foldl_cons]
    have hp : vget (toldF acc v) (.inr (wS z)) = if v.cs = z then some (dSp v.x) else vget acc (.inr (wS z)) := by
      unfold toldF
      rw [vget_put]
      by_cases q : v.cs = z
      · rw [if_pos (by rw [q]), if_pos q]
      · rw [if_neg fun e => q (wS_inj (Sum.inr.inj e)).symm, if_neg q]
    by_cases hin : ∃ u ∈ vs, u.cs = z
    · refine ⟨fun _ => i1 hin, fun hn => ?_⟩
      obtain ⟨u, hu, e⟩ := hin
      exact absurd ⟨u, List.mem_cons_of_mem _ hu, e⟩ hn
    · rw [i2 hin, hp]
      by_cases q : v.cs = z
      · rw [if_pos q]
        refine ⟨fun _ => by rw [h v List.mem_cons_self q], fun hn => ?_⟩
        exact absurd ⟨v, List.mem_cons_self, q⟩ hn
      · rw [if_neg q]
        refine ⟨fun hh => ?_, fun _ => rfl⟩
        obtain ⟨u, hu, e⟩ := hh
        rcases List.mem_cons.mp hu with w | w
        · rw [w] at e
          exact absurd e q
        · exact absurd ⟨u, w, e⟩ hin
theorem told_len : ∀ (vs : List Nd) (acc : List (Key × PD)), (vs.foldl toldF acc).length ≤ acc.length + vs.length
  | [], _ => Nat.le_refl _
  | v :: vs, acc => by
    have h1 := told_len vs (toldF acc v)
    have h2 : (toldF acc v).length ≤ _ := vput_len acc (.inr (wS v.cs)) (dSp v.x)
    rw [List.foldl_cons, List.length_cons]
    omega
theorem fm_range {α β : Type} (f : α → Option β) (g : Nat → Option β) (L : List α) (h : ∀ j e, L[j]? = some e → f e = g j) : L.filterMap f = (List.range L.length).filterMap g := by
  have key : ∀ n, n ≤ L.length → (L.take n).filterMap f = (List.range n).filterMap g := by
    intro n
    induction n with
    | zero => exact fun _ => rfl
    | succ n ih =>
      intro hn
      have he : L[n]? = some L[n] := List.getElem?_eq_getElem hn
      rw [List.take_add_one, he, List.filterMap_append, ih (by omega), fm_succ]
      congr 1
      show List.filterMap f [L[n]] = _
      rw [List.filterMap_cons, h n _ he]
      cases g n <;> rfl
  have := key L.length (Nat.le_refl _)
  rw [List.take_length] at this
  exact this
theorem sp_shaped (x : Spn) : SeqAt.shaped (dSp x) = true := by
  unfold SeqAt.shaped dSp
  rfl
theorem sp_self (x : Spn) : PyData.eqv (dSp x) (dSp x) = true := by
  unfold dSp
  simp [PyData.eqv, PyData.eqvAll]
/-- what the table says of the text with one letter more -/
def innF (T : List (Key × PD)) (cs : List Nat) : PD → Option PD
  | .tuple [.str z, _, _] => vget T (.inr (wS cs ++ z))
  | _ => none
section
variable {P : Program} {w : World} {K : PySem.W.Frag} {mg : Str → Option Value} {base : Heap}
def S_law_next_filled : List PD → PD → Prop := fun ds d => ∃ (c : Cod) (most : Nat), Wf c ∧ Cap c most ∧ ds = [dCod c, .list ((words c most).map ndD), dI most] ∧ d = .bool true
theorem sc_law_next_filled : FnScope ["_law_rig", "_law_words", "_law_most", "_law_told", "_law_term", "_law_cover", "_law_room", "_law_inner", "_law_parts_here", "_law_k", "_law_part", "_law_goes_on", "_law_entry"] ["_law_rig", "_law_words", "_law_most"] (defScope s_law_next_filled) := ⟨rfl, rfl, rfl, by decide +kernel, rfl, by decide +kernel, by decide +kernel⟩
theorem f_law_next_filled (B : Blt mg) (F : At K mg "_law_next_filled" s_law_next_filled) (F_span_of : Fn P w K mg base 7 "span_of" S_span_of) (F_settled : Fn P w K mg base 6 "settled" S_settled) (F_lost_of : Fn P w K mg base 6 "lost_of" S_lost_of)
    (F_parts_of : Fn P w K mg base 3 "parts_of" S_parts_of) (F_law_filled : Fn P w K mg base 3 "_law_filled" S_law_filled) : Fn P w K mg base 8 "_law_next_filled" S_law_next_filled := by
  refine fn_at F sc_law_next_filled (fun _ _ _ _ _ _ us hl => match us, hl with | [_, _, _], _ => rfl) (fun ds d h => ?_) (fun f cdv A outer s H E hr ds d h => ?_)
  · obtain ⟨_, _, _, _, rfl, _⟩ := h
    rfl
  · obtain ⟨c, most, W, C, rfl, rfl⟩ := h
    have s2 := W.s2
    have s4 := W.s4
    have m4 := C.le.2
    have few : (words c most).length ≤ 40 := bfs_few W C 80
    have all : ∀ v ∈ words c most, NdOk c most v := bfs_ok W m4 80
    have way : ∀ v ∈ words c most, Way c v := bfs_way W m4 80
    refine sv_new 3 eo_dK ?_
    refine sv_for (it_list (ds := (words c most).map ndD) (nm 1)) (fun i r => ∃ a4 a5 a6, r = [some (.d (dCod c)), some (.d (.list ((words c most).map ndD))), some (.d (dI most)), some (.o (.k (((words c most).take i).foldl toldF []))), a4, a5, a6, none, none, none, none, none, none]) ⟨none, none, none, rfl⟩ (fun i d r hi hp => ?_) (fun r hp => ?_)
    · obtain ⟨a4, a5, a6, rfl⟩ := hp
      rw [List.getElem?_map] at hi
      cases hv : (words c most)[i]? with
      | none =>
        rw [hv] at hi
        cases hi
      | some v =>
        rw [hv] at hi
        cases hi
        obtain ⟨ps, ks, xs, hw, e1, e2⟩ := way v (List.mem_of_getElem? hv)
        have tl := told_len ((words c most).take i) []
        rw [List.length_take, List.length_nil] at tl
        refine ⟨_, (bd_tup (bds_cons (bd_nm 4) (bds_cons (bd_nm 5) (bds_cons (bd_nm 6) bds_nil)))), ?_⟩
        refine sv_putK 3 (d := dSp v.x) (k1 := .inr (wS v.cs)) (kk := ((words c most).take i).foldl toldF []) (rm1 hr) (ev_call F_span_of (hr.mono (by decide)) (ea_cons (nm 0) (ea_cons (nm 4) ea_nil)) ⟨c, v.cs, ps, ks, xs, W, hw, rfl, by rw [e1]⟩) (nm 4) (by omega) (sv_nil ⟨_, _, _, by
          rw [List.take_add_one, hv, List.foldl_append]
          rfl⟩)
    · obtain ⟨a4, a5, a6, rfl⟩ := hp
      rw [List.length_map, List.take_length]
      have TG : ∀ v ∈ words c most, vget ((words c most).foldl toldF []) (.inr (wS v.cs)) = some (dSp v.x) := fun v hv =>
        (told_get v.cs v.x (words c most) [] fun u hu e => (way_one W (way u hu) (way v hv) e).1).1 ⟨v, hv, rfl⟩
      have TN : ∀ z, (¬ ∃ v ∈ words c most, v.cs = z) → vget ((words c most).foldl toldF []) (.inr (wS z)) = none := fun z hz =>
        (told_get z (root c) (words c most) [] fun u hu e => absurd ⟨u, hu, e⟩ hz).2 hz
      generalize hT : (words c most).foldl toldF [] = T at *
      refine sv_for (it_list (ds := (words c most).map ndD) (nm 1)) (fun i r => ∃ a4 a5 a6 a7 a8 a9 a10 a11 a12, r = [some (.d (dCod c)), some (.d (.list ((words c most).map ndD))), some (.d (dI most)), some (.o (.k T)), a4, a5, a6, a7, a8, a9, a10, a11, a12]) ⟨a4, a5, a6, none, none, none, none, none, none, rfl⟩ (fun i d r hi hp => ?_) (fun r hp => ?_)
      · obtain ⟨a4, a5, a6, a7, a8, a9, a10, a11, a12, rfl⟩ := hp
        rw [List.getElem?_map] at hi
        cases hv : (words c most)[i]? with
        | none =>
          rw [hv] at hi
          cases hi
        | some v =>
          rw [hv] at hi
          cases hi
          have vm := List.mem_of_getElem? hv
          have ok := all v vm
          have bd : 3 * c.size * v.cs.length ≤ 12 * 4 := Nat.mul_le_mul (by omega) (by have := ok.l; omega)
          have od := ok.d
          have tg := TG v vm
          refine ⟨_, (bd_tup (bds_cons (bd_nm 4) (bds_cons (bd_nm 5) (bds_cons (bd_nm 6) bds_nil)))), ?_⟩
          refine sv_skip (et_is (et_w (ew_and (k1 := !decide (v.k = none)) (k2 := false) (et_is (et_cmp c_notN (nm 6) ev_non) (by rw [isNone_opt])) fun h => (ew_and1 (et_is (et_cmp (c_neD (rm64 hr) (sp_shaped v.x) (sp_shaped v.x) rfl rfl) (ev_is (ev_call F_settled (hr.mono (by decide)) (ea_cons (nm 0) (ea_cons (ev_getK 3 (k1 := .inr (wS v.cs)) (kk := T) (rm1 hr) (nm 4) tg) ea_nil)) ⟨c, v.x, ok.ok, by omega, s2, by omega, rfl, rfl⟩) (by
            cases hk : v.k with
            | none =>
              rw [hk] at h
              cases h
            | some k => rw [word_settled W C vm hk])) (ev_getK 3 (k1 := .inr (wS v.cs)) (kk := T) (rm1 hr) (nm 4) tg)) (by rw [sp_self]; rfl))))) (by rw [Bool.and_false])) ?_
          refine sv_if (k := !decide (v.k = none) && decide (v.cs.length < most)) (et_is (et_w (ew_and (k2 := decide (v.cs.length < most)) (et_cmp c_notN (nm 6) ev_non) fun h => (ew_and1 (et_is (et_cmp c_lt (ev_lenS (z := wS v.cs) B.len (by rw [wS_len]; have := ok.l; exact Nat.le_trans (show v.cs.length ≤ 4 by omega) (by decide)) (nm 4)) (nm 2)) (by
            rw [wS_len]
            exact decide_eq_decide.mpr Int.ofNat_lt))))) (by rw [isNone_opt])) (fun h2 => ?_) (fun h2 => ?_)
          · obtain ⟨h3, h4⟩ := Bool.and_eq_true_iff.mp h2
            have h4 := of_decide_eq_true h4
            cases hk : v.k with
            | none =>
              rw [hk] at h3
              cases h3
            | some q =>
              have hq := ok.k q hk
              have hes := ents_get hq
              have t0 := W.tot hes
              have el := (W.e2 _ (W.mem hes)).2
              have fil := filled W C vm hk h4
              have sz : ∀ ch, (wS v.cs).length + (sgn ch).length ≤ sizeLine := fun ch => by
                rw [wS_len]
                exact Nat.le_trans (show v.cs.length + 1 ≤ 5 by have := ok.l; omega) (by decide)
              have inn : ∀ j e, (ents c q)[j]? = some e → innF T v.cs (dEnt e) = ((kidE c v q j).map Nd.x).map dSp := fun j e he => by
                show vget T (.inr (wS v.cs ++ sgn e.c)) = _
                rw [wS_app]
                cases hj : kidE c v q j with
                | some v' =>
                  obtain ⟨k1, k2, k3, k4⟩ := kidE_is he hj
                  rw [← k1, TG v' (word_kid W C vm hk h4 hj)]
                  rfl
                | none =>
                  refine TN _ fun hh => ?_
                  obtain ⟨u, hu, e'⟩ := hh
                  obtain ⟨v', hv', _⟩ := word_only W C vm hu hk he e'
                  rw [hj] at hv'
                  cases hv'
              have efm : ((ents c q).map dEnt).filterMap (innF T v.cs) = ((List.range (ents c q).length).filterMap (fun i => (kidE c v q i).map Nd.x)).map dSp := by
                rw [List.filterMap_map, List.map_filterMap]
                exact fm_range _ _ (ents c q) inn
              refine sv_lcF 7 [("_law_entry", 12)] (it_tup (ds := (ents c q).map dEnt) (ev_ixT (ev_ixT (nm 0) ev_int (by rfl)) (nm 6) (atI_nat (by rw [List.getElem?_map, hes]; rfl)))) (innF T v.cs) (by rw [List.length_map]; omega) (fun j d hj => by
                rw [List.getElem?_map] at hj
                cases he : (ents c q)[j]? with
                | none =>
                  rw [he] at hj
                  cases hj
                | some e =>
                  rw [he] at hj
                  cases hj
                  refine ⟨_, (vget T (.inr (wS v.cs ++ sgn e.c))).isSome, fun s H C cl fp => ⟨(bv_nm 12), et_inK 3 (k1 := .inr (wS v.cs ++ sgn e.c)) (kk := T) (rm1 hr) (ev_adds (sz e.c) (nm 4) (ev_ixT (d := .str (sgn e.c)) (nm 12) ev_int (by rfl))), fun z => ?_, fun z => ?_⟩⟩
                  · show vget T (.inr (wS v.cs ++ sgn e.c)) = none
                    cases hg : vget T (.inr (wS v.cs ++ sgn e.c)) with
                    | none => rfl
                    | some x =>
                      rw [hg] at z
                      cases z
                  · cases hg : vget T (.inr (wS v.cs ++ sgn e.c)) with
                    | none =>
                      rw [hg] at z
                      cases z
                    | some x => exact ⟨x, hg, ev_getK 3 (k1 := .inr (wS v.cs ++ sgn e.c)) (kk := T) (rm1 hr) (ev_adds (sz e.c) (nm 4) (ev_ixT (d := .str (sgn e.c)) (nm 12) ev_int (by rfl))) hg⟩) (blkOk_by (N := ["_law_rig", "_law_words", "_law_most", "_law_told", "_law_term", "_law_cover", "_law_room", "_law_inner", "_law_parts_here", "_law_k", "_law_part", "_law_goes_on", "_law_entry"]) (sc := defScope s_law_next_filled) (by decide +kernel)) ?_
              rw [efm]
              generalize hKX : (List.range (ents c q).length).filterMap (fun i => (kidE c v q i).map Nd.x) = KX at *
              have KXl : KX.length ≤ 4 := by
                rw [← hKX]
                have := List.length_filterMap_le (fun i => (kidE c v q i).map Nd.x) (List.range (ents c q).length)
                rw [List.length_range] at this
                omega
              refine sv_asg 8 (d := .tuple (prtD c.fine (ents c q) v.x.w)) (ev_call F_parts_of (hr.mono (by decide)) (ea_cons (nm 0) (ea_cons (nm 6) (ea_cons (ev_ixT (d := dI v.x.w) (ev_getK 3 (k1 := .inr (wS v.cs)) (kk := T) (rm1 hr) (nm 4) tg) ev_int (by rfl)) ea_nil))) ⟨c, q, v.x.w, ents c q, W, hes, ok.ok.w, ok.ok.lt.2.1, rfl, rfl⟩) ?_
              have pl : (prtD c.fine (ents c q) v.x.w).length = (ents c q).length := by
                unfold prtD
                rw [List.length_map, List.length_range]
              refine sv_for (it_range1 (n := (((prtD c.fine (ents c q) v.x.w).length : Nat) : Int)) B.range (by rw [pl]; omega) (ev_lenT B.len (nm 8))) (fun j r => ∃ a9 a10 a11 a12, r = [some (.d (dCod c)), some (.d (.list ((words c most).map ndD))), some (.d (dI most)), some (.o (.k T)), some (.d (.str (wS v.cs))), some (.d (dSp v.x)), some (.d (dI q)), some (.o (.l ((KX ++ (List.range j).filterMap (fun i => (gonE c v q i).map (·.2))).map dSp))), some (.d (.tuple (prtD c.fine (ents c q) v.x.w))), a9, a10, a11, a12]) ⟨a9, a10, a11, a12, by rw [List.range_zero, List.filterMap_nil, List.append_nil]; rfl⟩ (fun j d r hj hp => ?_) (fun r hp => ?_)
              · obtain ⟨b9, b10, b11, b12, rfl⟩ := hp
                obtain ⟨rfl, hjl⟩ := rangeD_at hj
                rw [Int.toNat_natCast, pl] at hjl
                rw [Int.zero_add]
                have he : (ents c q)[j]? = some (ents c q)[j] := List.getElem?_eq_getElem hjl
                have pj : (prtD c.fine (ents c q) v.x.w)[j]? = some (.tuple [dI (bgn c.fine (ents c q) v.x.w j), dI (cel c.fine (ents c q) v.x.w j)]) := by
                  unfold prtD
                  exact rg_at hjl
                have lenl : ((KX ++ (List.range j).filterMap (fun i => (gonE c v q i).map (·.2))).map dSp).length < 100000 := by
                  rw [List.length_map, List.length_append]
                  have := List.length_filterMap_le (fun i => (gonE c v q i).map (·.2)) (List.range j)
                  rw [List.length_range] at this
                  omega
                refine ⟨_, bd_nm 9, ?_⟩
                refine sv_asg 10 (d := dSp (prt c (ents c q) v.x j)) (ev_is (ev_tup (ea_cons (ev_add (i := (v.x.l : Nat)) (j := ((bgn c.fine (ents c q) v.x.w j : Nat) : Int)) (ev_ixT (ev_getK 3 (k1 := .inr (wS v.cs)) (kk := T) (rm1 hr) (nm 4) tg) ev_int (by rfl)) (ev_ixT (ev_ixT (nm 8) (nm 9) (atI_nat pj)) ev_int (by rfl))) (ea_cons (ev_ixT (d := dI (cel c.fine (ents c q) v.x.w j)) (ev_ixT (nm 8) (nm 9) (atI_nat pj)) ev_int (by rfl)) (ea_cons (ev_ixT (d := dI v.x.d) (ev_getK 3 (k1 := .inr (wS v.cs)) (kk := T) (rm1 hr) (nm 4) tg) ev_int (by rfl)) ea_nil)))) rfl) ?_
                refine sv_asg 11 (d := .bool (decide (0 < cel c.fine (ents c q) v.x.w j) && !decide ((ents c q)[j].to = none))) (ev_and (k1 := decide (0 < cel c.fine (ents c q) v.x.w j)) (ev_is (ev_cmp c_gt (ev_ixT (d := dI (cel c.fine (ents c q) v.x.w j)) (ev_ixT (nm 8) (nm 9) (atI_nat pj)) ev_int (by rfl)) ev_int) (congrArg PyData.bool (decide_eq_decide.mpr (by omega)))) fun h => (ev_one (ev_is (ev_cmp c_notN (ev_ixT (d := dOpt (ents c q)[j].to) (ev_ixT (d := dEnt (ents c q)[j]) (ev_ixT (d := dCtx (ents c q)) (ev_ixT (nm 0) ev_int (by rfl)) (nm 6) (atI_nat (by rw [List.getElem?_map, hes]; rfl))) (nm 9) (atI_nat (by rw [List.getElem?_map, he]; rfl))) ev_int (by rfl)) ev_non) (by rw [isNone_opt])))) ?_
                have gdef : (gonE c v q j).map (fun g : Gn => g.2) = if cel c.fine (ents c q) v.x.w j = 0 ∨ (ents c q)[j].to = none then none else (Bm.settle c.man c.size (prt c (ents c q) v.x j)).2.2 := by
                  unfold gonE
                  rw [he]
                  show Option.map (fun g : Gn => g.2) (if cel c.fine (ents c q) v.x.w j = 0 ∨ (ents c q)[j].to = none then none else Option.map (fun y => (v.cs ++ [(ents c q)[j].c], y)) (Bm.settle c.man c.size (prt c (ents c q) v.x j)).2.2) = _
                  split
                  · rfl
                  · cases (Bm.settle c.man c.size (prt c (ents c q) v.x j)).2.2 <;> rfl
                have fin : KX ++ (List.range (j + 1)).filterMap (fun i => (gonE c v q i).map (fun g : Gn => g.2)) = (KX ++ (List.range j).filterMap (fun i => (gonE c v q i).map (fun g : Gn => g.2))) ++ ((gonE c v q j).map (fun g : Gn => g.2)).toList := by
                  rw [fm_succ, List.append_assoc]
                by_cases hgo : 0 < cel c.fine (ents c q) v.x.w j ∧ ¬ (ents c q)[j].to = none
                · have eg : (decide (0 < cel c.fine (ents c q) v.x.w j) && !decide ((ents c q)[j].to = none)) = true := by
                    rw [decide_eq_true hgo.1, decide_eq_false hgo.2]
                    rfl
                  rw [eg]
                  rw [if_neg (by
                    intro z
                    rcases z with z | z
                    · omega
                    · exact hgo.2 z)] at gdef
                  have sp := ok.ok.prt (c := c) (i := j) t0 hgo.1
                  have Slost : S_lost_of [dCod c, dSp (prt c (ents c q) v.x j)] (dSpO (Bm.settle c.man c.size (prt c (ents c q) v.x j)).2.2) := ⟨c, prt c (ents c q) v.x j, sp, by show v.x.d + _ ≤ 200; omega, s2, by omega, rfl, rfl⟩
                  cases hls : (Bm.settle c.man c.size (prt c (ents c q) v.x j)).2.2 with
                  | none =>
                    rw [hls] at gdef Slost
                    refine sv_skip (et_is (et_w (ew_and (k1 := true) (k2 := false) (et_val (nm 11)) fun h => (ew_and1 (et_is (et_cmp c_notN (ev_call F_lost_of (hr.mono (by decide)) (ea_cons (nm 0) (ea_cons (nm 10) ea_nil)) Slost) ev_non) rfl)))) rfl) (sv_nil ⟨_, _, _, b12, by
                      rw [fin, gdef, Option.toList_none, List.append_nil]
                      rfl⟩)
                  | some y =>
                    rw [hls] at gdef Slost
                    refine sv_ifT (et_is (et_w (ew_and (k1 := true) (k2 := true) (et_val (nm 11)) fun h => (ew_and1 (et_is (et_cmp c_notN (ev_call F_lost_of (hr.mono (by decide)) (ea_cons (nm 0) (ea_cons (nm 10) ea_nil)) Slost) ev_non) rfl)))) rfl) ?_
                    refine sv_app 7 (xs := (KX ++ (List.range j).filterMap (fun i => (gonE c v q i).map (·.2))).map dSp) (d := dSp y) (ev_call F_lost_of (hr.mono (by decide)) (ea_cons (nm 0) (ea_cons (nm 10) ea_nil)) Slost) lenl (sv_nil (sv_nil ⟨_, _, _, b12, by
                      rw [fin, gdef, Option.toList_some, List.map_append (l₁ := KX ++ _)]
                      rfl⟩))
                · have eg : (decide (0 < cel c.fine (ents c q) v.x.w j) && !decide ((ents c q)[j].to = none)) = false := by
                    by_cases z : 0 < cel c.fine (ents c q) v.x.w j
                    · have : (ents c q)[j].to = none := Classical.byContradiction fun y => hgo ⟨z, y⟩
                      rw [decide_eq_true this]
                      exact Bool.and_false _
                    · rw [decide_eq_false z]
                      rfl
                  rw [eg]
                  rw [if_pos (by
                    by_cases z : 0 < cel c.fine (ents c q) v.x.w j
                    · exact .inr (Classical.byContradiction fun y => hgo ⟨z, y⟩)
                    · exact .inl (by omega))] at gdef
                  refine sv_skip (et_is (et_w (ew_and (k1 := false) (k2 := false) (et_val (nm 11)) fun h => nomatch h)) rfl) (sv_nil ⟨_, _, _, b12, by
                    rw [fin, gdef, Option.toList_none, List.append_nil]
                    rfl⟩)
              · obtain ⟨b9, b10, b11, b12, rfl⟩ := hp
                rw [rangeD_len, Int.toNat_natCast, pl]
                refine sv_frz 7 ?_
                refine sv_skip (et_is (et_not (et_val (k := true) (ev_call F_law_filled (hr.mono (by decide)) (ea_cons (ev_getK 3 (k1 := .inr (wS v.cs)) (kk := T) (rm1 hr) (nm 4) tg) (ea_cons (nm 7) ea_nil)) ⟨v.x, _, fil, rfl, rfl⟩))) rfl) (sv_nil (sv_nil ⟨_, _, _, _, _, b9, b10, b11, b12, rfl⟩))
          · exact sv_nil (sv_nil ⟨_, _, _, a7, a8, a9, a10, a11, a12, rfl⟩)
      ·
        obtain ⟨a4, a5, a6, a7, a8, a9, a10, a11, a12, rfl⟩ := hp
        exact sv_ret ev_bl rfl
end
end G
set_option Elab.async false
set_option linter.all false
set_option maxRecDepth 100000
set_option maxHeartbeats 4000000
/-! The feed. -/
namespace G
open PySem PySem.Spec PyProof.Rows L2 Hd Bm
def feedK (L : List Int) (t r : Int) : KK := [(.inr "cells", .list (L.map PyData.int)), (.inr "turn", .int t), (.inr "rest", .int r)]
theorem key_ct : ¬ (Sum.inr "cells" : Key) = .inr "turn" := by decide +kernel
theorem key_cr : ¬ (Sum.inr "cells" : Key) = .inr "rest" := by decide +kernel
theorem key_tr : ¬ (Sum.inr "turn" : Key) = .inr "rest" := by decide +kernel
theorem key_rt : ¬ (Sum.inr "rest" : Key) = .inr "turn" := by decide +kernel
/-- a feed with at most n draws behind it -/
def FeedOk (n : Nat) (kk : KK) : Prop := ∃ L t r, kk = feedK L t r ∧ L.length ≤ 63 ∧ 0 ≤ t ∧ t ≤ (n : Int) ∧ 0 ≤ r
theorem FeedOk.mono {n m : Nat} {kk : KK} (h : FeedOk n kk) (l : n ≤ m) : FeedOk m kk := by
  obtain ⟨L, t, r, h1, h2, h3, h4, h5⟩ := h
  exact ⟨L, t, r, h1, h2, h3, by omega, h5⟩
theorem feed_cells (L : List Int) (t r : Int) : vget (feedK L t r) (.inr "cells") = some (.list (L.map PyData.int)) := by
  unfold feedK
  rw [vget_cons, if_pos rfl]
theorem feed_turn (L : List Int) (t r : Int) : vget (feedK L t r) (.inr "turn") = some (.int t) := by
  unfold feedK
  rw [vget_cons, if_neg key_ct, vget_cons, if_pos rfl]
theorem feed_rest (L : List Int) (t r : Int) : vget (feedK L t r) (.inr "rest") = some (.int r) := by
  unfold feedK
  rw [vget_cons, if_neg key_cr, vget_cons, if_neg key_tr, vget_cons, if_pos rfl]
theorem put_turn (L : List Int) (t r t' : Int) : vput (feedK L t r) (.inr "turn") (.int t') = feedK L t' r := by
  unfold vput
  rw [feed_turn, if_pos (show (some _).isSome = true from rfl)]
  unfold feedK
  rw [List.map_cons, List.map_cons, List.map_cons, List.map_nil, if_neg key_ct, if_pos rfl, if_neg key_rt]
theorem put_rest (L : List Int) (t r r' : Int) : vput (feedK L t r) (.inr "rest") (.int r') = feedK L t r' := by
  unfold vput
  rw [feed_rest, if_pos (show (some _).isSome = true from rfl)]
  unfold feedK
  rw [List.map_cons, List.map_cons, List.map_cons, List.map_nil, if_neg key_cr, if_neg key_tr, if_pos rfl]
section
variable {P : Program} {w : World} {K : PySem.W.Frag} {mg : Str → Option Value} {base : Heap}
theorem ints_flat : ∀ L : List Int, flat (.list (L.map PyData.int)) = true
  | [] => rfl
  | _ :: L => ints_flat L
theorem ints_shaped (L : List Int) : SeqAt.shaped (.list (L.map PyData.int)) = true := PySem.W.ke_shaped_ints L
theorem mod_small {a b : Int} (h : 0 < b) : 0 ≤ a % b ∧ a % b < b := ⟨Int.emod_nonneg _ (by omega), Int.emod_lt_of_pos _ h⟩
theorem mulI {i j : Int} (a b : Nat) (h1 : i.natAbs < 2 ^ a) (h2 : j.natAbs < 2 ^ b) (h : a + b ≤ 134217728 := by decide) : CMulX i j := mulx_ok (a := a) (b := b) h1 h2 h
theorem sc_law_draw : FnScope ["_law_feed_here", "_law_many", "_law_turn", "_law_cells", "_law_cell", "_law_mixed", "_law_got"] ["_law_feed_here", "_law_many"] (defScope s_law_draw) := ⟨rfl, rfl, rfl, by decide +kernel, rfl, by decide +kernel, by decide +kernel⟩
def Pre_draw : KK → List PD → Prop := fun kk ds => ∃ n m : Nat, FeedOk n kk ∧ n ≤ 1000 ∧ 1 ≤ m ∧ m ≤ 1000 ∧ ds = [dI m]
def Post_draw : KK → List PD → PD → KK → Prop := fun kk ds d kk' => ∃ m v : Nat, ds = [dI m] ∧ d = dI v ∧ v < m ∧ ∀ n, FeedOk n kk → FeedOk (n + 1) kk'
theorem f_law_draw (B : Blt mg) (F : At K mg "_law_draw" s_law_draw) : FnF P w K mg base 1 "_law_draw" Pre_draw Post_draw := by
  refine fn_atF F sc_law_draw (fun _ _ _ _ _ _ us hl => match us, hl with | [_, _], _ => rfl) (fun kk ds h => ?_) (fun f cdv A outer s H E hr a kk ds h => ?_)
  · obtain ⟨n, m, _, _, _, _, rfl⟩ := h
    rfl
  · obtain ⟨n, m, ⟨L, t, r, rfl, hL, t0, tn, r0⟩, hn, m1, m2, rfl⟩ := h
    have m0 : (0 : Int) < (m : Int) := by omega
    have cdm : CDivW r m := ⟨m0, by
      rw [Int.natAbs_natCast]
      exact Nat.lt_of_le_of_lt (Nat.log2_le_self m) (by omega)⟩
    have fin : ∀ (x : Int) (t' r' : Int), 0 ≤ t' → t' ≤ t + 1 → 0 ≤ r' → Post_draw (feedK L t r) [dI m] (.int (x % (m : Int))) (feedK L t' r') := fun x t' r' h1 h2 h3 => by
      obtain ⟨q1, q2⟩ := mod_small (a := x) m0
      refine ⟨m, (x % (m : Int)).toNat, rfl, ?_, by omega, fun n' ⟨L', u, s, e, e1, e2, e3, e4⟩ => ?_⟩
      · show PyData.int _ = .int _
        rw [Int.toNat_of_nonneg q1]
      · have ht : u = t := by
          have := feed_turn L' u s
          rw [← e, feed_turn] at this
          cases this
          rfl
        subst ht
        exact ⟨L, t', r', rfl, hL, h1, by omega, h3⟩
    have u1 := rm1 hr
    refine sv_if (et_cmp c_gt (ev_getF 0 u1 (k1 := .inr "rest") ev_str (feed_rest L t r)) ev_int) (fun h => ?_) (fun h => ?_)
    ·
      refine sv_asg 6 (ev_mod m0 (ev_int1 B.int (ev_getF 0 u1 (k1 := .inr "rest") ev_str (feed_rest L t r))) (nm 1)) ?_
      refine sv_putF 0 (kk := feedK L t r) u1 (k1 := .inr "rest") (ev_div cdm (ev_getF 0 u1 (k1 := .inr "rest") ev_str (feed_rest L t r)) (nm 1)) ev_str (by show 3 < 100000; decide) ?_
      rw [put_rest]
      exact sv_ret (nm 6) ⟨_, rfl, fin _ _ _ t0 (by omega) (Int.ediv_nonneg r0 (by omega))⟩
    refine sv_nil ?_
    have tm : L.length ≠ 0 → ((t % ((L.length : Nat) : Int)).toNat < L.length ∧ t % ((L.length : Nat) : Int) = (((t % ((L.length : Nat) : Int)).toNat : Nat) : Int)) := fun hL0 => by
      obtain ⟨q1, q2⟩ := mod_small (a := t) (b := ((L.length : Nat) : Int)) (by omega)
      exact ⟨by omega, by omega⟩
    refine sv_asg 2 (ev_getF 0 u1 (k1 := .inr "turn") ev_str (feed_turn L t r)) ?_
    refine sv_putF 0 (kk := feedK L t r) u1 (k1 := .inr "turn") (ev_add (nm 2) ev_int) ev_str (by show 3 < 100000; decide) ?_
    rw [put_turn]
    refine sv_asg 3 (ev_getF 0 u1 (k1 := .inr "cells") ev_str (feed_cells L (t + 1) r)) ?_
    refine sv_asg 4 (d := .int (if L = [] then 6469 else (L[(t % ((L.length : Nat) : Int)).toNat]?).getD 0)) (ev_if (k := !decide (L = [])) (et_is (et_cmp (c_neD (rm64 hr) (ints_shaped L) (by decide +kernel) (ints_flat L) rfl) (nm 3) (eo_lst ea_nil).data) ?_) (fun h => ?_) (fun h => ?_)) ?_
    · cases L <;> rfl
    · have hL0 : L ≠ [] := fun z => by
        rw [z] at h
        exact nomatch h
      have hl : L.length ≠ 0 := fun z => hL0 (List.eq_nil_of_length_eq_zero z)
      obtain ⟨q1, q2⟩ := tm hl
      rw [if_neg hL0]
      refine ev_ixL (nm 3) (ev_is (ev_mod (i := t) (j := ((L.length : Nat) : Int)) (by omega) (ev_int1 B.int (nm 2)) (ev_is (ev_lenL (ds := L.map PyData.int) B.len (nm 3)) (by rw [List.length_map]))) (congrArg PyData.int q2)) (atI_nat ?_)
      rw [List.getElem?_map, List.getElem?_eq_getElem q1]
      rfl
    · have hL0 : L = [] := by
        cases L with
        | nil => rfl
        | cons => exact nomatch h
      rw [if_pos hL0]
      exact ev_int
    generalize (if L = [] then 6469 else (L[(t % ((L.length : Nat) : Int)).toNat]?).getD 0) = x
    refine sv_if (et_w (ew_and (et_cmp c_lt (nm 2) (ev_lenL B.len (nm 3))) fun h => (ew_and1 (et_cmp c_ge (nm 4) (ev_pow (i := 10) (j := 18) ⟨by decide, by decide, by decide +kernel⟩ ev_int ev_int))))) (fun h => ?_) (fun h => ?_)
    ·
      refine sv_putF 0 (kk := feedK L (t + 1) r) u1 (k1 := .inr "rest") (ev_div ⟨m0, cdm.2⟩ (nm 4) (nm 1)) ev_str (by show 3 < 100000; decide) ?_
      rw [put_rest]
      have x0 : 0 ≤ x := Int.le_trans (show (0 : Int) ≤ 10 ^ (18 : Int).toNat by decide +kernel) (of_decide_eq_true (Bool.and_eq_true_iff.mp h).2)
      exact sv_ret (ev_mod m0 (ev_int1 B.int (nm 4)) (nm 1)) ⟨_, rfl, fin _ _ _ (by omega) (by omega) (Int.ediv_nonneg x0 (by omega))⟩
    refine sv_nil ?_
    have tb : t.natAbs < 2 ^ 10 := by
      have : (2 : Nat) ^ 10 = 1024 := by decide
      omega
    have b1 := mod_small (a := x) (b := 1000000087) (by decide)
    refine sv_asg 5 (ev_mod (by decide) (ev_int1 B.int (ev_add (ev_add (ev_mul (mulI 31 20 (by omega) (by decide)) (ev_mod (by decide) (ev_int1 B.int (nm 4)) ev_int) ev_int) (ev_mul (mulI 10 20 tb (by decide)) (nm 2) ev_int)) ev_int)) ev_int) ?_
    generalize hy : (x % 1000000087 * 53495 + t * 7697 + 495) % 2147483563 = y
    have yb : y.natAbs < 2 ^ 31 := by
      have := mod_small (a := x % 1000000087 * 53495 + t * 7697 + 495) (b := 2147483563) (by decide)
      omega
    refine sv_asg 5 (ev_mod (by decide) (ev_int1 B.int (ev_add (ev_add (ev_mul (mulI 31 31 yb yb) (nm 5) (nm 5)) (ev_mul (mulI 10 20 tb (by decide)) (nm 2) ev_int)) ev_int)) ev_int) ?_
    generalize hz : (y * y + t * 108091 + 49) % 2147483477 = z
    have zb : z.natAbs < 2 ^ 31 := by
      have := mod_small (a := y * y + t * 108091 + 49) (b := 2147483477) (by decide)
      omega
    exact sv_ret (ev_mod m0 (ev_int1 B.int (ev_div ⟨by decide, by decide +kernel⟩ (ev_mod (by decide) (ev_int1 B.int (ev_add (ev_mul (mulI 31 31 zb zb) (nm 5) (nm 5)) (ev_mul (mulI 20 31 (by decide) zb) ev_int (nm 5)))) ev_int) ev_int)) (nm 1)) ⟨_, rfl, fin _ _ _ (by omega) (by omega) r0⟩
end
end G
set_option Elab.async false
set_option linter.all false
set_option maxRecDepth 100000
set_option maxHeartbeats 4000000
/-! One of a list; the shapes. -/
namespace G
open PySem PySem.Spec PyProof.Rows L2 Hd Bm
section
variable {P : Program} {w : World} {K : PySem.W.Frag} {mg : Str → Option Value} {base : Heap}
theorem sc_law_any : FnScope ["_law_feed_here", "_law_some"] ["_law_feed_here", "_law_some"] (defScope s_law_any) := ⟨rfl, rfl, rfl, by decide +kernel, rfl, by decide +kernel, by decide +kernel⟩
def Pre_any : KK → List PD → Prop := fun kk ds => ∃ (n : Nat) (xs : List PD), FeedOk n kk ∧ n ≤ 1000 ∧ 1 ≤ xs.length ∧ xs.length ≤ 1000 ∧ ds = [.list xs]
def Post_any : KK → List PD → PD → KK → Prop := fun kk ds d kk' => ∃ xs : List PD, ds = [.list xs] ∧ d ∈ xs ∧ ∀ n, FeedOk n kk → FeedOk (n + 1) kk'
theorem f_law_any (B : Blt mg) (Fd : FnF P w K mg base 1 "_law_draw" Pre_draw Post_draw) (F : At K mg "_law_any" s_law_any) : FnF P w K mg base 2 "_law_any" Pre_any Post_any := by
  refine fn_atF F sc_law_any (fun _ _ _ _ _ _ us hl => match us, hl with | [_, _], _ => rfl) (fun kk ds h => ?_) (fun f cdv A outer s H E hr a kk ds h => ?_)
  · obtain ⟨n, xs, _, _, _, _, rfl⟩ := h
    rfl
  · obtain ⟨n, xs, hk, hn, x1, x2, rfl⟩ := h
    refine sv_retF (i := 0) (ef_ix (S := fun _ kk' => ∀ n, FeedOk n kk → FeedOk (n + 1) kk') (nm 1) ((ef_call (i := 0) Fd (hr.mono (by decide)) rfl (ea_cons (ev_lenL B.len (nm 1)) ea_nil) ⟨n, xs.length, hk, hn, x1, x2, rfl⟩).weak fun d kk' r => ?_)) rfl (fun d kk' r => ?_)
    · obtain ⟨m, v, e1, e2, e3, e4⟩ := r
      have : xs.length = m := by
        have := List.cons.inj e1
        exact Int.ofNat.inj (PyData.int.inj this.1)
      exact ⟨v, e2, by omega, e4⟩
    · obtain ⟨v, e1, e2⟩ := r
      exact ⟨kk', rfl, xs, rfl, List.mem_of_getElem? e1, e2⟩
end
end G
set_option Elab.async false
set_option linter.all false
set_option maxRecDepth 100000
set_option maxHeartbeats 4000000
/-! Written values; the shapes. -/
namespace G
open PySem PySem.Spec PyProof.Rows L2 Hd Bm
def mapO {α β : Type} (f : α → Option β) : List α → Option (List β)
  | [] => some []
  | x :: xs => match f x, mapO f xs with
    | some y, some ys => some (y :: ys)
    | _, _ => none
theorem mapO_cons {α β : Type} {f : α → Option β} {x : α} {xs : List α} {zs : List β} (h : mapO f (x :: xs) = some zs) : ∃ y ys, f x = some y ∧ mapO f xs = some ys ∧ zs = y :: ys := by
  unfold mapO at h
  cases e1 : f x with
  | none =>
    rw [e1] at h
    cases h
  | some y =>
    cases e2 : mapO f xs with
    | none =>
      rw [e1, e2] at h
      cases h
    | some ys =>
      rw [e1, e2] at h
      exact ⟨y, ys, rfl, rfl, (Option.some.inj h).symm⟩
theorem mapO_is {α β : Type} {f : α → Option β} {g : β → α} (hf : ∀ x y, f x = some y → x = g y) : ∀ (xs : List α) (ys : List β), mapO f xs = some ys → xs = ys.map g
  | [], ys, h => by
    cases h
    rfl
  | x :: xs, zs, h => by
    obtain ⟨y, ys, e1, e2, rfl⟩ := mapO_cons h
    rw [List.map_cons, ← hf x y e1, ← mapO_is hf xs ys e2]
theorem mapO_len {α β : Type} {f : α → Option β} : ∀ (xs : List α) (ys : List β), mapO f xs = some ys → xs.length = ys.length
  | [], ys, h => by
    cases h
    rfl
  | x :: xs, zs, h => by
    obtain ⟨y, ys, e1, e2, rfl⟩ := mapO_cons h
    rw [List.length_cons, List.length_cons, mapO_len xs ys e2]
/-- the data that a written value gives -/
def cst : Nat → Expr → Option PD
  | 0, _ => none
  | n + 1, e => match e with
    | .Constant (.int i) _ _ => some (.int i)
    | .Constant (.str x) _ _ => some (.str x)
    | .UnaryOp .USub (.Constant (.int i) _ _) _ => some (.int (-i))
    | .Tuple es _ _ => match mapO (cst n) es with
      | some ds => if Nat.ble ds.length 1000 = true then some (.tuple ds) else none
      | none => none
    | .List es _ => match mapO (cst n) es with
      | some ds => if Nat.ble ds.length 1000 = true then some (.list ds) else none
      | none => none
    | _ => none
section
variable {X : Cx} {ρ : Ro}
theorem cst_star {n : Nat} {e : Expr} {d : PD} (h : cst n e = some d) (es : List Expr) (env : Env) : starEach (e :: es) env = (false, eval e env) :: starEach es env := by
  cases n with
  | zero => cases h
  | succ n => cases e <;> first | rfl | cases h
theorem ea_cst {f : Expr → Option PD} (hf : ∀ e d, f e = some d → EvD X e ρ d) (hs : ∀ e d, f e = some d → ∀ es, starEach (e :: es) X.env = (false, eval e X.env) :: starEach es X.env) : ∀ (es : List Expr) (ds : List PD), mapO f es = some ds → EvA X es ρ ds
  | [], ds, h => by
    cases h
    exact ea_nil
  | e :: es, ds, h => by
    obtain ⟨y, ys, e1, e2, rfl⟩ := mapO_cons h
    exact ea_cons (hf e y e1) (ea_cst hf hs es ys e2) (hs e y e1 es)
theorem ev_cst : ∀ (n : Nat) (e : Expr) (d : PD), cst n e = some d → EvD X e ρ d
  | 0, _, _, h => nomatch h
  | n + 1, e, d, h => by
    unfold cst at h
    split at h
    · cases h
      exact ev_int
    · cases h
      exact ev_str
    · cases h
      exact ev_neg ev_int
    · rename_i es _ _
      split at h
      · rename_i ds hm
        split at h
        · rename_i hb
          cases h
          exact ev_tup (ea_cst (ev_cst n) (fun e d q es => cst_star q es _) es ds hm) hb
        · cases h
      · cases h
    · rename_i es _
      split at h
      · rename_i ds hm
        split at h
        · rename_i hb
          cases h
          exact (eo_lst (ea_cst (ev_cst n) (fun e d q es => cst_star q es _) es ds hm) hb).data
        · cases h
      · cases h
    · cases h
end
/-! shapes: for each context its counts and where they go -/
abbrev Shp := List (List (Int × Int))
def shpD (sh : Shp) : PD := .list (sh.map fun r => .list (r.map pairD))
structure ShpOk (sh : Shp) : Prop where
  c1 : 1 ≤ sh.length
  c2 : sh.length ≤ 2
  r : ∀ r ∈ sh, 2 ≤ r.length ∧ r.length ≤ 4 ∧ ∀ q ∈ r, 1 ≤ q.1 ∧ q.1 ≤ 9 ∧ -1 ≤ q.2 ∧ q.2 < (sh.length : Nat)
def shpB (sh : Shp) : Bool := decide (1 ≤ sh.length) && decide (sh.length ≤ 2) && sh.all fun r => decide (2 ≤ r.length) && decide (r.length ≤ 4) && r.all fun q => decide (1 ≤ q.1) && decide (q.1 ≤ 9) && decide (-1 ≤ q.2) && decide (q.2 < (sh.length : Nat))
theorem shpB_ok {sh : Shp} (h : shpB sh = true) : ShpOk sh := by
  unfold shpB at h
  simp only [Bool.and_eq_true, decide_eq_true_eq, List.all_eq_true] at h
  exact ⟨h.1.1, h.1.2, fun r hr => ⟨(h.2 r hr).1.1, (h.2 r hr).1.2, fun q hq => by
    have := (h.2 r hr).2 q hq
    exact ⟨this.1.1.1, this.1.1.2, this.1.2, this.2⟩⟩⟩
def unP : PD → Option (Int × Int)
  | .tuple [.int a, .int b] => some (a, b)
  | _ => none
theorem unP_is (d : PD) (q : Int × Int) (h : unP d = some q) : d = pairD q := by
  unfold unP at h
  split at h
  · cases h
    rfl
  · cases h
def unR : PD → Option (List (Int × Int))
  | .list xs => mapO unP xs
  | _ => none
theorem unR_is (d : PD) (r : List (Int × Int)) (h : unR d = some r) : d = .list (r.map pairD) := by
  unfold unR at h
  split at h
  · rw [mapO_is unP_is _ _ h]
  · cases h
def unS : PD → Option Shp
  | .list xs => mapO unR xs
  | _ => none
theorem unS_is (d : PD) (sh : Shp) (h : unS d = some sh) : d = shpD sh := by
  unfold unS at h
  split at h
  · rw [mapO_is (g := fun r => .list (r.map pairD)) unR_is _ _ h]
    rfl
  · cases h
def shapeB (d : PD) : Bool := match unS d with
  | some sh => shpB sh
  | none => false
theorem shapeB_ok {d : PD} (h : shapeB d = true) : ∃ sh, ShpOk sh ∧ d = shpD sh := by
  unfold shapeB at h
  split at h
  · rename_i sh e
    exact ⟨sh, shpB_ok h, unS_is d sh e⟩
  · cases h
/-- what the text's shapes are -/
def shapeE : Expr := match defBody s_law_shape with
  | [.Return (some (.Call _ [_, e] _ _)) _] => e
  | _ => .Constant .none 0 ⟨0, 0, 0, 0⟩
def shapesB : Bool := match cst 9 shapeE with
  | some (.list xs) => xs.all shapeB && decide (1 ≤ xs.length) && decide (xs.length ≤ 1000)
  | _ => false
theorem shapes_all : shapesB = true := by decide +kernel
theorem shapes_ex : ∃ xs, cst 9 shapeE = some (.list xs) ∧ 1 ≤ xs.length ∧ xs.length ≤ 1000 ∧ ∀ d ∈ xs, ∃ sh, ShpOk sh ∧ d = shpD sh := by
  have h := shapes_all
  unfold shapesB at h
  split at h
  · rename_i xs e
    simp only [Bool.and_eq_true, decide_eq_true_eq, List.all_eq_true] at h
    exact ⟨xs, e, h.1.2, h.2, fun d hd => shapeB_ok (h.1.1 d hd)⟩
  · cases h
section
variable {P : Program} {w : World} {K : PySem.W.Frag} {mg : Str → Option Value} {base : Heap}
theorem sc_law_shape : FnScope ["_law_feed_here"] ["_law_feed_here"] (defScope s_law_shape) := ⟨rfl, rfl, rfl, by decide +kernel, rfl, by decide +kernel, by decide +kernel⟩
def Pre_shape : KK → List PD → Prop := fun kk ds => ∃ n : Nat, FeedOk n kk ∧ n ≤ 1000 ∧ ds = []
def Post_shape : KK → List PD → PD → KK → Prop := fun kk ds d kk' => (∃ sh, ShpOk sh ∧ d = shpD sh) ∧ ∀ n, FeedOk n kk → FeedOk (n + 1) kk'
theorem f_law_shape (Fa : FnF P w K mg base 2 "_law_any" Pre_any Post_any) (F : At K mg "_law_shape" s_law_shape) : FnF P w K mg base 3 "_law_shape" Pre_shape Post_shape := by
  refine fn_atF F sc_law_shape (fun _ _ _ _ _ _ us hl => match us, hl with | [_], _ => rfl) (fun kk ds h => ?_) (fun f cdv A outer s H E hr a kk ds h => ?_)
  · obtain ⟨n, _, _, rfl⟩ := h
    rfl
  · obtain ⟨n, hk, hn, rfl⟩ := h
    obtain ⟨xs, e, x1, x2, hx⟩ := shapes_ex
    refine sv_retF (i := 0) (R := Post_any kk [.list xs]) ?_ rfl (fun d kk' r => ?_)
    · refine ef_call (i := 0) (ds := [.list xs]) Fa (hr.mono (by decide)) rfl ?_ ⟨n, xs, hk, hn, x1, x2, rfl⟩
      refine ea_cst (f := cst 9) (fun e d h => ev_cst 9 e d h) (fun e d h es => cst_star h es _) _ _ ?_
      unfold mapO
      rw [show cst 9 _ = _ from Eq.trans (b := cst 9 shapeE) (by kernel_rfl) e]
      rfl
    obtain ⟨ys, e1, e2, e3⟩ := r
    cases e1
    exact ⟨kk', rfl, hx d e2, e3⟩
end
end G
set_option Elab.async false
set_option linter.all false
set_option maxRecDepth 100000
set_option maxHeartbeats 4000000
/-! Drawn shapes. -/
namespace G
open PySem PySem.Spec PyProof.Rows L2 Hd Bm
def Adv (c : Nat) (kk kk' : KK) : Prop := ∀ n, FeedOk n kk → FeedOk (n + c) kk'
theorem Adv.refl (kk : KK) : Adv 0 kk kk := fun _ h => h
theorem Adv.trans {a b : Nat} {k1 k2 k3 : KK} (h : Adv a k1 k2) (g : Adv b k2 k3) : Adv (a + b) k1 k3 := fun n q => by
  rw [← Nat.add_assoc]
  exact g _ (h n q)
theorem Adv.mono {a b : Nat} {k1 k2 : KK} (h : Adv a k1 k2) (l : a ≤ b) : Adv b k1 k2 := fun n q => (h n q).mono (by omega)
def DrawI (m : Nat) (kk : KK) : Int → KK → Prop := fun n kk' => ∃ v : Nat, n = (v : Int) ∧ v < m ∧ Adv 1 kk kk'
section
variable {X : Cx} {ρ : Ro} {e : Expr} {p pos py : Pos}
theorem ef_draw {i n m : Nat} {y : Str} {a : Addr} {kk : KK} (Fd : FnF X.prog X.w X.K X.mg X.base 1 "_law_draw" Pre_draw Post_draw) (hr : Room 1 X.A) (hρ : ρ[i]? = some (some (.o (.f a kk)))) (ha : EvD X e ρ (dI m)) (hk : FeedOk n kk) (hn : n ≤ 1000) (m1 : 1 ≤ m) (m2 : m ≤ 1000)
    (hN : X.N[i]? = some y := by rfl) (hv : Vis X.env.scope y := by first | exact Or.inl rfl | exact Or.inr (Or.inl rfl) | exact Or.inr (Or.inr rfl)) (hd : (y == ("__debug__" : Str)) = false := by decide) (hcd : (y == ("__classdict__" : Str)) = false := by decide)
    (hg : Gl X "_law_draw" := by rfl) (he : starEach [.Name y py, e] X.env = (false, eval (.Name y py) X.env) :: starEach [e] X.env := by rfl) (he2 : starEach [e] X.env = (false, eval e X.env) :: starEach [] X.env := by rfl) (hpl : (backTo pos (starEach [e] X.env)).any (·.1) = false := by rfl) :
    EvF X (.Call (.Name "_law_draw" p) [.Name y py, e] [] pos) ρ i (fun d kk' => ∃ n : Int, d = .int n ∧ DrawI m kk n kk') :=
  (ef_call (i := i) Fd hr hρ (ea_cons ha ea_nil he2) ⟨n, m, hk, hn, m1, m2, rfl⟩ hN hv hd hcd hg (by decide) he hpl).weak fun d kk' r => by
    obtain ⟨m', v, e1, e2, e3, e4⟩ := r
    have : m = m' := Int.ofNat.inj (PyData.int.inj (List.cons.inj e1).1)
    subst this
    exact ⟨_, e2, v, rfl, e3, e4⟩
end
def RowOk (m : Nat) (r : List (Int × Int)) : Prop := 2 ≤ r.length ∧ r.length ≤ 4 ∧ ∀ q ∈ r, 1 ≤ q.1 ∧ q.1 ≤ 9 ∧ -1 ≤ q.2 ∧ q.2 < (m : Nat)
def rowD (r : List (Int × Int)) : PD := .list (r.map pairD)
section
variable {P : Program} {w : World} {K : PySem.W.Frag} {mg : Str → Option Value} {base : Heap}
theorem sc_law_drawn : FnScope ["_law_feed_here", "_law_contexts", "_law_entries", "_law_most", "_law_found", "_law_many", "_law_k", "_law_row", "_law_rare", "_law_m", "_law_count"] ["_law_feed_here", "_law_contexts", "_law_entries", "_law_most"] (defScope s_law_drawn) := ⟨rfl, rfl, rfl, by decide +kernel, rfl, by decide +kernel, by decide +kernel⟩
def Pre_drawn : KK → List PD → Prop := fun kk ds => ∃ n : Nat, FeedOk n kk ∧ n ≤ 900 ∧ ds = [dI 2, dI 4, dI 9]
def Post_drawn : KK → List PD → PD → KK → Prop := fun kk ds d kk' => (∃ sh, ShpOk sh ∧ d = shpD sh) ∧ Adv 29 kk kk'
theorem f_law_drawn (B : Blt mg) (Fd : FnF P w K mg base 1 "_law_draw" Pre_draw Post_draw) (F : At K mg "_law_drawn" s_law_drawn) : FnF P w K mg base 2 "_law_drawn" Pre_drawn Post_drawn := by
  refine fn_atF F sc_law_drawn (fun _ _ _ _ _ _ us hl => match us, hl with | [_, _, _, _], _ => rfl) (fun kk ds h => ?_) (fun f cdv A outer s H E hr a kk ds h => ?_)
  · obtain ⟨n, _, _, rfl⟩ := h
    rfl
  · obtain ⟨n, hk, hn, rfl⟩ := h
    have hr1 : Room 1 (A.deeper (envOfC "_law_drawn" (defScope s_law_drawn) s.heap.objs.size f cdv)) := hr.mono (by decide)
    refine sv_parOF (i := 0) 4 5 (eo_lst ea_nil) (ef_addI ev_int (ef_draw Fd hr1 rfl (nm 1) hk (by omega) (by decide) (by decide))) rfl (fun d2 k2 r => ?_)
    obtain ⟨_, rfl, v, rfl, v2, ad⟩ := r
    have eM : (1 : Int) + (v : Int) = ((1 + v : Nat) : Int) := by omega
    rw [eM]
    generalize hM : 1 + v = M at *
    have M1 : 1 ≤ M := by omega
    have M2 : M ≤ 2 := by omega
    clear eM hM v2
    refine sv_for (it_range1 (n := ((M : Nat) : Int)) B.range (by omega) (nm 5)) (fun j r => ∃ kk' sh a6 a7 a8 a9 a10, r = [some (.o (.f a kk')), some (.d (dI 2)), some (.d (dI 4)), some (.d (dI 9)), some (.o (.l (sh.map rowD))), some (.d (dI M)), a6, a7, a8, a9, a10] ∧ sh.length = j ∧ (∀ r ∈ sh, RowOk M r) ∧ Adv (1 + 14 * j) kk kk') ⟨k2, [], none, none, none, none, none, rfl, rfl, fun _ h => (nomatch h), ad⟩ (fun j d r hj hp => ?_) (fun r hp => ?_)
    · obtain ⟨k3, sh, a6, a7, a8, a9, a10, rfl, hl, hsh, ad3⟩ := hp
      obtain ⟨rfl, hjl⟩ := rangeD_at hj
      rw [Int.toNat_natCast] at hjl
      rw [Int.zero_add]
      have fk3 := ad3 n hk
      refine ⟨_, bd_nm 6, ?_⟩
      refine sv_parOF (i := 0) 7 8 (eo_lst ea_nil) (ef_draw (m := 3) Fd hr1 rfl ev_int fk3 (by omega) (by decide) (by decide)) rfl (fun d2 k4 r => ?_)
      obtain ⟨_, rfl, v8, rfl, v83, ad4⟩ := r
      have fk4 := ad4 _ fk3
      refine sv_forF (i := 0) (kk := k4) (a0 := a) (S := fun x kk' => ∃ y : Int, x = 2 + y ∧ DrawI 3 k4 y kk') B.range ((ef_addI ev_int (ef_draw (m := 3) Fd hr1 rfl (ev_sub (i := ((4 : Nat) : Int)) (j := 1) (nm 2) ev_int) fk4 (by omega) (by decide) (by decide))).weak fun d kk' q => ?_) (fun x kk' q => ?_) rfl (fun x k5 q => ?_)
      · obtain ⟨y, rfl, q⟩ := q
        exact ⟨_, rfl, y, rfl, q⟩
      · obtain ⟨y, rfl, v, rfl, v3, _⟩ := q
        omega
      obtain ⟨y, rfl, v, rfl, v3, ad5⟩ := q
      have fk5 := ad5 _ fk4
      refine ⟨fun l r => ∃ kk' row b9 b10, r = [some (.o (.f a kk')), some (.d (dI 2)), some (.d (dI 4)), some (.d (dI 9)), some (.o (.l (sh.map rowD))), some (.d (dI M)), some (.d (dI j)), some (.o (.l (row.map pairD))), some (.d (dI v8)), b9, b10] ∧ row.length = l ∧ (∀ q ∈ row, 1 ≤ q.1 ∧ q.1 ≤ 9 ∧ -1 ≤ q.2 ∧ q.2 < ((M : Nat) : Int)) ∧ Adv (3 * l) k5 kk', ⟨k5, [], a9, a10, rfl, rfl, fun _ h => (nomatch h), Adv.refl k5⟩, fun l r hl2 hp => ?_, fun r hp => ?_⟩
      · obtain ⟨k6, row, b9, b10, rfl, hrl, hrow, ad6⟩ := hp
        have l4 : l < 4 := by omega
        have fk6 := ad6 _ fk5
        refine ⟨_, bd_nm 9, ?_⟩
        have hmm : (if v8 = 0 then 9 else 3) ≤ 9 ∧ 1 ≤ (if v8 = 0 then 9 else 3) := by
          split <;> omega
        generalize hmd : (if v8 = 0 then 9 else 3) = mm at hmm
        refine sv_asgF (i := 0) 10 (ef_addI ev_int (ef_draw (m := mm) Fd hr1 rfl (ev_if (k := decide (((v8 : Nat) : Int) = 0)) (et_cmp c_eqI (nm 8) ev_int) (fun h => ?_) (fun h => ?_)) fk6 (by omega) hmm.2 (by omega))) rfl (fun d k7 q => ?_)
        · have h0 := of_decide_eq_true h
          rw [if_pos (by omega)] at hmd
          subst hmd
          exact nm 3
        · have h0 := of_decide_eq_false h
          rw [if_neg (by omega)] at hmd
          subst hmd
          exact ev_int
        obtain ⟨_, rfl, vc, rfl, vc9, ad7⟩ := q
        have fk7 := ad7 _ fk6
        refine sv_appF (i := 0) 7 (xs := row.map pairD) (R := fun d kk' => ∃ d2, d = .tuple [.int (1 + (vc : Int)), d2] ∧ ∃ g : Int, d2 = .int g ∧ -1 ≤ g ∧ g < ((M : Nat) : Int) ∧ Adv 2 k7 kk') (ef_tup2 (nm 10) (ef_if (S := fun k kk' => ∃ z, DrawI 4 k7 z kk' ∧ k = decide (z = 0)) (etf_eq (S := DrawI 4 k7) (ef_draw (m := 4) Fd hr1 rfl ev_int fk7 (by omega) (by decide) (by decide)) (fun kk' => ev_int)) (fun kk' q => ?_) (fun kk' q => ?_))) (by rw [List.length_map]; omega) (fun d k8 q => ?_) rfl
        · obtain ⟨z, ⟨v, rfl, v4, ad8⟩, _⟩ := q
          refine (EvD.f (d := .int (-1)) (ev_neg ev_int)).weak fun d k9 q => ?_
          obtain ⟨rfl, a', q⟩ := q
          cases q
          exact ⟨-1, rfl, by omega, by omega, ad8.mono (by decide)⟩
        · obtain ⟨z, ⟨v, rfl, v4, ad8⟩, _⟩ := q
          refine (ef_draw (m := M) (kk := kk') (a := a) Fd hr1 rfl (nm 5) (ad8 _ fk7) (by omega) M1 (by omega)).weak fun d k9 q => ?_
          obtain ⟨g, rfl, vg, rfl, vgM, ad9⟩ := q
          exact ⟨_, rfl, by omega, by omega, ad8.trans ad9⟩
        obtain ⟨_, rfl, g, rfl, g1, g2, ad8⟩ := q
        refine sv_nil ⟨k8, row ++ [(1 + (vc : Int), g)], some (.d (.int (l : Int))), some (.d (.int (1 + (vc : Int)))), ?_, ?_, fun q hq => ?_, ((ad6.trans ad7).trans ad8).mono (by omega)⟩
        · rw [List.map_append]
          rfl
        · rw [List.length_append, hrl]
          rfl
        · rcases List.mem_append.mp hq with hq | hq
          · exact hrow q hq
          · rw [List.mem_singleton] at hq
            subst hq
            exact ⟨by show (1 : Int) ≤ 1 + (vc : Int); omega, by show 1 + (vc : Int) ≤ 9; omega, g1, g2⟩
      · obtain ⟨k6, row, b9, b10, rfl, hrl, hrow, ad6⟩ := hp
        refine sv_frz 7 ?_
        refine sv_app 4 (xs := sh.map rowD) (d := rowD row) (nm 7) (by rw [List.length_map]; omega) (sv_nil ⟨k6, sh ++ [row], some (.d (dI j)), some (.d (rowD row)), some (.d (dI v8)), b9, b10, ?_, ?_, fun q hq => ?_, (((ad3.trans ad4).trans ad5).trans ad6).mono (by omega)⟩)
        · rw [List.map_append]
          rfl
        · rw [List.length_append, hl]
          rfl
        · rcases List.mem_append.mp hq with hq | hq
          · exact hsh q hq
          · rw [List.mem_singleton] at hq
            subst hq
            exact ⟨by omega, by omega, hrow⟩
    · obtain ⟨k3, sh, a6, a7, a8, a9, a10, rfl, hl, hsh, ad3⟩ := hp
      rw [rangeD_len, Int.toNat_natCast] at hl ad3
      refine sv_frz 4 ?_
      exact sv_ret (nm 4) ⟨k3, rfl, ⟨sh, ⟨by omega, by omega, fun r hr => by rw [hl]; exact hsh r hr⟩, rfl⟩, ad3.mono (by omega)⟩
end
end G
set_option Elab.async false
set_option linter.all false
set_option maxRecDepth 100000
set_option maxHeartbeats 4000000
/-! Random coders. -/
namespace G
open PySem PySem.Spec PyProof.Rows L2 Hd Bm
section
variable {X : Cx} {ρ : Ro} {c : Expr} {i : Nat} {kk : KK} {p : Pos} {rest : List Stmt} {P : Po}
/-- an if by the feed's, both ways join -/
theorem sv_ifFdJ {a0 : Addr} {S : Bool → KK → Prop} {x y : List Stmt} (J : Ro → Prop) (h : EvTF X c ρ i S) (hρ : ρ[i]? = some (some (.o (.f a0 kk)))) (h1 : ∀ kk', S true kk' → SEv X x (ρ.set i (some (.o (.f a0 kk')))) { P with nx := J }) (h2 : ∀ kk', S false kk' → SEv X y (ρ.set i (some (.o (.f a0 kk')))) { P with nx := J }) (hJ : ∀ r, J r → SEv X rest r P) : SEv X (.If c x y p :: rest) ρ P :=
  sv_one (ps_if pt_w pss_w pss_w) fun ok b I H σ D S E => h a0 kk hρ ok b I H σ S _ fun k kk' I1 H1 s f => by
    have E' : En X.K b { P with nx := J } { D with nx := WSs X rest D } := ⟨fun r I2 H2 σ2 hr S2 => hJ r hr ok b I2 H2 σ2 D S2 E, E.rt, E.bk, E.ct, E.ro⟩
    have S1 := S.feed hρ f
    cases k with
    | true =>
      rw [if_pos rfl]
      exact h1 kk' s ok b I1 H1 σ _ S1 E'
    | false =>
      rw [if_neg Bool.false_ne_true]
      exact h2 kk' s ok b I1 H1 σ _ S1 E'
end
/-! pools of letters -/
def poolB (z : Str) : Bool := decide (5 ≤ z.cps.toList.length) && decide (z.length ≤ 1000) && (z.cps.toList.take 5).all (fun c => decide (97 ≤ c) && decide (c ≤ 122)) && decide (z.cps.toList.take 5).Nodup
structure PoolOk (z : Str) (f : Nat → Nat) : Prop where
  at_ : ∀ i, i < 5 → z.cps.toList[i]? = some (f i)
  sz : z.length ≤ 1000
  r : ∀ i, i < 5 → 97 ≤ f i ∧ f i ≤ 122
  inj : ∀ i j, i < 5 → j < 5 → f i = f j → i = j
theorem poolB_ok {z : Str} (h : poolB z = true) : ∃ f, PoolOk z f := by
  unfold poolB at h
  simp only [Bool.and_eq_true, decide_eq_true_eq, List.all_eq_true] at h
  obtain ⟨⟨⟨h1, h2⟩, h3⟩, h4⟩ := h
  generalize el : z.cps.toList = l at *
  have tl : (l.take 5).length = 5 := by
    rw [List.length_take]
    omega
  have ta : ∀ i (hi : i < 5), (l.take 5)[i]'(by omega) = l[i]'(by omega) := fun i hi => List.getElem_take
  refine ⟨fun i => l.getD i 0, fun i hi => ?_, h2, fun i hi => ?_, fun i j hi hj e => ?_⟩
  · rw [el, List.getD_eq_getElem?_getD, List.getElem?_eq_getElem (by omega)]
    rfl
  · show 97 ≤ l.getD i 0 ∧ l.getD i 0 ≤ 122
    rw [List.getD_eq_getElem?_getD, List.getElem?_eq_getElem (by omega)]
    have := h3 _ (List.getElem_mem (l := l.take 5) (n := i) (by omega))
    rw [ta i hi] at this
    exact this
  · have e : l.getD i 0 = l.getD j 0 := e
    rw [List.getD_eq_getElem?_getD, List.getElem?_eq_getElem (by omega), List.getD_eq_getElem?_getD, List.getElem?_eq_getElem (by omega)] at e
    have e : l[i]'(by omega) = l[j]'(by omega) := e
    rw [← ta i hi, ← ta j hj] at e
    exact (List.getElem_inj h4).mp e
def idx (t k : Nat) : Nat := (k * (1 + t / 2) + t) % 5
theorem idx_lt (t k : Nat) : idx t k < 5 := Nat.mod_lt _ (by decide)
theorem idx_inj : ∀ t < 4, ∀ k < 4, ∀ j < 4, idx t k = idx t j → k = j := by decide
/-- the entry of a drawn pair -/
def entOf (f : Nat → Nat) (t k : Nat) (q : Int × Int) : Ent := ⟨f (idx t k), q.1.toNat, if q.2 < 0 then none else some q.2.toNat⟩
def entsOf (f : Nat → Nat) (t : Nat) (r : List (Int × Int)) : List Ent := r.mapIdx fun k q => entOf f t k q
theorem entsOf_len (f : Nat → Nat) (t : Nat) (r : List (Int × Int)) : (entsOf f t r).length = r.length := List.length_mapIdx
theorem entsOf_at {f : Nat → Nat} {t : Nat} {r : List (Int × Int)} {k : Nat} {q : Int × Int} (h : r[k]? = some q) : (entsOf f t r)[k]? = some (entOf f t k q) := by
  unfold entsOf
  rw [List.getElem?_mapIdx, h]
  rfl
def EsOk (m : Nat) (es : List Ent) : Prop := (2 ≤ es.length ∧ es.length ≤ 4) ∧ (∀ e ∈ es, okEnt m e) ∧ (es.map Ent.c).Nodup
theorem entsOf_ok {z : Str} {f : Nat → Nat} (pf : PoolOk z f) {t m : Nat} (ht : t < 4) {r : List (Int × Int)} (h : RowOk m r) : EsOk m (entsOf f t r) := by
  obtain ⟨h1, h2, h3⟩ := h
  refine ⟨by rw [entsOf_len]; exact ⟨h1, h2⟩, fun e he => ?_, ?_⟩
  · obtain ⟨k, hk⟩ := List.mem_iff_getElem?.mp he
    have hl : k < r.length := by
      have := (List.getElem?_eq_some_iff.mp hk).1
      rw [entsOf_len] at this
      exact this
    have hq : r[k]? = some r[k] := List.getElem?_eq_getElem hl
    rw [entsOf_at hq] at hk
    cases hk
    obtain ⟨q1, q2, q3, q4⟩ := h3 _ (List.getElem_mem hl)
    refine ⟨?_, ?_, pf.r _ (idx_lt _ _), fun j hj => ?_⟩
    · show 1 ≤ (r[k].1).toNat
      omega
    · show (r[k].1).toNat ≤ 9
      omega
    · have hj : (if r[k].2 < 0 then none else some (r[k].2).toNat) = some j := hj
      split at hj
      · cases hj
      · cases hj
        omega
  · refine List.pairwise_iff_getElem.mpr fun i j hi' hj' hij => ?_
    have hi := hi'
    have hj := hj'
    rw [List.length_map, entsOf_len] at hi hj
    have ei : r[i]? = some r[i] := List.getElem?_eq_getElem hi
    have ej : r[j]? = some r[j] := List.getElem?_eq_getElem hj
    intro e
    have e := congrArg some e
    rw [← List.getElem?_eq_getElem hi', ← List.getElem?_eq_getElem hj', List.getElem?_map, List.getElem?_map, entsOf_at ei, entsOf_at ej] at e
    have e : f (idx t i) = f (idx t j) := Option.some.inj e
    have := idx_inj t ht i (by omega) j (by omega) (pf.inj _ _ (idx_lt _ _) (idx_lt _ _) e)
    omega
section
variable {P : Program} {w : World} {K : PySem.W.Frag} {mg : Str → Option Value} {base : Heap}
theorem sc_law_coder : FnScope ["_law_feed_here", "_law_sizes", "_law_contexts", "_law_entries", "_law_most", "_law_size", "_law_manner", "_law_division", "_law_shape_here", "_law_pool", "_law_found", "_law_row", "_law_turn", "_law_signs", "_law_k", "_law_count", "_law_goes", "_law_letter"] ["_law_feed_here", "_law_sizes", "_law_contexts", "_law_entries", "_law_most"] (defScope s_law_coder) := ⟨rfl, rfl, rfl, by decide +kernel, rfl, by decide +kernel, by decide +kernel⟩
def Pre_coder : KK → List PD → Prop := fun kk ds => ∃ n : Nat, FeedOk n kk ∧ n ≤ 800 ∧ ds = [.list [dI 2, dI 3, dI 3, dI 4], dI 2, dI 4, dI 9]
def Post_coder : KK → List PD → PD → KK → Prop := fun kk ds d kk' => (∃ c, Wf c ∧ d = dCod c) ∧ Adv 40 kk kk'
theorem f_law_coder (B : Blt mg) (Fd : FnF P w K mg base 1 "_law_draw" Pre_draw Post_draw) (Fa : FnF P w K mg base 2 "_law_any" Pre_any Post_any) (Fs : FnF P w K mg base 3 "_law_shape" Pre_shape Post_shape) (Fr : FnF P w K mg base 2 "_law_drawn" Pre_drawn Post_drawn)
    (F : At K mg "_law_coder" s_law_coder) : FnF P w K mg base 4 "_law_coder" Pre_coder Post_coder := by
  refine fn_atF F sc_law_coder (fun _ _ _ _ _ _ us hl => match us, hl with | [_, _, _, _, _], _ => rfl) (fun kk ds h => ?_) (fun f cdv A outer s H E hr a kk ds h => ?_)
  · obtain ⟨n, _, _, rfl⟩ := h
    rfl
  · obtain ⟨n, hk, hn, rfl⟩ := h
    have hr1 : Room 1 (A.deeper (envOfC "_law_coder" (defScope s_law_coder) s.heap.objs.size f cdv)) := hr.mono (by decide)
    refine sv_parFF (i := 0) 5 6 (R1 := fun d k1 => (∃ s : Nat, 2 ≤ s ∧ s ≤ 4 ∧ d = dI s) ∧ Adv 1 kk k1) (R2 := fun d k2 => (∃ m, d = .str (manS m)) ∧ Adv 2 kk k2)
      ((ef_call (i := 0) Fa (hr.mono (by decide)) rfl (ea_cons (nm 1) ea_nil) ⟨n, _, hk, by omega, by decide, by decide, rfl⟩).weak fun d k1 r => ?_)
      (fun d k1 r => (ef_call (i := 0) Fa (hr.mono (by decide)) rfl (ea_cons (eo_lst (ea_cons ev_str (ea_cons ev_str (ea_cons ev_str (ea_cons ev_str ea_nil))))).data ea_nil) ⟨n + 1, _, r.2 n hk, by omega, by decide, by decide, rfl⟩).weak fun d k2 r2 => ?_) rfl (fun d1 k1 d2 k2 r1 r2 => ?_)
    · obtain ⟨xs, e1, e2, e3⟩ := r
      cases e1
      refine ⟨?_, e3⟩
      rcases List.mem_cons.mp e2 with rfl | e2
      · exact ⟨2, by decide, by decide, rfl⟩
      rcases List.mem_cons.mp e2 with rfl | e2
      · exact ⟨3, by decide, by decide, rfl⟩
      rcases List.mem_cons.mp e2 with rfl | e2
      · exact ⟨3, by decide, by decide, rfl⟩
      rcases List.mem_cons.mp e2 with rfl | e2
      · exact ⟨4, by decide, by decide, rfl⟩
      · cases e2
    · obtain ⟨xs, e1, e2, e3⟩ := r2
      cases e1
      refine ⟨?_, r.2.trans e3⟩
      rcases List.mem_cons.mp e2 with rfl | e2
      · exact ⟨.plain, rfl⟩
      rcases List.mem_cons.mp e2 with rfl | e2
      · exact ⟨.pending, rfl⟩
      rcases List.mem_cons.mp e2 with rfl | e2
      · exact ⟨.cut, rfl⟩
      rcases List.mem_cons.mp e2 with rfl | e2
      · exact ⟨.late, rfl⟩
      · cases e2
    obtain ⟨⟨sz, s2, s4, rfl⟩, ad1⟩ := r1
    obtain ⟨⟨mn, rfl⟩, ad2⟩ := r2
    clear ad1 k1
    have fk2 := ad2 n hk
    refine sv_asgF (i := 0) 7 (R := fun d k => (∃ b, d = .str (divS b)) ∧ Adv 1 k2 k) (ef_if (S := fun k kk' => ∃ z, DrawI 3 k2 z kk' ∧ k = decide (z = 0)) (etf_eq (S := DrawI 3 k2) (ef_draw (m := 3) Fd hr1 rfl ev_int fk2 (by omega) (by decide) (by decide)) (fun kk' => ev_int)) (fun kk' q => ?_) (fun kk' q => ?_)) rfl (fun d k3 q => ?_)
    · obtain ⟨z, ⟨v, rfl, v4, ad⟩, _⟩ := q
      refine (EvD.f ev_str).weak fun d k9 q => ?_
      obtain ⟨rfl, a', q⟩ := q
      cases q
      exact ⟨⟨false, rfl⟩, ad⟩
    · obtain ⟨z, ⟨v, rfl, v4, ad⟩, _⟩ := q
      refine (EvD.f ev_str).weak fun d k9 q => ?_
      obtain ⟨rfl, a', q⟩ := q
      cases q
      exact ⟨⟨true, rfl⟩, ad⟩
    obtain ⟨⟨fine, rfl⟩, ad3⟩ := q
    have fk3 := ad3 _ fk2
    refine sv_asgF (i := 0) 8 (ef_call (i := 0) Fs (hr.mono (by decide)) rfl ea_nil ⟨_, fk3, by omega, rfl⟩) rfl (fun d k4 q => ?_)
    obtain ⟨⟨sh0, hsh0, rfl⟩, ad4⟩ := q
    have fk4 := ad4 _ fk3
    refine sv_ifFdJ (i := 0) (kk := k4) (a0 := a) (S := fun k kk' => ∃ z, DrawI 2 k4 z kk' ∧ k = decide (z = 0)) (fun r => ∃ k5 sh b9 b10 b11 b12 b13 b14 b15 b16 b17, r = [some (.o (.f a k5)), some (.d (.list [dI 2, dI 3, dI 3, dI 4])), some (.d (dI 2)), some (.d (dI 4)), some (.d (dI 9)), some (.d (dI sz)), some (.d (.str (manS mn))), some (.d (.str (divS fine))), some (.d (shpD sh)), b9, b10, b11, b12, b13, b14, b15, b16, b17] ∧ ShpOk sh ∧ Adv 30 k4 k5)
      (etf_eq (S := DrawI 2 k4) (ef_draw (m := 2) Fd hr1 rfl ev_int fk4 (by omega) (by decide) (by decide)) (fun kk' => ev_int)) rfl (fun k5 q => ?_) (fun k5 q => ?_) (fun r q => ?_)
    · obtain ⟨z, ⟨v, rfl, v4, ad5⟩, _⟩ := q
      refine sv_asgF (i := 0) 8 (ef_call (i := 0) Fr (hr.mono (by decide)) rfl (ea_cons (nm 2) (ea_cons (nm 3) (ea_cons (nm 4) ea_nil))) ⟨_, ad5 _ fk4, by omega, rfl⟩) rfl (fun d k6 q => ?_)
      obtain ⟨⟨sh, hsh, rfl⟩, ad6⟩ := q
      exact sv_nil ⟨k6, sh, _, _, _, _, _, _, _, _, _, rfl, hsh, (ad5.trans ad6).mono (by decide)⟩
    · obtain ⟨z, ⟨v, rfl, v4, ad5⟩, _⟩ := q
      exact sv_nil ⟨k5, sh0, _, _, _, _, _, _, _, _, _, rfl, hsh0, ad5.mono (by decide)⟩
    obtain ⟨k5, sh, b9, b10, b11, b12, b13, b14, b15, b16, b17, rfl, hsh, ad5⟩ := q
    have fk5 := ad5 _ fk4
    clear hsh0 sh0
    refine sv_parFO (i := 0) 9 10 (R1 := fun d k6 => (∃ z f, PoolOk z f ∧ d = .str z) ∧ Adv 1 k5 k6) ((ef_call (i := 0) Fa (hr.mono (by decide)) rfl (ea_cons (eo_lst (ea_cons ev_str (ea_cons ev_str (ea_cons ev_str (ea_cons ev_str ea_nil))))).data ea_nil) ⟨_, _, fk5, by omega, by decide, by decide, rfl⟩).weak fun d k6 r => ?_) (fun kk' => eo_lst ea_nil) rfl (fun d k6 q => ?_)
    · obtain ⟨xs, e1, e2, e3⟩ := r
      cases e1
      refine ⟨?_, e3⟩
      rcases List.mem_cons.mp e2 with rfl | e2
      · obtain ⟨f, hf⟩ := poolB_ok (z := "abcdef") (by decide +kernel)
        exact ⟨_, f, hf, rfl⟩
      rcases List.mem_cons.mp e2 with rfl | e2
      · obtain ⟨f, hf⟩ := poolB_ok (z := "zyxwv") (by decide +kernel)
        exact ⟨_, f, hf, rfl⟩
      rcases List.mem_cons.mp e2 with rfl | e2
      · obtain ⟨f, hf⟩ := poolB_ok (z := "eabcd") (by decide +kernel)
        exact ⟨_, f, hf, rfl⟩
      rcases List.mem_cons.mp e2 with rfl | e2
      · obtain ⟨f, hf⟩ := poolB_ok (z := "pqrst") (by decide +kernel)
        exact ⟨_, f, hf, rfl⟩
      · cases e2
    obtain ⟨⟨z, lt, pf, rfl⟩, ad6⟩ := q
    have fk6 := ad6 _ fk5
    generalize hM : sh.length = M
    have M1 : 1 ≤ M := by rw [← hM]; exact hsh.c1
    have M2 : M ≤ 2 := by rw [← hM]; exact hsh.c2
    have hrow : ∀ r ∈ sh, RowOk M r := fun r h => by
      rw [← hM]
      exact hsh.r r h
    refine sv_for (it_list (ds := sh.map rowD) (nm 8)) (fun j r => ∃ k7 cs b11 b12 b13 b14 b15 b16 b17, r = [some (.o (.f a k7)), some (.d (.list [dI 2, dI 3, dI 3, dI 4])), some (.d (dI 2)), some (.d (dI 4)), some (.d (dI 9)), some (.d (dI sz)), some (.d (.str (manS mn))), some (.d (.str (divS fine))), some (.d (shpD sh)), some (.d (.str z)), some (.o (.l (cs.map dCtx))), b11, b12, b13, b14, b15, b16, b17] ∧ cs.length = j ∧ (∀ es ∈ cs, EsOk M es) ∧ Adv j k6 k7)
      ⟨k6, [], _, _, _, _, _, _, _, rfl, rfl, fun _ h => (nomatch h), Adv.refl k6⟩ (fun j d r hj hp => ?_) (fun r hp => ?_)
    · obtain ⟨k7, cs, b11, b12, b13, b14, b15, b16, b17, rfl, hcl, hcs, ad7⟩ := hp
      rw [List.getElem?_map] at hj
      have hjl : j < sh.length := by
        by_cases q : j < sh.length
        · exact q
        · rw [List.getElem?_eq_none (by omega)] at hj
          cases hj
      rw [List.getElem?_eq_getElem hjl] at hj
      cases hj
      have hR := hrow _ (List.getElem_mem hjl)
      generalize sh[j] = rw_ at hR
      have fk7 := ad7 _ fk6
      refine ⟨_, bd_nm 11, ?_⟩
      refine sv_parFO (i := 0) 12 13 (ef_draw (m := 4) Fd hr1 rfl ev_int fk7 (by omega) (by decide) (by decide)) (fun kk' => eo_lst ea_nil) rfl (fun d k8 q => ?_)
      obtain ⟨_, rfl, t, rfl, t4, ad8⟩ := q
      have rl : rw_.length ≤ 4 := hR.2.1
      refine sv_for (it_range1 (n := (((rw_.map pairD).length : Nat) : Int)) B.range (by rw [List.length_map]; omega) (ev_lenL B.len (nm 11))) (fun l r => ∃ b14 b15 b16 b17, r = [some (.o (.f a k8)), some (.d (.list [dI 2, dI 3, dI 3, dI 4])), some (.d (dI 2)), some (.d (dI 4)), some (.d (dI 9)), some (.d (dI sz)), some (.d (.str (manS mn))), some (.d (.str (divS fine))), some (.d (shpD sh)), some (.d (.str z)), some (.o (.l (cs.map dCtx))), some (.d (rowD rw_)), some (.d (dI t)), some (.o (.l (((entsOf lt t rw_).take l).map dEnt))), b14, b15, b16, b17])
        ⟨_, _, _, _, rfl⟩ (fun l d r hl hp => ?_) (fun r hp => ?_)
      · obtain ⟨b14, b15, b16, b17, rfl⟩ := hp
        obtain ⟨rfl, hll⟩ := rangeD_at hl
        rw [Int.toNat_natCast, List.length_map] at hll
        rw [Int.zero_add]
        have hq : rw_[l]? = some rw_[l] := List.getElem?_eq_getElem hll
        obtain ⟨q1, q2, q3, q4⟩ := hR.2.2 _ (List.getElem_mem hll)
        have he := entsOf_at (f := lt) (t := t) hq
        generalize rw_[l] = q at hq q1 q2 q3 q4 he
        refine ⟨_, bd_nm 14, ?_⟩
        refine sv_bind (d := pairD q) (ev_ixL (ds := rw_.map pairD) (nm 11) (nm 14) (atI_nat (by rw [List.getElem?_map, hq]; rfl))) (bd_tup (bds_cons (bd_nm 15) (bds_cons (bd_nm 16) bds_nil))) ?_
        refine sv_asg 17 (d := .str (sgn (lt (idx t l)))) (ev_ixS (z := z) (n := ((idx t l : Nat) : Int)) (Nat.le_trans pf.sz (by decide)) (nm 9) (ev_is (ev_mod (i := (l : Int) * (1 + (t : Int) / 2) + (t : Int)) (j := 5) (by decide) (ev_int1 B.int (ev_add (ev_mul (mulI 10 10 (by omega) (by omega)) (nm 14) (ev_add (i := 1) (j := (t : Int) / 2) ev_int (ev_div (i := (t : Int)) (j := 2) ⟨by decide, by decide +kernel⟩ (nm 12) ev_int))) (nm 12))) ev_int) ?_) (atI_nat (pf.at_ _ (idx_lt _ _)))) ?_
        · refine congrArg PyData.int ?_
          unfold idx
          push_cast
          rfl
        refine sv_app 13 (xs := ((entsOf lt t rw_).take l).map dEnt) (d := dEnt (entOf lt t l q)) (ev_is (ev_tup (ea_cons (nm 17) (ea_cons (nm 15) (ea_cons (ev_if (k := decide (q.2 < 0)) (d := dOpt (entOf lt t l q).to) (et_cmp c_lt (nm 16) ev_int) (fun h => ?_) (fun h => ?_)) ea_nil)))) ?_) (by rw [List.length_map, List.length_take]; omega) (sv_nil ⟨some (.d (.int (l : Int))), some (.d (.int q.1)), some (.d (.int q.2)), some (.d (.str (sgn (lt (idx t l))))), ?_⟩)
        · have h0 := of_decide_eq_true h
          show EvD _ _ _ (dOpt (if q.2 < 0 then none else some q.2.toNat))
          rw [if_pos h0]
          exact ev_non
        · have h0 := of_decide_eq_false h
          show EvD _ _ _ (dOpt (if q.2 < 0 then none else some q.2.toNat))
          rw [if_neg h0]
          exact ev_is (nm 16) (by show PyData.int _ = .int _; rw [Int.toNat_of_nonneg (by omega)])
        · show PyData.tuple [_, .int q.1, _] = .tuple [_, .int ((q.1.toNat : Nat) : Int), _]
          rw [Int.toNat_of_nonneg (by omega)]
          rfl
        · rw [List.take_add_one, he, List.map_append]
          rfl
      · obtain ⟨b14, b15, b16, b17, rfl⟩ := hp
        rw [rangeD_len, Int.toNat_natCast, List.length_map, ← entsOf_len lt t rw_, List.take_length]
        refine sv_frz 13 ?_
        refine sv_app 10 (xs := cs.map dCtx) (d := dCtx (entsOf lt t rw_)) (ev_tupL B.tuple (nm 13)) (by rw [List.length_map]; omega) (sv_nil ⟨k8, cs ++ [entsOf lt t rw_], some (.d (rowD rw_)), some (.d (dI t)), some (.d (.list ((entsOf lt t rw_).map dEnt))), b14, b15, b16, b17, ?_, ?_, fun es hq => ?_, ad7.trans ad8⟩)
        · rw [List.map_append]
          rfl
        · rw [List.length_append, hcl]
          rfl
        · rcases List.mem_append.mp hq with hq | hq
          · exact hcs es hq
          · rw [List.mem_singleton] at hq
            subst hq
            exact entsOf_ok pf t4 hR
    · obtain ⟨k7, cs, b11, b12, b13, b14, b15, b16, b17, rfl, hcl, hcs, ad7⟩ := hp
      rw [List.length_map, hM] at hcl ad7
      refine sv_frz 10 ?_
      refine sv_ret (ev_tup (ea_cons (nm 5) (ea_cons (ev_tupL B.tuple (nm 10)) (ea_cons (nm 7) (ea_cons (nm 6) ea_nil))))) ⟨k7, rfl, ⟨⟨sz, cs, fine, mn⟩, ⟨s2, s4, ?_, ?_, fun es h => (hcs es h).1, fun es h e he => ?_, fun es h => (hcs es h).2.2⟩, rfl⟩, (((((ad2.trans ad3).trans ad4).trans ad5).trans ad6).trans ad7).mono (by omega)⟩
      · show 1 ≤ cs.length
        omega
      · show cs.length ≤ 2
        omega
      · show okEnt cs.length e
        rw [hcl]
        exact (hcs es h).2.1 e he
end
end G
set_option Elab.async false
set_option linter.all false
set_option maxRecDepth 100000
set_option maxHeartbeats 4000000
/-! Texts of data; slices from the start; a new dict of three; defs that give an own object. -/
namespace G
open PySem PySem.Spec PyProof.Rows L2 Hd
section
variable {X : Cx} {ρ : Ro} {e a c : Expr} {es : List Expr} {d : PD} {ds : List PD} {p pos p' p2 : Pos} {rest : List Stmt} {P : Po}
/-! repr -/
theorem call_reprD (hg : X.A.guards = some []) : CallR X (.builtin "repr") (fun xs H Q => ∃ t d, xs = [.ref t] ∧ L2.Dp X.K H (.ref t) d ∧ d.showable = true ∧ d.hasDict = false ∧ X.A.units + (d.depth + 1) < cLine ∧ d.shown.length ≤ sizeLine ∧ Q (.str d.shown) H) := by
  intro pins s σ H xs us Q I r h
  obtain ⟨t, d, rfl, hd, h1, h2, h3, h4, q⟩ := h
  obtain ⟨u, rfl, ru⟩ := vals1 r
  obtain ⟨as, rd⟩ := L2.Dp.reads I d _ u hd ru
  obtain rfl : u = Value.ref t := ru
  exact PySem.repr_of_reads' rd h1 (PyData.noDict_hsm h2) hg h3 (fun _ _ e => e) (fun h' u tk hk => ⟨.str d.shown, H, I.kept hk, ⟨_, rfl⟩, q⟩) h4
/-- repr(data), the data a tuple -/
theorem ev_repr (hg : X.A.guards = some []) (hm : X.mg "repr" = none) (ha : EvD X e ρ (.tuple ds)) (hf : flat (.tuple ds) = true) (h1 : (PyData.tuple ds).showable = true) (h2 : (PyData.tuple ds).hasDict = false) (h3 : X.A.units + ((PyData.tuple ds).depth + 1) < cLine) (h4 : (PyData.tuple ds).shown.length ≤ sizeLine)
    (hgl : Gl X "repr" := by rfl) (hs : starEach [e] X.env = [(false, eval e X.env)] := by rfl) : EvD X (.Call (.Name "repr" p') [e] [] pos) ρ (.str (PyData.tuple ds).shown) :=
  ev_callB (call_reprD hg) hm (by decide +kernel) (ea_cons ha ea_nil hs) (fun I H vs Q s dvs q => by
    obtain ⟨v, rfl, dv⟩ := dpa1 dvs
    obtain ⟨t, xs, rfl, k1, k2⟩ := dp_tup dv
    exact ⟨t, _, rfl, (Dp.up s _ _ dv).kit hf, h1, h2, h3, h4, q _ I H (Gr.refl s) (.str _)⟩) hgl (he := hs) (hpl := rfl)
/-! slices -/
theorem cutV_all (xs : List V) {n : Nat} (h : xs.length ≤ n) : cutV xs none (some (n : Int)) = xs := by
  unfold cutV
  rw [HT.sIx_none, HT.sIx_nat, Nat.min_eq_right h, List.drop_zero, Nat.sub_zero, List.take_length]
/-- list[:n], the list no longer than n -/
theorem eo_upTo {n : Nat} (ha : EvD X a ρ (.list ds)) (hc : EvD X c ρ (.int (n : Int))) (hn : ds.length ≤ n) : EvO X (.Subscript a (.Slice none (some c) none p2) pos) ρ (.l ds) := fun ok b I H σ S Q q =>
  WE.of (pe_slice sl_list pe_w po_none (po_some pe_w)) (ha ok b I H σ S _ fun x I1 H1 g1 dx => hc ok b I1 H1 σ (S.grow g1) _ fun y I2 H2 g2 dy => by
    obtain ⟨t, xs, rfl, h1, h2⟩ := dp_lst (Dp.up g2.i _ _ dx)
    refine ⟨n, dp_int dy, t, xs, rfl, g2.s.seq h1, fun r hr => ?_⟩
    rw [cutV_all xs (by rw [DpAll.len h2]; exact hn)]
    exact q r _ I2 _ ((g1.trans g2).trans (Gr.newM g2.s hr)) ((g1.trans g2).h.free hr) (g2.s.free hr) upd_same h2)
/-! a new dict of three, its keys written texts -/
theorem eo_three {x1 x2 x3 : Str} {k1 k2 k3 e1 e2 e3 : Expr} {d1 d2 d3 : PD} (n12 : x1 ≠ x2) (n13 : x1 ≠ x3) (n23 : x2 ≠ x3) (hk1 : EvD X k1 ρ (.str x1)) (hk2 : EvD X k2 ρ (.str x2)) (hk3 : EvD X k3 ρ (.str x3)) (h1 : EvD X e1 ρ d1) (h2 : EvD X e2 ρ d2) (h3 : EvD X e3 ρ d3) :
    EvO X (.Dict [some k1, some k2, some k3] [e1, e2, e3] pos) ρ (.k [(.inr x1, d1), (.inr x2, d2), (.inr x3, d3)]) := fun ok b I H σ S Q q => by
  refine WE.of (pe_disp (pps_cons pe_w pe_w (pps_cons pe_w pe_w (pps_cons pe_w pe_w pps_nil))) rfl rfl (fun z => nomatch z) (by show 3 ≤ 15; decide)) fun r hr => ?_
  have g0 := Gr.newM (o := .dK []) S.same hr
  have S0 := S.grow g0
  refine hk1 ok b I _ σ S0 _ fun x I1 H1 g1 dx => h1 ok b I1 H1 σ (S0.grow g1) _ fun u I2 H2 g2 du => ?_
  have S2 := (S0.grow g1).grow g2
  refine hk2 ok b I2 H2 σ S2 _ fun y I3 H3 g3 dy => h2 ok b I3 H3 σ (S2.grow g3) _ fun v I4 H4 g4 dv => ?_
  have S4 := (S2.grow g3).grow g4
  refine hk3 ok b I4 H4 σ S4 _ fun z I5 H5 g5 dz => h3 ok b I5 H5 σ (S4.grow g5) _ fun w I6 H6 g6 dw => ?_
  have g := g1.trans (g2.trans (g3.trans (g4.trans (g5.trans g6))))
  have hr6 : H6 r = some (.dK []) := g.h _ _ upd_same
  have i6 : I6 r = none := by
    cases z : I6 r with
    | none => rfl
    | some u =>
      rcases g.n r (S.same.free hr) (by rw [z]; exact fun w => nomatch w) with w | ⟨_, w⟩
      · rw [upd_same] at w
        cases w
      · rw [upd_same] at w
        cases w
  cases dp_str dx
  cases dp_str dy
  cases dp_str dz
  refine ⟨hr6, [(.inr x1, u), (.inr x2, v), (.inr x3, w)], rfl, by show 3 ≤ 15; decide, ?_⟩
  have a1 : ¬ (Sum.inr x1 : Key) = .inr x2 := fun e => n12 (Sum.inr.inj e)
  have a2 : ¬ (Sum.inr x1 : Key) = .inr x3 := fun e => n13 (Sum.inr.inj e)
  have a3 : ¬ (Sum.inr x2 : Key) = .inr x3 := fun e => n23 (Sum.inr.inj e)
  have em : mergeK [] [((.inr x1 : Key), u), (.inr x2, v), (.inr x3, w)] = [(.inr x1, u), (.inr x2, v), (.inr x3, w)] := by
    unfold mergeK
    simp only [List.foldl_cons, List.foldl_nil, putK, List.any_nil, List.any_cons, List.nil_append, List.cons_append, decide_eq_false a1, decide_eq_false a2, decide_eq_false a3, Bool.or_false, Bool.false_eq_true, if_false]
  rw [em]
  exact q r _ I6 _ ((g0.trans g).mut i6 hr) hr i6 upd_same (.cons ⟨rfl, Dp.up (g3.trans (g4.trans (g5.trans g6))).i _ _ du⟩ (.cons ⟨rfl, Dp.up (g5.trans g6).i _ _ dv⟩ (.cons ⟨rfl, dw⟩ .nil)))
/-! own objects that leave -/
theorem sv_retEO {o : OD} (h : EvO X e ρ o) (q : P.ro o) : SEv X (.Return (some e) p :: rest) ρ P :=
  sv_one (ps_ret pe_w) fun ok b I H σ D S E => h ok b I H σ S _ fun r u I1 H1 g h0 h1 h2 h3 => E.ro o r u I1 H1 q (S.g.trans g) h1 (S.g.h.free h0) h2 h3
end
def SpO (K : PySem.W.Frag) (S : List PD → OD → Prop) : Sp := fun vs H Q _ => ∃ I ds o, S ds o ∧ Same I H ∧ DpAll K I vs ds ∧ ∀ p u I' H', Gr I H I' H' → H p = none → I' p = none → H' p = some u → OwnRep K I' p o u → Q (.ref p) H'
structure FnO (P : Program) (w : World) (K : PySem.W.Frag) (mg : Str → Option Value) (base : Heap) (k : Nat) (x : Str) (S : List PD → OD → Prop) : Prop where
  ex : ∃ f fd ps, FnOk P w K mg base CX0 k f fd ps (SpO K S) ∧ mg x = some (.ref f) ∧ PySem.W.keepIn K (.ref f) = true ∧ Binds K fd ps []
theorem eo_call {X : Cx} {ρ : Ro} {k : Nat} {x : Str} {S : List PD → OD → Prop} {e : Expr} {es : List Expr} {ds : List PD} {o : OD} {p pos : Pos} (F : FnO X.prog X.w X.K X.mg X.base k x S) (hr : Room k X.A) (ha : EvA X (e :: es) ρ ds) (hS : S ds o)
    (hg : Gl X x := by rfl) (hdb : (x == ("__debug__" : Str)) = false := by decide) (he : starEach (e :: es) X.env = (false, eval e X.env) :: starEach es X.env := by rfl) (hpl : (backTo pos (starEach es X.env)).any (·.1) = false := by rfl) :
    EvO X (.Call (.Name x p) (e :: es) [] pos) ρ o := fun ok b I H σ Sr Q q => by
  obtain ⟨f, fd, ps, G, hm, hk, hb⟩ := F.ex
  refine WE.of (pe_call G hr hg hm hk hb .nil pass0 pa_w hdb he hpl) (ha ok b I H σ Sr _ fun vs I1 H1 g1 dvs => ?_)
  rw [List.append_nil]
  exact ⟨I1, ds, o, hS, g1.s, dvs, fun r u I2 H2 g2 h0 h1 h2 h3 => q r u I2 H2 (g1.trans g2) (g1.h.free h0) h1 h2 h3⟩
theorem fn_atO {P : Program} {w : World} {K : PySem.W.Frag} {mg : Str → Option Value} {base : Heap} {x : Str} {st : Stmt} {N ps : List Str} {k : Nat} {S : List PD → OD → Prop}
    (F : At K mg x st) (sc : FnScope N ps (defScope st))
    (hb : ∀ (kV doc pm : Value) (an : Option Addr) (cdv ct : Value) (us : List Value), us.length = ps.length → bindArgs (PySem.W.fnOf x x (defArgs st) (defBody st) (defScope st) .none kV doc pm an cdv ct) ⟨us, []⟩ = pure (ps.zip us))
    (hl : ∀ ds o, S ds o → ds.length = ps.length)
    (body : ∀ (f : Addr) (cdv : Value) (A : Around) (outer : List Env) (s : Shared) (H : Hp) (E : XK), Room k (A.deeper (envOfC x (defScope st) s.heap.objs.size f cdv)) → ∀ ds o, S ds o →
      SEv (cxOf CX0 P w K mg base N x (defScope st) f cdv A outer s H E).nox (defBody st) (ini N ds) { nx := fun _ => False, rt := fun _ _ => False, ro := fun o' => o' = o }) : FnO P w K mg base (k + 1) x S := by
  obtain ⟨f, fd, h1, h2⟩ := F.ex
  refine ⟨f, fd, ps, h1.ok sc (fun vs H Q E h => ?_) (fun cdv A outer s H vs Q E hr h => ?_), h2, h1.kp, h1.bindsN hb⟩
  · obtain ⟨I, ds, o, h1, _, h3, _⟩ := h
    rw [DpAll.len h3]
    exact hl ds o h1
  · obtain ⟨I, ds, o, h1, h2, h3, q⟩ := h
    refine ⟨_, pss_w.nox, ?_⟩
    exact body f cdv A outer s H E hr ds o h1 ⟨sc.nd, rfl, PassesOwn.never⟩ ⟨I, H⟩ I H (L2.start N vs) _ (sr_start h2 h3) ⟨fun ρ I' H' σ' e S' => e.elim, fun d' ρ v I' H' σ' e S' dv => e.elim,
      fun _ _ _ _ h => h.elim, fun _ _ _ _ h => h.elim, fun o' r u I' H' e g n1 n2 n3 n4 => q r u I' H' g n2 n1 n3 (by cases e; exact n4)⟩
section
variable {X : Cx} {ρ : Ro} {e : Expr} {p p' : Pos} {rest : List Stmt} {P : Po} {kk : KK}
theorem EvO.feed (h : EvO X e ρ (.k kk)) : EvX X e ρ (fun c => ∃ a, c = .o (.f a kk)) := fun ok b I H σ S Q q => h ok b I H σ S Q fun r u I' H' g h1 h2 h3 h4 => by
  cases u with
  | dK vs => exact q (.ref r) _ I' H' ⟨r, rfl⟩ g ⟨r, _, rfl, h1, h2, h3, rfl, h4⟩
  | _ => exact h4.elim
/-- feed = a new dict -/
theorem sv_newF (i : Nat) {x : Str} (h : EvO X e ρ (.k kk)) (k : ∀ a, SEv X rest (ρ.set i (some (.o (.f a kk)))) P) (hi : X.N[i]? = some x := by rfl) (hx : Loc X.env.scope x := by first | exact .inl rfl | exact .inr rfl)
    (hs : swapsWith e (some (.Name x p')) p.line X.env = pure false := by rfl) (hf : X.fn x = true ∨ X.env.scope.names.lookup x = some .local := by first | exact .inl rfl | exact .inr rfl) : SEv X (.Assign [.Name x p'] e p :: rest) ρ P :=
  sv_asgX i h.feed (fun c hc => by
    obtain ⟨a, rfl⟩ := hc
    exact k a) hi hx hs hf
end
end G
set_option Elab.async false
set_option linter.all false
set_option maxRecDepth 100000
set_option maxHeartbeats 4000000
/-! A new feed. -/
namespace G
open PySem PySem.Spec PyProof.Rows L2 Hd Bm
section
variable {P : Program} {w : World} {K : PySem.W.Frag} {mg : Str → Option Value} {base : Heap}
theorem sc_law_feed : FnScope ["_law_script"] ["_law_script"] (defScope s_law_feed) := ⟨rfl, rfl, rfl, by decide +kernel, rfl, by decide +kernel, by decide +kernel⟩
def S_law_feed : List PD → OD → Prop := fun ds o => ∃ L : List Int, L.length ≤ 63 ∧ ds = [.list (L.map PyData.int)] ∧ o = .k (feedK L 0 0)
theorem f_law_feed (F : At K mg "_law_feed" s_law_feed) : FnO P w K mg base 1 "_law_feed" S_law_feed := by
  refine fn_atO F sc_law_feed (fun _ _ _ _ _ _ us hl => match us, hl with | [_], _ => rfl) (fun ds o h => ?_) (fun f cdv A outer s H E hr ds o h => ?_)
  · obtain ⟨L, _, rfl, _⟩ := h
    rfl
  · obtain ⟨L, hL, rfl, rfl⟩ := h
    exact sv_retEO (eo_three (x1 := "cells") (x2 := "turn") (x3 := "rest") (by decide +kernel) (by decide +kernel) (by decide +kernel) ev_str ev_str ev_str (eo_upTo (n := 63) (nm 0) ev_int (by rw [List.length_map]; exact hL)).data ev_int ev_int) rfl
end
end G
set_option Elab.async false
set_option linter.all false
set_option maxRecDepth 100000
set_option maxHeartbeats 4000000
/-! The sums over states are the sums over words. -/
namespace G
open PySem PySem.Spec PyProof.Rows L2 Hd Bm
def gw (f : Sta → Nat) (p : Step) : Nat := match p.tg with
  | .go t => 2 ^ (12 - p.db) * f t
  | _ => 0
def ew (p : Step) : Nat := match p.tg with
  | .en => p.n
  | _ => 0
def lw (p : Step) : Nat := match p.tg with
  | .go t => p.n * 2 ^ 12 - 2 ^ (12 - p.db) * wid t
  | _ => 0
def sumL {α : Type} (h : α → Nat) (L : List α) : Nat := (L.map h).sum
theorem sumL_cons {α : Type} (h : α → Nat) (a : α) (L : List α) : sumL h (a :: L) = h a + sumL h L := by
  unfold sumL
  rw [List.map_cons, List.sum_cons]
theorem sumL_app {α : Type} (h : α → Nat) (L M : List α) : sumL h (L ++ M) = sumL h L + sumL h M := by
  unfold sumL
  rw [List.map_append, List.sum_append]
theorem sumL_flat {α β : Type} (h : β → Nat) (g : α → List β) : ∀ L : List α, sumL h (L.flatMap g) = sumL (fun a => sumL h (g a)) L
  | [] => rfl
  | a :: L => by rw [List.flatMap_cons, sumL_app, sumL_cons, sumL_flat h g L]
theorem sumL_congr {α : Type} {h h' : α → Nat} : ∀ {L : List α}, (∀ a ∈ L, h a = h' a) → sumL h L = sumL h' L
  | [], _ => rfl
  | a :: L, e => by rw [sumL_cons, sumL_cons, e a List.mem_cons_self, sumL_congr fun b hb => e b (List.mem_cons_of_mem _ hb)]
theorem sumL_add {α : Type} (h h' : α → Nat) : ∀ L : List α, sumL (fun a => h a + h' a) L = sumL h L + sumL h' L
  | [] => rfl
  | a :: L => by
    rw [sumL_cons, sumL_cons, sumL_cons, sumL_add h h' L]
    omega
theorem sumL_mul {α : Type} (k : Nat) (h : α → Nat) : ∀ L : List α, sumL (fun a => k * h a) L = k * sumL h L
  | [] => rfl
  | a :: L => by rw [sumL_cons, sumL_cons, sumL_mul k h L, Nat.mul_add]
/-- of the mapped ones that are there -/
theorem sumL_fm {α β : Type} (h : β → Nat) (g : α → Option β) : ∀ L : List α, sumL h (L.filterMap g) = sumL (fun a => (g a).elim 0 h) L
  | [] => rfl
  | a :: L => by
    rw [List.filterMap_cons, sumL_cons, ← sumL_fm h g L]
    cases g a with
    | none => exact (Nat.zero_add _).symm
    | some b => exact sumL_cons h b _
theorem sumL_mapIdx {α : Type} (h : α → Nat) {β : Type} (F : Nat → β → α) (L : List β) (k : Nat → Nat) (e : ∀ i b, L[i]? = some b → h (F i b) = k i) : sumL h (L.mapIdx F) = sumL k (List.range L.length) := by
  have key : ∀ n, n ≤ L.length → sumL h ((L.take n).mapIdx F) = sumL k (List.range n) := by
    intro n
    induction n with
    | zero => exact fun _ => rfl
    | succ n ih =>
      intro hn
      have he : L[n]? = some L[n] := List.getElem?_eq_getElem hn
      rw [List.take_add_one, he, List.range_succ, sumL_app, ← ih (by omega)]
      show sumL h ((L.take n ++ [L[n]]).mapIdx F) = _
      rw [List.mapIdx_append, sumL_app]
      congr 1
      show sumL h [F (0 + (L.take n).length) L[n]] = sumL k [n]
      rw [List.length_take, show 0 + min n L.length = n by omega]
      show h _ + 0 = k n + 0
      rw [e n _ he]
  have := key L.length (Nat.le_refl _)
  rw [List.take_length] at this
  exact this
/-- one step's worth -/
theorem step_sum {c : Cod} (W : Wf c) {n : Nat} (hn : dep (n + 1) ≤ 64) {s : Sta} {u : Nat} (hs : Reach c s) (hu : 2 ^ (64 - dep n) ∣ u) {a : Acc} (A : AccOk c (n + 1) a) {i : Nat} {e : Ent} (he : (ents c s.1)[i]? = some e) (f : Sta → Nat) :
    2 ^ 12 * sumF f (stepF u a (stp c (ents c s.1) s i e)).fu = 2 ^ 12 * sumF f a.fu + u * gw f (stp c (ents c s.1) s i e) ∧ (stepF u a (stp c (ents c s.1) s i e)).en = a.en + u * ew (stp c (ents c s.1) s i e) ∧
      2 ^ 12 * (stepF u a (stp c (ents c s.1) s i e)).lo = 2 ^ 12 * a.lo + u * lw (stp c (ents c s.1) s i e) := by
  have ok := hs.ok W
  rcases step_cel W ok he with ⟨h1, h2⟩ | ⟨h1, h2⟩ | ⟨t, h1⟩
  · unfold stepF gw ew lw
    rw [h1]
    exact ⟨rfl, rfl, rfl⟩
  · unfold stepF gw ew lw
    rw [h1]
    exact ⟨rfl, rfl, rfl⟩
  · obtain ⟨k, g1, g2, g3, g4, g5, g6, g7, g8⟩ := go_ok W ok he h1
    generalize hp : stp c (ents c s.1) s i e = p at *
    have hdb : p.db ≤ 12 := by
      have s4 := W.s4
      rw [g6]
      show (Bm.settle c.man c.size (prt c (ents c s.1) (rep c s) i)).2.1 ≤ 12
      omega
    have hk : wid t ≤ p.n * 2 ^ p.db := by
      rw [g6]
      exact g7
    have ex := div_exact hn hdb hu
    have e12 : 2 ^ 12 = 2 ^ p.db * 2 ^ (12 - p.db) := by
      rw [← Nat.pow_add]
      congr 1
      omega
    unfold stepF gw ew lw
    rw [h1]
    generalize hv : u / 2 ^ p.db = v at *
    have ev : ∀ z : Nat, 2 ^ 12 * (v * z) = u * (2 ^ (12 - p.db) * z) := fun z => by
      rw [e12, ← ex]
      simp only [Nat.mul_assoc, Nat.mul_comm, Nat.mul_left_comm]
    refine ⟨?_, rfl, ?_⟩
    · show 2 ^ 12 * sumF f (addS a.fu t v) = 2 ^ 12 * sumF f a.fu + u * (2 ^ (12 - p.db) * f t)
      rw [sumF_add f A.nd, Nat.mul_add, ev]
    · show 2 ^ 12 * (a.lo + (u * p.n - v * wid t)) = 2 ^ 12 * a.lo + u * (p.n * 2 ^ 12 - 2 ^ (12 - p.db) * wid t)
      rw [Nat.mul_add, Nat.mul_sub, Nat.mul_sub, ev, show 2 ^ 12 * (u * p.n) = u * (p.n * 2 ^ 12) by rw [Nat.mul_comm, Nat.mul_assoc]]
theorem steps_sum {c : Cod} (W : Wf c) {n : Nat} (hn : dep (n + 1) ≤ 64) {s : Sta} {u : Nat} (hs : Reach c s) (hu : 2 ^ (64 - dep n) ∣ u) {a : Acc} (A : AccOk c (n + 1) a) (f : Sta → Nat) : ∀ i, i ≤ (stps c s).length →
    2 ^ 12 * sumF f (((stps c s).take i).foldl (stepF u) a).fu = 2 ^ 12 * sumF f a.fu + u * sumL (gw f) ((stps c s).take i) ∧ (((stps c s).take i).foldl (stepF u) a).en = a.en + u * sumL ew ((stps c s).take i) ∧
      2 ^ 12 * (((stps c s).take i).foldl (stepF u) a).lo = 2 ^ 12 * a.lo + u * sumL lw ((stps c s).take i)
  | 0, _ => ⟨rfl, rfl, rfl⟩
  | i + 1, hi => by
    obtain ⟨h1, h2, h3⟩ := steps_sum W hn hs hu A f i (by omega)
    obtain ⟨A1, _⟩ := steps_ok W hn hs hu A i (by omega)
    have hi' : i < (ents c s.1).length := by
      rw [stps_len] at hi
      omega
    have he : (ents c s.1)[i]? = some (ents c s.1)[i] := List.getElem?_eq_getElem hi'
    have hst : (stps c s)[i]? = some (stp c (ents c s.1) s i (ents c s.1)[i]) := by
      unfold stps
      rw [List.getElem?_mapIdx, he]
      rfl
    obtain ⟨g1, g2, g3⟩ := step_sum W hn hs hu A1 he f
    rw [List.take_add_one, hst, List.foldl_append]
    refine ⟨g1.trans ?_, g2.trans ?_, g3.trans ?_⟩
    · rw [h1, sumL_app, Nat.mul_add, Nat.add_assoc]
      rfl
    · rw [h2, sumL_app, Nat.mul_add, Nat.add_assoc]
      rfl
    · rw [h3, sumL_app, Nat.mul_add, Nat.add_assoc]
      rfl
def G1 (c : Cod) (f : Sta → Nat) (s : Sta) : Nat := sumL (gw f) (stps c s)
def E1 (c : Cod) (s : Sta) : Nat := sumL ew (stps c s)
def L1' (c : Cod) (s : Sta) : Nat := sumL lw (stps c s)
theorem states_sum {c : Cod} (W : Wf c) {n : Nat} (hn : dep (n + 1) ≤ 64) (f : Sta → Nat) : ∀ (sh : Shs) {a : Acc}, AccOk c (n + 1) a → (∀ q ∈ sh, Reach c q.1 ∧ 2 ^ (64 - dep n) ∣ q.2) →
    2 ^ 12 * sumF f (sh.foldl (stateF c) a).fu = 2 ^ 12 * sumF f a.fu + sumF (G1 c f) sh ∧ (sh.foldl (stateF c) a).en = a.en + sumF (E1 c) sh ∧ 2 ^ 12 * (sh.foldl (stateF c) a).lo = 2 ^ 12 * a.lo + sumF (L1' c) sh
  | [], a, _, _ => ⟨rfl, rfl, rfl⟩
  | q :: sh, a, A, h => by
    obtain ⟨r1, r2⟩ := h q List.mem_cons_self
    obtain ⟨A1, _⟩ := state_ok W hn r1 r2 A
    obtain ⟨h1, h2, h3⟩ := steps_sum W hn r1 r2 A f (stps c q.1).length (Nat.le_refl _)
    rw [List.take_length] at h1 h2 h3
    obtain ⟨g1, g2, g3⟩ := states_sum W hn f sh A1 fun x hx => h x (List.mem_cons_of_mem _ hx)
    rw [List.foldl_cons, sumF_cons, sumF_cons, sumF_cons]
    refine ⟨g1.trans ?_, g2.trans ?_, g3.trans ?_⟩
    · have h1 : 2 ^ 12 * sumF f (stateF c a q).fu = 2 ^ 12 * sumF f a.fu + q.2 * G1 c f q.1 := h1
      rw [h1]
      omega
    · have h2 : (stateF c a q).en = a.en + q.2 * E1 c q.1 := h2
      rw [h2]
      omega
    · have h3 : 2 ^ 12 * (stateF c a q).lo = 2 ^ 12 * a.lo + q.2 * L1' c q.1 := h3
      rw [h3]
      omega
/-! ### a word and its state -/
def U (x : Spn) : Nat := 2 ^ (64 - x.d)
structure StOk (c : Cod) (v : Nd) : Prop where
  st : ∀ k, v.k = some k → c.size ≤ v.x.o ∧ 2 ≤ v.x.w ∧ Reach c (staOf k v.x)
theorem wid_st {k : Nat} {x : Spn} (h : 2 ≤ x.w) : wid (staOf k x) = x.w := (sum_sides h).1
/-- what the steps of a word's state say of its letters -/
theorem kid_step {c : Cod} (W : Wf c) {v : Nd} (hx : SOk v.x) {k : Nat} (hk : v.k = some k) (S : StOk c v) {i : Nat} {e : Ent} (he : (ents c k)[i]? = some e) :
    (kidE c v k i = none ∧ gonE c v k i = none ∧ (stp c (ents c k) (staOf k v.x) i e).tg = .mt) ∨
    (∃ v', kidE c v k i = some v' ∧ gonE c v k i = none ∧ v'.k = none ∧ v'.x = prt c (ents c k) v.x i ∧ (stp c (ents c k) (staOf k v.x) i e).tg = .en ∧ (stp c (ents c k) (staOf k v.x) i e).n = cel c.fine (ents c k) v.x.w i) ∨
    (∃ v' k', kidE c v k i = some v' ∧ v'.k = some k' ∧ 0 < cel c.fine (ents c k) v.x.w i ∧ (gonE c v k i).map (fun g : Gn => g.2) = (Bm.settle c.man c.size (prt c (ents c k) v.x i)).2.2 ∧ v'.x = (Bm.settle c.man c.size (prt c (ents c k) v.x i)).1 ∧ (stp c (ents c k) (staOf k v.x) i e).tg = .go (staOf k' v'.x) ∧
      (stp c (ents c k) (staOf k v.x) i e).db = (Bm.settle c.man c.size (prt c (ents c k) v.x i)).2.1 ∧ (stp c (ents c k) (staOf k v.x) i e).n = cel c.fine (ents c k) v.x.w i ∧ StOk c v' ∧ 2 ≤ v'.x.w) := by
  obtain ⟨so, w2, hr⟩ := S.st k hk
  have ok := hr.ok W
  have ew := wid_st (k := k) w2
  have hes := ents_get (c := c) (k := k) ok.k
  have t0 := W.tot hes
  have hc : cel c.fine (ents c k) (wid (staOf k v.x)) i = cel c.fine (ents c k) v.x.w i := by rw [ew]
  by_cases h0 : cel c.fine (ents c k) v.x.w i = 0
  · refine .inl ⟨?_, ?_, ?_⟩
    · unfold kidE
      rw [he]
      exact if_pos h0
    · unfold gonE
      rw [he]
      exact if_pos (.inl h0)
    · unfold stp
      rw [if_pos (hc.trans h0)]
  · refine .inr ?_
    have ek : kidE c v k i = some ⟨v.cs ++ [e.c], nxt c (ents c k) v.x i e, e.to⟩ := by
      unfold kidE
      rw [he]
      exact if_neg h0
    cases hto : e.to with
    | none =>
      refine .inl ⟨_, ek, ?_, hto, ?_, ?_, ?_⟩
      · unfold gonE
        rw [he]
        exact if_pos (.inr hto)
      · show nxt c (ents c k) v.x i e = _
        unfold nxt
        rw [if_pos hto]
      · unfold stp
        rw [if_neg (by rw [hc]; exact h0), hto]
      · unfold stp
        rw [if_neg (by rw [hc]; exact h0), hto]
        exact hc
    | some k' =>
      obtain ⟨r1, r2, r3, r4, r5⟩ := rep_is W ok
      have rw' : (rep c (staOf k v.x)).w = v.x.w := ew
      have hn : 1 ≤ cel c.fine (ents c k) v.x.w i := Nat.pos_of_ne_zero h0
      have hle := cel_le c.fine (ents c k) v.x.w i t0
      have al : Alike c.size (prt c (ents c k) v.x i) (prt c (ents c k) (rep c (staOf k v.x)) i) := by
        rw [prt_sub, prt_sub, rw']
        exact sub_alike w2 rw'.symm (by rw [r1]; rfl) (by rw [r2]; rfl) so (by rw [r3]; omega) hn hle
      obtain ⟨a1, a2, a3, a4⟩ := settle_alike (man := c.man) W.s2 al hn
      obtain ⟨o1, o2⟩ := settle_open (man := c.man) W.s2 (x := prt c (ents c k) v.x i) hn
      have kw := sp_two o2 W.s2 o1
      have en : nxt c (ents c k) v.x i e = (Bm.settle c.man c.size (prt c (ents c k) v.x i)).1 := by
        unfold nxt
        rw [if_neg (by rw [hto]; exact fun z => nomatch z)]
      have es : stp c (ents c k) (staOf k v.x) i e = ⟨e.c, .go (staOf k' (Bm.settle c.man c.size (prt c (ents c k) v.x i)).1), (Bm.settle c.man c.size (prt c (ents c k) v.x i)).2.1, cel c.fine (ents c k) v.x.w i⟩ := by
        unfold stp
        rw [if_neg (by rw [hc]; exact h0), hto]
        show Step.mk _ (.go (staOf k' (Bm.settle c.man c.size (prt c (ents c k) (rep c (staOf k v.x)) i)).1)) _ _ = _
        unfold staOf at *
        rw [← a1, ← a3, ← a4, hc]
      have mem : stp c (ents c k) (staOf k v.x) i e ∈ stps c (staOf k v.x) := by
        refine List.mem_of_getElem? (i := i) ?_
        unfold stps
        rw [List.getElem?_mapIdx]
        show Option.map _ (ents c k)[i]? = _
        rw [he]
        rfl
      refine .inr ⟨_, k', ek, hto, Nat.pos_of_ne_zero h0, ?_, en, ?_, ?_, ?_, ⟨fun k2 hk2 => ?_⟩, ?_⟩
      · unfold gonE
        rw [he]
        show Option.map (fun g : Gn => g.2) (if cel c.fine (ents c k) v.x.w i = 0 ∨ e.to = none then none else Option.map (fun y => (v.cs ++ [e.c], y)) (Bm.settle c.man c.size (prt c (ents c k) v.x i)).2.2) = _
        rw [if_neg (fun z => z.elim h0 fun y => by rw [hto] at y; cases y)]
        cases (Bm.settle c.man c.size (prt c (ents c k) v.x i)).2.2 <;> rfl
      · rw [es]
        show Tg.go _ = Tg.go (staOf k' (nxt c (ents c k) v.x i e))
        rw [en]
      · rw [es]
      · rw [es]
      · have hk2 : e.to = some k2 := hk2
        rw [hto] at hk2
        cases hk2
        show c.size ≤ (nxt c (ents c k) v.x i e).o ∧ 2 ≤ (nxt c (ents c k) v.x i e).w ∧ Reach c (staOf k' (nxt c (ents c k) v.x i e))
        rw [en]
        exact ⟨o1, kw, hr.s mem (by rw [es])⟩
      · show 2 ≤ (nxt c (ents c k) v.x i e).w
        rw [en]
        exact kw
end G
set_option Elab.async false
set_option linter.all false
set_option maxRecDepth 100000
set_option maxHeartbeats 4000000
/-! The sums over words, level by level. -/
namespace G
open PySem PySem.Spec PyProof.Rows L2 Hd Bm
theorem til_vals {a b : Nat} {zs : List Spn} (h : Til a b zs) : a + vals zs = b := by
  induction h with
  | nil => rfl
  | @cons b y ys t ih =>
    have : hi64 y = lo64 y + val y := by
      unfold hi64 lo64 val
      rw [Nat.add_mul]
    unfold vals at ih ⊢
    rw [List.map_cons, List.sum_cons]
    omega
theorem vals_perm {xs ys : List Spn} (h : xs.Perm ys) : vals xs = vals ys := (h.map val).sum_nat
def hF (f : Sta → Nat) (v : Nd) : Nat := match v.k with
  | some k => U v.x * f (staOf k v.x)
  | none => 0
def hE (v : Nd) : Nat := match v.k with
  | some _ => 0
  | none => val v.x
def hW (v : Nd) : Nat := match v.k with
  | some _ => val v.x
  | none => 0
def hL (g : Gn) : Nat := val g.2
theorem letter_sum {c : Cod} (W : Wf c) (f : Sta → Nat) {v : Nd} (hx : SOk v.x) (hd : v.x.d + 12 ≤ 64) {k : Nat} (hk : v.k = some k) (S : StOk c v) {i : Nat} {e : Ent} (he : (ents c k)[i]? = some e) :
    U v.x * gw f (stp c (ents c k) (staOf k v.x) i e) = 2 ^ 12 * (kidE c v k i).elim 0 (hF f) ∧ U v.x * ew (stp c (ents c k) (staOf k v.x) i e) = (kidE c v k i).elim 0 hE ∧
      U v.x * lw (stp c (ents c k) (staOf k v.x) i e) = 2 ^ 12 * (gonE c v k i).elim 0 hL := by
  have s2 := W.s2
  have s4 := W.s4
  rcases kid_step W hx hk S he with ⟨h1, h2, h3⟩ | ⟨v', h1, h2, h3, h4, h5, h6⟩ | ⟨v', k', h1, h2, h3, h4, h5, h6, h7, h8, h9, h10⟩
  · unfold gw ew lw
    rw [h1, h2, h3]
    exact ⟨Nat.mul_zero _, Nat.mul_zero _, Nat.mul_zero _⟩
  · unfold gw ew lw
    rw [h1, h2, h5]
    refine ⟨?_, ?_, Nat.mul_zero _⟩
    · show U v.x * 0 = 2 ^ 12 * hF f v'
      unfold hF
      rw [h3]
      rfl
    · show U v.x * _ = hE v'
      unfold hE
      rw [h3, h6, h4]
      show 2 ^ (64 - v.x.d) * cel c.fine (ents c k) v.x.w i = cel c.fine (ents c k) v.x.w i * 2 ^ (64 - v.x.d)
      exact Nat.mul_comm _ _
  · have hkl := ((S.st k hk).2.2.ok W).k
    have t0 := W.tot (ents_get (c := c) (k := k) hkl)
    have sp := hx.prt (c := c) (i := i) t0 h3
    have pd : (prt c (ents c k) v.x i).d = v.x.d := rfl
    obtain ⟨q1, q2, q3, q4⟩ := settle_ok (man := c.man) s2 sp (by rw [pd]; omega)
    obtain ⟨zs, p1, p2⟩ := settle_til (man := c.man) s2 sp (by rw [pd]; omega)
    have tv := til_vals p2
    rw [vals_perm p1] at tv
    have elim : (gonE c v k i).elim 0 hL = vals (Bm.settle c.man c.size (prt c (ents c k) v.x i)).2.2.toList := by
      rw [← h4]
      cases gonE c v k i with
      | none => rfl
      | some g => exact (Nat.add_zero _).symm
    rw [← h5, pd, ← h7] at q3
    rw [← h5] at tv
    have db : (stp c (ents c k) (staOf k v.x) i e).db ≤ 12 := by
      rw [h7]
      omega
    generalize hD : (stp c (ents c k) (staOf k v.x) i e).db = D at *
    have e12 : 2 ^ 12 * U v'.x = U v.x * 2 ^ (12 - D) := by
      unfold U
      rw [← Nat.pow_add, ← Nat.pow_add]
      congr 1
      omega
    have hp : hi64 (prt c (ents c k) v.x i) = lo64 (prt c (ents c k) v.x i) + U v.x * cel c.fine (ents c k) v.x.w i := by
      show ((prt c (ents c k) v.x i).l + cel c.fine (ents c k) v.x.w i) * 2 ^ (64 - v.x.d) = (prt c (ents c k) v.x i).l * 2 ^ (64 - v.x.d) + 2 ^ (64 - v.x.d) * _
      rw [Nat.add_mul, Nat.mul_comm (2 ^ (64 - v.x.d))]
    have tv : val v'.x + vals (Bm.settle c.man c.size (prt c (ents c k) v.x i)).2.2.toList = U v.x * cel c.fine (ents c k) v.x.w i := by
      have : vals (v'.x :: (Bm.settle c.man c.size (prt c (ents c k) v.x i)).2.2.toList) = val v'.x + vals (Bm.settle c.man c.size (prt c (ents c k) v.x i)).2.2.toList := by
        unfold vals
        rw [List.map_cons, List.sum_cons]
      omega
    unfold gw ew lw
    rw [h6, h1, elim, hD]
    refine ⟨?_, ?_, ?_⟩
    · show U v.x * (2 ^ (12 - _) * f (staOf k' v'.x)) = 2 ^ 12 * hF f v'
      unfold hF
      rw [h2]
      show _ = 2 ^ 12 * (U v'.x * f (staOf k' v'.x))
      rw [← Nat.mul_assoc, ← Nat.mul_assoc, e12]
    · show U v.x * 0 = hE v'
      unfold hE
      rw [h2]
      rfl
    · rw [h8]
      show U v.x * (_ * 2 ^ 12 - 2 ^ (12 - D) * wid (staOf k' v'.x)) = _
      rw [wid_st h10, Nat.mul_sub, ← Nat.mul_assoc, ← Nat.mul_assoc, ← e12, ← tv]
      have : 2 ^ 12 * U v'.x * v'.x.w = 2 ^ 12 * val v'.x := by
        rw [Nat.mul_assoc]
        congr 1
        exact Nat.mul_comm _ _
      rw [this]
      omega
def NodeS (c : Cod) (f : Sta → Nat) (most : Nat) (v : Nd) : Prop :=
  hF (G1 c f) v = 2 ^ 12 * sumL (hF f) (kids c most v) ∧ hF (E1 c) v = sumL hE (kids c most v) ∧ hF (L1' c) v = 2 ^ 12 * sumL hL (gons c most v)
theorem sum_steps {c : Cod} {s : Sta} (h : Step → Nat) (u : Nat) (k : Nat → Nat) (e : ∀ i x, (ents c s.1)[i]? = some x → u * h (stp c (ents c s.1) s i x) = k i) : u * sumL h (stps c s) = sumL k (List.range (ents c s.1).length) := by
  rw [← sumL_mul]
  exact sumL_mapIdx (fun p => u * h p) _ _ k e
theorem node_sum {c : Cod} (W : Wf c) (f : Sta → Nat) {most : Nat} {v : Nd} (hx : SOk v.x) (hd : v.x.d + 12 ≤ 64) (S : StOk c v) (hl : v.cs.length < most) : NodeS c f most v := by
  unfold NodeS hF kids gons
  cases hk : v.k with
  | none => exact ⟨rfl, rfl, rfl⟩
  | some k =>
    show U v.x * G1 c f (staOf k v.x) = 2 ^ 12 * sumL (hF f) (if v.cs.length < most then (List.range (ents c k).length).filterMap (kidE c v k) else []) ∧ U v.x * E1 c (staOf k v.x) = sumL hE (if v.cs.length < most then (List.range (ents c k).length).filterMap (kidE c v k) else []) ∧ U v.x * L1' c (staOf k v.x) = 2 ^ 12 * sumL hL (if v.cs.length < most then (List.range (ents c k).length).filterMap (gonE c v k) else [])
    rw [if_pos hl, if_pos hl, sumL_fm, sumL_fm, sumL_fm, ← sumL_mul, ← sumL_mul]
    exact ⟨sum_steps (gw f) (U v.x) (fun i => 2 ^ 12 * (kidE c v k i).elim 0 (hF f)) fun i e he => (letter_sum W f hx hd hk S he).1,
      sum_steps ew (U v.x) (fun i => (kidE c v k i).elim 0 hE) fun i e he => (letter_sum W f hx hd hk S he).2.1,
      sum_steps lw (U v.x) (fun i => 2 ^ 12 * (gonE c v k i).elim 0 hL) fun i e he => (letter_sum W f hx hd hk S he).2.2⟩
theorem root_st {c : Cod} (W : Wf c) : StOk c (root1 c) := by
  obtain ⟨h1, h2, h3, h4⟩ := root_is c W.s2
  refine ⟨fun k hk => ?_⟩
  cases hk
  refine ⟨by show c.size ≤ (root c).o; omega, h4, ?_⟩
  have : staOf 0 (root1 c).x = st0 c := by
    show ((0 : Nat), (root c).L, (root c).R) = _
    rw [h2, h3]
    rfl
  rw [this]
  exact .z
theorem kid_st {c : Cod} (W : Wf c) {v v' : Nd} (hx : SOk v.x) {k : Nat} (hk : v.k = some k) (S : StOk c v) {j : Nat} (h : kidE c v k j = some v') : StOk c v' := by
  cases he : (ents c k)[j]? with
  | none =>
    unfold kidE at h
    rw [he] at h
    cases h
  | some e =>
    rcases kid_step W hx hk S he with ⟨h1, _⟩ | ⟨v1, h1, _, h3, _⟩ | ⟨v1, k', h1, _, _, _, _, _, _, _, h9, _⟩
    · rw [h1] at h
      cases h
    · rw [h1] at h
      cases h
      exact ⟨fun k hk => by rw [h3] at hk; cases hk⟩
    · rw [h1] at h
      cases h
      exact h9
theorem bfs_st {c : Cod} (W : Wf c) {most : Nat} (hm : most ≤ 4) : ∀ k, ∀ v ∈ (bfs c most k).1, StOk c v
  | 0, v, hv => by
    rw [List.mem_singleton.mp hv]
    exact root_st W
  | k + 1, v, hv => by
    unfold bfs at hv
    cases hu : (bfs c most k).1[k]? with
    | none =>
      rw [hu] at hv
      exact bfs_st W hm k v hv
    | some u =>
      rw [hu] at hv
      rcases List.mem_append.mp hv with q | q
      · exact bfs_st W hm k v q
      · obtain ⟨k', j, h1, h2, h3, h4⟩ := kids_mem q
        exact kid_st W (bfs_ok W hm k u (List.mem_of_getElem? hu)).ok h1 (bfs_st W hm k u (List.mem_of_getElem? hu)) h4
/-! ### levels -/
def upto (n : Nat) (F : List Nd) : List Nd := F.filter fun v => v.cs.length ≤ n
def uptoG (n : Nat) (F : List Gn) : List Gn := F.filter fun g => g.1.length ≤ n
theorem sum_upto (h : Nd → Nat) (n : Nat) : ∀ F : List Nd, sumL h (upto (n + 1) F) = sumL h (upto n F) + sumL h (lvl F (n + 1))
  | [] => rfl
  | v :: F => by
    have ih := sum_upto h n F
    unfold upto lvl at *
    rw [List.filter_cons, List.filter_cons, List.filter_cons]
    by_cases q : v.cs.length ≤ n
    · rw [if_pos (decide_eq_true (Nat.le_succ_of_le q)), if_pos (decide_eq_true q), if_neg (by rw [decide_eq_false (by omega)]; decide), sumL_cons, sumL_cons]
      omega
    · by_cases q2 : v.cs.length = n + 1
      · rw [if_pos (decide_eq_true (by omega)), if_neg (by rw [decide_eq_false q]; decide), if_pos (decide_eq_true q2), sumL_cons, sumL_cons]
        omega
      · rw [if_neg (by rw [decide_eq_false (by omega)]; decide), if_neg (by rw [decide_eq_false q]; decide), if_neg (by rw [decide_eq_false q2]; decide)]
        exact ih
end G
set_option Elab.async false
set_option linter.all false
set_option maxRecDepth 100000
set_option maxHeartbeats 4000000
/-! The levels: shares by states are shares by words. -/
namespace G
open PySem PySem.Spec PyProof.Rows L2 Hd Bm
theorem gons_mem {c : Cod} {most : Nat} {v : Nd} {g : Gn} (h : g ∈ gons c most v) : ∃ k j, v.k = some k ∧ v.cs.length < most ∧ j < (ents c k).length ∧ gonE c v k j = some g := by
  unfold gons at h
  cases hk : v.k with
  | none =>
    rw [hk] at h
    cases h
  | some k =>
    rw [hk] at h
    have h : g ∈ (if v.cs.length < most then (List.range (ents c k).length).filterMap (gonE c v k) else []) := h
    split at h
    · rename_i hl
      obtain ⟨j, hj, e⟩ := List.mem_filterMap.mp h
      exact ⟨k, j, rfl, hl, List.mem_range.mp hj, e⟩
    · cases h
theorem gon_len {c : Cod} {most : Nat} {v : Nd} {g : Gn} (h : g ∈ gons c most v) : g.1.length = v.cs.length + 1 := by
  obtain ⟨k, j, h1, h2, h3, h4⟩ := gons_mem h
  rw [(gonE_is (List.getElem?_eq_getElem h3) h4).1, List.length_append, List.length_singleton]
def lvlG (n : Nat) (F : List Gn) : List Gn := F.filter fun g => g.1.length = n
theorem lvlG_gons (c : Cod) (most : Nat) (F : List Nd) (n : Nat) : lvlG (n + 1) (F.flatMap (gons c most)) = (lvl F n).flatMap (gons c most) := by
  unfold lvl lvlG
  induction F with
  | nil => rfl
  | cons v F ih =>
    rw [List.flatMap_cons, List.filter_append, ih, List.filter_cons]
    by_cases q : v.cs.length = n
    · rw [if_pos (decide_eq_true q), List.flatMap_cons]
      congr 1
      refine List.filter_eq_self.mpr fun u hu => ?_
      exact decide_eq_true (by rw [gon_len hu, q])
    · rw [if_neg (by rw [decide_eq_false q]; decide)]
      have : (gons c most v).filter (fun g => g.1.length = n + 1) = [] := by
        refine List.filter_eq_nil_iff.mpr fun u hu => ?_
        have := gon_len hu
        intro z
        have := of_decide_eq_true z
        omega
      rw [this, List.nil_append]
theorem sum_uptoG (h : Gn → Nat) (n : Nat) : ∀ F : List Gn, sumL h (uptoG (n + 1) F) = sumL h (uptoG n F) + sumL h (lvlG (n + 1) F)
  | [] => rfl
  | v :: F => by
    have ih := sum_uptoG h n F
    unfold uptoG lvlG at *
    rw [List.filter_cons, List.filter_cons, List.filter_cons]
    by_cases q : v.1.length ≤ n
    · rw [if_pos (decide_eq_true (Nat.le_succ_of_le q)), if_pos (decide_eq_true q), if_neg (by rw [decide_eq_false (by omega)]; decide), sumL_cons, sumL_cons]
      omega
    · by_cases q2 : v.1.length = n + 1
      · rw [if_pos (decide_eq_true (by omega)), if_neg (by rw [decide_eq_false q]; decide), if_pos (decide_eq_true q2), sumL_cons, sumL_cons]
        omega
      · rw [if_neg (by rw [decide_eq_false (by omega)]; decide), if_neg (by rw [decide_eq_false q]; decide), if_neg (by rw [decide_eq_false q2]; decide)]
        exact ih
theorem lvl_zero {c : Cod} (W : Wf c) {most : Nat} (C : Cap c most) : lvl (words c most) 0 = [root1 c] := by
  unfold lvl
  rw [(words_fix W C).1, List.filter_cons, kids_pos]
  rfl
theorem upto_zero (F : List Nd) : upto 0 F = lvl F 0 := by
  unfold upto lvl
  exact List.filter_congr fun v _ => decide_eq_decide.mpr (by omega)
theorem uptoG_zero {c : Cod} (W : Wf c) {most : Nat} (C : Cap c most) : uptoG 0 (losts c most) = [] := by
  unfold uptoG
  rw [(words_fix W C).2]
  refine List.filter_eq_nil_iff.mpr fun u hu => ?_
  obtain ⟨v, hv, hu⟩ := List.mem_flatMap.mp hu
  have := gon_len hu
  intro z
  have := of_decide_eq_true z
  omega
theorem lvl_succ {c : Cod} (W : Wf c) {most : Nat} (C : Cap c most) (n : Nat) : lvl (words c most) (n + 1) = (lvl (words c most) n).flatMap (kids c most) := by
  conv => lhs; unfold lvl; rw [(words_fix W C).1]
  rw [List.filter_cons, if_neg (by simp [root1]), lvl_kids]
theorem lvlG_succ {c : Cod} (W : Wf c) {most : Nat} (C : Cap c most) (n : Nat) : lvlG (n + 1) (losts c most) = (lvl (words c most) n).flatMap (gons c most) := by
  rw [(words_fix W C).2, lvlG_gons]
theorem node_at {c : Cod} (W : Wf c) {most : Nat} (C : Cap c most) (f : Sta → Nat) {n : Nat} (hn : n < most) {v : Nd} (hv : v ∈ lvl (words c most) n) : NodeS c f most v := by
  unfold lvl at hv
  obtain ⟨h1, h2⟩ := List.mem_filter.mp hv
  have hl := of_decide_eq_true h2
  have ok := bfs_ok W C.le.2 80 v h1
  have m4 := C.le.2
  have s4 := W.s4
  have od := ok.d
  have bd : 3 * c.size * v.cs.length ≤ 12 * 3 := Nat.mul_le_mul (by omega) (by omega)
  exact node_sum W f ok.ok (by omega) (bfs_st W C.le.2 80 v h1) (by omega)
theorem levels {c : Cod} (W : Wf c) {most : Nat} (C : Cap c most) : ∀ n, n ≤ most →
    (∀ f, sumF f (lev c n).fu = sumL (hF f) (lvl (words c most) n)) ∧ (lev c n).en = sumL hE (upto n (words c most)) ∧ (lev c n).lo = sumL hL (uptoG n (losts c most))
  | 0, _ => by
    rw [upto_zero, lvl_zero W C, uptoG_zero W C]
    refine ⟨fun f => ?_, rfl, rfl⟩
    obtain ⟨h1, h2, h3, h4⟩ := root_is c W.s2
    have e : staOf 0 (root1 c).x = st0 c := by
      show ((0 : Nat), (root c).L, (root c).R) = _
      rw [h2, h3]
      rfl
    show sumF f [(st0 c, 2 ^ (64 - c.size))] = _
    rw [sumF_cons, sumF_nil, sumL_cons]
    show _ = U (root1 c).x * f (staOf 0 (root1 c).x) + 0
    rw [e]
    rfl
  | n + 1, hn => by
    obtain ⟨i1, i2, i3⟩ := levels W C n (by omega)
    have m4 := C.le.2
    have hd : dep (n + 1) ≤ 64 := by
      unfold dep
      omega
    have hd0 : dep n ≤ 64 := by
      unfold dep
      omega
    obtain ⟨A, _⟩ := lev_ok W n hd0
    have S := fun f => states_sum W hd f (lev c n).fu (acc0_ok c (n + 1) (lev c n).en (lev c n).lo) fun q hq => ⟨A.re q hq, A.dv q hq⟩
    have N := fun f v hv => node_at W C f (show n < most from hn) (v := v) hv
    rw [sum_upto, sum_uptoG, lvl_succ W C, lvlG_succ W C, sumL_flat, sumL_flat]
    refine ⟨fun f => ?_, ?_, ?_⟩
    · have s1 := (S f).1
      rw [i1, sumL_congr fun v hv => (N f v hv).1, sumL_mul] at s1
      have s1 : 2 ^ 12 * sumF f (lev c (n + 1)).fu = 2 ^ 12 * 0 + 2 ^ 12 * sumL (fun v => sumL (hF f) (kids c most v)) (lvl (words c most) n) := s1
      rw [sumL_flat]
      omega
    · have s1 := (S fun _ => 0).2.1
      rw [i1, sumL_congr fun v hv => (N (fun _ => 0) v hv).2.1] at s1
      rw [← i2]
      exact s1
    · have s1 := (S fun _ => 0).2.2
      rw [i1, sumL_congr fun v hv => (N (fun _ => 0) v hv).2.2, sumL_mul] at s1
      have s1 : 2 ^ 12 * (lev c (n + 1)).lo = 2 ^ 12 * (lev c n).lo + 2 ^ 12 * sumL (fun v => sumL hL (gons c most v)) (lvl (words c most) n) := s1
      rw [← i3]
      omega
/-! ### as the law sums them -/
def endsOf (n : Nat) (F : List Nd) : List Spn := (F.filter fun v => v.k = none ∧ v.cs.length ≤ n).map Nd.x
def goesOf (n : Nat) (F : List Nd) : List Spn := (F.filter fun v => v.k ≠ none ∧ v.cs.length = n).map Nd.x
def goneOf (n : Nat) (F : List Gn) : List Spn := (F.filter fun g => g.1.length ≤ n).map (·.2)
theorem ends_sum (n : Nat) : ∀ F : List Nd, vals (endsOf n F) = sumL hE (upto n F)
  | [] => rfl
  | v :: F => by
    have ih := ends_sum n F
    unfold endsOf upto vals at *
    rw [List.filter_cons, List.filter_cons]
    by_cases q : v.cs.length ≤ n
    · rw [if_pos (decide_eq_true q), sumL_cons, ← ih]
      cases hk : v.k with
      | none =>
        rw [if_pos (decide_eq_true ⟨rfl, q⟩), List.map_cons, List.map_cons, List.sum_cons]
        unfold hE
        rw [hk]
      | some k =>
        rw [if_neg (by rw [decide_eq_false (fun z => nomatch z.1)]; decide)]
        unfold hE
        rw [hk]
        exact (Nat.zero_add _).symm
    · rw [if_neg (by rw [decide_eq_false (fun z => q z.2)]; decide), if_neg (by rw [decide_eq_false q]; decide)]
      exact ih
theorem goes_sum (n : Nat) : ∀ F : List Nd, (∀ v ∈ F, ∀ k, v.k = some k → 2 ≤ v.x.w) → vals (goesOf n F) = sumL (hF wid) (lvl F n)
  | [], _ => rfl
  | v :: F, h => by
    have ih := goes_sum n F fun u hu => h u (List.mem_cons_of_mem _ hu)
    unfold goesOf lvl vals at *
    rw [List.filter_cons, List.filter_cons]
    by_cases q : v.cs.length = n
    · rw [if_pos (decide_eq_true q), sumL_cons, ← ih]
      cases hk : v.k with
      | none =>
        rw [if_neg (by rw [decide_eq_false (fun z => z.1 rfl)]; decide)]
        unfold hF
        rw [hk]
        exact (Nat.zero_add _).symm
      | some k =>
        rw [if_pos (decide_eq_true ⟨(fun z => nomatch z), q⟩), List.map_cons, List.map_cons, List.sum_cons]
        unfold hF
        rw [hk]
        congr 1
        show v.x.w * 2 ^ (64 - v.x.d) = 2 ^ (64 - v.x.d) * wid (staOf k v.x)
        rw [wid_st (h v List.mem_cons_self k hk), Nat.mul_comm]
    · rw [if_neg (by rw [decide_eq_false (fun z => q z.2)]; decide), if_neg (by rw [decide_eq_false q]; decide)]
      exact ih
theorem gone_sum (n : Nat) (F : List Gn) : vals (goneOf n F) = sumL hL (uptoG n F) := by
  unfold goneOf uptoG vals sumL
  rw [List.map_map]
  rfl
theorem three {c : Cod} (W : Wf c) {most : Nat} (C : Cap c most) {n : Nat} (hn : n ≤ most) :
    (lev c n).en = vals (endsOf n (words c most)) ∧ mass (lev c n).fu = vals (goesOf n (words c most)) ∧ (lev c n).lo = vals (goneOf n (losts c most)) := by
  obtain ⟨h1, h2, h3⟩ := levels W C n hn
  refine ⟨?_, ?_, ?_⟩
  · rw [ends_sum, h2]
  · rw [goes_sum n (words c most) fun v hv k hk => ((bfs_st W C.le.2 80 v hv).st k hk).2.1]
    exact h1 wid
  · rw [gone_sum, h3]
end G
set_option Elab.async false
set_option linter.all false
set_option maxRecDepth 100000
set_option maxHeartbeats 4000000
/-! What the law sums: sizes; the texts of three fractions. -/
namespace G
open PySem PySem.Spec PyProof.Rows L2 Hd Bm
theorem words_sp {c : Cod} (W : Wf c) {most : Nat} (C : Cap c most) {v : Nd} (hv : v ∈ words c most) : SOk v.x ∧ v.x.d ≤ 64 := by
  have ok := bfs_ok W C.le.2 80 v hv
  have s4 := W.s4
  have m4 := C.le.2
  have l := ok.l
  have bd : 3 * c.size * v.cs.length ≤ 12 * 4 := Nat.mul_le_mul (by omega) (by omega)
  have d := ok.d
  exact ⟨ok.ok, by omega⟩
theorem losts_sp {c : Cod} (W : Wf c) {most : Nat} (C : Cap c most) {g : Gn} (hg : g ∈ losts c most) : SOk g.2 ∧ g.2.d ≤ 64 := by
  rw [(words_fix W C).2] at hg
  obtain ⟨v, hv, hg⟩ := List.mem_flatMap.mp hg
  obtain ⟨k, j, h1, h2, h3, h4⟩ := gons_mem hg
  have ok := bfs_ok W C.le.2 80 v hv
  have s4 := W.s4
  have m4 := C.le.2
  have bd : 3 * c.size * v.cs.length ≤ 12 * 3 := Nat.mul_le_mul (by omega) (by omega)
  have d := ok.d
  have he : (ents c k)[j]? = some (ents c k)[j] := List.getElem?_eq_getElem h3
  obtain ⟨_, q2, _, q4⟩ := gonE_is he h4
  have sp := ok.ok.prt (c := c) (i := j) (W.tot (ents_get (ok.k k h1))) (Nat.pos_of_ne_zero q2)
  have pd : (prt c (ents c k) v.x j).d = v.x.d := rfl
  obtain ⟨_, _, _, q5⟩ := settle_ok (man := c.man) W.s2 sp (by rw [pd]; omega)
  obtain ⟨r1, r2⟩ := q5 _ q4
  exact ⟨r1, by rw [pd] at r2; omega⟩
theorem losts_few {c : Cod} (W : Wf c) {most : Nat} (C : Cap c most) : (losts c most).length ≤ 160 := by
  rw [(words_fix W C).2]
  refine Nat.le_trans (flat_len _ 4 _ fun v hv => ?_) (Nat.mul_le_mul_left 4 (bfs_few W C 80))
  unfold gons
  cases hv' : v.k with
  | none => exact Nat.zero_le _
  | some q =>
    show (if v.cs.length < most then (List.range (ents c q).length).filterMap (gonE c v q) else []).length ≤ 4
    split
    · refine Nat.le_trans (List.length_filterMap_le _ _) ?_
      rw [List.length_range]
      exact (W.e2 _ (W.mem (ents_get ((bfs_ok W C.le.2 80 v hv).k q hv')))).2
    · exact Nat.zero_le _
theorem fm_filter {α β : Type} {p : α → Bool} {h : α → PD} {f : PD → Option PD} {x : α → β} {g : β → PD} : ∀ F : List α, (∀ v ∈ F, f (h v) = if p v = true then some (g (x v)) else none) → (F.map h).filterMap f = ((F.filter p).map x).map g
  | [], _ => rfl
  | v :: F, hf => by
    have ih := fm_filter F fun u hu => hf u (List.mem_cons_of_mem _ hu)
    have h0 := hf v List.mem_cons_self
    rw [List.map_cons, List.filterMap_cons, List.filter_cons, h0, ih]
    by_cases q : p v = true
    · rw [if_pos q, if_pos q]
      rfl
    · rw [if_neg q, if_neg q]
/-! texts -/
theorem nat_show {n : Nat} (h : n < 2 ^ 120) : (dI n).showable = true ∧ (dI n).leavesShort 121 = true := by
  have hl : n.log2 < 120 := by
    by_cases h0 : n = 0
    · subst h0
      decide
    · exact (Nat.log2_lt h0).mpr h
  refine ⟨?_, ?_⟩
  · show decide ((n : Int).natAbs.log2 < 1920) = true
    rw [Int.natAbs_natCast]
    exact decide_eq_true (by omega)
  · show decide ((PyData.shown (.int (n : Int))).length ≤ 121) = true
    refine decide_eq_true ?_
    have := int_text_length_le (a := (n : Int)) (k := 120) (by decide) (by rw [Int.natAbs_natCast]; exact hl)
    show (Str.ofString (toString (n : Int))).length ≤ 121
    rw [PySem.ofString_length]
    exact this
def thr (a b c : Nat) : List PD := [nfD a, nfD b, nfD c]
theorem thr_flat (a b c : Nat) : flat (.tuple (thr a b c)) = true := by rfl
theorem thr_dict (a b c : Nat) : (PyData.tuple (thr a b c)).hasDict = false := by
  rfl
theorem thr_depth (a b c : Nat) : (PyData.tuple (thr a b c)).depth = 2 := by
  rfl
theorem thr_show {a b c : Nat} (ha : a ≤ Z64) (hb : b ≤ Z64) (hc : c ≤ Z64) : (PyData.tuple (thr a b c)).showable = true ∧ (PyData.tuple (thr a b c)).shown.length ≤ sizeLine := by
  have a1 := nat_show (nfA_lt ha)
  have a2 := nat_show (nfB_lt a)
  have b1 := nat_show (nfA_lt hb)
  have b2 := nat_show (nfB_lt b)
  have c1 := nat_show (nfA_lt hc)
  have c2 := nat_show (nfB_lt c)
  refine ⟨?_, ?_⟩
  · show (((dI (nfA a)).showable && ((dI (nfB a)).showable && true)) && ((((dI (nfA b)).showable && ((dI (nfB b)).showable && true))) && ((((dI (nfA c)).showable && ((dI (nfB c)).showable && true))) && true))) = true
    rw [a1.1, a2.1, b1.1, b2.1, c1.1, c2.1]
    rfl
  · refine Nat.le_trans (PyData.shown_le_bulk 121 (by decide) _ ?_) ?_
    · show (((dI (nfA a)).leavesShort 121 && ((dI (nfB a)).leavesShort 121 && true)) && ((((dI (nfA b)).leavesShort 121 && ((dI (nfB b)).leavesShort 121 && true))) && ((((dI (nfA c)).leavesShort 121 && ((dI (nfB c)).leavesShort 121 && true))) && true))) = true
      rw [a1.2, a2.2, b1.2, b2.2, c1.2, c2.2]
      rfl
    · show (121 + 2) * 9 + 121 ≤ sizeLine
      decide
end G
set_option Elab.async false
set_option linter.all false
set_option maxRecDepth 100000
set_option maxHeartbeats 4000000
/-! The law. -/
namespace G
open PySem PySem.Spec PyProof.Rows L2 Hd Bm
def lenP : PD → PD
  | .tuple xs => .int (xs.length : Nat)
  | _ => .none
def endP (n : Nat) : PD → Option PD
  | .tuple [.str z, x, k] => if (isNone k && decide (z.length ≤ n)) = true then some x else none
  | _ => none
def goP (n : Nat) : PD → Option PD
  | .tuple [.str z, x, k] => if (!isNone k && decide (z.length = n)) = true then some x else none
  | _ => none
def gnP (n : Nat) : PD → Option PD
  | .tuple [.str z, x] => if decide (z.length ≤ n) = true then some x else none
  | _ => none
theorem ends_fm (n : Nat) (F : List Nd) : (F.map ndD).filterMap (endP n) = (endsOf n F).map dSp := by
  unfold endsOf
  refine fm_filter (p := fun v : Nd => decide (v.k = none ∧ v.cs.length ≤ n)) F fun v _ => ?_
  show (if (isNone (dOpt v.k) && decide ((wS v.cs).length ≤ n)) = true then some (dSp v.x) else none) = _
  rw [isNone_opt, wS_len]
  by_cases h1 : v.k = none <;> by_cases h2 : v.cs.length ≤ n <;> simp [h1, h2]
theorem goes_fm (n : Nat) (F : List Nd) : (F.map ndD).filterMap (goP n) = (goesOf n F).map dSp := by
  unfold goesOf
  refine fm_filter (p := fun v : Nd => decide (v.k ≠ none ∧ v.cs.length = n)) F fun v _ => ?_
  show (if (!isNone (dOpt v.k) && decide ((wS v.cs).length = n)) = true then some (dSp v.x) else none) = _
  rw [isNone_opt, wS_len]
  by_cases h1 : v.k = none <;> by_cases h2 : v.cs.length = n <;> simp [h1, h2]
theorem gone_fm (n : Nat) (F : List Gn) : (F.map goD).filterMap (gnP n) = (goneOf n F).map dSp := by
  unfold goneOf
  refine fm_filter (p := fun g : Gn => decide (g.1.length ≤ n)) F fun g _ => ?_
  show (if decide ((wS g.1).length ≤ n) = true then some (dSp g.2) else none) = _
  rw [wS_len]
theorem ends_mem {n : Nat} {F : List Nd} {x : Spn} (h : x ∈ endsOf n F) : ∃ v ∈ F, x = v.x := by
  unfold endsOf at h
  obtain ⟨v, h1, h2⟩ := List.mem_map.mp h
  exact ⟨v, (List.mem_filter.mp h1).1, h2.symm⟩
theorem goes_mem {n : Nat} {F : List Nd} {x : Spn} (h : x ∈ goesOf n F) : ∃ v ∈ F, x = v.x := by
  unfold goesOf at h
  obtain ⟨v, h1, h2⟩ := List.mem_map.mp h
  exact ⟨v, (List.mem_filter.mp h1).1, h2.symm⟩
theorem gone_mem {n : Nat} {F : List Gn} {x : Spn} (h : x ∈ goneOf n F) : ∃ g ∈ F, x = g.2 := by
  unfold goneOf at h
  obtain ⟨v, h1, h2⟩ := List.mem_map.mp h
  exact ⟨v, (List.mem_filter.mp h1).1, h2.symm⟩
/-- how far the words go -/
def mostOf (e : Nat) : Nat := if e = 2 then 4 else if e = 3 then 3 else 2
theorem cap_of {c : Cod} (W : Wf c) {e : Nat} (h1 : ∃ es ∈ c.ctx, es.length = e) (h2 : ∀ es ∈ c.ctx, es.length ≤ e) : Cap c (mostOf e) := by
  obtain ⟨es, m, rfl⟩ := h1
  have b := W.e2 es m
  refine ⟨_, h2, ?_⟩
  unfold mostOf
  by_cases h : es.length = 2
  · exact .inl ⟨h, if_pos h⟩
  · rw [if_neg h]
    by_cases h' : es.length = 3
    · exact .inr (.inl ⟨h', if_pos h'⟩)
    · rw [if_neg h']
      exact .inr (.inr ⟨by omega, rfl⟩)
abbrev lawN : List Str := ["_law_script", "_law_feed_here", "_law_lap", "_law_rig", "_law_entries", "_law_most", "_law_words", "_law_lost", "_law_n", "_law_ends", "_law_goes", "_law_gone", "_law_room", "_law_cover", "_law_term"]
section
variable {P : Program} {w : World} {K : PySem.W.Frag} {mg : Str → Option Value} {base : Heap}
theorem sc_law : FnScope lawN ["_law_script"] (defScope s_law) := ⟨rfl, rfl, rfl, by decide +kernel, rfl, by decide +kernel, by decide +kernel⟩
theorem f_law (B : Blt mg) (F_feed : FnO P w K mg base 1 "_law_feed" S_law_feed) (F_coder : FnF P w K mg base 4 "_law_coder" Pre_coder Post_coder) (F_all : Fn P w K mg base 5 "_law_all" S_law_all)
    (F_side : Fn P w K mg base 4 "_law_side_by_side" S_law_side_by_side) (F_next : Fn P w K mg base 8 "_law_next_filled" S_law_next_filled) (F_shares : Fn P w K mg base 7 "shares_sum" S_shares_sum) (F_sum : Fn P w K mg base 2 "_law_sum" S_law_sum)
    (f : Addr) (cdv : Value) (A : Around) (outer : List Env) (s : Shared) (H : Hp) (E : XK) (hg : A.guards = some []) (hr : Room 8 (A.deeper (envOfC "law" (defScope s_law) s.heap.objs.size f cdv))) (L : List Int) (hL : L.length ≤ 63) :
    SEv (cxOf CX0 P w K mg base lawN "law" (defScope s_law) f cdv A outer s H E).nox (defBody s_law) (ini lawN [.list (L.map PyData.int)]) { nx := fun _ => False, rt := fun d _ => d = .bool true } := by
  have hg' : ((cxOf CX0 P w K mg base lawN "law" (defScope s_law) f cdv A outer s H E).nox).A.guards = some [] := hg
  have hun : ((cxOf CX0 P w K mg base lawN "law" (defScope s_law) f cdv A outer s H E).nox).A.units + (2 + 1) < cLine := by
    have : (A.deeper (envOfC "law" (defScope s_law) s.heap.objs.size f cdv)).units + 64 < cLine := rm64 hr
    exact Nat.lt_of_le_of_lt (Nat.add_le_add_left (by decide) _) this
  refine sv_newF 1 (kk := feedK L 0 0) (eo_call F_feed (hr.mono (by decide)) (ea_cons (nm 0) ea_nil) ⟨L, hL, rfl, rfl⟩) (fun a => ?_)
  refine sv_for (it_range1 (n := 2) B.range (by omega) ev_int) (fun j r => ∃ a kk a2 a3 a4 a5 a6 a7 a8 a9 a10 a11 a12 a13 a14, r = [some (.d (.list (L.map PyData.int))), some (.o (.f a kk)), a2, a3, a4, a5, a6, a7, a8, a9, a10, a11, a12, a13, a14] ∧ FeedOk (40 * j) kk)
    ⟨a, feedK L 0 0, _, _, _, _, _, _, _, _, _, _, _, _, _, rfl, L, 0, 0, rfl, hL, by decide, by decide, by decide⟩ (fun j d r hj hp => ?_) (fun r hp => sv_ret ev_bl rfl)
  obtain ⟨a, kk, a2, a3, a4, a5, a6, a7, a8, a9, a10, a11, a12, a13, a14, rfl, fk⟩ := hp
  obtain ⟨rfl, hj2⟩ := rangeD_at hj
  have hj2 : j < 2 := hj2
  refine ⟨_, bd_nm 2, ?_⟩
  refine sv_asgF (i := 1) 3 (ef_call (i := 1) F_coder (hr.mono (by decide)) rfl (ea_cons (eo_lst (ea_cons ev_int (ea_cons ev_int (ea_cons ev_int (ea_cons ev_int ea_nil))))).data (ea_cons ev_int (ea_cons ev_int (ea_cons ev_int ea_nil)))) ⟨_, fk, by omega, rfl⟩) rfl (fun d kk2 q => ?_)
  obtain ⟨⟨c, W, rfl⟩, ad⟩ := q
  have fk2 := ad _ fk
  have len0 : 0 < (c.ctx.map fun es => ((es.length : Nat) : Int)).length := by
    rw [List.length_map]
    exact W.c1
  obtain ⟨m1, m2⟩ := maxL_max len0
  obtain ⟨es0, hes0, ee⟩ := List.mem_map.mp m1
  have C := cap_of W (e := es0.length) ⟨es0, hes0, rfl⟩ (fun es h => by
    have := m2 _ (List.mem_map.mpr ⟨es, h, rfl⟩)
    rw [← ee] at this
    omega)
  have el : (c.ctx.map dCtx).map lenP = (c.ctx.map fun es => ((es.length : Nat) : Int)).map PyData.int := by
    rw [List.map_map, List.map_map]
    refine List.map_congr_left fun es _ => ?_
    show PyData.int (((es.map dEnt).length : Nat) : Int) = _
    rw [List.length_map]
    rfl
  refine sv_asg 4 (d := dI es0.length) (ev_is (ev_maxL B.max len0 (ev_is (eo_lc [("_law_room", 12)] (it_tup (ds := c.ctx.map dCtx) (ev_ixT (nm 3) ev_int (by rfl))) lenP (by rw [List.length_map]; have := W.c2; omega) (fun i d hi => ?_) (blkOk_by (N := lawN) (sc := defScope s_law) (by decide +kernel))).data (congrArg PyData.list el))) (congrArg PyData.int ee.symm)) ?_
  · rw [List.getElem?_map] at hi
    cases he : c.ctx[i]? with
    | none =>
      rw [he] at hi
      cases hi
    | some es =>
      rw [he] at hi
      cases hi
      exact ⟨_, fun s H C cl fp => ⟨bv_nm 12, ev_lenT (ds := es.map dEnt) B.len (nm 12)⟩⟩
  clear el ee m1 m2 len0
  generalize es0.length = e at *
  clear hes0
  refine sv_asg 5 (d := dI (mostOf e)) (ev_if (k := decide ((e : Int) = 2)) (et_cmp c_eqI (nm 4) ev_int) (fun h => ?_) (fun h => ev_if (k := decide ((e : Int) = 3)) (et_cmp c_eqI (nm 4) ev_int) (fun h2 => ?_) (fun h2 => ?_))) ?_
  · have h0 := of_decide_eq_true h
    unfold mostOf
    rw [if_pos (show e = 2 by omega)]
    exact ev_int
  · have h0 := of_decide_eq_false h
    have h3 := of_decide_eq_true h2
    unfold mostOf
    rw [if_neg (show ¬ e = 2 by omega), if_pos (show e = 3 by omega)]
    exact ev_int
  · have h0 := of_decide_eq_false h
    have h3 := of_decide_eq_false h2
    unfold mostOf
    rw [if_neg (show ¬ e = 2 by omega), if_neg (show ¬ e = 3 by omega)]
    exact ev_int
  generalize mostOf e = most at *
  have m4 := C.le.2
  refine sv_bind (ev_call F_all (hr.mono (by decide)) (ea_cons (nm 3) (ea_cons (nm 5) ea_nil)) ⟨c, most, W, C, rfl, rfl⟩) (bd_tup (bds_cons (bd_nm 6) (bds_cons (bd_nm 7) bds_nil))) ?_
  refine sv_skip (et_is (et_w (ew_or (k1 := false) (k2 := false) (et_is (et_not (et_val (k := true) (ev_call F_side (hr.mono (by decide)) (ea_cons (nm 3) ea_nil) ⟨c, W, rfl, rfl⟩))) rfl) fun h => (ew_or1 (et_is (et_not (et_val (k := true) (ev_call F_next (hr.mono (by decide)) (ea_cons (nm 3) (ea_cons (nm 6) (ea_cons (nm 5) ea_nil))) ⟨c, most, W, C, rfl, rfl⟩))) rfl)))) rfl) ?_
  refine sv_for (it_range1 (n := ((most : Nat) : Int) + 1) B.range (by omega) (ev_add (i := ((most : Nat) : Int)) (nm 5) ev_int)) (fun l r => ∃ b2 b8 b9 b10 b11 b12 b13 b14, r = [some (.d (.list (L.map PyData.int))), some (.o (.f a kk2)), b2, some (.d (dCod c)), some (.d (dI e)), some (.d (dI most)), some (.d (.list ((words c most).map ndD))), some (.d (.list ((losts c most).map goD))), b8, b9, b10, b11, b12, b13, b14])
    ⟨_, _, _, _, _, _, _, _, rfl⟩ (fun l d r hl hp => ?_) (fun r hp => ?_)
  · obtain ⟨b2, b8, b9, b10, b11, b12, b13, b14, rfl⟩ := hp
    obtain ⟨rfl, hl2⟩ := rangeD_at hl
    have hlm : l ≤ most := by omega
    rw [Int.zero_add]
    refine ⟨_, bd_nm 8, ?_⟩
    have few := bfs_few W C 80
    have few2 := losts_few W C
    have fewW : (words c most).length ≤ 40 := few
    have wl : ∀ v ∈ words c most, (wS v.cs).length ≤ sizeLine := fun v hv => by
      rw [wS_len]
      have := (bfs_ok W m4 80 v hv).l
      exact Nat.le_trans (show v.cs.length ≤ 4 by omega) (by decide)
    have gl : ∀ g ∈ losts c most, (wS g.1).length ≤ sizeLine := fun g hg => by
      rw [wS_len]
      rw [(words_fix W C).2] at hg
      obtain ⟨v, hv, hg⟩ := List.mem_flatMap.mp hg
      have := (bfs_ok W m4 80 v hv).l
      rw [gon_len hg]
      exact Nat.le_trans (show v.cs.length + 1 ≤ 5 by omega) (by decide)
    refine sv_lcF 9 [("_law_term", 14), ("_law_cover", 13), ("_law_room", 12)] (it_list (ds := (words c most).map ndD) (nm 6)) (endP l) (by rw [List.length_map]; omega) (fun i d hi => ?_) (blkOk_by (N := lawN) (sc := defScope s_law) (by decide +kernel)) ?_
    · rw [List.getElem?_map] at hi
      cases he : (words c most)[i]? with
      | none =>
        rw [he] at hi
        cases hi
      | some v =>
        rw [he] at hi
        cases hi
        have hz := wl v (List.mem_of_getElem? he)
        refine ⟨_, isNone (dOpt v.k) && decide ((wS v.cs).length ≤ l), fun s H C cl fp => ⟨bv_tup (bvs_cons (bv_nm 14) (bvs_cons (bv_nm 13) (bvs_cons (bv_nm 12) bvs_nil))), et_w (ew_and (et_cmp c_isN (nm 12) ev_non) fun h => (ew_and1 (et_is (et_cmp c_le (ev_lenS B.len hz (nm 14)) (nm 8)) (decide_eq_decide.mpr Int.ofNat_le)))), fun z => ?_, fun z => ⟨dSp v.x, ?_, nm 13⟩⟩⟩
        · show (if (isNone (dOpt v.k) && decide ((wS v.cs).length ≤ l)) = true then some (dSp v.x) else none) = none
          rw [if_neg (by rw [z]; decide)]
        · show (if (isNone (dOpt v.k) && decide ((wS v.cs).length ≤ l)) = true then some (dSp v.x) else none) = _
          rw [if_pos z]
    rw [ends_fm]
    refine sv_lcF 10 [("_law_term", 14), ("_law_cover", 13), ("_law_room", 12)] (it_list (ds := (words c most).map ndD) (nm 6)) (goP l) (by rw [List.length_map]; omega) (fun i d hi => ?_) (blkOk_by (N := lawN) (sc := defScope s_law) (by decide +kernel)) ?_
    · rw [List.getElem?_map] at hi
      cases he : (words c most)[i]? with
      | none =>
        rw [he] at hi
        cases hi
      | some v =>
        rw [he] at hi
        cases hi
        have hz := wl v (List.mem_of_getElem? he)
        refine ⟨_, !isNone (dOpt v.k) && decide ((wS v.cs).length = l), fun s H C cl fp => ⟨bv_tup (bvs_cons (bv_nm 14) (bvs_cons (bv_nm 13) (bvs_cons (bv_nm 12) bvs_nil))), et_w (ew_and (et_cmp c_notN (nm 12) ev_non) fun h => (ew_and1 (et_is (et_cmp c_eqI (ev_lenS B.len hz (nm 14)) (nm 8)) (decide_eq_decide.mpr Int.ofNat_inj)))), fun z => ?_, fun z => ⟨dSp v.x, ?_, nm 13⟩⟩⟩
        · show (if (!isNone (dOpt v.k) && decide ((wS v.cs).length = l)) = true then some (dSp v.x) else none) = none
          rw [if_neg (by rw [z]; decide)]
        · show (if (!isNone (dOpt v.k) && decide ((wS v.cs).length = l)) = true then some (dSp v.x) else none) = _
          rw [if_pos z]
    rw [goes_fm]
    refine sv_lcF 11 [("_law_term", 14), ("_law_cover", 13)] (it_list (ds := (losts c most).map goD) (nm 7)) (gnP l) (by rw [List.length_map]; omega) (fun i d hi => ?_) (blkOk_by (N := lawN) (sc := defScope s_law) (by decide +kernel)) ?_
    · rw [List.getElem?_map] at hi
      cases he : (losts c most)[i]? with
      | none =>
        rw [he] at hi
        cases hi
      | some g =>
        rw [he] at hi
        cases hi
        have hz := gl g (List.mem_of_getElem? he)
        refine ⟨_, decide ((wS g.1).length ≤ l), fun s H C cl fp => ⟨bv_tup (bvs_cons (bv_nm 14) (bvs_cons (bv_nm 13) bvs_nil)), et_is (et_cmp c_le (ev_lenS B.len hz (nm 14)) (nm 8)) (decide_eq_decide.mpr Int.ofNat_le), fun z => ?_, fun z => ⟨dSp g.2, ?_, nm 13⟩⟩⟩
        · show (if decide ((wS g.1).length ≤ l) = true then some (dSp g.2) else none) = none
          rw [if_neg (by rw [z]; decide)]
        · show (if decide ((wS g.1).length ≤ l) = true then some (dSp g.2) else none) = _
          rw [if_pos z]
    rw [gone_fm]
    refine sv_frz 9 (sv_frz 10 (sv_frz 11 ?_))
    obtain ⟨t1, t2, t3⟩ := three W C hlm
    have tot := (lev_ok W l (by unfold dep; omega)).2
    unfold total at tot
    obtain ⟨sh1, sh2⟩ := thr_show (a := (lev c l).en) (b := mass (lev c l).fu) (c := (lev c l).lo) (by omega) (by omega) (by omega)
    refine sv_skip (et_is (et_cmp c_neS (ev_repr (ds := thr (lev c l).en (mass (lev c l).fu) (lev c l).lo) hg' B.repr (ev_call F_shares (hr.mono (by decide)) (ea_cons (nm 3) (ea_cons (nm 8) ea_nil)) ⟨c, l, W, by omega, rfl, rfl⟩) (thr_flat _ _ _) sh1 (thr_dict _ _ _) (by rw [thr_depth]; exact hun) sh2)
      (ev_repr (ds := thr (lev c l).en (mass (lev c l).fu) (lev c l).lo) hg' B.repr (ev_tup (ea_cons (ev_call F_sum (hr.mono (by decide)) (ea_cons (nm 9) ea_nil) ⟨endsOf l (words c most), ?_, fun x hx => ?_, rfl, by rw [t1]⟩) (ea_cons (ev_call F_sum (hr.mono (by decide)) (ea_cons (nm 10) ea_nil) ⟨goesOf l (words c most), ?_, fun x hx => ?_, rfl, by rw [t2]⟩) (ea_cons (ev_call F_sum (hr.mono (by decide)) (ea_cons (nm 11) ea_nil) ⟨goneOf l (losts c most), ?_, fun x hx => ?_, rfl, by rw [t3]⟩) ea_nil)))) (thr_flat _ _ _) sh1 (thr_dict _ _ _) (by rw [thr_depth]; exact hun) sh2)) (by rw [decide_eq_true rfl]; rfl)) (sv_nil ⟨_, _, _, _, _, _, _, _, rfl⟩)
    · unfold endsOf
      rw [List.length_map]
      exact Nat.le_trans (List.length_filter_le _ _) (by omega)
    · obtain ⟨v, hv, rfl⟩ := ends_mem hx
      exact words_sp W C hv
    · unfold goesOf
      rw [List.length_map]
      exact Nat.le_trans (List.length_filter_le _ _) (by omega)
    · obtain ⟨v, hv, rfl⟩ := goes_mem hx
      exact words_sp W C hv
    · unfold goneOf
      rw [List.length_map]
      exact Nat.le_trans (List.length_filter_le _ _) (by omega)
    · obtain ⟨v, hv, rfl⟩ := gone_mem hx
      exact losts_sp W C hv
  · obtain ⟨b2, b8, b9, b10, b11, b12, b13, b14, rfl⟩ := hp
    exact sv_nil ⟨a, kk2, _, _, _, _, _, _, _, _, _, _, _, _, _, rfl, by
      rw [Nat.mul_succ]
      exact fk2⟩
end
end G
set_option Elab.async false
set_option linter.all false
set_option maxRecDepth 100000
set_option maxHeartbeats 4000000
/-! One call of a def from outside, at one around: what is said of it need not hold elsewhere. -/
namespace G
open PySem PySem.Spec PyProof.Rows L2 Hd
theorem call_at {P : Program} {w : World} {K : PySem.W.Frag} {mg : Str → Option Value} {base : Heap} {x y : Str} {st : Stmt} {f : Addr} {fd : FuncData} {N : List Str} {A : Around} {outer : List Env} {s : Shared} {H : Hp} {u : Value} {v : V} {Q : VK}
    (Fd : FunD K x x (defArgs st) (defBody st) (defScope st) [] [] f fd) (sc : FnScope N [y] (defScope st)) (hd : A.handled = none) (dp : A.depth < recursionLimit) (e0 : Env0 P w K mg base A outer s H) (hb : BindsTo s fd ⟨[u], []⟩ [(y, u)]) (rv : RelV v u)
    (body : ∀ cdv, WSs (cxOf CX0 P w K mg base N x (defScope st) f cdv A outer s H (fun _ _ _ => False)).nox (defBody st) { nx := fun _ H' => Q .non H', rt := Q } (L2.start N [v]) H) :
    codeAny (model P w) A (.call (.ref f) ⟨[u], []⟩) (CR CX0 outer P w H s Q fun _ _ _ => False) s := by
  obtain ⟨oc, od, dV, kV, doc, pm, an, cdv, ct, osl, rfl, lk, hcd, _, _⟩ := Fd.ex
  have inK : K.In s.heap := e0.mod.kin.keeps fun b o e => (e0.bs b o e).1
  have nolim : s.heap.NoLimit := e0.mod.nolimit.keeps fun b o e => (e0.bs b o e).1
  refine codeAny_call_function dp (inK _ _ lk) rfl sc.co sc.gen rfl (PySem.W.codeRec_of inK hcd) (hb _ _ _ _ (wpAny_newFunctionEnv_cells sc.kind (fun q hq => ?_) fun env he s1 ic => ?_))
  · rw [List.mem_singleton.mp hq]
    rcases sc.par y List.mem_cons_self with k | k
    · exact .inl k
    · exact .inr ⟨k, PySem.W.cellsFrom_some _ _ _ (.inl k)⟩
  · subst he
    refine ⟨nolim.keeps ic.toInCall.keep, codeAny_func ?_⟩
    have I := inv_start (CX := CX0) (E := fun _ _ _ => False) (vs := [v]) sc hd e0 rfl (.cons rv .nil) ic
    refine wpAny_mono ((PSs.nox (pss_w (X := (cxOf CX0 P w K mg base N x (defScope st) f cdv A outer s H (fun _ _ _ => False)).nox))).run [] s1 _ H _ I (body cdv)) (fun fl s2 h => ?_) fun _ _ h => h
    cases fl with
    | next =>
      obtain ⟨σ2, H2, J, q⟩ := h
      exact ⟨.non, H2, J.os, J.bare, J.base, J.hok, rfl, q⟩
    | ret z =>
      obtain ⟨r, σ2, H2, J, rr, q⟩ := h
      exact ⟨r, H2, J.os, J.bare, J.base, J.hok, rr, q⟩
    | brk =>
      obtain ⟨_, _, _, q⟩ := h
      exact q.elim
    | cont =>
      obtain ⟨_, _, _, q⟩ := h
      exact q.elim
/-- the script in the heap: fixed, or one of the module's own -/
structure ScrH (P : Program) (w : World) (K : PySem.W.Frag) (h : Heap) (a : Addr) (ns : List Int) (H : Hp) : Prop where
  only : ∀ b, H b = none ∨ (b = a ∧ K.lookup a = none ∧ ∃ o xs, H b = some (.frz o (.lst xs)))
  sq : SqL K H a (ns.map V.int)
  ok : HOk P w H h
theorem ints_vals : ∀ {us : List Value} {ns : List Int}, IntsAre us ns → Vals (ns.map V.int) us
  | _, _, .nil => .nil
  | _, _, .cons n t h => .cons ⟨t, rfl⟩ (ints_vals h)
theorem scr_ex {P : Program} {w : World} {K : PySem.W.Frag} {h : Heap} {a : Addr} {vs : List Value} {ns : List Int} (inK : K.In h) (ha : h.get? a = some { cls := .type "list", data := .seq vs.toArray }) (hi : IntsAre vs ns) (hl : ns.length ≤ sizeLine) : ∃ H, ScrH P w K h a ns H := by
  have r := ints_vals hi
  cases hk : K.lookup a with
  | some o =>
    have e := (inK a o hk).symm.trans ha
    cases e
    refine ⟨fun _ => none, fun _ => .inl rfl, .inr ⟨_, vs.toArray, _, hk, rfl, rfl, rfl, ?_, by simpa using r⟩, fun b u z => by cases z⟩
    rw [List.size_toArray, hi.length]
    exact hl
  | none =>
    refine ⟨fun b => if b = a then some (.frz { cls := .type "list", data := .seq vs.toArray } (.lst (ns.map V.int))) else none, fun b => ?_, .inl (.inr ⟨_, if_pos rfl⟩), fun b u z => ?_⟩
    · by_cases e : b = a
      · exact .inr ⟨e, hk, _, _, if_pos e⟩
      · exact .inl (if_neg e)
    · by_cases e : b = a
      · rw [if_pos e] at z
        cases z
        subst e
        exact ⟨ha, by rw [List.length_map]; exact hl, vs, _, r, ha⟩
      · rw [if_neg e] at z
        cases z
/-- the law's call -/
theorem law_at {P : Program} {w : World} {K : PySem.W.Frag} {mg mb : Str → Option Value} {fa a : Addr} {fd : FuncData} {x y : Str} {st : Stmt} {N : List Str} {s : Shared} {vs : List Value} {ns : List Int}
    (inK : K.In s.heap) (hns : s.heap.Ns mainGlobals mg) (hb : s.heap.Ns builtinsNs mb) (hbb : ∀ x : Str, x ≠ "__name__" → mb x = bootBuiltins x) (hlim : s.heap.NoLimit) (hg : s.gens = #[])
    (ha : s.heap.get? a = some { cls := .type "list", data := .seq vs.toArray }) (hi : IntsAre vs ns) (hl : ns.length ≤ sizeLine)
    (Fd : FunD K x x (defArgs st) (defBody st) (defScope st) [] [] fa fd) (sc : FnScope N [y] (defScope st)) (hbind : ∀ (s : Shared) (u : Value), BindsTo s fd ⟨[u], []⟩ [(y, u)])
    (body : ∀ (base : Heap) (cdv : Value) (outer : List Env) (H : Hp) (E : XK), K.In base → base.Ns mainGlobals mg → SEv (cxOf CX0 P w K mg base N x (defScope st) fa cdv callerA outer s H E).nox (defBody st) (ini N [.list (ns.map PyData.int)]) { nx := fun _ => False, rt := fun d _ => d = .bool true }) :
    codeAny (model P w) callerA (.call (.ref fa) ⟨[.ref a], []⟩) (fun r s' => r = .ok (.ret (.bool true)) ∧ OldK s.heap s'.heap ∧ s'.os = s.os ∧ AllBare s'.gens) s := by
  obtain ⟨H, S⟩ := scr_ex (P := P) (w := w) inK ha hi hl
  have up : ∀ {b : Addr} {o : Obj}, s.heap.get? b = some o → H b = none → (hidT s.heap H).get? b = some o := fun e n => hidT_get e n
  have noA : ∀ {b : Addr} {o : Obj} {es : Array DictEntry} {ep : Nat}, s.heap.get? b = some o → o.data = .dict es ep → H b = none := fun {b o es ep} e d => by
    rcases S.only b with z | ⟨rfl, _⟩
    · exact z
    · rw [ha] at e
      cases e
      cases d
  have nsUp : ∀ {b : Addr} {m : Str → Option Value}, s.heap.Ns b m → (hidT s.heap H).Ns b m := fun ⟨o, es, ep, e, d, r⟩ => ⟨o, es, ep, up e (noA e d), d, r⟩
  have inB : K.In (hidT s.heap H) := fun b o e => up (inK b o e) (by
    rcases S.only b with z | ⟨rfl, z, _⟩
    · exact z
    · rw [e] at z
      cases z)
  obtain ⟨mc, l1, l2⟩ := hlim
  have e0 : Env0 P w K mg (hidT s.heap H) callerA [] s H :=
    ⟨rfl, ⟨inB, nsUp hns, ⟨mb, nsUp hb, hbb⟩, ⟨mc, nsUp l1, l2⟩⟩, fun b o e => of_hidT e, Nat.le_of_eq (hidT_size _ _), trivial, fun b z => absurd z (by rintro ⟨⟩), S.ok, .of_eq hg⟩
  refine codeAny_mono (call_at (v := .ref a) (Q := fun v _ => v = .bl true) Fd sc rfl (by decide) e0 (hbind s _) rfl fun cdv => ?_) fun r s2 h => ?_
  · have dp : DpAll K H [V.ref a] [.list (ns.map PyData.int)] := by
      have iall : ∀ ms : List Int, DpAll K H (ms.map V.int) (ms.map PyData.int) := fun ms => by
        induction ms with
        | nil => exact .nil
        | cons m ms ih => exact .cons (.int m) ih
      exact .cons (.lst S.sq (iall ns)) .nil
    exact body _ cdv [] H _ inB (nsUp hns) ⟨sc.nd, rfl, PassesOwn.never⟩ ⟨H, H⟩ H H _ _ (sr_start (Same.refl H) dp) ⟨fun ρ I' H' σ' e _ => e.elim, fun d' ρ v I' H' σ' e _ dv => dp_bl (show Dp K I' v (.bool true) from e ▸ dv),
      fun _ _ _ _ h => h.elim, fun _ _ _ _ h => h.elim, fun _ _ _ _ _ h => h.elim⟩
  · cases r with
    | error e => exact (show False from h).elim
    | ok fl =>
      cases fl with
      | ret u =>
        obtain ⟨v, H2, os, bare, un, ok2, rv, q⟩ := h
        obtain rfl : v = .bl true := q
        obtain rfl : u = Value.bool true := rv
        refine ⟨rfl, OldK.of_keep fun b o e => ?_, os, bare⟩
        rcases S.only b with z | ⟨_, _, ob, xs, z⟩
        · exact un.keep b o e z (fun m => by cases m) (fun m => by cases m)
        · obtain ⟨e1, _⟩ := S.ok b _ z
          obtain ⟨e2, _⟩ := ok2 b _ (un.frzs b ob _ z)
          rw [e] at e1
          cases e1
          exact e2
      | next => exact (show False from h).elim
      | brk => exact (show False from h).elim
      | cont => exact (show False from h).elim
end G
set_option Elab.async false
set_option linter.all false
set_option maxRecDepth 100000
set_option maxHeartbeats 4000000
/-! All defs, by the head's facts. -/
namespace G
open PySem PySem.Spec PyProof.Rows L2 Hd Bm
theorem room_top : Room 9 callerA := ⟨rfl, by decide, by decide⟩
theorem run_all {P : Program} {w : World} {K : PySem.W.Frag} {mg : Str → Option Value} {h : Heap} (X : K.In h) (G : h.Ns mainGlobals mg) (c : He.SaysD fa fn K) (base : Heap) (f : Addr) (cdv : Value) (outer : List Env) (s : Shared) (H : Hp) (E : XK) (L : List Int) (hL : L.length ≤ 63) :
    SEv (cxOf CX0 P w K mg base lawN "law" (defScope s_law) f cdv callerA outer s H E).nox (defBody s_law) (ini lawN [.list (L.map PyData.int)]) { nx := fun _ => False, rt := fun d _ => d = .bool true } := by
  have B : Blt mg := ⟨He.free_ok X G (c.fact 57 (f := .free "isinstance") rfl),
    He.free_ok X G (c.fact 58 (f := .free "all") rfl),
    He.free_ok X G (c.fact 59 (f := .free "len") rfl),
    He.free_ok X G (c.fact 60 (f := .free "sum") rfl),
    He.free_ok X G (c.fact 61 (f := .free "max") rfl),
    He.free_ok X G (c.fact 62 (f := .free "tuple") rfl),
    He.free_ok X G (c.fact 63 (f := .free "enumerate") rfl),
    He.free_ok X G (c.fact 64 (f := .free "zip") rfl),
    He.free_ok X G (c.fact 65 (f := .free "range") rfl),
    He.free_ok X G (c.fact 66 (f := .free "sorted") rfl),
    He.free_ok X G (c.fact 67 (f := .free "list") rfl),
    He.free_ok X G (c.fact 68 (f := .free "int") rfl),
    He.free_ok X G (c.fact 69 (f := .free "str") rfl),
    He.free_ok X G (c.fact 70 (f := .free "bool") rfl),
    He.free_ok X G (c.fact 71 (f := .free "repr") rfl),
    He.str_ok X G (c.fact 72 (f := .str "LETTERS" "abcdefghijklmnopqrstuvwxyz") rfl),
    He.int_ok X G (c.fact 73 (f := .int "GREATEST_DEPTH" 400) rfl),
    He.int_ok X G (c.fact 74 (f := .int "MOST_LETTERS" 30) rfl)⟩
  have A_law_feed : At K mg "_law_feed" s_law_feed := by
    obtain ⟨fd, F⟩ := c.def_ 34 (d := d_law_feed) rfl
    exact ⟨_, fd, F, He.glo_ok X G (c.fact 34 (f := .glo "_law_feed") rfl)⟩
  have F_law_feed := f_law_feed (P := P) (w := w) (base := base) A_law_feed
  have A_law_draw : At K mg "_law_draw" s_law_draw := by
    obtain ⟨fd, F⟩ := c.def_ 35 (d := d_law_draw) rfl
    exact ⟨_, fd, F, He.glo_ok X G (c.fact 35 (f := .glo "_law_draw") rfl)⟩
  have F_law_draw := f_law_draw (P := P) (w := w) (base := base) B A_law_draw
  have A_law_any : At K mg "_law_any" s_law_any := by
    obtain ⟨fd, F⟩ := c.def_ 36 (d := d_law_any) rfl
    exact ⟨_, fd, F, He.glo_ok X G (c.fact 36 (f := .glo "_law_any") rfl)⟩
  have F_law_any := f_law_any (P := P) (w := w) (base := base) B F_law_draw A_law_any
  have A_law_shape : At K mg "_law_shape" s_law_shape := by
    obtain ⟨fd, F⟩ := c.def_ 37 (d := d_law_shape) rfl
    exact ⟨_, fd, F, He.glo_ok X G (c.fact 37 (f := .glo "_law_shape") rfl)⟩
  have F_law_shape := f_law_shape (P := P) (w := w) (base := base) F_law_any A_law_shape
  have A_law_drawn : At K mg "_law_drawn" s_law_drawn := by
    obtain ⟨fd, F⟩ := c.def_ 38 (d := d_law_drawn) rfl
    exact ⟨_, fd, F, He.glo_ok X G (c.fact 38 (f := .glo "_law_drawn") rfl)⟩
  have F_law_drawn := f_law_drawn (P := P) (w := w) (base := base) B F_law_draw A_law_drawn
  have A_law_coder : At K mg "_law_coder" s_law_coder := by
    obtain ⟨fd, F⟩ := c.def_ 39 (d := d_law_coder) rfl
    exact ⟨_, fd, F, He.glo_ok X G (c.fact 39 (f := .glo "_law_coder") rfl)⟩
  have F_law_coder := f_law_coder (P := P) (w := w) (base := base) B F_law_draw F_law_any F_law_shape F_law_drawn A_law_coder
  have A_law_two : At K mg "_law_two" s_law_two := by
    obtain ⟨fd, F⟩ := c.def_ 40 (d := d_law_two) rfl
    exact ⟨_, fd, F, He.glo_ok X G (c.fact 40 (f := .glo "_law_two") rfl)⟩
  have F_law_two := f_law_two (P := P) (w := w) (base := base) A_law_two
  have A_law_place : At K mg "_law_place" s_law_place := by
    obtain ⟨fd, F⟩ := c.def_ 47 (d := d_law_place) rfl
    exact ⟨_, fd, F, He.glo_ok X G (c.fact 47 (f := .glo "_law_place") rfl)⟩
  have F_law_place := f_law_place (P := P) (w := w) (base := base) B A_law_place
  have A_law_parts : At K mg "_law_parts" s_law_parts := by
    obtain ⟨fd, F⟩ := c.def_ 41 (d := d_law_parts) rfl
    exact ⟨_, fd, F, He.glo_ok X G (c.fact 41 (f := .glo "_law_parts") rfl)⟩
  have F_law_parts := f_law_parts (P := P) (w := w) (base := base) B A_law_parts
  have A_law_doubled : At K mg "_law_doubled" s_law_doubled := by
    obtain ⟨fd, F⟩ := c.def_ 44 (d := d_law_doubled) rfl
    exact ⟨_, fd, F, He.glo_ok X G (c.fact 44 (f := .glo "_law_doubled") rfl)⟩
  have F_law_doubled := f_law_doubled (P := P) (w := w) (base := base) A_law_doubled
  have A_law_known : At K mg "_law_known" s_law_known := by
    obtain ⟨fd, F⟩ := c.def_ 42 (d := d_law_known) rfl
    exact ⟨_, fd, F, He.glo_ok X G (c.fact 42 (f := .glo "_law_known") rfl)⟩
  have F_law_known := f_law_known (P := P) (w := w) (base := base) A_law_known
  have A_law_plain : At K mg "_law_plain" s_law_plain := by
    obtain ⟨fd, F⟩ := c.def_ 45 (d := d_law_plain) rfl
    exact ⟨_, fd, F, He.glo_ok X G (c.fact 45 (f := .glo "_law_plain") rfl)⟩
  have F_law_plain := f_law_plain (P := P) (w := w) (base := base) A_law_plain F_law_known F_law_doubled
  have A_law_middle : At K mg "_law_middle" s_law_middle := by
    obtain ⟨fd, F⟩ := c.def_ 43 (d := d_law_middle) rfl
    exact ⟨_, fd, F, He.glo_ok X G (c.fact 43 (f := .glo "_law_middle") rfl)⟩
  have F_law_middle := f_law_middle (P := P) (w := w) (base := base) A_law_middle F_law_two F_law_known
  have A_law_settled : At K mg "_law_settled" s_law_settled := by
    obtain ⟨fd, F⟩ := c.def_ 46 (d := d_law_settled) rfl
    exact ⟨_, fd, F, He.glo_ok X G (c.fact 46 (f := .glo "_law_settled") rfl)⟩
  have F_law_settled := f_law_settled (P := P) (w := w) (base := base) B A_law_settled F_law_two F_law_doubled F_law_plain F_law_middle
  have A_law_next : At K mg "_law_next" s_law_next := by
    obtain ⟨fd, F⟩ := c.def_ 48 (d := d_law_next) rfl
    exact ⟨_, fd, F, He.glo_ok X G (c.fact 48 (f := .glo "_law_next") rfl)⟩
  have F_law_next := f_law_next (P := P) (w := w) (base := base) A_law_next F_law_place F_law_parts F_law_settled
  have A_law_all : At K mg "_law_all" s_law_all := by
    obtain ⟨fd, F⟩ := c.def_ 49 (d := d_law_all) rfl
    exact ⟨_, fd, F, He.glo_ok X G (c.fact 49 (f := .glo "_law_all") rfl)⟩
  have F_law_all := f_law_all (P := P) (w := w) (base := base) B A_law_all F_law_two F_law_next
  have A_is_integer : At K mg "is_integer" s_is_integer := by
    obtain ⟨fd, F⟩ := c.def_ 0 (d := d_is_integer) rfl
    exact ⟨_, fd, F, He.glo_ok X G (c.fact 0 (f := .glo "is_integer") rfl)⟩
  have F_is_integer := f_is_integer (P := P) (w := w) (base := base) B A_is_integer
  have A_is_number : At K mg "is_number" s_is_number := by
    obtain ⟨fd, F⟩ := c.def_ 1 (d := d_is_number) rfl
    exact ⟨_, fd, F, He.glo_ok X G (c.fact 1 (f := .glo "is_number") rfl)⟩
  have F_is_number := f_is_number (P := P) (w := w) (base := base) A_is_number F_is_integer
  have A_bounds_of : At K mg "bounds_of" s_bounds_of := by
    obtain ⟨fd, F⟩ := c.def_ 7 (d := d_bounds_of) rfl
    exact ⟨_, fd, F, He.glo_ok X G (c.fact 7 (f := .glo "bounds_of") rfl)⟩
  have F_bounds_of := f_bounds_of (P := P) (w := w) (base := base) B A_bounds_of
  have A_parts_of : At K mg "parts_of" s_parts_of := by
    obtain ⟨fd, F⟩ := c.def_ 8 (d := d_parts_of) rfl
    exact ⟨_, fd, F, He.glo_ok X G (c.fact 8 (f := .glo "parts_of") rfl)⟩
  have F_parts_of := f_parts_of (P := P) (w := w) (base := base) B A_parts_of F_is_number F_bounds_of
  have A_law_side_by_side : At K mg "_law_side_by_side" s_law_side_by_side := by
    obtain ⟨fd, F⟩ := c.def_ 51 (d := d_law_side_by_side) rfl
    exact ⟨_, fd, F, He.glo_ok X G (c.fact 51 (f := .glo "_law_side_by_side") rfl)⟩
  have F_law_side_by_side := f_law_side_by_side (P := P) (w := w) (base := base) B A_law_side_by_side F_law_two F_parts_of
  have A_is_letters : At K mg "is_letters" s_is_letters := by
    obtain ⟨fd, F⟩ := c.def_ 5 (d := d_is_letters) rfl
    exact ⟨_, fd, F, He.glo_ok X G (c.fact 5 (f := .glo "is_letters") rfl)⟩
  have F_is_letters := f_is_letters (P := P) (w := w) (base := base) B A_is_letters
  have A_place_of : At K mg "place_of" s_place_of := by
    obtain ⟨fd, F⟩ := c.def_ 23 (d := d_place_of) rfl
    exact ⟨_, fd, F, He.glo_ok X G (c.fact 23 (f := .glo "place_of") rfl)⟩
  have F_place_of := f_place_of (P := P) (w := w) (base := base) B A_place_of
  have A_path_of : At K mg "path_of" s_path_of := by
    obtain ⟨fd, F⟩ := c.def_ 24 (d := d_path_of) rfl
    exact ⟨_, fd, F, He.glo_ok X G (c.fact 24 (f := .glo "path_of") rfl)⟩
  have F_path_of := f_path_of (P := P) (w := w) (base := base) B A_path_of F_is_letters F_place_of
  have A_begun : At K mg "begun" s_begun := by
    obtain ⟨fd, F⟩ := c.def_ 25 (d := d_begun) rfl
    exact ⟨_, fd, F, He.glo_ok X G (c.fact 25 (f := .glo "begun") rfl)⟩
  have F_begun := f_begun (P := P) (w := w) (base := base) A_begun
  have A_late_times : At K mg "late_times" s_late_times := by
    obtain ⟨fd, F⟩ := c.def_ 16 (d := d_late_times) rfl
    exact ⟨_, fd, F, He.glo_ok X G (c.fact 16 (f := .glo "late_times") rfl)⟩
  have F_late_times := f_late_times (P := P) (w := w) (base := base) A_late_times
  have A_open_depth : At K mg "open_depth" s_open_depth := by
    obtain ⟨fd, F⟩ := c.def_ 12 (d := d_open_depth) rfl
    exact ⟨_, fd, F, He.glo_ok X G (c.fact 12 (f := .glo "open_depth") rfl)⟩
  have F_open_depth := f_open_depth (P := P) (w := w) (base := base) A_open_depth
  have A_plain_times : At K mg "plain_times" s_plain_times := by
    obtain ⟨fd, F⟩ := c.def_ 15 (d := d_plain_times) rfl
    exact ⟨_, fd, F, He.glo_ok X G (c.fact 15 (f := .glo "plain_times") rfl)⟩
  have F_plain_times := f_plain_times (P := P) (w := w) (base := base) B A_plain_times F_open_depth
  have A_sides_of : At K mg "sides_of" s_sides_of := by
    obtain ⟨fd, F⟩ := c.def_ 13 (d := d_sides_of) rfl
    exact ⟨_, fd, F, He.glo_ok X G (c.fact 13 (f := .glo "sides_of") rfl)⟩
  have F_sides_of := f_sides_of (P := P) (w := w) (base := base) A_sides_of F_open_depth
  have A_doubled_by : At K mg "doubled_by" s_doubled_by := by
    obtain ⟨fd, F⟩ := c.def_ 14 (d := d_doubled_by) rfl
    exact ⟨_, fd, F, He.glo_ok X G (c.fact 14 (f := .glo "doubled_by") rfl)⟩
  have F_doubled_by := f_doubled_by (P := P) (w := w) (base := base) A_doubled_by
  have A_pending_times : At K mg "pending_times" s_pending_times := by
    obtain ⟨fd, F⟩ := c.def_ 17 (d := d_pending_times) rfl
    exact ⟨_, fd, F, He.glo_ok X G (c.fact 17 (f := .glo "pending_times") rfl)⟩
  have F_pending_times := f_pending_times (P := P) (w := w) (base := base) B A_pending_times F_plain_times F_sides_of F_doubled_by
  have A_cut_apart : At K mg "cut_apart" s_cut_apart := by
    obtain ⟨fd, F⟩ := c.def_ 18 (d := d_cut_apart) rfl
    exact ⟨_, fd, F, He.glo_ok X G (c.fact 18 (f := .glo "cut_apart") rfl)⟩
  have F_cut_apart := f_cut_apart (P := P) (w := w) (base := base) A_cut_apart F_sides_of
  have A_settle : At K mg "settle" s_settle := by
    obtain ⟨fd, F⟩ := c.def_ 19 (d := d_settle) rfl
    exact ⟨_, fd, F, He.glo_ok X G (c.fact 19 (f := .glo "settle") rfl)⟩
  have F_settle := f_settle (P := P) (w := w) (base := base) A_settle F_late_times F_pending_times F_plain_times F_doubled_by F_cut_apart
  have A_span_behind : At K mg "span_behind" s_span_behind := by
    obtain ⟨fd, F⟩ := c.def_ 26 (d := d_span_behind) rfl
    exact ⟨_, fd, F, He.glo_ok X G (c.fact 26 (f := .glo "span_behind") rfl)⟩
  have F_span_behind := f_span_behind (P := P) (w := w) (base := base) A_span_behind F_bounds_of F_settle
  have A_written_spans : At K mg "written_spans" s_written_spans := by
    obtain ⟨fd, F⟩ := c.def_ 27 (d := d_written_spans) rfl
    exact ⟨_, fd, F, He.glo_ok X G (c.fact 27 (f := .glo "written_spans") rfl)⟩
  have F_written_spans := f_written_spans (P := P) (w := w) (base := base) B A_written_spans F_begun F_span_behind
  have A_span_of : At K mg "span_of" s_span_of := by
    obtain ⟨fd, F⟩ := c.def_ 28 (d := d_span_of) rfl
    exact ⟨_, fd, F, He.glo_ok X G (c.fact 28 (f := .glo "span_of") rfl)⟩
  have F_span_of := f_span_of (P := P) (w := w) (base := base) A_span_of F_path_of F_written_spans
  have A_is_tuple_of : At K mg "is_tuple_of" s_is_tuple_of := by
    obtain ⟨fd, F⟩ := c.def_ 4 (d := d_is_tuple_of) rfl
    exact ⟨_, fd, F, He.glo_ok X G (c.fact 4 (f := .glo "is_tuple_of") rfl)⟩
  have F_is_tuple_of := f_is_tuple_of (P := P) (w := w) (base := base) B A_is_tuple_of
  have A_is_count : At K mg "is_count" s_is_count := by
    obtain ⟨fd, F⟩ := c.def_ 2 (d := d_is_count) rfl
    exact ⟨_, fd, F, He.glo_ok X G (c.fact 2 (f := .glo "is_count") rfl)⟩
  have F_is_count := f_is_count (P := P) (w := w) (base := base) A_is_count F_is_integer
  have A_is_depth : At K mg "is_depth" s_is_depth := by
    obtain ⟨fd, F⟩ := c.def_ 3 (d := d_is_depth) rfl
    exact ⟨_, fd, F, He.glo_ok X G (c.fact 3 (f := .glo "is_depth") rfl)⟩
  have F_is_depth := f_is_depth (P := P) (w := w) (base := base) B A_is_depth F_is_number
  have A_is_span : At K mg "is_span" s_is_span := by
    obtain ⟨fd, F⟩ := c.def_ 6 (d := d_is_span) rfl
    exact ⟨_, fd, F, He.glo_ok X G (c.fact 6 (f := .glo "is_span") rfl)⟩
  have F_is_span := f_is_span (P := P) (w := w) (base := base) A_is_span F_is_tuple_of F_is_number F_is_count F_is_depth
  have A_check_span : At K mg "check_span" s_check_span := by
    obtain ⟨fd, F⟩ := c.def_ 20 (d := d_check_span) rfl
    exact ⟨_, fd, F, He.glo_ok X G (c.fact 20 (f := .glo "check_span") rfl)⟩
  have F_check_span := f_check_span (P := P) (w := w) (base := base) A_check_span F_is_span
  have A_settled : At K mg "settled" s_settled := by
    obtain ⟨fd, F⟩ := c.def_ 21 (d := d_settled) rfl
    exact ⟨_, fd, F, He.glo_ok X G (c.fact 21 (f := .glo "settled") rfl)⟩
  have F_settled := f_settled (P := P) (w := w) (base := base) A_settled F_check_span F_settle
  have A_lost_of : At K mg "lost_of" s_lost_of := by
    obtain ⟨fd, F⟩ := c.def_ 22 (d := d_lost_of) rfl
    exact ⟨_, fd, F, He.glo_ok X G (c.fact 22 (f := .glo "lost_of") rfl)⟩
  have F_lost_of := f_lost_of (P := P) (w := w) (base := base) A_lost_of F_check_span F_settle
  have A_law_deep : At K mg "_law_deep" s_law_deep := by
    obtain ⟨fd, F⟩ := c.def_ 52 (d := d_law_deep) rfl
    exact ⟨_, fd, F, He.glo_ok X G (c.fact 52 (f := .glo "_law_deep") rfl)⟩
  have F_law_deep := f_law_deep (P := P) (w := w) (base := base) A_law_deep F_law_two
  have A_law_filled : At K mg "_law_filled" s_law_filled := by
    obtain ⟨fd, F⟩ := c.def_ 54 (d := d_law_filled) rfl
    exact ⟨_, fd, F, He.glo_ok X G (c.fact 54 (f := .glo "_law_filled") rfl)⟩
  have F_law_filled := f_law_filled (P := P) (w := w) (base := base) B A_law_filled F_law_deep
  have A_law_next_filled : At K mg "_law_next_filled" s_law_next_filled := by
    obtain ⟨fd, F⟩ := c.def_ 55 (d := d_law_next_filled) rfl
    exact ⟨_, fd, F, He.glo_ok X G (c.fact 55 (f := .glo "_law_next_filled") rfl)⟩
  have F_law_next_filled := f_law_next_filled (P := P) (w := w) (base := base) B A_law_next_filled F_span_of F_settled F_lost_of F_parts_of F_law_filled
  have A_check_length : At K mg "check_length" s_check_length := by
    obtain ⟨fd, F⟩ := c.def_ 32 (d := d_check_length) rfl
    exact ⟨_, fd, F, He.glo_ok X G (c.fact 32 (f := .glo "check_length") rfl)⟩
  have F_check_length := f_check_length (P := P) (w := w) (base := base) B A_check_length F_is_number
  have A_first_state : At K mg "first_state" s_first_state := by
    obtain ⟨fd, F⟩ := c.def_ 29 (d := d_first_state) rfl
    exact ⟨_, fd, F, He.glo_ok X G (c.fact 29 (f := .glo "first_state") rfl)⟩
  have F_first_state := f_first_state (P := P) (w := w) (base := base) A_first_state
  have A_steps_from : At K mg "steps_from" s_steps_from := by
    obtain ⟨fd, F⟩ := c.def_ 30 (d := d_steps_from) rfl
    exact ⟨_, fd, F, He.glo_ok X G (c.fact 30 (f := .glo "steps_from") rfl)⟩
  have F_steps_from := f_steps_from (P := P) (w := w) (base := base) B A_steps_from F_bounds_of F_settle F_sides_of
  have A_graph_of : At K mg "graph_of" s_graph_of := by
    obtain ⟨fd, F⟩ := c.def_ 31 (d := d_graph_of) rfl
    exact ⟨_, fd, F, He.glo_ok X G (c.fact 31 (f := .glo "graph_of") rfl)⟩
  have F_graph_of := f_graph_of (P := P) (w := w) (base := base) B A_graph_of F_first_state F_steps_from
  have A_lowest : At K mg "lowest" s_lowest := by
    obtain ⟨fd, F⟩ := c.def_ 9 (d := d_lowest) rfl
    exact ⟨_, fd, F, He.glo_ok X G (c.fact 9 (f := .glo "lowest") rfl)⟩
  have F_lowest := f_lowest (P := P) (w := w) (base := base) A_lowest
  have A_plus : At K mg "plus" s_plus := by
    obtain ⟨fd, F⟩ := c.def_ 10 (d := d_plus) rfl
    exact ⟨_, fd, F, He.glo_ok X G (c.fact 10 (f := .glo "plus") rfl)⟩
  have F_plus := f_plus (P := P) (w := w) (base := base) A_plus F_lowest
  have A_times : At K mg "times" s_times := by
    obtain ⟨fd, F⟩ := c.def_ 11 (d := d_times) rfl
    exact ⟨_, fd, F, He.glo_ok X G (c.fact 11 (f := .glo "times") rfl)⟩
  have F_times := f_times (P := P) (w := w) (base := base) A_times F_lowest
  have A_shares_sum : At K mg "shares_sum" s_shares_sum := by
    obtain ⟨fd, F⟩ := c.def_ 33 (d := d_shares_sum) rfl
    exact ⟨_, fd, F, He.glo_ok X G (c.fact 33 (f := .glo "shares_sum") rfl)⟩
  have F_shares_sum := f_shares_sum (P := P) (w := w) (base := base) B A_shares_sum F_check_length F_graph_of F_first_state F_plus F_times F_lowest
  have A_law_low : At K mg "_law_low" s_law_low := by
    obtain ⟨fd, F⟩ := c.def_ 50 (d := d_law_low) rfl
    exact ⟨_, fd, F, He.glo_ok X G (c.fact 50 (f := .glo "_law_low") rfl)⟩
  have F_law_low := f_law_low (P := P) (w := w) (base := base) B A_law_low
  have A_law_sum : At K mg "_law_sum" s_law_sum := by
    obtain ⟨fd, F⟩ := c.def_ 53 (d := d_law_sum) rfl
    exact ⟨_, fd, F, He.glo_ok X G (c.fact 53 (f := .glo "_law_sum") rfl)⟩
  have F_law_sum := f_law_sum (P := P) (w := w) (base := base) B A_law_sum F_law_two F_law_low
  exact f_law B F_law_feed F_law_coder F_law_all F_law_side_by_side F_law_next_filled F_shares_sum F_law_sum f cdv callerA outer s H E rfl (room_top.deeper _) L hL
end G
set_option Elab.async false
set_option linter.all false
open PySem PySem.W PySem.Calls PyProof.Rows
set_option maxRecDepth 100000 in
set_option maxHeartbeats 0 in
theorem PySem.Challenge.cw_bitspans_k20_whole_parts_and_shares_holds : PySem.Challenge.rw_bitspans_k20_whole_parts_and_shares.Holds := by
  w_on; o_law
  refine HandSHeadRun.head_any (r := OpenLaw.row PySem.Challenge.rw_bitspans_k20_whole_parts_and_shares) (q := view (OpenLaw.row PySem.Challenge.rw_bitspans_k20_whole_parts_and_shares).prog [75]) (H := Hd.hk) (ob := Hd.ob) (M := 6000) (loose := Hd.loose) (d := HandSHeadRun.topDef (OpenLaw.row PySem.Challenge.rw_bitspans_k20_whole_parts_and_shares).prog 75) (kwd := []) Hd.ob_eq
    (by kernel_rfl) (fun s => by kernel_rfl) Hd.run (by kernel_rfl) (by kernel_rfl) (by kernel_rfl) (by rfl) (by first | assumption | decide +kernel) (by decide +kernel) ⟨rfl, rfl, rfl, rfl, rfl, by decide +kernel⟩ ?hw ?hc
  case hw => w_witness2
  case hc =>
    refine Att.attach_call (l := PySem.Challenge.rw_bitspans_k20_whole_parts_and_shares) (n := 63) rfl (by kernel_rfl) fun w s₀ s₁ mg mb fa o pm cd doc a vs ns Gr Y ho hd hcd hmg0 hobj hints hlen hg => ?_
    obtain ⟨K, KX, c⟩ := Y
    have hmg : mg ("law" : PySem.Str) = some (.ref fa) := by
      have e : (HandSHeadRun.topDef (OpenLaw.row PySem.Challenge.rw_bitspans_k20_whole_parts_and_shares).prog 75).name = ("law" : PySem.Str) := by kernel_rfl
      rw [← e]
      exact hmg0
    obtain ⟨fd, F⟩ := He.SaysD.def_ c 56 (d := Hd.d_law) rfl
    have e := hmg.symm.trans (He.glo_ok KX Gr.T.g (He.SaysD.fact c 56 (f := .glo "law") rfl))
    cases e
    have b := L2.FunD.bindsA (ps := ["_law_script"]) F fun _ _ _ _ _ _ us hl => match us, hl with | [_], _ => rfl
    exact G.law_at KX Gr.T.g Gr.T.b Gr.T.builtins Gr.T.nolimit hg hobj hints (Nat.le_trans hlen (by decide)) F G.sc_law (fun s v => b s [v] rfl)
      fun base cdv outer H E hb hn => G.run_all hb hn c base _ cdv outer s₁ H E ns hlen
