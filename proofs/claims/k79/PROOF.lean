import PyProof.Rows.All
import Wide.All
import OpenK.AllK
import Wide.FinOn
import HandS.ForMost
import KE.KDictKeyed
import KE.KeyNested
import KE.KDictWalk
import HandS.TupAny
import HandS.TupMul
import HandS.Flow
import HandS.Deep
import HandS.IsInst
import HandS.SortInts
import KE.DataMinMax
import HandS.NoneIn
import HandS.TupLe
import HandS.DictComp
import KE.KDictDisplayH
import PyProof.MaxThree
import KE.KRevSl
import KE.KTupSum
import KE.SortData
import KE.SortLaws
import KE.KDictSum
import KE.KDictItemsList
import HandS.DictTup
import PySem.Challenge.RW_landandwater_k79_whole_pressed_or_odd
set_option autoImplicit false
set_option Elab.async false
set_option linter.all false
set_option maxRecDepth 100000
/-! VL1: values as plain data; how data lie in the abstract heap; the state of a def as data. -/
namespace VL
open PySem PySem.Spec PyProof.Rows L2

inductive D where
  | non | bl (b : Bool) | int (i : Int) | str (x : Str)
  | tup (xs : List D) | lst (xs : List D) | dct (kvs : List (D × D)) | deal (a : Addr) | fn (a : Addr) | scr (ns : List Int)

/-- a law's own draws: where they lie, what they are, how many were taken -/
structure Tape where
  a : Addr
  c : Addr
  row : List Int
  tot : Int
  pos : Nat
abbrev Wd := Option Tape
/-- the same draws, another count of those taken -/
def WdLe : Wd → Wd → Prop
  | none, W => W = none
  | some t, W => ∃ q, W = some { t with pos := q }
theorem WdLe.refl (W : Wd) : WdLe W W := by
  cases W with
  | none => rfl
  | some t => exact ⟨t.pos, rfl⟩
theorem WdLe.trans {W W1 W2 : Wd} (a : WdLe W W1) (b : WdLe W1 W2) : WdLe W W2 := by
  cases W with
  | none => cases (show W1 = none from a); exact b
  | some t =>
    obtain ⟨q, rfl⟩ := a
    obtain ⟨q2, rfl⟩ := b
    exact ⟨q2, rfl⟩

/-- the heap without the counter of the draws -/
def Hm (H : Hp) : Wd → Hp
  | none => H
  | some t => fun b => if b = t.c then none else H b
/-- the heap without some addresses -/
def cut (H : Hp) (O : List Addr) : Hp := fun b => if b ∈ O then none else H b

theorem cut_some {H : Hp} {O : List Addr} {b : Addr} {o : HO} : cut H O b = some o ↔ H b = some o ∧ b ∉ O := by
  unfold cut
  split
  · rename_i h; exact ⟨fun e => (nomatch e), fun e => absurd h e.2⟩
  · rename_i h; exact ⟨fun e => ⟨e, h⟩, fun e => e.1⟩
theorem Same.cut {H H' : Hp} (e : Same H H') (O : List Addr) : Same (cut H O) (cut H' O) := fun b o h => by
  obtain ⟨h1, h2⟩ := cut_some.mp h
  exact cut_some.mpr ⟨e b o h1, h2⟩
theorem Same.cutl {H : Hp} {O O' : List Addr} (h : ∀ b, b ∈ O' → b ∈ O) : Same (VL.cut H O) (VL.cut H O') := fun b o e => by
  obtain ⟨h1, h2⟩ := cut_some.mp e
  exact cut_some.mpr ⟨h1, fun q => h2 (h b q)⟩
theorem Same.uncut {H : Hp} {O : List Addr} : Same (VL.cut H O) H := fun b o e => (cut_some.mp e).1
theorem cut_nil {H : Hp} : cut H [] = H := by
  funext b
  unfold cut
  rw [if_neg (by simp)]
theorem Hm_some {H : Hp} {t : Tape} {b : Addr} {o : HO} : Hm H (some t) b = some o ↔ H b = some o ∧ b ≠ t.c := by
  show (if b = t.c then none else H b) = some o ↔ _
  split
  · rename_i h; exact ⟨fun e => (nomatch e), fun e => absurd h e.2⟩
  · rename_i h; exact ⟨fun e => ⟨e, h⟩, fun e => e.1⟩
theorem Hm_of {H : Hp} {W : Wd} {b : Addr} {o : HO} (h : Hm H W b = some o) : H b = some o := by
  cases W with
  | none => exact h
  | some t => exact (Hm_some.mp h).1
theorem Same.unHm {H : Hp} {W : Wd} : Same (Hm H W) H := fun b o h => Hm_of h

theorem Same.seqT {K : PySem.W.Frag} {H H' : Hp} {a : Addr} {xs : List V} (e : Same H H') (h : SqT K H a xs) : SqT K H' a xs := by
  rcases h with (h | ⟨o, h⟩) | h
  · exact .inl (.inl (e _ _ h))
  · exact .inl (.inr ⟨o, e _ _ h⟩)
  · exact .inr h

/-! ### keys of dicts: tuples, nested -/
/-- the program, its world, the written part -/
structure KW where
  w : World
  P : Program
  fr : PySem.W.Frag
instance : Coe KW PySem.W.Frag := ⟨KW.fr⟩
abbrev _root_.L2.Cx.kw (X : Cx) : KW := ⟨X.w, X.prog, X.K⟩
abbrev NK := PySem.NestedKey
mutual
def keyOf : D → Option NK
  | .non => some .none
  | .bl b => some (.num (if b then 1 else 0))
  | .int i => some (.num i)
  | .str x => some (.text x)
  | .tup ds => match keysOf ds with
    | some ks => some (.tup ks)
    | none => none
  | _ => none
def keysOf : List D → Option (List NK)
  | [] => some []
  | d :: r => match keyOf d, keysOf r with
    | some k, some ks => some (k :: ks)
    | _, _ => none
end
def isTup : D → Bool
  | .tup _ => true
  | _ => false
/-- a key: a tuple, not too deep -/
def KeyOk (d : D) (k : NK) : Prop := keyOf d = some k ∧ k.depth ≤ 8 ∧ isTup d = true
/-- the entries of a dict: key, where its tuple stands, value -/
abbrev Ent := NK × Addr × V
/-- the dict at a with these entries -/
def Kd (K : KW) (a : Addr) (xs : List Ent) (h : Heap) : Prop := xs.length ≤ sizeLine ∧ (a == sysModules) = false ∧
  ∃ raw : List (NK × Addr × Value), Paired (fun (p : Ent) (q : NK × Addr × Value) => p.1 = q.1 ∧ p.2.1 = q.2.1 ∧ RelV p.2.2 q.2.2) xs raw ∧
    ∃ o es ep, h.get? a = some o ∧ o.ExactDict ∧ o.data = .dict es ep ∧ es.toList = raw.map (entryOfKey (nestedKind K.P K.w)) ∧ (raw.map (·.1)).Nodup
def KdO (K : KW) (a : Addr) (xs : List Ent) : HO := .ext (Kd K a xs)

mutual
/-- the data d lie at v -/
def RepS (K : KW) (H : Hp) : D → V → Prop
  | .non, v => v = .non
  | .bl b, v => v = .bl b
  | .int i, v => v = .int i
  | .str x, v => v = .str x
  | .tup ds, v => ∃ a xs, v = .ref a ∧ H a = some (.tup xs) ∧ RepSs K H ds xs
  | .lst ds, v => ∃ a xs, v = .ref a ∧ H a = some (.lst xs) ∧ RepSs K H ds xs
  | .dct kvs, v => ∃ a od xs, v = .ref a ∧ H a = some (.frz od (KdO K a xs)) ∧ RepDs K H kvs xs
  | .deal a, v => v = .ref a
  | .fn a, v => v = .ref a
  | .scr ns, v => ∃ a, v = .ref a ∧ SqL K H a (ns.map V.int) ∧ ns.length ≤ 63
def RepSs (K : KW) (H : Hp) : List D → List V → Prop
  | [], xs => xs = []
  | d :: ds, xs => ∃ x r, xs = x :: r ∧ RepS K H d x ∧ RepSs K H ds r
def RepDs (K : KW) (H : Hp) : List (D × D) → List Ent → Prop
  | [], xs => xs = []
  | (k, d) :: ds, xs => ∃ nk b v r, xs = (nk, b, v) :: r ∧ KeyOk k nk ∧ RepS K H k (.ref b) ∧ RepS K H d v ∧ RepDs K H ds r
end
section
variable {K : KW} {H H' : Hp}
theorem Same.rd (e : Same H H') {a : Addr} {o : HO} (h : Rd H a o) : Rd H' a o := by
  rcases h with h | ⟨u, h⟩
  · exact .inl (e _ _ h)
  · exact .inr ⟨u, e _ _ h⟩
mutual
theorem RepS.mono (e : Same H H') : ∀ (d : D) (v : V), RepS K H d v → RepS K H' d v
  | .non, v, h => by simpa [RepS] using h
  | .bl b, v, h => by simpa [RepS] using h
  | .int i, v, h => by simpa [RepS] using h
  | .str x, v, h => by simpa [RepS] using h
  | .tup ds, v, h => by
    simp only [RepS] at h ⊢
    obtain ⟨a, xs, e1, h1, h2⟩ := h
    exact ⟨a, xs, e1, e _ _ h1, RepSs.mono e ds xs h2⟩
  | .lst ds, v, h => by
    simp only [RepS] at h ⊢
    obtain ⟨a, xs, e1, h1, h2⟩ := h
    exact ⟨a, xs, e1, e _ _ h1, RepSs.mono e ds xs h2⟩
  | .dct kvs, v, h => by
    simp only [RepS] at h ⊢
    obtain ⟨a, od, xs, e1, h1, h2⟩ := h
    exact ⟨a, od, xs, e1, e _ _ h1, RepDs.mono e kvs xs h2⟩
  | .deal a, v, h => by simpa [RepS] using h
  | .fn a, v, h => by simpa [RepS] using h
  | .scr ns, v, h => by
    simp only [RepS] at h ⊢
    obtain ⟨a, e1, h1, h2⟩ := h
    exact ⟨a, e1, e.seq h1, h2⟩
theorem RepSs.mono (e : Same H H') : ∀ (ds : List D) (vs : List V), RepSs K H ds vs → RepSs K H' ds vs
  | [], v, h => by simpa [RepSs] using h
  | d :: ds, v, h => by
    simp only [RepSs] at h ⊢
    obtain ⟨x, r, e1, h1, h2⟩ := h
    exact ⟨x, r, e1, RepS.mono e d x h1, RepSs.mono e ds r h2⟩
theorem RepDs.mono (e : Same H H') : ∀ (ds : List (D × D)) (xs : List Ent), RepDs K H ds xs → RepDs K H' ds xs
  | [], v, h => by simpa [RepDs] using h
  | (k, d) :: ds, xs, h => by
    simp only [RepDs] at h ⊢
    obtain ⟨nk, b, v, r, e1, h0, h1, h2, h3⟩ := h
    exact ⟨nk, b, v, r, e1, h0, RepS.mono e k _ h1, RepS.mono e d v h2, RepDs.mono e ds r h3⟩
end
theorem RepSs.length : ∀ {ds : List D} {vs : List V}, RepSs K H ds vs → ds.length = vs.length
  | [], v, h => by simp only [RepSs] at h; rw [h]; rfl
  | d :: ds, v, h => by
    simp only [RepSs] at h
    obtain ⟨x, r, e1, h1, h2⟩ := h
    rw [e1, List.length_cons, List.length_cons, RepSs.length h2]
theorem RepSs.get : ∀ {ds : List D} {vs : List V} {i : Nat} {d : D}, RepSs K H ds vs → ds[i]? = some d → ∃ v, vs[i]? = some v ∧ RepS K H d v
  | [], v, i, d, h, q => by simp at q
  | d :: ds, v, 0, d', h, q => by
    simp only [RepSs] at h
    obtain ⟨x, r, e1, h1, h2⟩ := h
    simp at q; subst q; subst e1
    exact ⟨x, rfl, h1⟩
  | d :: ds, v, i + 1, d', h, q => by
    simp only [RepSs] at h
    obtain ⟨x, r, e1, h1, h2⟩ := h
    subst e1
    obtain ⟨v, h3, h4⟩ := RepSs.get h2 (i := i) (d := d') (by simpa using q)
    exact ⟨v, by simpa using h3, h4⟩
theorem RepSs.append : ∀ {ds es : List D} {vs us : List V}, RepSs K H ds vs → RepSs K H es us → RepSs K H (ds ++ es) (vs ++ us)
  | [], es, v, us, h, q => by simp only [RepSs] at h; subst h; exact q
  | d :: ds, es, v, us, h, q => by
    simp only [RepSs] at h
    obtain ⟨x, r, e1, h1, h2⟩ := h
    subst e1
    simp only [List.cons_append, RepSs]
    exact ⟨x, r ++ us, rfl, h1, RepSs.append h2 q⟩
theorem RepSs.take : ∀ {ds : List D} {vs : List V} (n : Nat), RepSs K H ds vs → RepSs K H (ds.take n) (vs.take n)
  | ds, vs, 0, h => by simp [RepSs]
  | [], vs, n + 1, h => by simp only [RepSs] at h; subst h; simp [RepSs]
  | d :: ds, v, n + 1, h => by
    simp only [RepSs] at h
    obtain ⟨x, r, e1, h1, h2⟩ := h
    subst e1
    simp only [List.take_succ_cons, RepSs]
    exact ⟨x, r.take n, rfl, h1, RepSs.take n h2⟩
theorem RepSs.drop : ∀ {ds : List D} {vs : List V} (n : Nat), RepSs K H ds vs → RepSs K H (ds.drop n) (vs.drop n)
  | ds, vs, 0, h => by simpa using h
  | [], vs, n + 1, h => by simp only [RepSs] at h; subst h; simp [RepSs]
  | d :: ds, v, n + 1, h => by
    simp only [RepSs] at h
    obtain ⟨x, r, e1, h1, h2⟩ := h
    subst e1
    simpa using RepSs.drop n h2
theorem RepSs.set : ∀ {ds : List D} {vs : List V} {d : D} {v : V} (i : Nat), RepSs K H ds vs → RepS K H d v → RepSs K H (ds.set i d) (vs.set i v)
  | [], vs, d, v, i, h, q => by simp only [RepSs] at h; subst h; simp [RepSs]
  | d :: ds, vs, d', v, 0, h, q => by
    simp only [RepSs] at h
    obtain ⟨x, r, e1, h1, h2⟩ := h
    subst e1
    simp only [List.set_cons_zero, RepSs]
    exact ⟨v, r, rfl, q, h2⟩
  | d :: ds, vs, d', v, i + 1, h, q => by
    simp only [RepSs] at h
    obtain ⟨x, r, e1, h1, h2⟩ := h
    subst e1
    simp only [List.set_cons_succ, RepSs]
    exact ⟨x, r.set i v, rfl, h1, RepSs.set i h2 q⟩
theorem RepSs.one {d : D} {v : V} (h : RepS K H d v) : RepSs K H [d] [v] := by
  simp only [RepSs]
  exact ⟨v, [], rfl, h, rfl⟩
theorem RepSs.rep {d : D} {v : V} (h : RepS K H d v) : ∀ n : Nat, RepSs K H (List.replicate n d) (List.replicate n v)
  | 0 => by simp [RepSs]
  | n + 1 => by
    simp only [List.replicate_succ, RepSs]
    exact ⟨v, _, rfl, h, RepSs.rep h n⟩
theorem RepSs.ints : ∀ {ns : List Int} {vs : List V}, RepSs K H (ns.map D.int) vs ↔ vs = ns.map V.int
  | [], vs => by simp [RepSs]
  | n :: ns, vs => by
    simp only [List.map_cons, RepSs, RepS]
    constructor
    · rintro ⟨x, r, e1, e2, h2⟩
      rw [RepSs.ints] at h2
      subst e2; subst h2; exact e1
    · intro e
      exact ⟨_, _, e, rfl, RepSs.ints.mpr rfl⟩
theorem RepSs.strs : ∀ {ns : List Str} {vs : List V}, RepSs K H (ns.map D.str) vs ↔ vs = ns.map V.str
  | [], vs => by simp [RepSs]
  | n :: ns, vs => by
    simp only [List.map_cons, RepSs, RepS]
    constructor
    · rintro ⟨x, r, e1, e2, h2⟩
      rw [RepSs.strs] at h2
      subst e2; subst h2; exact e1
    · intro e
      exact ⟨_, _, e, rfl, RepSs.strs.mpr rfl⟩
end

/-! ### data without lists and dicts: nothing in them can change -/
mutual
def flat : D → Bool
  | .lst _ => false
  | .dct _ => false
  | .scr _ => false
  | .tup ds => flats ds
  | _ => true
def flats : List D → Bool
  | [] => true
  | d :: ds => flat d && flats ds
end
/-- the tuples of a heap stand in another -/
def TupsIn (H G : Hp) : Prop := ∀ b u, H b = some (.tup u) → G b = some (.tup u)
section
variable {K : KW} {H G : Hp}
mutual
theorem RepS.flat (e : TupsIn H G) : ∀ (d : D) (v : V), flat d = true → RepS K H d v → RepS K G d v
  | .non, v, _, h => by simpa [RepS] using h
  | .bl b, v, _, h => by simpa [RepS] using h
  | .int i, v, _, h => by simpa [RepS] using h
  | .str x, v, _, h => by simpa [RepS] using h
  | .tup ds, v, f, h => by
    simp only [VL.flat] at f
    simp only [RepS] at h ⊢
    obtain ⟨a, xs, e1, h1, h2⟩ := h
    exact ⟨a, xs, e1, e _ _ h1, RepSs.flat e ds xs f h2⟩
  | .lst ds, v, f, h => by simp [VL.flat] at f
  | .dct kvs, v, f, h => by simp [VL.flat] at f
  | .deal a, v, _, h => by simpa [RepS] using h
  | .fn a, v, _, h => by simpa [RepS] using h
  | .scr ns, v, f, h => by simp [VL.flat] at f
theorem RepSs.flat (e : TupsIn H G) : ∀ (ds : List D) (vs : List V), flats ds = true → RepSs K H ds vs → RepSs K G ds vs
  | [], v, _, h => by simpa [RepSs] using h
  | d :: ds, v, f, h => by
    simp only [flats, Bool.and_eq_true] at f
    simp only [RepSs] at h ⊢
    obtain ⟨x, r, e1, h1, h2⟩ := h
    exact ⟨x, r, e1, RepS.flat e d x f.1 h1, RepSs.flat e ds r f.2 h2⟩
end
end
def flatVs : List (D × D) → Bool
  | [] => true
  | (_, d) :: r => flat d && flatVs r
def flatEl : D → Bool
  | .lst ds => flats ds
  | .dct kvs => flatVs kvs
  | _ => false
mutual
theorem flat_key : ∀ (d : D) (k : NK), keyOf d = some k → flat d = true
  | .non, _, _ => rfl
  | .bl _, _, _ => rfl
  | .int _, _, _ => rfl
  | .str _, _, _ => rfl
  | .tup ds, k, h => by
    unfold keyOf at h
    cases e : keysOf ds with
    | none => rw [e] at h; cases h
    | some ks => unfold flat; exact flats_keys ds ks e
  | .lst _, _, h => by unfold keyOf at h; cases h
  | .dct _, _, h => by unfold keyOf at h; cases h
  | .deal _, _, h => by unfold keyOf at h; cases h
  | .fn _, _, h => by unfold keyOf at h; cases h
  | .scr _, _, h => by unfold keyOf at h; cases h
theorem flats_keys : ∀ (ds : List D) (ks : List NK), keysOf ds = some ks → flats ds = true
  | [], _, _ => rfl
  | d :: ds, ks, h => by
    unfold keysOf at h
    cases e : keyOf d with
    | none => rw [e] at h; cases h
    | some k =>
      cases e2 : keysOf ds with
      | none => rw [e, e2] at h; cases h
      | some ks2 => unfold flats; rw [flat_key d k e, flats_keys ds ks2 e2]; rfl
end
theorem RepDs.flat {K : KW} {H G : Hp} (e : TupsIn H G) : ∀ (ds : List (D × D)) (xs : List Ent), flatVs ds = true → RepDs K H ds xs → RepDs K G ds xs
  | [], v, _, h => by simpa [RepDs] using h
  | (kd, d) :: ds, xs, f, h => by
    simp only [flatVs, Bool.and_eq_true] at f
    simp only [RepDs] at h ⊢
    obtain ⟨nk, b, v, r, e1, h0, h1, h2, h3⟩ := h
    exact ⟨nk, b, v, r, e1, h0, RepS.flat e kd _ (flat_key kd nk h0.1) h1, RepS.flat e d _ f.1 h2, RepDs.flat e ds r f.2 h3⟩
end VL

/-! VL2: the state of a def as data; readings over it. -/
namespace VL
open PySem PySem.Spec PyProof.Rows L2

/-- what a name holds: data that stay; a list, a list of lists, a dict of one's own -/
inductive SV where
  | val (d : D) | ml (ds : List D) | mg (g : List (List D)) | md (kvs : List (D × D)) | lk (g : Addr × Obj × List Ent) (kvs : List (D × D))
abbrev SG := List (Option SV)

/-- the lists of a list of lists -/
def RowsO (K : KW) (G H : Hp) : List (List D) → List Addr → Prop
  | [], ps => ps = []
  | r :: g, ps => ∃ p qs xs, ps = p :: qs ∧ H p = some (.lst xs) ∧ RepSs K G r xs ∧ RowsO K G H g qs
/-- a list or a dict at p -/
def Node (K : KW) (G H : Hp) (p : Addr) : D → Prop
  | .lst ds => ∃ xs, H p = some (.lst xs) ∧ RepSs K G ds xs
  | .dct kvs => ∃ od xs, H p = some (.frz od (KdO K p xs)) ∧ RepDs K G kvs xs
  | _ => False
def RepO (K : KW) (G H : Hp) : SV → V → List Addr → Prop
  | .val d, v, _ => RepS K G d v
  | .ml ds, v, A => ∃ p, v = .ref p ∧ A = [p] ∧ Node K G H p (.lst ds)
  | .md kvs, v, A => ∃ p xs, v = .ref p ∧ A = [p] ∧ H p = some (KdO K p xs) ∧ RepDs K G kvs xs
  | .lk g kvs, v, A => v = .ref g.1 ∧ A = [g.1] ∧ H g.1 = some (.frz g.2.1 (KdO K g.1 g.2.2)) ∧ RepDs K G kvs g.2.2
  | .mg g, v, A => ∃ p ps, v = .ref p ∧ A = p :: ps ∧ H p = some (.lst (ps.map V.ref)) ∧ RowsO K G H g ps
section
variable {K : KW} {G G' H H' : Hp}
theorem Node.mono (g : Same G G') (h : Same H H') {p : Addr} : ∀ {d : D}, Node K G H p d → Node K G' H' p d
  | .lst ds, ⟨xs, e, q⟩ => ⟨xs, h _ _ e, RepSs.mono g _ _ q⟩
  | .dct kvs, ⟨od, xs, e, r⟩ => ⟨od, xs, h _ _ e, RepDs.mono g _ _ r⟩
theorem RowsO.mono (g : Same G G') (h : Same H H') : ∀ {r : List (List D)} {ps : List Addr}, RowsO K G H r ps → RowsO K G' H' r ps
  | [], ps, q => q
  | r :: rs, ps, ⟨p, qs, xs, e, e2, q, t⟩ => ⟨p, qs, xs, e, h _ _ e2, RepSs.mono g _ _ q, RowsO.mono g h t⟩
theorem RepO.mono (g : Same G G') (h : Same H H') {A : List Addr} {v : V} : ∀ {sv : SV}, RepO K G H sv v A → RepO K G' H' sv v A
  | .val d, q => RepS.mono g _ _ q
  | .ml ds, ⟨p, e, e2, q⟩ => ⟨p, e, e2, q.mono g h⟩
  | .md _, ⟨p, xs, e, e2, e3, r⟩ => ⟨p, xs, e, e2, h _ _ e3, RepDs.mono g _ _ r⟩
  | .lk _ _, ⟨e, e2, q, r⟩ => ⟨e, e2, h _ _ q, RepDs.mono g _ _ r⟩
  | .mg r, ⟨p, ps, e, e2, e3, q⟩ => ⟨p, ps, e, e2, h _ _ e3, q.mono g h⟩
/-- the lists stand in the frozen part as well -/
theorem RowsO.rep (h : Same G G') : ∀ {r : List (List D)} {ps : List Addr}, RowsO K G H r ps → (∀ p ∈ ps, ∀ o, H p = some o → G' p = some o) → RepSs K G' (r.map D.lst) (ps.map V.ref)
  | [], ps, q, _ => by
    cases (show ps = [] from q)
    simp [RepSs]
  | r :: rs, ps, ⟨p, qs, xs, e, e2, q, t⟩, hp => by
    subst e
    simp only [List.map_cons, RepSs, RepS]
    exact ⟨_, _, rfl, ⟨p, xs, rfl, hp p (by simp) _ e2, RepSs.mono h _ _ q⟩, RowsO.rep h t fun p' m => hp p' (List.mem_cons_of_mem _ m)⟩
end
def OwnO : HO → Prop
  | .lst _ => True
  | .ext _ => True
  | .frz _ (.ext _) => True
  | _ => False
/-- what is asked of the counter: its list and its draws stand in G -/
def CellOk (G H : Hp) : Wd → Prop
  | none => True
  | some t => ∃ r, G t.a = some (.lst [.ref r, .ref t.c, .int t.tot]) ∧ G r = some (.lst (t.row.map V.int)) ∧ H t.c = some (.lst [.int t.pos])

/-- a def's frame: what stood before (it stays), what of it is others' own, the draws at its start -/
structure Frm where
  B : Hp
  X : List Addr
  W0 : Wd

structure Live (K : KW) (F : Frm) (σ : SG) (W : Wd) (A : List (List Addr)) (s : List (Option V)) (H : Hp) : Prop where
  nd : A.flatten.Nodup
  al : A.length = σ.length
  sl : s.length = σ.length
  base : ∀ b o, F.B b = some o → Hm H W b = some o ∧ b ∉ A.flatten
  xb : ∀ b ∈ F.X, (F.B b).isSome = true
  trk : ∀ b ∈ A.flatten, ∃ o, Hm H W b = some o ∧ OwnO o
  cell : CellOk (cut (Hm H W) (A.flatten ++ F.X)) H W
  kc : WdLe F.W0 W
  slot : ∀ (i : Nat) (sv : SV), σ[i]? = some (some sv) → ∃ v Ai, s[i]? = some (some v) ∧ A[i]? = some Ai ∧ RepO K (cut (Hm H W) (A.flatten ++ F.X)) (Hm H W) sv v Ai

structure Ext (O : List Addr) (W : Wd) (H : Hp) (W' : Wd) (H' : Hp) : Prop where
  same : Same (Hm H W) (Hm H' W')
  cell : CellOk (cut (Hm H' W') O) H' W'
  kc : WdLe W W'
theorem Ext.trans {O : List Addr} {W W1 W2 : Wd} {H H1 H2 : Hp} (a : Ext O W H W1 H1) (b : Ext O W1 H1 W2 H2) : Ext O W H W2 H2 :=
  ⟨a.same.trans b.same, b.cell, a.kc.trans b.kc⟩
section
variable {K : KW} {F : Frm} {σ : SG} {W W' : Wd} {A : List (List Addr)} {s : L2.St} {H H' : Hp}
theorem Live.ext0 (L : Live K F σ W A s H) : Ext (A.flatten ++ F.X) W H W H := ⟨.refl _, L.cell, .refl _⟩
theorem Live.step (L : Live K F σ W A s H) (e : Ext (A.flatten ++ F.X) W H W' H') : Live K F σ W' A s H' where
  nd := L.nd
  al := L.al
  sl := L.sl
  base := fun b o h => ⟨e.same _ _ (L.base b o h).1, (L.base b o h).2⟩
  xb := L.xb
  trk := fun b h => let ⟨o, q, r⟩ := L.trk b h; ⟨o, e.same _ _ q, r⟩
  cell := e.cell
  kc := L.kc.trans e.kc
  slot := fun i sv h => by
    obtain ⟨v, Ai, h1, h2, h3⟩ := L.slot i sv h
    exact ⟨v, Ai, h1, h2, h3.mono (Same.cut e.same _) e.same⟩
theorem Live.weak {B : Hp} (L : Live K { F with B := B } σ W A s H) (h : Same F.B B) (hx : ∀ b ∈ F.X, (F.B b).isSome = true) : Live K F σ W A s H :=
  ⟨L.nd, L.al, L.sl, fun b o q => L.base b o (h b o q), hx, L.trk, L.cell, L.kc, L.slot⟩
theorem Live.xt (L : Live K F σ W A s H) {b : Addr} (h : b ∈ A.flatten ++ F.X) : ∃ o, Hm H W b = some o := by
  rcases List.mem_append.mp h with h | h
  · obtain ⟨o, q, _⟩ := L.trk b h
    exact ⟨o, q⟩
  · obtain ⟨o, q⟩ := Option.isSome_iff_exists.mp (L.xb b h)
    exact ⟨o, (L.base b o q).1⟩
theorem Live.ax (L : Live K F σ W A s H) {b : Addr} (h : b ∈ A.flatten) : b ∉ F.X := fun q => by
  obtain ⟨o, e⟩ := Option.isSome_iff_exists.mp (L.xb b q)
  exact (L.base b o e).2 h
theorem Live.new (L : Live K F σ W A s H) {p : Addr} (h : Hm H W p = none) : p ∉ A.flatten ++ F.X := fun q => by
  obtain ⟨o, e⟩ := L.xt q
  rw [h] at e; cases e
end

/-! ### tags of values -/
inductive Tg where
  | st | fr | fr2 | b1 | b2
/-- data of this tag may be kept -/
def stoB : Tg → D → Bool
  | .st, _ => true
  | .fr, _ => true
  | .fr2, _ => true
  | .b1, d => flat d
  | .b2, d => flat d
def sto (t : Tg) (d : D) : Prop := stoB t d = true
/-- A: one's own; X: others' own; H0 ahead, H behind -/
def Post (K : KW) (A X : List Addr) (H0 H : Hp) : Tg → D → V → Prop
  | .st, d, v => RepS K (cut H (A ++ X)) d v
  | .fr, d, v => ∃ p, v = .ref p ∧ H0 p = none ∧ Node K (cut H (p :: (A ++ X))) H p d
  | .fr2, d, v => ∃ p ps g, d = .lst (g.map D.lst) ∧ v = .ref p ∧ (p :: ps).Nodup ∧ (∀ q ∈ p :: ps, H0 q = none) ∧ H p = some (.lst (ps.map V.ref)) ∧ RowsO K (cut H ((p :: ps) ++ (A ++ X))) H g ps
  | .b1, d, v => ∃ p, v = .ref p ∧ p ∈ A ∧ Node K (cut H (A ++ X)) H p d
  | .b2, d, v => RepS K (cut H X) d v
section
variable {K : KW} {A X : List Addr} {H0 H1 H2 : Hp} {d : D} {v : V}
theorem Post.mono (h : Same H1 H2) : ∀ {tg : Tg}, Post K A X H0 H1 tg d v → Post K A X H0 H2 tg d v
  | .st, q => RepS.mono (Same.cut h _) _ _ q
  | .fr, ⟨p, e, e2, q⟩ => ⟨p, e, e2, q.mono (Same.cut h _) h⟩
  | .fr2, ⟨p, ps, g, e, e2, e3, e4, e5, q⟩ => ⟨p, ps, g, e, e2, e3, e4, h _ _ e5, q.mono (Same.cut h _) h⟩
  | .b1, ⟨p, e, e2, q⟩ => ⟨p, e, e2, q.mono (Same.cut h _) h⟩
  | .b2, q => RepS.mono (Same.cut h _) _ _ q
theorem Post.back (h : Same H0 H1) : ∀ {tg : Tg}, Post K A X H1 H2 tg d v → Post K A X H0 H2 tg d v
  | .st, q => q
  | .fr, ⟨p, e, e2, q⟩ => ⟨p, e, h.free e2, q⟩
  | .fr2, ⟨p, ps, g, e, e2, e3, e4, e5, q⟩ => ⟨p, ps, g, e, e2, e3, fun q m => h.free (e4 q m), e5, q⟩
  | .b1, q => q
  | .b2, q => q
theorem Node.rep {G G' H : Hp} (g : Same G G') {p : Addr} (h : ∀ o, H p = some o → G' p = some o) : ∀ {d : D}, Node K G H p d → RepS K G' d (.ref p)
  | .lst ds, ⟨xs, e, q⟩ => by
    simp only [RepS]
    exact ⟨p, xs, rfl, h _ e, RepSs.mono g _ _ q⟩
  | .dct kvs, ⟨od, xs, e, r⟩ => by
    simp only [RepS]
    exact ⟨p, od, xs, rfl, h _ e, RepDs.mono g _ _ r⟩
/-- what is needed of the state ahead -/
structure Own (A X : List Addr) (H0 : Hp) : Prop where
  trk : ∀ b ∈ A, ∃ o, H0 b = some o ∧ OwnO o
  xt : ∀ b ∈ X, ∃ o, H0 b = some o
  ax : ∀ b ∈ A, b ∉ X
theorem Own.new (O : Own A X H0) {p : Addr} (h : H0 p = none) : p ∉ A ++ X := fun q => by
  rcases List.mem_append.mp q with q | q
  · obtain ⟨o, e, _⟩ := O.trk p q
    rw [h] at e; cases e
  · obtain ⟨o, e⟩ := O.xt p q
    rw [h] at e; cases e
theorem Own.step (O : Own A X H0) (h : Same H0 H1) : Own A X H1 :=
  ⟨fun b m => let ⟨o, e, q⟩ := O.trk b m; ⟨o, h _ _ e, q⟩, fun b m => let ⟨o, e⟩ := O.xt b m; ⟨o, h _ _ e⟩, O.ax⟩
theorem Live.own {K : KW} {F : Frm} {σ : SG} {W : Wd} {A : List (List Addr)} {s : L2.St} {H : Hp} (L : Live K F σ W A s H) : Own A.flatten F.X (Hm H W) :=
  ⟨L.trk, fun b m => L.xt (List.mem_append_right _ m), fun b m => L.ax m⟩
theorem mem_snd {α : Type} {b : α} {A X : List α} (h : b ∈ X) : b ∈ A ++ X := List.mem_append_right _ h
theorem Post.rep (O : Own A X H0) (hs : Same H0 H2) : ∀ {tg : Tg}, Post K A X H0 H2 tg d v → RepS K (cut H2 X) d v
  | .st, q => RepS.mono (Same.cutl fun b => mem_snd) _ _ q
  | .fr, ⟨p, e, e2, q⟩ => by
    subst e
    exact q.rep (Same.cutl fun b m => List.mem_cons_of_mem _ (mem_snd m)) fun o h => cut_some.mpr ⟨h, fun z => O.new e2 (mem_snd z)⟩
  | .fr2, ⟨p, ps, g, e, e2, e3, e4, e5, q⟩ => by
    subst e; subst e2
    simp only [RepS]
    exact ⟨p, _, rfl, (cut_some.mpr ⟨e5, fun z => O.new (e4 p (by simp)) (mem_snd z)⟩), q.rep (Same.cutl fun b m => List.mem_append_right _ (mem_snd m)) fun p' m o h => cut_some.mpr ⟨h, fun z => O.new (e4 p' (List.mem_cons_of_mem _ m)) (mem_snd z)⟩⟩
  | .b1, ⟨p, e, e2, q⟩ => by
    subst e
    exact q.rep (Same.cutl fun b => mem_snd) fun o h => cut_some.mpr ⟨h, O.ax p e2⟩
  | .b2, q => q
theorem Own.tups (O : Own A X H0) (hs : Same H0 H2) : TupsIn (cut H2 X) (cut H2 (A ++ X)) := fun b u h => by
  have key : ∀ o, H2 b = some o → b ∈ A → OwnO o := fun o e m => by
    obtain ⟨o', e', q⟩ := O.trk b m
    rw [hs _ _ e'] at e; cases e
    exact q
  obtain ⟨h1, h2⟩ := cut_some.mp h
  exact cut_some.mpr ⟨h1, fun m => (List.mem_append.mp m).elim (fun m => key _ h1 m) h2⟩
theorem Post.keep (O : Own A X H0) (hs : Same H0 H2) : ∀ {tg : Tg}, sto tg d → Post K A X H0 H2 tg d v → RepS K (cut H2 (A ++ X)) d v
  | .st, _, q => q
  | .fr, _, ⟨p, e, e2, q⟩ => by
    subst e
    exact q.rep (Same.cutl fun b m => List.mem_cons_of_mem _ m) fun o h => cut_some.mpr ⟨h, fun z => O.new e2 z⟩
  | .fr2, _, ⟨p, ps, g, e, e2, e3, e4, e5, q⟩ => by
    subst e; subst e2
    simp only [RepS]
    exact ⟨p, _, rfl, (cut_some.mpr ⟨e5, fun z => O.new (e4 p (by simp)) z⟩), q.rep (Same.cutl fun b m => List.mem_append_right _ m) fun p' m o h => cut_some.mpr ⟨h, fun z => O.new (e4 p' (List.mem_cons_of_mem _ m)) z⟩⟩
  | .b1, f, q => RepS.flat (O.tups hs) _ _ f (Post.rep O hs (tg := .b1) q)
  | .b2, f, q => RepS.flat (O.tups hs) _ _ f (Post.rep O hs (tg := .b2) q)
end

/-! ### transformers over data, their readings -/
abbrev SE := SG → Wd → (Tg → D → Wd → Prop) → Prop
abbrev SB := SG → Wd → (Bool → Wd → Prop) → Prop
abbrev SA := SG → Wd → (List (Tg × D) → Wd → Prop) → Prop
structure SEnds where
  nx : SG → Wd → Prop
  rt : Tg → D → Wd → Prop
  bk : SG → Wd → Prop := fun _ _ => False
  ct : SG → Wd → Prop := fun _ _ => False
abbrev SS := SEnds → SG → Wd → Prop
structure SEnds.Le (D D' : SEnds) : Prop where
  nx : ∀ σ W, D.nx σ W → D'.nx σ W
  rt : ∀ t d W, D.rt t d W → D'.rt t d W
  bk : ∀ σ W, D.bk σ W → D'.bk σ W
  ct : ∀ σ W, D.ct σ W → D'.ct σ W
theorem SEnds.Le.refl (D : SEnds) : D.Le D := ⟨fun _ _ h => h, fun _ _ _ h => h, fun _ _ h => h, fun _ _ h => h⟩
def MonoE (t : SE) : Prop := ∀ σ W Q Q', (∀ tg d W', Q tg d W' → Q' tg d W') → t σ W Q → t σ W Q'
def MonoB (t : SB) : Prop := ∀ σ W Q Q', (∀ b W', Q b W' → Q' b W') → t σ W Q → t σ W Q'
def MonoA (t : SA) : Prop := ∀ σ W Q Q', (∀ b W', Q b W' → Q' b W') → t σ W Q → t σ W Q'
def MonoS (t : SS) : Prop := ∀ D D' σ W, D.Le D' → t D σ W → t D' σ W

def PostA (K : KW) (A X : List Addr) (H0 H : Hp) : List (Tg × D) → List V → Prop
  | [], vs => vs = []
  | (tg, d) :: r, vs => ∃ v us, vs = v :: us ∧ Post K A X H0 H tg d v ∧ PostA K A X H0 H r us

/-- what a return hands out -/
def RetPost (K : KW) (B : Hp) (X : List Addr) (H : Hp) : Tg → D → V → Prop
  | .fr, d, v => ∃ p, v = .ref p ∧ B p = none ∧ Node K (cut H (p :: X)) H p d
  | _, d, v => RepS K (cut H X) d v
structure RetP (K : KW) (F : Frm) (W : Wd) (H : Hp) (tg : Tg) (d : D) (v : V) : Prop where
  same : Same F.B (Hm H W)
  cell : CellOk (cut (Hm H W) F.X) H W
  kc : WdLe F.W0 W
  post : RetPost K F.B F.X (Hm H W) tg d v

def rdE (K : KW) (t : SE) : TE := fun s H Q => ∃ F σ W A, Live K F σ W A s H ∧ t σ W fun tg d W' => ∀ v H', Ext (A.flatten ++ F.X) W H W' H' → Post K A.flatten F.X (Hm H W) (Hm H' W') tg d v → Q v H'
def rdB (K : KW) (t : SB) : TT := fun s H Q => ∃ F σ W A, Live K F σ W A s H ∧ t σ W fun b W' => ∀ H', Ext (A.flatten ++ F.X) W H W' H' → Q b H'
def rdA (K : KW) (t : SA) : TA := fun s H Q => ∃ F σ W A, Live K F σ W A s H ∧ t σ W fun ds W' => ∀ vs H', Ext (A.flatten ++ F.X) W H W' H' → PostA K A.flatten F.X (Hm H W) (Hm H' W') ds vs → Q vs H'
def endsOf (K : KW) (F : Frm) (Dn : Ends) : SEnds where
  nx := fun σ W => ∀ A s H, Live K F σ W A s H → Dn.nx s H
  rt := fun tg d W => ∀ v H, RetP K F W H tg d v → Dn.rt v H
  bk := fun σ W => ∀ A s H, Live K F σ W A s H → Dn.bk s H
  ct := fun σ W => ∀ A s H, Live K F σ W A s H → Dn.ct s H
def rdS (K : KW) (t : SS) : TS := fun Dn s H => ∃ F σ W A, Live K F σ W A s H ∧ t (endsOf K F Dn) σ W

structure VE (X : Cx) (e : Expr) (t : SE) : Prop where
  pe : PE X e (rdE X.kw t)
  mono : MonoE t
structure VT (X : Cx) (e : Expr) (t : SB) : Prop where
  pe : PT X e (rdB X.kw t)
  mono : MonoB t
structure VW (X : Cx) (e : Expr) (t : SB) : Prop where
  pe : PW X e (rdB X.kw t)
  mono : MonoB t
structure VA (X : Cx) (es : List Expr) (t : SA) : Prop where
  pe : PA X es (rdA X.kw t)
  mono : MonoA t
structure VS (X : Cx) (st : Stmt) (t : SS) : Prop where
  pe : PS X st (rdS X.kw t)
  mono : MonoS t
structure VSs (X : Cx) (sts : List Stmt) (t : SS) : Prop where
  pe : PSs X sts (rdS X.kw t)
  mono : MonoS t
theorem peI {X : Cx} {e : Expr} {t t' : TE} (h : PE X e t) (i : ∀ s H Q, t' s H Q → t s H Q) : PE X e t' := ⟨fun pins s σ H Q I w => h.run pins s σ H Q I (i _ _ _ w)⟩
theorem ptI {X : Cx} {e : Expr} {t t' : TT} (h : PT X e t) (i : ∀ s H Q, t' s H Q → t s H Q) : PT X e t' := ⟨fun pins s σ H Q I w => h.run pins s σ H Q I (i _ _ _ w)⟩
theorem pwI {X : Cx} {e : Expr} {t t' : TT} (h : PW X e t) (i : ∀ s H Q, t' s H Q → t s H Q) : PW X e t' := ⟨fun wh pins s σ H Q I w => h.run wh pins s σ H Q I (i _ _ _ w)⟩
theorem paI {X : Cx} {e : List Expr} {t t' : TA} (h : PA X e t) (i : ∀ s H Q, t' s H Q → t s H Q) : PA X e t' := ⟨fun pos pins s σ H Q I w => h.run pos pins s σ H Q I (i _ _ _ w)⟩
theorem psI {X : Cx} {e : Stmt} {t t' : TS} (h : PS X e t) (i : ∀ D s H, t' D s H → t D s H) : PS X e t' := ⟨fun pins s σ H D I w => h.run pins s σ H D I (i _ _ _ w)⟩
theorem pssI {X : Cx} {e : List Stmt} {t t' : TS} (h : PSs X e t) (i : ∀ D s H, t' D s H → t D s H) : PSs X e t' := ⟨fun pins s σ H D I w => h.run pins s σ H D I (i _ _ _ w)⟩

section
variable {K : KW} {F : Frm} {σ : SG} {W : Wd} {A : List (List Addr)} {s : L2.St} {H : Hp}
/-- one part, then what follows -/
theorem Live.one (L : Live K F σ W A s H) {ta : SE} (ma : MonoE ta) {R : Tg → D → Wd → Prop} {Q : V → Hp → Prop} (w : ta σ W R)
    (h : ∀ tg d W1 v H1, R tg d W1 → Live K F σ W1 A s H1 → Ext (A.flatten ++ F.X) W H W1 H1 → Post K A.flatten F.X (Hm H W) (Hm H1 W1) tg d v → Q v H1) : rdE K ta s H Q :=
  ⟨F, σ, W, A, L, ma _ _ _ _ (fun tg d W1 r v H1 e p => h tg d W1 v H1 r (L.step e) e p) w⟩
/-- two parts, from the left -/
theorem Live.two (L : Live K F σ W A s H) {ta tb : SE} (ma : MonoE ta) (mb : MonoE tb) {R : Tg → D → Tg → D → Wd → Prop} {Q : V → V → Hp → Prop}
    (w : ta σ W fun t1 x W1 => tb σ W1 fun t2 y W2 => R t1 x t2 y W2)
    (h : ∀ t1 x t2 y W2 v u H2, R t1 x t2 y W2 → Live K F σ W2 A s H2 → Ext (A.flatten ++ F.X) W H W2 H2 → Post K A.flatten F.X (Hm H W) (Hm H2 W2) t1 x v → Post K A.flatten F.X (Hm H W) (Hm H2 W2) t2 y u → Q v u H2) :
    rdE K ta s H fun v H1 => rdE K tb s H1 fun u H2 => Q v u H2 :=
  L.one ma w fun t1 x W1 v H1 r L1 e1 p1 => L1.one mb r fun t2 y W2 u H2 r2 L2 e2 p2 =>
    h t1 x t2 y W2 v u H2 r2 L2 (e1.trans e2) (p1.mono e2.same) (p2.back e1.same)
theorem Live.args (L : Live K F σ W A s H) {ta : SA} (ma : MonoA ta) {R : List (Tg × D) → Wd → Prop} {Q : List V → Hp → Prop} (w : ta σ W R)
    (h : ∀ ds W1 vs H1, R ds W1 → Live K F σ W1 A s H1 → Ext (A.flatten ++ F.X) W H W1 H1 → PostA K A.flatten F.X (Hm H W) (Hm H1 W1) ds vs → Q vs H1) : rdA K ta s H Q :=
  ⟨F, σ, W, A, L, ma _ _ _ _ (fun ds W1 r v H1 e p => h ds W1 v H1 r (L.step e) e p) w⟩
theorem Live.test (L : Live K F σ W A s H) {ta : SB} (ma : MonoB ta) {R : Bool → Wd → Prop} {Q : Bool → Hp → Prop} (w : ta σ W R)
    (h : ∀ b W1 H1, R b W1 → Live K F σ W1 A s H1 → Ext (A.flatten ++ F.X) W H W1 H1 → Q b H1) : rdB K ta s H Q :=
  ⟨F, σ, W, A, L, ma _ _ _ _ (fun b W1 r H1 e => h b W1 H1 r (L.step e) e) w⟩
theorem PostA.mono {A X : List Addr} {H0 H1 H2 : Hp} (h : Same H1 H2) : ∀ {ds : List (Tg × D)} {vs : List V}, PostA K A X H0 H1 ds vs → PostA K A X H0 H2 ds vs
  | [], _, q => q
  | (_, _) :: _, _, ⟨v, us, e, p, q⟩ => ⟨v, us, e, p.mono h, q.mono h⟩
theorem PostA.back {A X : List Addr} {H0 H1 H2 : Hp} (h : Same H0 H1) : ∀ {ds : List (Tg × D)} {vs : List V}, PostA K A X H1 H2 ds vs → PostA K A X H0 H2 ds vs
  | [], _, q => q
  | (_, _) :: _, _, ⟨v, us, e, p, q⟩ => ⟨v, us, e, p.back h, q.back h⟩
/-- a new object -/
theorem Ext.laid {O : List Addr} {W0 W : Wd} {H0 H : Hp} (e : Ext O W0 H0 W H) {p : Addr} (hp : H p = none) (o : HO) : Ext O W0 H0 W (upd H p o) := by
  have s : Same (Hm H W) (Hm (upd H p o) W) := fun b u h => by
    cases W with
    | none => exact (upd_ne (ne_of_none h hp)).trans h
    | some t =>
      obtain ⟨h1, h2⟩ := Hm_some.mp h
      exact Hm_some.mpr ⟨(upd_ne (ne_of_none h1 hp)).trans h1, h2⟩
  refine ⟨e.same.trans s, ?_, e.kc⟩
  cases W with
  | none => trivial
  | some t =>
    obtain ⟨r, h1, h2, h3⟩ := e.cell
    exact ⟨r, Same.cut s _ _ _ h1, Same.cut s _ _ _ h2, (upd_ne (ne_of_none h3 hp)).trans h3⟩
theorem Hm_none {W : Wd} {p : Addr} (hp : H p = none) : Hm H W p = none := by
  cases W with
  | none => exact hp
  | some t =>
    show (if p = t.c then none else H p) = none
    split
    · rfl
    · exact hp
theorem Hm_upd {O : List Addr} {W0 W : Wd} {H0 H : Hp} (e : Ext O W0 H0 W H) {p : Addr} (hp : H p = none) (o : HO) : Hm (upd H p o) W p = some o := by
  cases W with
  | none => exact upd_same
  | some t =>
    refine Hm_some.mpr ⟨upd_same, fun z => ?_⟩
    obtain ⟨r, h1, h2, h3⟩ := e.cell
    rw [← z, hp] at h3; cases h3
end
end VL

/-! VL3: expressions. -/
namespace VL
open PySem PySem.Spec PyProof.Rows L2

/-! ### reading parts of values -/
def el : Tg → Tg
  | .b2 => .b2
  | _ => .st
/-- the items of such a list may be kept -/
def est : Tg → List D → Prop
  | .b2, ds => flats ds = true
  | _, _ => True
section
variable {K : KW} {A X : List Addr} {H0 H : Hp} {d : D} {v : V} {ds : List D}
theorem Post.lst (O : Own A X H0) (hs : Same H0 H) {t : Tg} (h : Post K A X H0 H t (.lst ds) v) : ∃ p xs, v = .ref p ∧ H p = some (.lst xs) ∧ RepSs K (cut H X) ds xs ∧ (est t ds → RepSs K (cut H (A ++ X)) ds xs) := by
  have c1 : ∀ b, b ∈ X → b ∈ A ++ X := fun b => mem_snd
  cases t with
  | st =>
    simp only [Post, RepS] at h
    obtain ⟨p, xs, e, h1, h2⟩ := h
    exact ⟨p, xs, e, Same.uncut _ _ h1, RepSs.mono (Same.cutl c1) _ _ h2, fun _ => h2⟩
  | fr =>
    obtain ⟨p, e, e2, xs, h1, h2⟩ := h
    exact ⟨p, xs, e, h1, RepSs.mono (Same.cutl fun b m => List.mem_cons_of_mem _ (c1 b m)) _ _ h2, fun _ => RepSs.mono (Same.cutl fun b m => List.mem_cons_of_mem _ m) _ _ h2⟩
  | fr2 =>
    obtain ⟨p, ps, g, e, e2, e3, e4, e5, h2⟩ := h
    injection e with e
    subst e
    refine ⟨p, _, e2, e5, ?_, fun _ => ?_⟩
    · exact h2.rep (Same.cutl fun b m => List.mem_append_right _ (c1 b m)) fun p' m o q => cut_some.mpr ⟨q, fun z => O.new (e4 p' (List.mem_cons_of_mem _ m)) (c1 _ z)⟩
    · exact h2.rep (Same.cutl fun b m => List.mem_append_right _ m) fun p' m o q => cut_some.mpr ⟨q, fun z => O.new (e4 p' (List.mem_cons_of_mem _ m)) z⟩
  | b1 =>
    obtain ⟨p, e, e2, xs, h1, h2⟩ := h
    exact ⟨p, xs, e, h1, RepSs.mono (Same.cutl c1) _ _ h2, fun _ => h2⟩
  | b2 =>
    simp only [Post, RepS] at h
    obtain ⟨p, xs, e, h1, h2⟩ := h
    exact ⟨p, xs, e, Same.uncut _ _ h1, h2, fun f => RepSs.flat (O.tups hs) _ _ f h2⟩
theorem Post.tupH (O : Own A X H0) (hs : Same H0 H) {t : Tg} (h : Post K A X H0 H t (.tup ds) v) : ∃ p xs, v = .ref p ∧ H p = some (.tup xs) ∧ RepSs K (cut H X) ds xs ∧ (est t ds → RepSs K (cut H (A ++ X)) ds xs) := by
  have c1 : ∀ b, b ∈ X → b ∈ A ++ X := fun b => mem_snd
  cases t with
  | st =>
    simp only [Post, RepS] at h
    obtain ⟨p, xs, e, h1, h2⟩ := h
    exact ⟨p, xs, e, Same.uncut _ _ h1, RepSs.mono (Same.cutl c1) _ _ h2, fun _ => h2⟩
  | fr => obtain ⟨p, e, e2, h1⟩ := h; exact h1.elim
  | fr2 => obtain ⟨p, ps, g, e, _⟩ := h; exact nomatch e
  | b1 => obtain ⟨p, e, e2, h1⟩ := h; exact h1.elim
  | b2 =>
    simp only [Post, RepS] at h
    obtain ⟨p, xs, e, h1, h2⟩ := h
    exact ⟨p, xs, e, Same.uncut _ _ h1, h2, fun f => RepSs.flat (O.tups hs) _ _ f h2⟩
theorem Post.tup (O : Own A X H0) (hs : Same H0 H) {t : Tg} (h : Post K A X H0 H t (.tup ds) v) : ∃ p xs, v = .ref p ∧ SqT K H p xs ∧ RepSs K (cut H X) ds xs ∧ (est t ds → RepSs K (cut H (A ++ X)) ds xs) := by
  obtain ⟨p, xs, e, h1, h2, h3⟩ := h.tupH O hs
  exact ⟨p, xs, e, .inl (.inl h1), h2, h3⟩
theorem Post.elem (O : Own A X H0) (hs : Same H0 H) {t : Tg} {xs : List V} {i : Nat} (h1 : RepSs K (cut H X) ds xs) (h2 : est t ds → RepSs K (cut H (A ++ X)) ds xs) (hd : ds[i]? = some d) : ∃ x, xs[i]? = some x ∧ Post K A X H0 H (el t) d x := by
  cases t with
  | b2 =>
    obtain ⟨x, e, r⟩ := h1.get hd
    exact ⟨x, e, r⟩
  | st => obtain ⟨x, e, r⟩ := (h2 trivial).get hd; exact ⟨x, e, r⟩
  | fr => obtain ⟨x, e, r⟩ := (h2 trivial).get hd; exact ⟨x, e, r⟩
  | fr2 => obtain ⟨x, e, r⟩ := (h2 trivial).get hd; exact ⟨x, e, r⟩
  | b1 => obtain ⟨x, e, r⟩ := (h2 trivial).get hd; exact ⟨x, e, r⟩
theorem Post.int {t : Tg} {i : Int} (h : Post K A X H0 H t (.int i) v) : v = .int i := by
  cases t with
  | st => simpa [Post, RepS] using h
  | fr => obtain ⟨p, e, e2, h1⟩ := h; exact h1.elim
  | fr2 => obtain ⟨p, ps, g, e, _⟩ := h; exact nomatch e
  | b1 => obtain ⟨p, e, e2, h1⟩ := h; exact h1.elim
  | b2 => simpa [Post, RepS] using h
theorem Post.bl {t : Tg} {i : Bool} (h : Post K A X H0 H t (.bl i) v) : v = .bl i := by
  cases t with
  | st => simpa [Post, RepS] using h
  | fr => obtain ⟨p, e, e2, h1⟩ := h; exact h1.elim
  | fr2 => obtain ⟨p, ps, g, e, _⟩ := h; exact nomatch e
  | b1 => obtain ⟨p, e, e2, h1⟩ := h; exact h1.elim
  | b2 => simpa [Post, RepS] using h
theorem Post.str {t : Tg} {i : Str} (h : Post K A X H0 H t (.str i) v) : v = .str i := by
  cases t with
  | st => simpa [Post, RepS] using h
  | fr => obtain ⟨p, e, e2, h1⟩ := h; exact h1.elim
  | fr2 => obtain ⟨p, ps, g, e, _⟩ := h; exact nomatch e
  | b1 => obtain ⟨p, e, e2, h1⟩ := h; exact h1.elim
  | b2 => simpa [Post, RepS] using h
theorem Post.non {t : Tg} (h : Post K A X H0 H t .non v) : v = .non := by
  cases t with
  | st => simpa [Post, RepS] using h
  | fr => obtain ⟨p, e, e2, h1⟩ := h; exact h1.elim
  | fr2 => obtain ⟨p, ps, g, e, _⟩ := h; exact nomatch e
  | b1 => obtain ⟨p, e, e2, h1⟩ := h; exact h1.elim
  | b2 => simpa [Post, RepS] using h
theorem Post.ofInt {i : Int} : Post K A X H0 H .st (.int i) (.int i) := by simp [Post, RepS]
theorem Post.ofBl {i : Bool} : Post K A X H0 H .st (.bl i) (.bl i) := by simp [Post, RepS]
theorem Post.ofStr {i : Str} : Post K A X H0 H .st (.str i) (.str i) := by simp [Post, RepS]
theorem Post.ofNon : Post K A X H0 H .st .non .non := by simp [Post, RepS]
/-- a new list of data that stay -/
theorem Post.newL {W0 W : Wd} {H0 H : Hp} {xs : List V} (e : Ext (A ++ X) W0 H0 W H) (h : RepSs K (cut (Hm H W) (A ++ X)) ds xs) {p : Addr} (hp : H p = none) :
    Post K A X (Hm H0 W0) (Hm (upd H p (.lst xs)) W) .fr (.lst ds) (.ref p) := by
  have e2 := e.laid hp (.lst xs)
  refine ⟨p, rfl, e.same.free (Hm_none hp), xs, Hm_upd e hp _, RepSs.mono (fun b o q => ?_) _ _ h⟩
  obtain ⟨q1, q2⟩ := cut_some.mp q
  refine cut_some.mpr ⟨?_, fun z => ?_⟩
  · have q3 := Hm_of q1
    cases W with
    | none => exact (upd_ne (ne_of_none q3 hp)).trans q3
    | some t =>
      obtain ⟨_, q4⟩ := Hm_some.mp q1
      exact Hm_some.mpr ⟨(upd_ne (ne_of_none q3 hp)).trans q3, q4⟩
  · rcases List.mem_cons.mp z with z | z
    · subst z; rw [Hm_none hp] at q1; cases q1
    · exact q2 z
theorem Post.newT {W0 W : Wd} {H0 H : Hp} {xs : List V} (O : Own A X (Hm H0 W0)) (e : Ext (A ++ X) W0 H0 W H) (h : RepSs K (cut (Hm H W) (A ++ X)) ds xs) {p : Addr} (hp : H p = none) :
    Post K A X (Hm H0 W0) (Hm (upd H p (.tup xs)) W) .st (.tup ds) (.ref p) := by
  have e2 := e.laid hp (.tup xs)
  simp only [Post, RepS]
  refine ⟨p, xs, rfl, (cut_some.mpr ⟨Hm_upd e hp _, O.new (e.same.free (Hm_none hp))⟩), RepSs.mono (Same.cut (fun b o q => ?_) _) _ _ h⟩
  have q3 := Hm_of q
  cases W with
  | none => exact (upd_ne (ne_of_none q3 hp)).trans q3
  | some t =>
    obtain ⟨_, q4⟩ := Hm_some.mp q
    exact Hm_some.mpr ⟨(upd_ne (ne_of_none q3 hp)).trans q3, q4⟩
/-- .. of parts that do not all stay -/
theorem Post.newT2 {W0 W : Wd} {H0 H : Hp} {xs : List V} (O : Own A X (Hm H0 W0)) (e : Ext (A ++ X) W0 H0 W H) (h : RepSs K (cut (Hm H W) X) ds xs) {p : Addr} (hp : H p = none) :
    Post K A X (Hm H0 W0) (Hm (upd H p (.tup xs)) W) .b2 (.tup ds) (.ref p) := by
  have e2 := e.laid hp (.tup xs)
  simp only [Post, RepS]
  refine ⟨p, xs, rfl, (cut_some.mpr ⟨Hm_upd e hp _, fun z => O.new (e.same.free (Hm_none hp)) (mem_snd z)⟩), RepSs.mono (Same.cut (fun b o q => ?_) _) _ _ h⟩
  have q3 := Hm_of q
  cases W with
  | none => exact (upd_ne (ne_of_none q3 hp)).trans q3
  | some t =>
    obtain ⟨_, q4⟩ := Hm_some.mp q
    exact Hm_some.mpr ⟨(upd_ne (ne_of_none q3 hp)).trans q3, q4⟩
theorem Post.newL2 {W0 W : Wd} {H0 H : Hp} {xs : List V} (O : Own A X (Hm H0 W0)) (e : Ext (A ++ X) W0 H0 W H) (h : RepSs K (cut (Hm H W) X) ds xs) {p : Addr} (hp : H p = none) :
    Post K A X (Hm H0 W0) (Hm (upd H p (.lst xs)) W) .b2 (.lst ds) (.ref p) := by
  have e2 := e.laid hp (.lst xs)
  simp only [Post, RepS]
  refine ⟨p, xs, rfl, (cut_some.mpr ⟨Hm_upd e hp _, fun z => O.new (e.same.free (Hm_none hp)) (mem_snd z)⟩), RepSs.mono (Same.cut (fun b o q => ?_) _) _ _ h⟩
  have q3 := Hm_of q
  cases W with
  | none => exact (upd_ne (ne_of_none q3 hp)).trans q3
  | some t =>
    obtain ⟨_, q4⟩ := Hm_some.mp q
    exact Hm_some.mpr ⟨(upd_ne (ne_of_none q3 hp)).trans q3, q4⟩
end

/-! ### names, constants -/
def sv : SV → (Tg → D → Prop) → Prop
  | .val d, R => R .st d
  | .ml ds, R => R .b1 (.lst ds)
  | .md _, _ => False
  | .lk _ kvs, R => R .b1 (.dct kvs)
  | .mg g, R => R .b2 (.lst (g.map D.lst))
def sVar (i : Nat) : SE := fun σ W Q => match σ[i]? with
  | some (some x) => sv x fun t d => Q t d W
  | _ => False
def sC (d : D) : SE := fun _ W Q => Q .st d W
section
variable {X : Cx} {pos : Pos}
theorem mono_sVar (i : Nat) : MonoE (sVar i) := by
  intro σ W Q Q' h w
  unfold sVar at w ⊢
  split <;> rename_i e
  · rename_i x
    rw [e] at w
    cases x <;> first | exact h _ _ _ w | exact w.elim
  · split at w
    · rename_i x e'; exact absurd e' (e x)
    · exact w
theorem mono_sC (d : D) : MonoE (sC d) := fun _ _ _ _ h w => h _ _ _ w
theorem flatten_get {A : List (List Addr)} {i : Nat} {a : List Addr} (h : A[i]? = some a) {b : Addr} (m : b ∈ a) : b ∈ A.flatten :=
  List.mem_flatten.mpr ⟨a, List.mem_of_getElem? h, m⟩
theorem sv_post {K : KW} {F : Frm} {σ : SG} {W : Wd} {A : List (List Addr)} {s : L2.St} {H : Hp} (L : Live K F σ W A s H) {i : Nat} {x : SV} (hx : σ[i]? = some (some x)) {R : Tg → D → Prop} (w : sv x R) :
    ∃ v t d, s[i]? = some (some v) ∧ R t d ∧ Post K A.flatten F.X (Hm H W) (Hm H W) t d v := by
  obtain ⟨v, a, h1, h2, h3⟩ := L.slot i x hx
  cases x with
  | val d => exact ⟨v, _, _, h1, w, h3⟩
  | ml ds =>
    obtain ⟨p, e, e2, n⟩ := h3
    exact ⟨v, _, _, h1, w, p, e, flatten_get h2 (by rw [e2]; simp), n⟩
  | md ds => exact w.elim
  | lk g ds =>
    obtain ⟨e, e2, n, r⟩ := h3
    exact ⟨v, _, _, h1, w, g.1, e, flatten_get h2 (by rw [e2]; simp), g.2.1, g.2.2, n, r⟩
  | mg g =>
    obtain ⟨p, ps, e, e2, e3, n⟩ := h3
    refine ⟨v, _, _, h1, w, ?_⟩
    subst e
    simp only [Post, RepS]
    exact ⟨p, _, rfl, (cut_some.mpr ⟨e3, L.ax (flatten_get h2 (by rw [e2]; simp))⟩), n.rep (Same.cutl fun b => mem_snd) fun p' m o q => cut_some.mpr ⟨q, L.ax (flatten_get h2 (by rw [e2]; simp [m]))⟩⟩
theorem vVar (i : Nat) {x : Str} (hN : X.N[i]? = some x := by rfl) (hv : Vis X.env.scope x := by first | exact Or.inl rfl | exact Or.inr (Or.inl rfl) | exact Or.inr (Or.inr rfl)) (hd : (x == ("__debug__" : Str)) = false := by decide)
    (hcd : (x == ("__classdict__" : Str)) = false := by decide) : VE X (.Name x pos) (sVar i) := by
  refine ⟨peI (pe_var hN hv hd hcd) fun s H Q ⟨F, σ, W, A, L, w⟩ => ?_, mono_sVar i⟩
  unfold sVar at w
  split at w
  · rename_i y e
    obtain ⟨v, t, d, h1, h2, h3⟩ := sv_post L e w
    exact ⟨v, h1, h2 v H L.ext0 h3⟩
  · exact w.elim
theorem vC {e : Expr} {v : V} {d : D} (h : PE X e (tC v)) (r : ∀ H, RepS X.kw H d v) : VE X e (sC d) :=
  ⟨peI h fun s H Q ⟨F, σ, W, A, L, w⟩ => w v H L.ext0 (r _), mono_sC d⟩
theorem vInt {i : Int} {j : Nat} : VE X (.Constant (.int i) j pos) (sC (.int i)) := vC pe_int fun _ => by simp [RepS]
theorem vBl {b : Bool} {j : Nat} : VE X (.Constant (.bool b) j pos) (sC (.bl b)) := vC pe_bl fun _ => by simp [RepS]
theorem vNon {j : Nat} : VE X (.Constant .none j pos) (sC .non) := vC pe_non fun _ => by simp [RepS]
theorem vStr {x : Str} {j : Nat} : VE X (.Constant (.str x) j pos) (sC (.str x)) := vC pe_str fun _ => by simp [RepS]
/-- a constant of the module -/
theorem vGlob {x : Str} {v : V} {d : D} {u : Value} (hg : Gl X x) (hm : X.mg x = some u) (r : RelV v u) (hr : ∀ H, RepS X.kw H d v) (hd : (x == ("__debug__" : Str)) = false := by decide) : VE X (.Name x pos) (sC d) :=
  vC (pe_glob hg hm r hd) hr
end

/-! ### operators by values -/
abbrev OpD := Tg → D → Tg → D → (Tg → D → Prop) → Prop
def MonoO (f : OpD) : Prop := ∀ t x u y R R', (∀ g d, R g d → R' g d) → f t x u y R → f t x u y R'
structure At (A X : List Addr) (W0 : Wd) (H0 : Hp) (W : Wd) (H : Hp) : Prop where
  own : Own A X (Hm H0 W0)
  ext : Ext (A ++ X) W0 H0 W H
def OpOk (K : KW) (r : R2) (f : OpD) : Prop :=
  ∀ (A X : List Addr) (W0 : Wd) (H0 : Hp) (W : Wd) (H : Hp), At A X W0 H0 W H → ∀ (t : Tg) (x : D) (u : Tg) (y : D) (v w : V) (R : Tg → D → Prop) (Q : VK),
    Post K A X (Hm H0 W0) (Hm H W) t x v → Post K A X (Hm H0 W0) (Hm H W) u y w → f t x u y R →
    (∀ g d z H', Ext (A ++ X) W H W H' → Post K A X (Hm H0 W0) (Hm H' W) g d z → R g d → Q z H') → r v w H Q
def sBin (f : OpD) (ta tb : SE) : SE := fun σ W Q => ta σ W fun t x W1 => tb σ W1 fun u y W2 => f t x u y fun g d => Q g d W2
theorem mono_sBin {f : OpD} {ta tb : SE} (mf : MonoO f) (ma : MonoE ta) (mb : MonoE tb) : MonoE (sBin f ta tb) := fun σ W Q Q' h w =>
  ma _ _ _ _ (fun t x W1 w1 => mb _ _ _ _ (fun u y W2 w2 => mf _ _ _ _ _ _ (fun g d => h g d W2) w2) w1) w
section
variable {X : Cx} {pos : Pos} {a b c : Expr} {ta tb tc : SE}
theorem rdBin {K : KW} {r : R2} {f : OpD} (hf : OpOk K r f) (ma : MonoE ta) (mb : MonoE tb) {s : L2.St} {H : Hp} {Q : VK} (h : rdE K (sBin f ta tb) s H Q) : tOp r (rdE K ta) (rdE K tb) s H Q := by
  obtain ⟨F, σ, W, A, L, w⟩ := h
  exact L.two ma mb w fun t x u y W2 v z H2 w2 L2 e p1 p2 => hf _ _ _ _ _ _ ⟨L.own, e⟩ _ _ _ _ _ _ _ _ p1 p2 w2 fun g d z' H' e' p' q => q z' H' (e.trans e') p'
theorem vBin {op : Operator} {r : R2} {f : OpD} (ho : OpR X (binaryOp op) r) (hf : OpOk X.kw r f) (mf : MonoO f) (ha : VE X a ta) (hb : VE X b tb) : VE X (.BinOp a op b pos) (sBin f ta tb) :=
  ⟨peI (pe_op ho ha.pe hb.pe) fun s H Q h => rdBin hf ha.mono hb.mono h, mono_sBin mf ha.mono hb.mono⟩
theorem vCmp {op : CmpOp} {r : R2} {f : OpD} (ho : OpR X (compareOp op) r) (hf : OpOk X.kw r f) (mf : MonoO f) (ha : VE X a ta) (hb : VE X b tb) (hm : behindInMarks op b = false := by first | exact nomark _ | rfl) : VE X (.Compare a [op] [b] pos) (sBin f ta tb) :=
  ⟨peI (pe_cmpR ho ha.pe hb.pe hm) fun s H Q h => rdBin hf ha.mono hb.mono h, mono_sBin mf ha.mono hb.mono⟩
/-- a test -/
def sTest (t : SE) : SB := fun σ W Q => t σ W fun _ d W1 => match d with
  | .bl b => Q b W1
  | _ => False
theorem mono_sTest {t : SE} (m : MonoE t) : MonoB (sTest t) := fun σ W Q Q' h w => m _ _ _ _ (fun g d W1 w1 => by
  cases d with
  | bl b => exact h _ _ w1
  | _ => exact w1) w
theorem rdTest {K : KW} {t : SE} (m : MonoE t) {s : L2.St} {H : Hp} {Q : Bool → Hp → Prop} (h : rdB K (sTest t) s H Q) : rdE K t s H fun x H' => ∃ k, x = .bl k ∧ Q k H' := by
  obtain ⟨F, σ, W, A, L, w⟩ := h
  refine L.one m w fun g d W1 v H1 w1 L1 e p => ?_
  cases d with
  | bl b => exact ⟨b, p.bl, w1 H1 e⟩
  | _ => exact w1.elim
theorem vtCmp {op : CmpOp} {r : R2} {f : OpD} (ho : OpR X (compareOp op) r) (hf : OpOk X.kw r f) (mf : MonoO f) (ha : VE X a ta) (hb : VE X b tb) (hm : behindInMarks op b = false := by first | exact nomark _ | rfl) : VT X (.Compare a [op] [b] pos) (sTest (sBin f ta tb)) := by
  refine ⟨ptI (pt_cmpR ho ha.pe hb.pe hm) fun s H Q h => ?_, mono_sTest (mono_sBin mf ha.mono hb.mono)⟩
  have q := rdTest (mono_sBin mf ha.mono hb.mono) h
  exact rdBin hf ha.mono hb.mono q
theorem vtVal (h : VE X a ta) (he : ∀ whole, isTrue a X.env whole = (do let v ← whole; standAt a.pos; holding [v] (truthy v)) := by intro _; rfl) : VT X a (sTest ta) :=
  ⟨ptI (pt_val h.pe he) fun s H Q q => rdTest h.mono q, mono_sTest h.mono⟩
/-- a op b op' c -/
def sChain (f f' : OpD) (ta tb tc : SE) : SE := fun σ W Q => ta σ W fun t x W1 => tb σ W1 fun u y W2 => f t x u y fun _ d => match d with
  | .bl true => tc σ W2 fun v z W3 => f' u y v z fun g e => Q g e W3
  | .bl false => Q .st (.bl false) W2
  | _ => False
theorem mono_sChain {f f' : OpD} (mf : MonoO f) (mf' : MonoO f') (ma : MonoE ta) (mb : MonoE tb) (mc : MonoE tc) : MonoE (sChain f f' ta tb tc) := fun σ W Q Q' h w =>
  ma _ _ _ _ (fun t x W1 w1 => mb _ _ _ _ (fun u y W2 w2 => mf _ _ _ _ _ _ (fun g d q => by
    cases d with
    | bl k =>
      cases k with
      | true => exact mc _ _ _ _ (fun v z W3 w3 => mf' _ _ _ _ _ _ (fun g e => h g e W3) w3) q
      | false => exact h _ _ _ q
    | _ => exact q) w2) w1) w
theorem rdChain {K : KW} {r r' : R2} {f f' : OpD} (hf : OpOk K r f) (hf' : OpOk K r' f') (ma : MonoE ta) (mb : MonoE tb) (mc : MonoE tc) {s : L2.St} {H : Hp} {Q : VK} (h : rdE K (sChain f f' ta tb tc) s H Q) :
    tChain r r' (rdE K ta) (rdE K tb) (rdE K tc) s H Q := by
  obtain ⟨F, σ, W, A, L, w⟩ := h
  refine L.two ma mb w fun t x u y W2 v z H2 w2 L2 e p1 p2 => hf _ _ _ _ _ _ ⟨L.own, e⟩ _ _ _ _ _ _ _ _ p1 p2 w2 fun g d z' H' e' p' q => ?_
  cases d with
  | bl k =>
    refine ⟨k, p'.bl, ?_⟩
    cases k with
    | true =>
      rw [if_pos rfl]
      refine (L2.step e').one mc q fun g3 d3 W3 v3 H3 w3 L3 e3 p3 => ?_
      have ee := (e.trans e').trans e3
      exact hf' _ _ _ _ _ _ ⟨L.own, ee⟩ _ _ _ _ _ _ _ _ (Post.mono (e'.same.trans e3.same) p2) (p3.back (e.trans e').same) w3 fun g4 d4 z4 H4 e4 p4 q4 => q4 z4 H4 (ee.trans e4) p4
    | false =>
      rw [if_neg Bool.false_ne_true]
      exact q _ _ (e.trans e') (by simp [Post, RepS])
  | _ => exact q.elim
end
end VL

/-! VL4: operators. -/
namespace VL
open PySem PySem.Spec PyProof.Rows L2

/-! ### data as the model's own data -/
mutual
def py : D → PyData
  | .non => .none
  | .bl b => .bool b
  | .int i => .int i
  | .str x => .str x
  | .tup ds => .tuple (pys ds)
  | .lst ds => .list (pys ds)
  | _ => .none
def pys : List D → List PyData
  | [] => []
  | d :: ds => py d :: pys ds
end
mutual
def pyOk : D → Bool
  | .dct _ => false
  | .deal _ => false
  | .fn _ => false
  | .scr _ => false
  | .tup ds => pyOks ds
  | .lst ds => pyOks ds
  | _ => true
def pyOks : List D → Bool
  | [] => true
  | d :: ds => pyOk d && pyOks ds
end
theorem pys_map : ∀ ds : List D, pys ds = ds.map py
  | [] => by simp [pys]
  | d :: ds => by simp [pys, pys_map ds]
mutual
theorem RepS.dp {K : KW} {H : Hp} : ∀ (d : D) (v : V), pyOk d = true → RepS K H d v → Dp K H v (py d)
  | .non, v, _, h => by simp only [RepS] at h; subst h; simp only [py]; exact .non
  | .bl b, v, _, h => by simp only [RepS] at h; subst h; simp only [py]; exact .bl b
  | .int i, v, _, h => by simp only [RepS] at h; subst h; simp only [py]; exact .int i
  | .str x, v, _, h => by simp only [RepS] at h; subst h; simp only [py]; exact .str x
  | .tup ds, v, f, h => by
    simp only [pyOk] at f
    simp only [RepS] at h
    obtain ⟨a, xs, e, h1, h2⟩ := h
    subst e
    simp only [py]
    exact .tup (.inl (.inl h1)) (RepSs.dp ds xs f h2)
  | .lst ds, v, f, h => by
    simp only [pyOk] at f
    simp only [RepS] at h
    obtain ⟨a, xs, e, h1, h2⟩ := h
    subst e
    simp only [py]
    exact .lst (.of h1) (RepSs.dp ds xs f h2)
  | .dct kvs, v, f, h => by simp [pyOk] at f
  | .deal a, v, f, h => by simp [pyOk] at f
  | .fn a, v, f, h => by simp [pyOk] at f
  | .scr a, v, f, h => by simp [pyOk] at f
theorem RepSs.dp {K : KW} {H : Hp} : ∀ (ds : List D) (vs : List V), pyOks ds = true → RepSs K H ds vs → DpAll K H vs (pys ds)
  | [], v, _, h => by simp only [RepSs] at h; subst h; simp only [pys]; exact .nil
  | d :: ds, v, f, h => by
    simp only [pyOks, Bool.and_eq_true] at f
    simp only [RepSs] at h
    obtain ⟨x, r, e, h1, h2⟩ := h
    subst e
    simp only [pys]
    exact .cons (RepS.dp d x f.1 h1) (RepSs.dp ds r f.2 h2)
end
/-- data that may be compared -/
def eqOk (d : D) : Prop := pyOk d = true ∧ SeqAt.shaped (py d) = true
def deq (x y : D) : Bool := PyData.eqv (py x) (py y)

section
variable {K : KW} {A X : List Addr} {W0 W : Wd} {H0 H : Hp}
theorem Post.actual {t : Tg} {d : D} {v : V} (a : At A X W0 H0 W H) (h : Post K A X (Hm H0 W0) (Hm H W) t d v) : RepS K H d v :=
  RepS.mono (fun b o e => Same.unHm b o (Same.uncut b o e)) _ _ (h.rep a.own a.ext.same)
theorem At.refl (a : At A X W0 H0 W H) : Ext (A ++ X) W H W H := ⟨.refl _, a.ext.cell, .refl _⟩
theorem At.newL {R : Tg → D → Prop} {Q : VK} (a : At A X W0 H0 W H) {ds : List D} {xs : List V} (hr : RepSs K (cut (Hm H W) (A ++ X)) ds xs) (w : R .fr (.lst ds))
    (k : ∀ g d z H', Ext (A ++ X) W H W H' → Post K A X (Hm H0 W0) (Hm H' W) g d z → R g d → Q z H') : ∀ p, H p = none → Q (.ref p) (upd H p (.lst xs)) :=
  fun p hp => k _ _ _ _ (a.refl.laid hp _) (Post.newL a.ext hr hp) w
theorem At.newL2 {R : Tg → D → Prop} {Q : VK} (a : At A X W0 H0 W H) {ds : List D} {xs : List V} (hr : RepSs K (cut (Hm H W) X) ds xs) (w : R .b2 (.lst ds))
    (k : ∀ g d z H', Ext (A ++ X) W H W H' → Post K A X (Hm H0 W0) (Hm H' W) g d z → R g d → Q z H') : ∀ p, H p = none → Q (.ref p) (upd H p (.lst xs)) :=
  fun p hp => k _ _ _ _ (a.refl.laid hp _) (Post.newL2 a.own a.ext hr hp) w
theorem At.newT {R : Tg → D → Prop} {Q : VK} (a : At A X W0 H0 W H) {ds : List D} {xs : List V} (hr : RepSs K (cut (Hm H W) (A ++ X)) ds xs) (w : R .st (.tup ds))
    (k : ∀ g d z H', Ext (A ++ X) W H W H' → Post K A X (Hm H0 W0) (Hm H' W) g d z → R g d → Q z H') : ∀ p, H p = none → Q (.ref p) (upd H p (.tup xs)) :=
  fun p hp => k _ _ _ _ (a.refl.laid hp _) (Post.newT a.own a.ext hr hp) w
theorem At.newT2 {R : Tg → D → Prop} {Q : VK} (a : At A X W0 H0 W H) {ds : List D} {xs : List V} (hr : RepSs K (cut (Hm H W) X) ds xs) (w : R .b2 (.tup ds))
    (k : ∀ g d z H', Ext (A ++ X) W H W H' → Post K A X (Hm H0 W0) (Hm H' W) g d z → R g d → Q z H') : ∀ p, H p = none → Q (.ref p) (upd H p (.tup xs)) :=
  fun p hp => k _ _ _ _ (a.refl.laid hp _) (Post.newT2 a.own a.ext hr hp) w
theorem At.now {R : Tg → D → Prop} {Q : VK} (a : At A X W0 H0 W H) {g : Tg} {d : D} {z : V} (h : Post K A X (Hm H0 W0) (Hm H W) g d z) (w : R g d)
    (k : ∀ g d z H', Ext (A ++ X) W H W H' → Post K A X (Hm H0 W0) (Hm H' W) g d z → R g d → Q z H') : Q z H := k _ _ _ _ a.refl h w
end

/-! ### + -/
def dAdd : OpD := fun t x u y R => match x, y with
  | .int i, .int j => R .st (.int (i + j))
  | .str i, .str j => i.length + j.length ≤ sizeLine ∧ R .st (.str (i ++ j))
  | .lst a, .lst b => a.length + b.length ≤ sizeLine ∧ est t a ∧ est u b ∧ R .fr (.lst (a ++ b))
  | .tup a, .tup b => a.length + b.length ≤ sizeLine ∧ est t a ∧ est u b ∧ R .st (.tup (a ++ b))
  | _, _ => False
def rAdd2 (K : KW) : R2 := fun x y H Q => ((rI0 (fun i j => .int (i + j)) x y H Q ∨ (∃ i j, x = .str i ∧ y = .str j ∧ i.length + j.length ≤ sizeLine ∧ Q (.str (i ++ j)) H)) ∨ rCat x y H Q) ∨ rCatA K x y H Q
theorem opAdd {X : Cx} : OpR X (binaryOp .Add) (rAdd2 X.kw) := OpR.or (OpR.or (OpR.or op_add op_add_str) op_cat) op_catA
theorem mono_dAdd : MonoO dAdd := by
  intro t x u y R R' h w
  unfold dAdd at w ⊢
  split at w
  · exact h _ _ w
  · exact ⟨w.1, h _ _ w.2⟩
  · exact ⟨w.1, w.2.1, w.2.2.1, h _ _ w.2.2.2⟩
  · exact ⟨w.1, w.2.1, w.2.2.1, h _ _ w.2.2.2⟩
  · exact w.elim
theorem okAdd {K : KW} : OpOk K (rAdd2 K) dAdd := by
  intro A X W0 H0 W H a t x u y v w R Q p1 p2 hw k
  unfold dAdd at hw
  split at hw
  · exact .inl (.inl (.inl ⟨_, _, p1.int, p2.int, a.now Post.ofInt hw k⟩))
  · exact .inl (.inl (.inr ⟨_, _, p1.str, p2.str, hw.1, a.now Post.ofStr hw.2 k⟩))
  · obtain ⟨h1, h2, h3, h4⟩ := hw
    obtain ⟨p, xs, e1, q1, r1, s1⟩ := p1.lst a.own a.ext.same
    obtain ⟨p', xs', e2, q2, r2, s2⟩ := p2.lst a.own a.ext.same
    exact .inl (.inr ⟨p, p', xs, xs', e1, e2, Hm_of q1, Hm_of q2, by rw [← r1.length, ← r2.length]; exact h1, a.newL ((s1 h2).append (s2 h3)) h4 k⟩)
  · rename_i ds es
    obtain ⟨h1, h2, h3, h4⟩ := hw
    obtain ⟨p, xs, e1, q1, r1, s1⟩ := p1.tup a.own a.ext.same
    obtain ⟨p', xs', e2, q2, r2, s2⟩ := p2.tup a.own a.ext.same
    have l1 := r1.length
    have l2 := r2.length
    refine .inr ⟨p, p', xs, xs', e1, e2, Same.seqT Same.unHm q1, Same.seqT Same.unHm q2, by rw [← l1, ← l2]; exact h1, fun z => ?_, fun z1 z2 => ?_, fun z1 z2 => a.newT ((s1 h2).append (s2 h3)) h4 k⟩
    · have z' : ds = [] := List.eq_nil_of_length_eq_zero (by rw [l1, z]; rfl)
      subst z'
      rw [e2] at p2
      have p3 : Post K A X (Hm H0 W0) (Hm H W) .st (.tup es) (.ref p') := by
        cases u with
        | st => exact p2
        | fr => obtain ⟨_, _, _, h⟩ := p2; exact h.elim
        | fr2 => obtain ⟨_, _, _, h, _⟩ := p2; exact nomatch h
        | b1 => obtain ⟨_, _, _, h⟩ := p2; exact h.elim
        | b2 => exact p2.keep a.own a.ext.same (by simp only [sto, flat]; exact h3)
      exact a.now p3 (by simpa using h4) k
    · have z' : es = [] := List.eq_nil_of_length_eq_zero (by rw [l2, z2]; rfl)
      subst z'
      rw [e1] at p1
      have p3 : Post K A X (Hm H0 W0) (Hm H W) .st (.tup ds) (.ref p) := by
        cases t with
        | st => exact p1
        | fr => obtain ⟨_, _, _, h⟩ := p1; exact h.elim
        | fr2 => obtain ⟨_, _, _, h, _⟩ := p1; exact nomatch h
        | b1 => obtain ⟨_, _, _, h⟩ := p1; exact h.elim
        | b2 => exact p1.keep a.own a.ext.same (by simp only [sto, flat]; exact h2)
      exact a.now p3 (by simpa using h4) k
  · exact hw.elim

/-! ### ints -/
/-- two ints, a condition, the answer -/
def dII (C : Int → Int → Prop) (g : Int → Int → D) : OpD := fun _ x _ y R => match x, y with
  | .int i, .int j => C i j ∧ R .st (g i j)
  | _, _ => False
theorem mono_dII {C : Int → Int → Prop} {g : Int → Int → D} : MonoO (dII C g) := by
  intro t x u y R R' h w
  unfold dII at w ⊢
  split at w
  · exact ⟨w.1, h _ _ w.2⟩
  · exact w.elim
theorem okII {K : KW} {C : Int → Int → Prop} {g : Int → Int → D} {g' : Int → Int → V} (hg : ∀ i j H, RepS K H (g i j) (g' i j)) : OpOk K (rI C g') (dII C g) := by
  intro A X W0 H0 W H a t x u y v w R Q p1 p2 hw k
  unfold dII at hw
  split at hw
  · exact ⟨_, _, p1.int, p2.int, hw.1, a.now (g := .st) (hg _ _ _) hw.2 k⟩
  · exact hw.elim
def dI0 (g : Int → Int → D) : OpD := fun _ x _ y R => match x, y with
  | .int i, .int j => R .st (g i j)
  | _, _ => False
theorem mono_dI0 {g : Int → Int → D} : MonoO (dI0 g) := by
  intro t x u y R R' h w
  unfold dI0 at w ⊢
  split at w
  · exact h _ _ w
  · exact w.elim
theorem okI0 {K : KW} {g : Int → Int → D} {g' : Int → Int → V} (hg : ∀ i j H, RepS K H (g i j) (g' i j)) : OpOk K (rI0 g') (dI0 g) := by
  intro A X W0 H0 W H a t x u y v w R Q p1 p2 hw k
  unfold dI0 at hw
  split at hw
  · exact ⟨_, _, p1.int, p2.int, a.now (g := .st) (hg _ _ _) hw k⟩
  · exact hw.elim
abbrev dSub : OpD := dI0 fun i j => .int (i - j)
abbrev dFdiv : OpD := dII CDiv fun i j => .int (i / j)
abbrev dMod : OpD := dII (fun _ j => 0 < j) fun i j => .int (i % j)
abbrev dPow : OpD := dII CPow fun i j => .int (i ^ j.toNat)
abbrev dLt : OpD := dI0 fun i j => .bl (decide (i < j))
abbrev dLe : OpD := dI0 fun i j => .bl (decide (i ≤ j))
abbrev dGt : OpD := dI0 fun i j => .bl (decide (j < i))
abbrev dGe : OpD := dI0 fun i j => .bl (decide (j ≤ i))
/-! ### * -/
def dMul : OpD := fun t x u y R => match x, y with
  | .int i, .int j => CMul i j ∧ R .st (.int (i * j))
  | .lst a, .int k => -(2 ^ 63) ≤ k ∧ k < 2 ^ 63 ∧ a.length * k.toNat ≤ sizeLine ∧ est t a ∧ R .fr (.lst (List.replicate k.toNat a).flatten)
  | .tup a, .int k => a ≠ [] ∧ 2 ≤ k ∧ k ≤ 1000 ∧ a.length ≤ 1000 ∧ est t a ∧ R .st (.tup (List.replicate k.toNat a).flatten)
  | _, _ => False
def rMul2 (K : KW) : R2 := fun x y H Q => (rI CMul (fun i j => .int (i * j)) x y H Q ∨ rRep x y H Q) ∨ rRepT K x y H Q
theorem opMul {X : Cx} : OpR X (binaryOp .Mult) (rMul2 X.kw) := OpR.or (OpR.or op_mul op_rep) op_repT
theorem mono_dMul : MonoO dMul := by
  intro t x u y R R' h w
  unfold dMul at w ⊢
  split at w
  · exact ⟨w.1, h _ _ w.2⟩
  · exact ⟨w.1, w.2.1, w.2.2.1, w.2.2.2.1, h _ _ w.2.2.2.2⟩
  · exact ⟨w.1, w.2.1, w.2.2.1, w.2.2.2.1, w.2.2.2.2.1, h _ _ w.2.2.2.2.2⟩
  · exact w.elim
theorem RepSs.flatRep {K : KW} {H : Hp} {ds : List D} {xs : List V} (h : RepSs K H ds xs) : ∀ n : Nat, RepSs K H (List.replicate n ds).flatten (List.replicate n xs).flatten
  | 0 => by simp [RepSs]
  | n + 1 => by
    rw [List.replicate_succ, List.replicate_succ, List.flatten_cons, List.flatten_cons]
    exact h.append (RepSs.flatRep h n)
theorem okMul {K : KW} : OpOk K (rMul2 K) dMul := by
  intro A X W0 H0 W H a t x u y v w R Q p1 p2 hw k
  unfold dMul at hw
  split at hw
  · exact .inl (.inl ⟨_, _, p1.int, p2.int, hw.1, a.now Post.ofInt hw.2 k⟩)
  · obtain ⟨h1, h2, h3, h4, h5⟩ := hw
    obtain ⟨p, xs, e1, q1, r1, s1⟩ := p1.lst a.own a.ext.same
    exact .inl (.inr ⟨p, _, xs, e1, p2.int, Hm_of q1, h1, h2, by rw [← r1.length]; exact h3, a.newL ((s1 h4).flatRep _) h5 k⟩)
  · obtain ⟨h0, h1, h2, h3, h4, h5⟩ := hw
    obtain ⟨p, xs, e1, q1, r1, s1⟩ := p1.tup a.own a.ext.same
    refine .inr ⟨p, _, xs, e1, p2.int, Same.seqT Same.unHm q1, fun z => h0 ?_, h1, h2, by rw [← r1.length]; exact h3, a.newT ((s1 h4).flatRep _) h5 k⟩
    exact List.eq_nil_of_length_eq_zero (by rw [r1.length, z]; rfl)
  · exact hw.elim

/-! ### ==, != -/
def dEqG (neg : Bool) : OpD := fun t x u y R => match x, y with
  | .int i, .int j => R .st (.bl (if neg then !decide (i = j) else decide (i = j)))
  | .str i, .str j => R .st (.bl (if neg then !decide (i = j) else decide (i = j)))
  | .bl i, .bl j => R .st (.bl (if neg then !decide (i = j) else decide (i = j)))
  | x, y => eqOk x ∧ eqOk y ∧ R .st (.bl (if neg then !deq x y else deq x y))
abbrev dEq : OpD := dEqG false
abbrev dNe : OpD := dEqG true
def rEq2 (K : KW) : R2 := fun x y H Q => rEq x y H Q ∨ rEqD K x y H Q
def rNe2 (K : KW) : R2 := fun x y H Q => rNe x y H Q ∨ rNeD K x y H Q
theorem opEq {X : Cx} (hu : X.A.units + 64 < cLine) : OpR X (compareOp .Eq) (rEq2 X.kw) := OpR.or op_eq (op_eqD hu)
theorem opNe {X : Cx} (hu : X.A.units + 64 < cLine) : OpR X (compareOp .NotEq) (rNe2 X.kw) := OpR.or op_ne (op_neD hu)
theorem mono_dEqG {neg : Bool} : MonoO (dEqG neg) := by
  intro t x u y R R' h w
  cases x <;> cases y <;> first | exact h _ _ w | exact ⟨w.1, w.2.1, h _ _ w.2.2⟩
theorem dec_inj {α β : Type} [DecidableEq α] [DecidableEq β] {f : α → β} (h : ∀ a b, f a = f b → a = b) (a b : α) : decide (f a = f b) = decide (a = b) := by
  by_cases e : a = b
  · subst e; simp
  · rw [decide_eq_false e, decide_eq_false fun q => e (h _ _ q)]
theorem okEq {K : KW} : OpOk K (rEq2 K) dEq := by
  intro A X W0 H0 W H a t x u y v w R Q p1 p2 hw k
  unfold dEq dEqG at hw
  split at hw
  · refine .inl ?_
    rw [p1.int, p2.int]
    exact ⟨rfl, by rw [dec_inj fun _ _ e => V.int.inj e]; exact a.now Post.ofBl hw k⟩
  · refine .inl ?_
    rw [p1.str, p2.str]
    exact ⟨rfl, by rw [dec_inj fun _ _ e => V.str.inj e]; exact a.now Post.ofBl hw k⟩
  · refine .inl ?_
    rw [p1.bl, p2.bl]
    exact ⟨rfl, by rw [dec_inj fun _ _ e => V.bl.inj e]; exact a.now Post.ofBl hw k⟩
  · exact .inr ⟨_, _, RepS.dp _ _ hw.1.1 (p1.actual a), RepS.dp _ _ hw.2.1.1 (p2.actual a), hw.1.2, hw.2.1.2, a.now Post.ofBl hw.2.2 k⟩
theorem okNe {K : KW} : OpOk K (rNe2 K) dNe := by
  intro A X W0 H0 W H a t x u y v w R Q p1 p2 hw k
  unfold dNe dEqG at hw
  split at hw
  · refine .inl ?_
    rw [p1.int, p2.int]
    exact ⟨rfl, by rw [dec_inj fun _ _ e => V.int.inj e]; exact a.now Post.ofBl hw k⟩
  · refine .inl ?_
    rw [p1.str, p2.str]
    exact ⟨rfl, by rw [dec_inj fun _ _ e => V.str.inj e]; exact a.now Post.ofBl hw k⟩
  · refine .inl ?_
    rw [p1.bl, p2.bl]
    exact ⟨rfl, by rw [dec_inj fun _ _ e => V.bl.inj e]; exact a.now Post.ofBl hw k⟩
  · exact .inr ⟨_, _, RepS.dp _ _ hw.1.1 (p1.actual a), RepS.dp _ _ hw.2.1.1 (p2.actual a), hw.1.2, hw.2.1.2, a.now Post.ofBl hw.2.2 k⟩

/-! ### is, is not -/
def isNon : D → Bool
  | .non => true
  | _ => false
def dIsG (neg : Bool) : OpD := fun t x u y R => match x, y with
  | x, .non => R .st (.bl (if neg then !isNon x else isNon x))
  | .bl i, .bl j => R .st (.bl (if neg then !decide (i = j) else decide (i = j)))
  | _, _ => False
abbrev dIs : OpD := dIsG false
abbrev dIsNot : OpD := dIsG true
theorem Post.isNon {K : KW} {A X : List Addr} {H0 H : Hp} {t : Tg} {d : D} {v : V} (h : Post K A X H0 H t d v) : decide (v = .non) = VL.isNon d := by
  have key : ∀ G, RepS K G d v → decide (v = .non) = VL.isNon d := fun G q => by
    cases d <;> simp only [RepS] at q <;> (try subst q) <;> (try rfl)
    all_goals (obtain ⟨a, q⟩ := q)
    · obtain ⟨_, q, _⟩ := q; subst q; rfl
    · obtain ⟨_, q, _⟩ := q; subst q; rfl
    · obtain ⟨_, _, q, _⟩ := q; subst q; rfl
    · obtain ⟨q, _⟩ := q; subst q; rfl
  cases t with
  | st => exact key _ h
  | fr =>
    obtain ⟨p, e, e2, q⟩ := h
    subst e
    cases d <;> first | exact q.elim | rfl
  | fr2 =>
    obtain ⟨p, ps, g, e, e2, _⟩ := h
    subst e; subst e2
    rfl
  | b1 =>
    obtain ⟨p, e, e2, q⟩ := h
    subst e
    cases d <;> first | exact q.elim | rfl
  | b2 => exact key _ h
def rIs2 : R2 := fun x y H Q => (y = .non ∧ Q (.bl (decide (x = .non))) H) ∨ ∃ a b, x = .bl a ∧ y = .bl b ∧ Q (.bl (decide (a = b))) H
def rIsNot2 : R2 := fun x y H Q => (y = .non ∧ Q (.bl (!decide (x = .non))) H) ∨ ∃ a b, x = .bl a ∧ y = .bl b ∧ Q (.bl (!decide (a = b))) H
theorem mono_dIsG {neg : Bool} : MonoO (dIsG neg) := by
  intro t x u y R R' h w
  unfold dIsG at w ⊢
  cases y with
  | non => exact h _ _ w
  | bl j => cases x <;> first | exact w.elim | exact h _ _ w
  | _ => first | exact w.elim | (cases x <;> exact w.elim)
theorem okIs {K : KW} : OpOk K rIs2 dIs := by
  intro A X W0 H0 W H a t x u y v w R Q p1 p2 hw k
  unfold dIs dIsG at hw
  cases y with
  | non => exact .inl ⟨p2.non, by rw [p1.isNon]; exact a.now Post.ofBl hw k⟩
  | bl j => cases x <;> first | exact hw.elim | exact .inr ⟨_, _, p1.bl, p2.bl, a.now Post.ofBl hw k⟩
  | _ => first | exact hw.elim | (cases x <;> exact hw.elim)
theorem okIsNot {K : KW} : OpOk K rIsNot2 dIsNot := by
  intro A X W0 H0 W H a t x u y v w R Q p1 p2 hw k
  unfold dIsNot dIsG at hw
  cases y with
  | non => exact .inl ⟨p2.non, by rw [p1.isNon]; exact a.now Post.ofBl hw k⟩
  | bl j => cases x <;> first | exact hw.elim | exact .inr ⟨_, _, p1.bl, p2.bl, a.now Post.ofBl hw k⟩
  | _ => first | exact hw.elim | (cases x <;> exact hw.elim)

/-! ### in, not in -/
/-- the value at a key -/
def dInG (neg : Bool) : OpD := fun t x u y R => match y with
  | .lst ds => eqOk x ∧ eqOk (.lst ds) ∧ R .st (.bl (if neg then !ds.any fun z => deq z x else ds.any fun z => deq z x))
  | .tup ds => eqOk x ∧ eqOk (.tup ds) ∧ R .st (.bl (if neg then !ds.any fun z => deq z x else ds.any fun z => deq z x))
  | _ => False
abbrev dIn : OpD := dInG false
abbrev dNotIn : OpD := dInG true
section
variable {X : Cx}
def rInT (K : KW) (neg : Bool) : R2 := fun x y H Q => ∃ d ds, Dp K H x d ∧ (Dp K H y (.list ds) ∨ Dp K H y (.tuple ds)) ∧ SeqAt.shaped d = true ∧ SeqAt.shaped (.list ds) = true ∧ Q (.bl (if neg then !ds.any fun z => PyData.eqv z d else ds.any fun z => PyData.eqv z d)) H
theorem opIn (hu : X.A.units + 65 < cLine) : OpR X (compareOp .In) (rInT X.kw false) := by
  intro pins s σ H x y v u Q I rx ry h
  obtain ⟨d, ds, hd, he, sd, se, q⟩ := h
  obtain ⟨as, r1⟩ := Dp.reads I d x v hd rx
  have hl : PyData.canLayAll0 ds = true := SeqAt.canLay_of_shaped se
  rcases he with he | he
  · obtain ⟨bs, r2⟩ := Dp.reads I (.list ds) y u he ry
    exact SeqAt.in_list_reads r2 r1 hl (SeqAt.canLay_of_shaped sd) (room_in_shaped sd hu) ⟨.bl _, H, I, rfl, q⟩
  · obtain ⟨bs, r2⟩ := Dp.reads I (.tuple ds) y u he ry
    exact SeqAt.in_tuple_reads r2 r1 hl (SeqAt.canLay_of_shaped sd) (room_in_shaped sd hu) ⟨.bl _, H, I, rfl, q⟩
theorem opNotIn (hu : X.A.units + 65 < cLine) : OpR X (compareOp .NotIn) (rInT X.kw true) := by
  intro pins s σ H x y v u Q I rx ry h
  obtain ⟨d, ds, hd, he, sd, se, q⟩ := h
  obtain ⟨as, r1⟩ := Dp.reads I d x v hd rx
  have hl : PyData.canLayAll0 ds = true := SeqAt.canLay_of_shaped se
  rcases he with he | he
  · obtain ⟨bs, r2⟩ := Dp.reads I (.list ds) y u he ry
    exact SeqAt.notIn_list_reads r2 r1 hl (SeqAt.canLay_of_shaped sd) (room_in_shaped sd hu) ⟨.bl _, H, I, rfl, q⟩
  · obtain ⟨bs, r2⟩ := Dp.reads I (.tuple ds) y u he ry
    exact SeqAt.notIn_tuple_reads r2 r1 hl (SeqAt.canLay_of_shaped sd) (room_in_shaped sd hu) ⟨.bl _, H, I, rfl, q⟩
end
theorem mono_dInG {neg : Bool} : MonoO (dInG neg) := by
  intro t x u y R R' h w
  unfold dInG at w ⊢
  cases y <;> first | exact w.elim | exact ⟨w.1, w.2.1, h _ _ w.2.2⟩
theorem anyPy (x : D) : ∀ ds : List D, ((pys ds).any fun z => PyData.eqv z (py x)) = ds.any fun z => deq z x
  | [] => by simp [pys]
  | d :: ds => by simp only [pys, List.any_cons, anyPy x ds]; rfl
theorem shaped_tl {ds : List PyData} (h : SeqAt.shaped (.tuple ds) = true) : SeqAt.shaped (.list ds) = true := by
  simpa [SeqAt.shaped, PyData.canLay0, PyData.depth] using h
theorem okIn {K : KW} {neg : Bool} : OpOk K (rInT K neg) (dInG neg) := by
  intro A X W0 H0 W H a t x u y v w R Q p1 p2 hw k
  unfold dInG at hw
  cases y with
  | lst ds =>
    obtain ⟨h1, h2, h3⟩ := hw
    have q2 := RepS.dp _ _ h2.1 (p2.actual a)
    have s2 := h2.2
    simp only [py] at q2 s2
    refine ⟨_, _, RepS.dp _ _ h1.1 (p1.actual a), .inl q2, h1.2, s2, ?_⟩
    rw [anyPy]
    exact a.now Post.ofBl h3 k
  | tup ds =>
    obtain ⟨h1, h2, h3⟩ := hw
    have q2 := RepS.dp _ _ h2.1 (p2.actual a)
    have s2 := h2.2
    simp only [py] at q2 s2
    refine ⟨_, _, RepS.dp _ _ h1.1 (p1.actual a), .inr q2, h1.2, shaped_tl s2, ?_⟩
    rw [anyPy]
    exact a.now Post.ofBl h3 k
  | _ => exact hw.elim
end VL

/-! VL5: tests, subscripts, displays, arguments, calls. -/
namespace VL
open PySem PySem.Spec PyProof.Rows L2

section
variable {X : Cx} {pos : Pos} {a b c : Expr} {ta tb tc : SE} {ua ub : SB} {rest : List Expr}
/-! ### one value -/
abbrev UnD := Tg → D → (Tg → D → Prop) → Prop
def MonoU (f : UnD) : Prop := ∀ t x R R', (∀ g d, R g d → R' g d) → f t x R → f t x R'
def sUn (f : UnD) (ta : SE) : SE := fun σ W Q => ta σ W fun t x W1 => f t x fun g d => Q g d W1
theorem mono_sUn {f : UnD} (mf : MonoU f) (ma : MonoE ta) : MonoE (sUn f ta) := fun σ W Q Q' h w => ma _ _ _ _ (fun t x W1 w1 => mf _ _ _ _ (fun g d => h g d W1) w1) w
def UnOk (K : KW) (r : V → Hp → VK → Prop) (f : UnD) : Prop :=
  ∀ (A X : List Addr) (W0 : Wd) (H0 : Hp) (W : Wd) (H : Hp), At A X W0 H0 W H → ∀ (t : Tg) (x : D) (v : V) (R : Tg → D → Prop) (Q : VK),
    Post K A X (Hm H0 W0) (Hm H W) t x v → f t x R →
    (∀ g d z H', Ext (A ++ X) W H W H' → Post K A X (Hm H0 W0) (Hm H' W) g d z → R g d → Q z H') → r v H Q
theorem rdUn {K : KW} {r : V → Hp → VK → Prop} {f : UnD} (hf : UnOk K r f) (ma : MonoE ta) {s : L2.St} {H : Hp} {Q : VK} (h : rdE K (sUn f ta) s H Q) : rdE K ta s H fun x H1 => r x H1 Q := by
  obtain ⟨F, σ, W, A, L, w⟩ := h
  exact L.one ma w fun t x W1 v H1 w1 L1 e p => hf _ _ _ _ _ _ ⟨L.own, e⟩ _ _ _ _ _ p w1 fun g d z H' e' p' q => q z H' (e.trans e') p'
theorem vUn {op : UnaryOp} {r : V → Hp → VK → Prop} {f : UnD} (ho : UnR X (unaryOp op) r) (hf : UnOk X.kw r f) (mf : MonoU f) (ha : VE X a ta) : VE X (.UnaryOp op a pos) (sUn f ta) :=
  ⟨peI (pe_un ho ha.pe) fun s H Q h => rdUn hf ha.mono h, mono_sUn mf ha.mono⟩
def dNeg : UnD := fun _ x R => match x with
  | .int i => R .st (.int (-i))
  | _ => False
theorem mono_dNeg : MonoU dNeg := by
  intro t x R R' h w
  cases x <;> first | exact h _ _ w | exact w
theorem vNeg (ha : VE X a ta) : VE X (.UnaryOp .USub a pos) (sUn dNeg ta) := vUn un_neg (fun A Y W0 H0 W H at' t x v R Q p w k => by
  cases x with
  | int i => exact ⟨i, p.int, at'.now Post.ofInt w k⟩
  | _ => exact w.elim) mono_dNeg ha

/-! ### and, or, not, if -/
def bAnd (t u : SB) : SB := fun σ W Q => t σ W fun c W1 => if c = true then u σ W1 Q else Q false W1
def bOr (t u : SB) : SB := fun σ W Q => t σ W fun c W1 => if c = true then Q true W1 else u σ W1 Q
def bNot (t : SB) : SB := fun σ W Q => t σ W fun c W1 => Q (!c) W1
theorem mono_bAnd (m : MonoB ua) (n : MonoB ub) : MonoB (bAnd ua ub) := fun σ W Q Q' h w => m _ _ _ _ (fun c W1 w1 => by
  cases c with
  | true => exact n _ _ _ _ h w1
  | false => exact h _ _ w1) w
theorem mono_bOr (m : MonoB ua) (n : MonoB ub) : MonoB (bOr ua ub) := fun σ W Q Q' h w => m _ _ _ _ (fun c W1 w1 => by
  cases c with
  | false => exact n _ _ _ _ h w1
  | true => exact h _ _ w1) w
theorem mono_bNot (m : MonoB ua) : MonoB (bNot ua) := fun σ W Q Q' h w => m _ _ _ _ (fun c W1 w1 => h _ _ w1) w
theorem VW.vt {e : Expr} {t : SB} (h : VW X e t) : VT X e t := ⟨h.pe.pt, h.mono⟩
theorem vwAnd1 (h : VT X a ua) : VW X (.BoolOp .And [a] pos) ua := ⟨pw_and1 h.pe, h.mono⟩
theorem vwOr1 (h : VT X a ua) : VW X (.BoolOp .Or [a] pos) ua := ⟨pw_or1 h.pe, h.mono⟩
theorem vwAnd (h : VT X a ua) (h' : VW X (.BoolOp .And (b :: rest) pos) ub) : VW X (.BoolOp .And (a :: b :: rest) pos) (bAnd ua ub) := by
  refine ⟨pwI (pw_and h.pe h'.pe) fun s H Q ⟨F, σ, W, A, L, w⟩ => ?_, mono_bAnd h.mono h'.mono⟩
  refine L.test h.mono w fun c W1 H1 w1 L1 e => ?_
  cases c with
  | true => exact L1.test h'.mono w1 fun d W2 H2 w2 L2 e2 => w2 H2 (e.trans e2)
  | false => exact w1 H1 e
theorem vwOr (h : VT X a ua) (h' : VW X (.BoolOp .Or (b :: rest) pos) ub) : VW X (.BoolOp .Or (a :: b :: rest) pos) (bOr ua ub) := by
  refine ⟨pwI (pw_or h.pe h'.pe) fun s H Q ⟨F, σ, W, A, L, w⟩ => ?_, mono_bOr h.mono h'.mono⟩
  refine L.test h.mono w fun c W1 H1 w1 L1 e => ?_
  cases c with
  | false => exact L1.test h'.mono w1 fun d W2 H2 w2 L2 e2 => w2 H2 (e.trans e2)
  | true => exact w1 H1 e
theorem vtNot (h : VT X a ua) : VT X (.UnaryOp .Not a pos) (bNot ua) :=
  ⟨ptI (pt_not h.pe) fun s H Q ⟨F, σ, W, A, L, w⟩ => L.test h.mono w fun c W1 H1 w1 L1 e => w1 H1 e, mono_bNot h.mono⟩
/-- .. as values -/
def sAnd (ta tb : SE) : SE := fun σ W Q => ta σ W fun _ x W1 => match x with
  | .bl true => tb σ W1 Q
  | .bl false => Q .st (.bl false) W1
  | _ => False
def sOr (ta tb : SE) : SE := fun σ W Q => ta σ W fun _ x W1 => match x with
  | .bl true => Q .st (.bl true) W1
  | .bl false => tb σ W1 Q
  | _ => False
def sNot (ta : SE) : SE := fun σ W Q => ta σ W fun _ x W1 => match x with
  | .bl c => Q .st (.bl (!c)) W1
  | _ => False
theorem mono_sAnd (m : MonoE ta) (n : MonoE tb) : MonoE (sAnd ta tb) := fun σ W Q Q' h w => m _ _ _ _ (fun t x W1 w1 => by
  cases x with
  | bl c => cases c <;> first | exact n _ _ _ _ h w1 | exact h _ _ _ w1
  | _ => exact w1) w
theorem mono_sOr (m : MonoE ta) (n : MonoE tb) : MonoE (sOr ta tb) := fun σ W Q Q' h w => m _ _ _ _ (fun t x W1 w1 => by
  cases x with
  | bl c => cases c <;> first | exact n _ _ _ _ h w1 | exact h _ _ _ w1
  | _ => exact w1) w
theorem mono_sNot (m : MonoE ta) : MonoE (sNot ta) := fun σ W Q Q' h w => m _ _ _ _ (fun t x W1 w1 => by
  cases x with
  | bl c => exact h _ _ _ w1
  | _ => exact w1) w
theorem vOne {op : BoolOp} (h : VE X a ta) : VE X (.BoolOp op [a] pos) ta := ⟨pe_one h.pe, h.mono⟩
theorem vAnd (h : VE X a ta) (h' : VE X (.BoolOp .And (b :: rest) pos) tb) : VE X (.BoolOp .And (a :: b :: rest) pos) (sAnd ta tb) := by
  refine ⟨peI (pe_and h.pe h'.pe) fun s H Q ⟨F, σ, W, A, L, w⟩ => ?_, mono_sAnd h.mono h'.mono⟩
  refine L.one h.mono w fun t x W1 v H1 w1 L1 e p => ?_
  cases x with
  | bl c =>
    refine ⟨c, p.bl, ?_⟩
    cases c with
    | true => exact L1.one h'.mono w1 fun t y W2 u H2 w2 L2 e2 p2 => w2 u H2 (e.trans e2) (p2.back e.same)
    | false => exact w1 _ H1 e Post.ofBl
  | _ => exact w1.elim
theorem vOr (h : VE X a ta) (h' : VE X (.BoolOp .Or (b :: rest) pos) tb) : VE X (.BoolOp .Or (a :: b :: rest) pos) (sOr ta tb) := by
  refine ⟨peI (pe_or h.pe h'.pe) fun s H Q ⟨F, σ, W, A, L, w⟩ => ?_, mono_sOr h.mono h'.mono⟩
  refine L.one h.mono w fun t x W1 v H1 w1 L1 e p => ?_
  cases x with
  | bl c =>
    refine ⟨c, p.bl, ?_⟩
    cases c with
    | false => exact L1.one h'.mono w1 fun t y W2 u H2 w2 L2 e2 p2 => w2 u H2 (e.trans e2) (p2.back e.same)
    | true => exact w1 _ H1 e Post.ofBl
  | _ => exact w1.elim
theorem vNot (h : VE X a ta) : VE X (.UnaryOp .Not a pos) (sNot ta) := by
  refine ⟨peI (pe_not h.pe) fun s H Q ⟨F, σ, W, A, L, w⟩ => ?_, mono_sNot h.mono⟩
  refine L.one h.mono w fun t x W1 v H1 w1 L1 e p => ?_
  cases x with
  | bl c => exact ⟨c, p.bl, w1 _ H1 e Post.ofBl⟩
  | _ => exact w1.elim
def sIf (u : SB) (ta tb : SE) : SE := fun σ W Q => u σ W fun c W1 => if c = true then ta σ W1 Q else tb σ W1 Q
theorem mono_sIf {u : SB} (m : MonoB u) (n : MonoE ta) (k : MonoE tb) : MonoE (sIf u ta tb) := fun σ W Q Q' h w => m _ _ _ _ (fun c W1 w1 => by
  cases c with
  | true => exact n _ _ _ _ h w1
  | false => exact k _ _ _ _ h w1) w
theorem vIf (hc : VT X c ua) (h : VE X a ta) (h' : VE X b tb) : VE X (.IfExp c a b pos) (sIf ua ta tb) := by
  refine ⟨peI (pe_ifExp hc.pe h.pe h'.pe) fun s H Q ⟨F, σ, W, A, L, w⟩ => ?_, mono_sIf hc.mono h.mono h'.mono⟩
  refine L.test hc.mono w fun k W1 H1 w1 L1 e => ?_
  cases k with
  | true => exact L1.one h.mono w1 fun t y W2 u H2 w2 L2 e2 p2 => w2 u H2 (e.trans e2) (p2.back e.same)
  | false => exact L1.one h'.mono w1 fun t y W2 u H2 w2 L2 e2 p2 => w2 u H2 (e.trans e2) (p2.back e.same)

theorem Post.scr {K : KW} {A Y : List Addr} {W0 W : Wd} {H0 H : Hp} {t : Tg} {ns : List Int} {v : V} (h : Post K A Y (Hm H0 W0) (Hm H W) t (.scr ns) v) : ∃ p, v = .ref p ∧ SqL K H p (ns.map V.int) ∧ ns.length ≤ 63 := by
  cases t with
  | fr => obtain ⟨_, _, _, h⟩ := h; exact h.elim
  | fr2 => obtain ⟨_, _, _, h, _⟩ := h; exact nomatch h
  | b1 => obtain ⟨_, _, _, h⟩ := h; exact h.elim
  | st =>
    simp only [Post, RepS] at h
    obtain ⟨p, e, h1, h2⟩ := h
    exact ⟨p, e, Same.unHm.seq (Same.uncut.seq h1), h2⟩
  | b2 =>
    simp only [Post, RepS] at h
    obtain ⟨p, e, h1, h2⟩ := h
    exact ⟨p, e, Same.unHm.seq (Same.uncut.seq h1), h2⟩

/-! ### subscripts -/
def dIx : OpD := fun t x u y R => match x, y with
  | .lst ds, .int i => ∃ d, atI ds i = some d ∧ R (el t) d
  | .tup ds, .int i => ∃ d, atI ds i = some d ∧ R (el t) d
  | .str z, .int i => ∃ c, z.length ≤ sizeLine ∧ atI z.cps.toList i = some c ∧ R .st (.str ⟨#[c]⟩)
  | .scr ns, .int i => ∃ n, atI ns i = some n ∧ R .st (.int n)
  | _, _ => False
theorem mono_dIx : MonoO dIx := by
  intro t x u y R R' h w
  cases x <;> cases y <;> first | exact w.elim | (obtain ⟨d, e, q⟩ := w; exact ⟨d, e, h _ _ q⟩) | (obtain ⟨d, e, e2, q⟩ := w; exact ⟨d, e, e2, h _ _ q⟩)
theorem atI_j {α β : Type} {xs : List α} {ys : List β} {i : Int} {d : α} (hl : xs.length = ys.length) (h : atI xs i = some d) : ∃ j : Nat, xs[j]? = some d ∧ ∀ y, ys[j]? = some y → atI ys i = some y := by
  unfold atI at h ⊢
  cases e : ixN xs.length i with
  | none => rw [e] at h; cases h
  | some j =>
    rw [e] at h
    refine ⟨j, h, fun y hy => ?_⟩
    rw [← hl, e]
    exact hy
theorem okIx {K : KW} : OpOk K (rIx K) dIx := by
  intro A X W0 H0 W H a t x u y v w R Q p1 p2 hw k
  cases x with
  | lst ds =>
    cases y with
    | int i =>
      obtain ⟨d, e, q⟩ := hw
      obtain ⟨p, xs, e1, q1, r1, s1⟩ := p1.lst a.own a.ext.same
      obtain ⟨j, hj, hk⟩ := atI_j r1.length e
      obtain ⟨z, hz, pz⟩ := Post.elem a.own a.ext.same r1 s1 hj
      exact .inl ⟨p, xs, i, z, e1, p2.int, .of (Hm_of q1), hk z hz, a.now pz q k⟩
    | _ => exact hw.elim
  | tup ds =>
    cases y with
    | int i =>
      obtain ⟨d, e, q⟩ := hw
      obtain ⟨p, xs, e1, q1, r1, s1⟩ := p1.tup a.own a.ext.same
      obtain ⟨j, hj, hk⟩ := atI_j r1.length e
      obtain ⟨z, hz, pz⟩ := Post.elem a.own a.ext.same r1 s1 hj
      exact .inr (.inl ⟨p, xs, i, z, e1, p2.int, Same.seqT Same.unHm q1, hk z hz, a.now pz q k⟩)
    | _ => exact hw.elim
  | str z =>
    cases y with
    | int i =>
      obtain ⟨d, e, e2, q⟩ := hw
      exact .inr (.inr ⟨z, i, d, p1.str, p2.int, e, e2, a.now Post.ofStr q k⟩)
    | _ => exact hw.elim
  | scr ns =>
    cases y with
    | int i =>
      obtain ⟨n, e, q⟩ := hw
      obtain ⟨p, e1, q1, _⟩ := p1.scr
      obtain ⟨j, hj, hk⟩ := atI_j (ys := ns.map V.int) (by rw [List.length_map]) e
      exact .inl ⟨p, _, i, .int n, e1, p2.int, q1, hk _ (by rw [List.getElem?_map, hj]; rfl), a.now Post.ofInt q k⟩
    | _ => exact hw.elim
  | _ => cases y <;> exact hw.elim
theorem vIx (ha : VE X a ta) (hb : VE X b tb) (hs : PlainIx b := by exact fun _ _ => rfl) : VE X (.Subscript a b pos) (sBin dIx ta tb) :=
  ⟨peI (pe_ix ix_seq ha.pe hb.pe hs) fun s H Q h => rdBin okIx ha.mono hb.mono h, mono_sBin mono_dIx ha.mono hb.mono⟩

/-! ### slices -/
abbrev SPt := SG → Wd → (Option Int → Wd → Prop) → Prop
def MonoP (t : SPt) : Prop := ∀ σ W Q Q', (∀ b W', Q b W' → Q' b W') → t σ W Q → t σ W Q'
def spN : SPt := fun _ W Q => Q none W
def spS (t : SE) : SPt := fun σ W Q => t σ W fun _ d W1 => match d with
  | .int i => Q (some i) W1
  | _ => False
def rdP (K : KW) (t : SPt) : L2.St → Hp → (Option Int → Hp → Prop) → Prop := fun s H Q => ∃ F σ W A, Live K F σ W A s H ∧ t σ W fun i W' => ∀ H', Ext (A.flatten ++ F.X) W H W' H' → Q i H'
structure VO (X : Cx) (e : Option Expr) (t : SPt) : Prop where
  pe : PO X e (rdP X.kw t)
  mono : MonoP t
theorem poI {e : Option Expr} {t t' : L2.St → Hp → (Option Int → Hp → Prop) → Prop} (h : PO X e t) (i : ∀ s H Q, t' s H Q → t s H Q) : PO X e t' := ⟨fun pins s σ H Q I w => h.run pins s σ H Q I (i _ _ _ w)⟩
theorem voN : VO X none spN := ⟨poI po_none fun s H Q ⟨F, σ, W, A, L, w⟩ => w H L.ext0, fun _ _ _ _ h w => h _ _ w⟩
theorem voS {e : Expr} (h : VE X e ta) : VO X (some e) (spS ta) := by
  refine ⟨poI (po_some h.pe) fun s H Q ⟨F, σ, W, A, L, w⟩ => ?_, fun σ W Q Q' h' w => h.mono _ _ _ _ (fun g d W1 w1 => ?_) w⟩
  · refine L.one h.mono w fun t x W1 v H1 w1 L1 e p => ?_
    cases x with
    | int i => exact ⟨i, p.int, w1 H1 e⟩
    | _ => exact w1.elim
  · cases d <;> first | exact h' _ _ w1 | exact w1
def cutD (xs : List D) (lo hi : Option Int) : List D := (xs.drop (HT.sIx xs.length 0 lo)).take (HT.sIx xs.length xs.length hi - HT.sIx xs.length 0 lo)
def dSl (t : Tg) (x : D) (lo hi : Option Int) (R : Tg → D → Prop) : Prop := match x with
  | .lst ds => est t ds ∧ R .fr (.lst (cutD ds lo hi))
  | .tup ds => est t ds ∧ R .st (.tup (cutD ds lo hi))
  | .str z => z.length ≤ sizeLine ∧ R .st (.str (cutS z lo hi))
  | _ => False
theorem mono_dSl {t : Tg} {x : D} {lo hi : Option Int} {R R' : Tg → D → Prop} (h : ∀ g d, R g d → R' g d) (w : dSl t x lo hi R) : dSl t x lo hi R' := by
  cases x <;> first | exact w.elim | exact ⟨w.1, h _ _ w.2⟩
def sSl (ta : SE) (lo hi : SPt) : SE := fun σ W Q => ta σ W fun t x W1 => lo σ W1 fun l W2 => hi σ W2 fun u W3 => dSl t x l u fun g d => Q g d W3
def rSl2 (K : KW) : V → Option Int → Option Int → Hp → VK → Prop := fun x lo hi H Q => (rSlL K x lo hi H Q ∨ rSlA K x lo hi H Q) ∨ rSlS x lo hi H Q
theorem slAll : SlR X (rSl2 X.kw) := SlR.or (SlR.or sl_list sl_tupA) sl_str
theorem RepSs.cut {K : KW} {H : Hp} {ds : List D} {xs : List V} (h : RepSs K H ds xs) (lo hi : Option Int) : RepSs K H (cutD ds lo hi) (cutV xs lo hi) := by
  unfold cutD cutV
  rw [h.length]
  exact (h.drop _).take _
theorem cut_whole {xs : List D} {lo hi : Option Int} (h : HT.sIx xs.length 0 lo = 0 ∧ HT.sIx xs.length xs.length hi = xs.length) : cutD xs lo hi = xs := by
  unfold cutD
  rw [h.1, h.2]
  simp
theorem okSl {K : KW} {A X : List Addr} {W0 W : Wd} {H0 H : Hp} (a : At A X W0 H0 W H) {t : Tg} {x : D} {v : V} {lo hi : Option Int} {R : Tg → D → Prop} {Q : VK}
    (p1 : Post K A X (Hm H0 W0) (Hm H W) t x v) (hw : dSl t x lo hi R) (k : ∀ g d z H', Ext (A ++ X) W H W H' → Post K A X (Hm H0 W0) (Hm H' W) g d z → R g d → Q z H') : rSl2 K v lo hi H Q := by
  cases x with
  | lst ds =>
    obtain ⟨f, q⟩ := hw
    obtain ⟨p, xs, e1, q1, r1, s1⟩ := p1.lst a.own a.ext.same
    exact .inl (.inl ⟨p, xs, e1, .of (Hm_of q1), a.newL ((s1 f).cut lo hi) q k⟩)
  | tup ds =>
    obtain ⟨f, q⟩ := hw
    obtain ⟨p, xs, e1, q1, r1, s1⟩ := p1.tup a.own a.ext.same
    refine .inl (.inr ⟨p, xs, e1, Same.seqT Same.unHm q1, fun h => ?_, fun _ => a.newT ((s1 f).cut lo hi) q k⟩)
    rw [← r1.length] at h
    rw [cut_whole h] at q
    have p3 : Post K A X (Hm H0 W0) (Hm H W) .st (.tup ds) v := by
      cases t with
      | st => exact p1
      | fr => obtain ⟨_, _, _, h⟩ := p1; exact h.elim
      | fr2 => obtain ⟨_, _, _, h, _⟩ := p1; exact nomatch h
      | b1 => obtain ⟨_, _, _, h⟩ := p1; exact h.elim
      | b2 => exact p1.keep a.own a.ext.same (by simp only [sto, stoB, flat]; exact f)
    rw [← e1]
    exact a.now p3 q k
  | str z => exact .inr ⟨z, p1.str, hw.1, a.now Post.ofStr hw.2 k⟩
  | _ => exact hw.elim
theorem vSl {lo hi : Option Expr} {l u : SPt} {p2 : Pos} (ha : VE X a ta) (hl : VO X lo l) (hu : VO X hi u) : VE X (.Subscript a (.Slice lo hi none p2) pos) (sSl ta l u) := by
  refine ⟨peI (pe_slice slAll ha.pe hl.pe hu.pe) fun s H Q ⟨F, σ, W, A, L, w⟩ => ?_, fun σ W Q Q' h w => ?_⟩
  · refine L.one ha.mono w fun t x W1 v H1 w1 L1 e1 p1 => ?_
    refine ⟨F, σ, W1, A, L1, hl.mono _ _ _ _ (fun i W2 w2 H2 e2 => ?_) w1⟩
    refine ⟨F, σ, W2, A, L1.step e2, hu.mono _ _ _ _ (fun j W3 w3 H3 e3 => ?_) w2⟩
    have ee := (e1.trans e2).trans e3
    exact okSl ⟨L.own, ee⟩ (p1.mono (e2.same.trans e3.same)) w3 fun g d z H' e' p' q => q z H' (ee.trans e') p'
  · exact ha.mono _ _ _ _ (fun t x W1 w1 => hl.mono _ _ _ _ (fun i W2 w2 => hu.mono _ _ _ _ (fun j W3 w3 => mono_dSl (fun g d => h g d W3) w3) w2) w1) w

/-! ### arguments, displays -/
variable {es : List Expr} {sa : SA}
def aNil : SA := fun _ W Q => Q [] W
def aCons (t : SE) (r : SA) : SA := fun σ W Q => t σ W fun g d W1 => r σ W1 fun ds W2 => Q ((g, d) :: ds) W2
theorem vaNil : VA X [] aNil := ⟨paI pa_nil fun s H Q ⟨F, σ, W, A, L, w⟩ => w [] H L.ext0 rfl, fun _ _ _ _ h w => h _ _ w⟩
theorem vaCons (ha : VE X a ta) (hr : VA X es sa) (hs : starEach (a :: es) X.env = (false, eval a X.env) :: starEach es X.env := by rfl) : VA X (a :: es) (aCons ta sa) := by
  refine ⟨paI (pa_cons ha.pe hr.pe hs) fun s H Q ⟨F, σ, W, A, L, w⟩ => ?_, fun σ W Q Q' h w => ha.mono _ _ _ _ (fun g d W1 w1 => hr.mono _ _ _ _ (fun ds W2 w2 => h _ _ w2) w1) w⟩
  refine L.one ha.mono w fun t x W1 v H1 w1 L1 e1 p1 => ?_
  exact L1.args hr.mono w1 fun ds W2 vs H2 w2 L2 e2 p2 => w2 _ H2 (e1.trans e2) ⟨v, vs, rfl, p1.mono e2.same, p2.back e1.same⟩
def allSto (ds : List (Tg × D)) : Bool := ds.all fun p => stoB p.1 p.2
theorem PostA.keep {K : KW} {A X : List Addr} {H0 H : Hp} (O : Own A X H0) (hs : Same H0 H) : ∀ {ds : List (Tg × D)} {vs : List V}, PostA K A X H0 H ds vs → allSto ds = true → RepSs K (cut H (A ++ X)) (ds.map (·.2)) vs
  | [], vs, h, _ => by cases (show vs = [] from h); simp [RepSs]
  | (t, d) :: r, _, ⟨v, us, e, p, q⟩, f => by
    subst e
    simp only [allSto, List.all_cons, Bool.and_eq_true] at f
    simp only [List.map_cons, RepSs]
    exact ⟨v, us, rfl, p.keep O hs f.1, q.keep O hs f.2⟩
theorem PostA.rep {K : KW} {A X : List Addr} {H0 H : Hp} (O : Own A X H0) (hs : Same H0 H) : ∀ {ds : List (Tg × D)} {vs : List V}, PostA K A X H0 H ds vs → RepSs K (cut H X) (ds.map (·.2)) vs
  | [], vs, h => by cases (show vs = [] from h); simp [RepSs]
  | (t, d) :: r, _, ⟨v, us, e, p, q⟩ => by
    subst e
    simp only [List.map_cons, RepSs]
    exact ⟨v, us, rfl, p.rep O hs, q.rep O hs⟩
theorem PostA.length {K : KW} {A X : List Addr} {H0 H : Hp} : ∀ {ds : List (Tg × D)} {vs : List V}, PostA K A X H0 H ds vs → vs.length = ds.length
  | [], vs, h => by cases (show vs = [] from h); rfl
  | (t, d) :: r, _, ⟨v, us, e, p, q⟩ => by subst e; rw [List.length_cons, List.length_cons, PostA.length q]
/-- values given to a function of values -/
abbrev FnD := List (Tg × D) → (Tg → D → Prop) → Prop
def MonoF (f : FnD) : Prop := ∀ ds R R', (∀ g d, R g d → R' g d) → f ds R → f ds R'
def sFn (f : FnD) (ta : SA) : SE := fun σ W Q => ta σ W fun ds W1 => f ds fun g d => Q g d W1
theorem mono_sFn {f : FnD} (mf : MonoF f) (ma : MonoA sa) : MonoE (sFn f sa) := fun σ W Q Q' h w => ma _ _ _ _ (fun ds W1 w1 => mf _ _ _ (fun g d => h g d W1) w1) w
def FnDOk (K : KW) (r : List V → Hp → VK → Prop) (f : FnD) : Prop :=
  ∀ (A X : List Addr) (W0 : Wd) (H0 : Hp) (W : Wd) (H : Hp), At A X W0 H0 W H → ∀ (ds : List (Tg × D)) (vs : List V) (R : Tg → D → Prop) (Q : VK),
    PostA K A X (Hm H0 W0) (Hm H W) ds vs → f ds R →
    (∀ g d z H', Ext (A ++ X) W H W H' → Post K A X (Hm H0 W0) (Hm H' W) g d z → R g d → Q z H') → r vs H Q
theorem rdFn {K : KW} {r : List V → Hp → VK → Prop} {f : FnD} (hf : FnDOk K r f) (ma : MonoA sa) {s : L2.St} {H : Hp} {Q : VK} (h : rdE K (sFn f sa) s H Q) : rdA K sa s H fun vs H1 => r vs H1 Q := by
  obtain ⟨F, σ, W, A, L, w⟩ := h
  exact L.args ma w fun ds W1 vs H1 w1 L1 e p => hf _ _ _ _ _ _ ⟨L.own, e⟩ _ _ _ _ p w1 fun g d z H' e' p' q => q z H' (e.trans e') p'
def dTup : FnD := fun ds R => ds.length ≤ sizeLine ∧ R (if allSto ds = true then .st else .b2) (.tup (ds.map (·.2)))
def dLst : FnD := fun ds R => ds.length ≤ sizeLine ∧ R (if allSto ds = true then .fr else .b2) (.lst (ds.map (·.2)))
theorem mono_dTup : MonoF dTup := fun ds R R' h w => ⟨w.1, h _ _ w.2⟩
theorem mono_dLst : MonoF dLst := fun ds R R' h w => ⟨w.1, h _ _ w.2⟩
theorem vTup {n : Nat} (h : VA X es sa) : VE X (.Tuple es n pos) (sFn dTup sa) := by
  refine ⟨peI (pe_tup h.pe) fun s H Q q => ?_, mono_sFn mono_dTup h.mono⟩
  refine rdFn (r := fun xs H1 Q => xs.length ≤ sizeLine ∧ ∀ p, H1 p = none → Q (.ref p) (upd H1 p (.tup xs))) (fun A Y W0 H0 W H a ds vs R Q p w k => ?_) h.mono q
  obtain ⟨w1, w2⟩ := w
  refine ⟨by rw [p.length]; exact w1, ?_⟩
  by_cases f : allSto ds = true
  · rw [if_pos f] at w2
    exact a.newT (p.keep a.own a.ext.same f) w2 k
  · rw [if_neg f] at w2
    exact a.newT2 (p.rep a.own a.ext.same) w2 k
theorem vLst (h : VA X es sa) : VE X (.List es pos) (sFn dLst sa) := by
  refine ⟨peI (pe_lst h.pe) fun s H Q q => ?_, mono_sFn mono_dLst h.mono⟩
  refine rdFn (r := fun xs H1 Q => xs.length ≤ sizeLine ∧ ∀ p, H1 p = none → Q (.ref p) (upd H1 p (.lst xs))) (fun A Y W0 H0 W H a ds vs R Q p w k => ?_) h.mono q
  obtain ⟨w1, w2⟩ := w
  refine ⟨by rw [p.length]; exact w1, ?_⟩
  by_cases f : allSto ds = true
  · rw [if_pos f] at w2
    exact a.newL (p.keep a.own a.ext.same f) w2 k
  · rw [if_neg f] at w2
    exact a.newL2 (p.rep a.own a.ext.same) w2 k

/-! ### calls of built-ins -/
theorem vCB {id : String} {x : Str} {p : Pos} {r : List V → Hp → VK → Prop} {f : FnD} (hc : CallR X (.builtin id) r) (hf : FnDOk X.kw r f) (mf : MonoF f) (hg : Gl X x) (hm : X.mg x = none) (hv : bootBuiltins x = some (.builtin id)) (ha : VA X (a :: es) sa)
    (hn : x ≠ "__name__" := by decide) (hdb : (x == ("__debug__" : Str)) = false := by decide) (he : starEach (a :: es) X.env = (false, eval a X.env) :: starEach es X.env := by rfl) (hpl : (backTo pos (starEach es X.env)).any (·.1) = false := by rfl) : VE X (.Call (.Name x p) (a :: es) [] pos) (sFn f sa) :=
  ⟨peI (pe_callB hc hg hm hv ha.pe hn hdb he hpl) fun s H Q q => rdFn hf ha.mono q, mono_sFn mf ha.mono⟩
theorem vCT {T : String} {x : Str} {p : Pos} {r : List V → Hp → VK → Prop} {f : FnD} (hc : CallR X (.type T) r) (hf : FnDOk X.kw r f) (mf : MonoF f) (hg : Gl X x) (hm : X.mg x = none) (hv : bootBuiltins x = some (.type T)) (ha : VA X (a :: es) sa)
    (hn : x ≠ "__name__" := by decide) (hdb : (x == ("__debug__" : Str)) = false := by decide) (he : starEach (a :: es) X.env = (false, eval a X.env) :: starEach es X.env := by rfl) (hpl : (backTo pos (starEach es X.env)).any (·.1) = false := by rfl) : VE X (.Call (.Name x p) (a :: es) [] pos) (sFn f sa) :=
  ⟨peI (pe_callTy hc hg hm hv ha.pe hn hdb he hpl) fun s H Q q => rdFn hf ha.mono q, mono_sFn mf ha.mono⟩
end
end VL

/-! VL6: built-ins, calls of defs. -/
namespace VL
open PySem PySem.Spec PyProof.Rows L2

section
variable {X : Cx} {pos : Pos} {a b c : Expr} {ta tb tc : SE} {es : List Expr} {sa : SA}
theorem CallR.orr {f : Value} {r r' : List V → Hp → VK → Prop} (h : CallR X f r) (h' : CallR X f r') : CallR X f (fun xs H Q => r xs H Q ∨ r' xs H Q) := by
  intro pins s σ H xs us Q I rv q
  rcases q with q | q
  · exact h pins s σ H xs us Q I rv q
  · exact h' pins s σ H xs us Q I rv q
theorem PostA.one {K : KW} {A Y : List Addr} {H0 H : Hp} {t : Tg} {x : D} {vs : List V} (h : PostA K A Y H0 H [(t, x)] vs) : ∃ v, vs = [v] ∧ Post K A Y H0 H t x v := by
  obtain ⟨v, us, e, p, q⟩ := h
  cases (show us = [] from q)
  exact ⟨v, e, p⟩
theorem PostA.two {K : KW} {A Y : List Addr} {H0 H : Hp} {t u : Tg} {x y : D} {vs : List V} (h : PostA K A Y H0 H [(t, x), (u, y)] vs) : ∃ v w, vs = [v, w] ∧ Post K A Y H0 H t x v ∧ Post K A Y H0 H u y w := by
  obtain ⟨v, us, e, p, q⟩ := h
  obtain ⟨w, e2, q2⟩ := PostA.one q
  subst e2
  exact ⟨v, w, e, p, q2⟩
/-! ### len -/
def dLen : FnD := fun ds R => match ds with
  | [(_, .lst xs)] => R .st (.int xs.length)
  | [(_, .tup xs)] => R .st (.int xs.length)
  | [(_, .str z)] => z.length ≤ sizeLine ∧ R .st (.int z.length)
  | [(_, .scr ns)] => R .st (.int ns.length)
  | _ => False
theorem mono_dLen : MonoF dLen := by
  intro ds R R' h w
  unfold dLen at w ⊢
  split at w <;> first | exact h _ _ w | exact ⟨w.1, h _ _ w.2⟩ | exact w.elim
theorem okLen {K : KW} : FnDOk K (fun xs H Q => ∃ x n, xs = [x] ∧ LenV K x H n ∧ Q (.int n) H) dLen := by
  intro A Y W0 H0 W H a ds vs R Q p w k
  unfold dLen at w
  split at w
  · obtain ⟨v, rfl, p1⟩ := p.one
    obtain ⟨q, xs, e1, q1, r1, _⟩ := p1.lst a.own a.ext.same
    refine ⟨v, _, rfl, ?_, a.now (Post.ofInt (i := ((_ : Nat) : Int))) w k⟩
    rw [e1]
    exact .inl ⟨xs, .of (Hm_of q1), r1.length⟩
  · obtain ⟨v, rfl, p1⟩ := p.one
    obtain ⟨q, xs, e1, q1, r1, _⟩ := p1.tup a.own a.ext.same
    refine ⟨v, _, rfl, ?_, a.now (Post.ofInt (i := ((_ : Nat) : Int))) w k⟩
    rw [e1]
    exact .inr ⟨xs, Same.seqT Same.unHm q1, r1.length⟩
  · obtain ⟨v, rfl, p1⟩ := p.one
    refine ⟨v, _, rfl, ?_, a.now (Post.ofInt (i := ((_ : Nat) : Int))) w.2 k⟩
    rw [p1.str]
    exact ⟨w.1, rfl⟩
  · obtain ⟨v, rfl, p1⟩ := p.one
    obtain ⟨q, e1, q1, _⟩ := p1.scr
    refine ⟨v, _, rfl, ?_, a.now (Post.ofInt (i := ((_ : Nat) : Int))) w k⟩
    rw [e1]
    exact .inl ⟨_, q1, by rw [List.length_map]⟩
  · exact w.elim
/-! ### list, tuple -/
def dList : FnD := fun ds R => match ds with
  | [(t, .lst xs)] => est t xs ∧ R .fr (.lst xs)
  | [(t, .tup xs)] => est t xs ∧ R .fr (.lst xs)
  | _ => False
theorem mono_dList : MonoF dList := by
  intro ds R R' h w
  unfold dList at w ⊢
  split at w <;> first | exact ⟨w.1, h _ _ w.2⟩ | exact w.elim
theorem okList {K : KW} : FnDOk K (fun xs H Q => ∃ p ys, xs = [.ref p] ∧ (SqL K H p ys ∨ SqT K H p ys) ∧ ∀ l, H l = none → Q (.ref l) (upd H l (.lst ys))) dList := by
  intro A Y W0 H0 W H a ds vs R Q p w k
  unfold dList at w
  split at w
  · obtain ⟨v, rfl, p1⟩ := p.one
    obtain ⟨q, xs, e1, q1, r1, s1⟩ := p1.lst a.own a.ext.same
    exact ⟨q, xs, by rw [e1], .inl (.of (Hm_of q1)), a.newL (s1 w.1) w.2 k⟩
  · obtain ⟨v, rfl, p1⟩ := p.one
    obtain ⟨q, xs, e1, q1, r1, s1⟩ := p1.tup a.own a.ext.same
    exact ⟨q, xs, by rw [e1], .inr (Same.seqT Same.unHm q1), a.newL (s1 w.1) w.2 k⟩
  · exact w.elim
def dTuple : FnD := fun ds R => match ds with
  | [(t, .lst xs)] => est t xs ∧ R .st (.tup xs)
  | [(t, .tup xs)] => est t xs ∧ R .st (.tup xs)
  | _ => False
theorem mono_dTuple : MonoF dTuple := by
  intro ds R R' h w
  unfold dTuple at w ⊢
  split at w <;> first | exact ⟨w.1, h _ _ w.2⟩ | exact w.elim
theorem Post.tupSt {K : KW} {A Y : List Addr} {H0 H : Hp} {t : Tg} {ds : List D} {v : V} (O : Own A Y H0) (hs : Same H0 H) (p : Post K A Y H0 H t (.tup ds) v) (e : est t ds) : Post K A Y H0 H .st (.tup ds) v := by
  cases t with
  | st => exact p
  | fr => obtain ⟨_, _, _, h⟩ := p; exact h.elim
  | fr2 => obtain ⟨_, _, _, h, _⟩ := p; exact nomatch h
  | b1 => obtain ⟨_, _, _, h⟩ := p; exact h.elim
  | b2 => exact p.keep O hs (by simp only [sto, stoB, flat]; exact e)
theorem okTuple {K : KW} : FnDOk K (fun xs H Q => ∃ p ys, xs = [.ref p] ∧ ((SqL K H p ys ∧ ∀ l, H l = none → Q (.ref l) (upd H l (.tup ys))) ∨ (SqT K H p ys ∧ Q (.ref p) H))) dTuple := by
  intro A Y W0 H0 W H a ds vs R Q p w k
  unfold dTuple at w
  split at w
  · obtain ⟨v, rfl, p1⟩ := p.one
    obtain ⟨q, xs, e1, q1, r1, s1⟩ := p1.lst a.own a.ext.same
    exact ⟨q, xs, by rw [e1], .inl ⟨.of (Hm_of q1), a.newT (s1 w.1) w.2 k⟩⟩
  · obtain ⟨v, rfl, p1⟩ := p.one
    obtain ⟨q, xs, e1, q1, r1, s1⟩ := p1.tup a.own a.ext.same
    refine ⟨q, xs, by rw [e1], .inr ⟨Same.seqT Same.unHm q1, ?_⟩⟩
    rw [← e1]
    exact a.now (p1.tupSt a.own a.ext.same w.1) w.2 k
  · exact w.elim
/-! ### ints -/
def dF1 (f : Int → Int) : FnD := fun ds R => match ds with
  | [(_, .int i)] => R .st (.int (f i))
  | _ => False
theorem mono_dF1 {f : Int → Int} : MonoF (dF1 f) := by
  intro ds R R' h w
  unfold dF1 at w ⊢
  split at w <;> first | exact h _ _ w | exact w.elim
abbrev dAbs : FnD := dF1 fun i => if i < 0 then -i else i
abbrev dInt : FnD := dF1 fun i => i
theorem okAbs {K : KW} : FnDOk K (fun xs H Q => ∃ i, xs = [.int i] ∧ Q (.int (if i < 0 then -i else i)) H) dAbs := by
  intro A Y W0 H0 W H a ds vs R Q p w k
  unfold dAbs dF1 at w
  split at w
  · obtain ⟨v, rfl, p1⟩ := p.one
    exact ⟨_, by rw [p1.int], a.now Post.ofInt w k⟩
  · exact w.elim
theorem okInt {K : KW} : FnDOk K (fun xs H Q => (∃ i, xs = [.int i] ∧ Q (.int i) H) ∨ ∃ k, xs = [.bl k] ∧ Q (.int (if k then 1 else 0)) H) dInt := by
  intro A Y W0 H0 W H a ds vs R Q p w k
  unfold dInt dF1 at w
  split at w
  · obtain ⟨v, rfl, p1⟩ := p.one
    exact .inl ⟨_, by rw [p1.int], a.now Post.ofInt w k⟩
  · exact w.elim
def dF2 (f : Int → Int → Int) : FnD := fun ds R => match ds with
  | [(_, .int i), (_, .int j)] => R .st (.int (f i j))
  | _ => False
theorem mono_dF2 {f : Int → Int → Int} : MonoF (dF2 f) := by
  intro ds R R' h w
  unfold dF2 at w ⊢
  split at w <;> first | exact h _ _ w | exact w.elim
abbrev dMin2 : FnD := dF2 fun i j => if j < i then j else i
abbrev dMax2 : FnD := dF2 fun i j => if j > i then j else i
theorem okMin2 {K : KW} : FnDOk K (fun xs H Q => ∃ i j, xs = [.int i, .int j] ∧ Q (.int (if j < i then j else i)) H) dMin2 := by
  intro A Y W0 H0 W H a ds vs R Q p w k
  unfold dMin2 dF2 at w
  split at w
  · obtain ⟨v, u, rfl, p1, p2⟩ := p.two
    exact ⟨_, _, by rw [p1.int, p2.int], a.now Post.ofInt w k⟩
  · exact w.elim
theorem okMax2 {K : KW} : FnDOk K (fun xs H Q => ∃ i j, xs = [.int i, .int j] ∧ Q (.int (if j > i then j else i)) H) dMax2 := by
  intro A Y W0 H0 W H a ds vs R Q p w k
  unfold dMax2 dF2 at w
  split at w
  · obtain ⟨v, u, rfl, p1, p2⟩ := p.two
    exact ⟨_, _, by rw [p1.int, p2.int], a.now Post.ofInt w k⟩
  · exact w.elim
/-! ### sum, max, min of a list of ints -/
def dSum : FnD := fun ds R => match ds with
  | [(_, .lst xs)] => ∃ ns : List Int, xs = ns.map D.int ∧ R .st (.int ns.sum)
  | _ => False
theorem mono_dSum : MonoF dSum := by
  intro ds R R' h w
  unfold dSum at w ⊢
  split at w
  · obtain ⟨ns, e, q⟩ := w; exact ⟨ns, e, h _ _ q⟩
  · exact w.elim
theorem okSum {K : KW} : FnDOk K (rSum K) dSum := by
  intro A Y W0 H0 W H a ds vs R Q p w k
  unfold dSum at w
  split at w
  · obtain ⟨ns, e, w⟩ := w
    subst e
    obtain ⟨v, rfl, p1⟩ := p.one
    obtain ⟨q, xs, e1, q1, r1, s1⟩ := p1.lst a.own a.ext.same
    rw [RepSs.ints] at r1
    subst r1
    exact ⟨q, ns, by rw [e1], .of (Hm_of q1), a.now Post.ofInt w k⟩
  · exact w.elim
/-- the greatest, by le; of a list or a tuple -/
def dBest (le : Int → Int → Prop) : FnD := fun ds R => match ds with
  | [(_, .lst xs)] => ∃ ns : List Int, xs = ns.map D.int ∧ 0 < ns.length ∧ ∀ m, m ∈ ns → (∀ y, y ∈ ns → le y m) → R .st (.int m)
  | [(_, .tup xs)] => ∃ ns : List Int, xs = ns.map D.int ∧ 0 < ns.length ∧ ∀ m, m ∈ ns → (∀ y, y ∈ ns → le y m) → R .st (.int m)
  | _ => False
theorem mono_dBest {le : Int → Int → Prop} : MonoF (dBest le) := by
  intro ds R R' h w
  unfold dBest at w ⊢
  split at w
  · obtain ⟨ns, e, e2, q⟩ := w; exact ⟨ns, e, e2, fun m h1 h2 => h _ _ (q m h1 h2)⟩
  · obtain ⟨ns, e, e2, q⟩ := w; exact ⟨ns, e, e2, fun m h1 h2 => h _ _ (q m h1 h2)⟩
  · exact w.elim
abbrev dMax1 : FnD := dBest fun y m => y ≤ m
abbrev dMin1 : FnD := dBest fun y m => m ≤ y
/-! ### isinstance(x, T) -/
def tyN : D → Option String
  | .non => some "NoneType"
  | .bl _ => some "bool"
  | .int _ => some "int"
  | .str _ => some "str"
  | .tup _ => some "tuple"
  | .lst _ => some "list"
  | _ => none
def isTy (n T : String) : Bool := n == T || (n == "bool" && T == "int")
def dIsi (T : String) : UnD := fun _ x R => match tyN x with
  | some n => R .st (.bl (isTy n T))
  | none => False
theorem mono_dIsi {T : String} : MonoU (dIsi T) := by
  intro t x R R' h w
  unfold dIsi at w ⊢
  split at w
  · exact h _ _ w
  · exact w
def tyAll : List String := ["NoneType", "bool", "int", "str", "tuple", "list", "dict"]
theorem kits : (tyAll.all fun n => ["bool", "int", "str", "tuple", "list", "dict"].all fun T => decide (kitB n T = some (isTy n T))) = true := by decide +kernel
theorem kit_at {n T : String} (h : n ∈ tyAll) (h' : T ∈ ["bool", "int", "str", "tuple", "list", "dict"]) : kitB n T = some (isTy n T) := by
  have q := kits
  rw [List.all_eq_true] at q
  have q2 := q n h
  rw [List.all_eq_true] at q2
  exact of_decide_eq_true (q2 T h')
theorem RepS.tyx {K : KW} {H : Hp} {d : D} {v : V} {n : String} (h : RepS K H d v) (e : tyN d = some n) : n ∈ tyAll ∧ TyX K H v (.type n) := by
  cases d <;> simp only [tyN, Option.some.injEq] at e <;> (try cases e) <;> simp only [RepS] at h
  · subst h; exact ⟨by decide, .base .non⟩
  · subst h; exact ⟨by decide, .base (.bl _)⟩
  · subst h; exact ⟨by decide, .base (.int _)⟩
  · subst h; exact ⟨by decide, .base (.str _)⟩
  · obtain ⟨a, xs, rfl, h1, _⟩ := h
    exact ⟨by decide, .base (.tup h1)⟩
  · obtain ⟨a, xs, rfl, h1, _⟩ := h
    exact ⟨by decide, .base (.lst h1)⟩
theorem okIsi {K : KW} {T : String} (hT : T ∈ ["bool", "int", "str", "tuple", "list", "dict"]) : UnOk K (fun x H Q => rIsi K [x, .ty T] H Q) (dIsi T) := by
  intro A Y W0 H0 W H a t x v R Q p w k
  unfold dIsi at w
  split at w
  · rename_i n e
    obtain ⟨h1, h2⟩ := (p.actual a).tyx e
    exact ⟨v, .ty T, .type n, .type T, _, rfl, .ty T, h2, kit_ty (kit_at h1 hT), a.now Post.ofBl w k⟩
  · exact w.elim
theorem vIsi {y : Str} {p p2 : Pos} (T : String) (hg : Gl X "isinstance") (hm : X.mg "isinstance" = none) (hg2 : Gl X y) (hm2 : X.mg y = none) (hv2 : bootBuiltins y = some (.type T)) (ha : VE X a ta) (hT : T ∈ ["bool", "int", "str", "tuple", "list", "dict"] := by decide)
    (hv : bootBuiltins "isinstance" = some (.builtin "isinstance") := by decide +kernel) (hn : y ≠ "__name__" := by decide) (hdb : (y == ("__debug__" : Str)) = false := by decide)
    (he : starEach [a, .Name y p2] X.env = (false, eval a X.env) :: starEach [.Name y p2] X.env := by rfl) (hpl : (backTo pos (starEach [.Name y p2] X.env)).any (·.1) = false := by rfl) :
    VE X (.Call (.Name "isinstance" p) [a, .Name y p2] [] pos) (sUn (dIsi T) ta) :=
  ⟨peI (pe_callB call_isi hg hm hv (pa_cons ha.pe (pa_cons (pe_bltn (v := .ty T) hg2 hm2 hv2 rfl hn hdb) pa_nil) he) (by decide) (by decide) he hpl) fun s H Q h => rdUn (okIsi hT) ha.mono h, mono_sUn mono_dIsi ha.mono⟩
end

/-! ### calls of defs -/
abbrev DSp := List D → Wd → (Tg → D → Wd → Prop) → Prop
def MonoD (sp : DSp) : Prop := ∀ ds W Q Q', (∀ t d W', Q t d W' → Q' t d W') → sp ds W Q → sp ds W Q'
def toSp (K : KW) (n : Nat) (sp : DSp) : Sp := fun vs H Q _ => vs.length = n ∧ ∃ ds W X, CellOk (cut (Hm H W) X) H W ∧ (∀ b ∈ X, (Hm H W b).isSome = true) ∧ RepSs K (cut (Hm H W) X) ds vs ∧
  sp ds W fun tg d W' => ∀ v H', RetP K ⟨Hm H W, X, W⟩ W' H' tg d v → Q v H'
/-- a def that stands at a name of the module -/
structure Callee (P : Program) (w : World) (K : PySem.W.Frag) (mg : Str → Option Value) (base : Heap) (x : Str) (k n : Nat) (sp : DSp) : Prop where
  ex : ∃ (f : Addr) (fd : FuncData) (ps : List Str), FnOk P w K mg base CX0 k f fd ps (toSp ⟨w, P, K⟩ n sp) ∧ mg x = some (.ref f) ∧ PySem.W.keepIn K (.ref f) = true ∧ Binds K fd ps []
  mono : MonoD sp
theorem Callee.up {P : Program} {w : World} {K : PySem.W.Frag} {mg : Str → Option Value} {base : Heap} {x : Str} {j k n : Nat} {sp : DSp} (C : Callee P w K mg base x j n sp) (h : j ≤ k) : Callee P w K mg base x k n sp :=
  ⟨let ⟨f, fd, ps, F, r⟩ := C.ex; ⟨f, fd, ps, F.mono h, r⟩, C.mono⟩
def callTag (all : Bool) (d : D) : Tg → Tg
  | .fr => if (all || flatEl d) = true then .fr else .b2
  | _ => if (all || flat d) = true then .st else .b2
def sCall (n : Nat) (sp : DSp) (ta : SA) : SE := fun σ W Q => ta σ W fun ds W1 => ds.length = n ∧ sp (ds.map (·.2)) W1 fun tg d W2 => Q (callTag (allSto ds) d tg) d W2
section
variable {X : Cx} {pos : Pos} {a b c : Expr} {ta tb tc : SE} {es : List Expr} {sa : SA}
theorem mono_sCall {n : Nat} {sp : DSp} (ms : MonoD sp) (ma : MonoA sa) : MonoE (sCall n sp sa) := fun σ W Q Q' h w => ma _ _ _ _ (fun ds W1 w1 => ⟨w1.1, ms _ _ _ _ (fun t d W2 w2 => h _ _ _ w2) w1.2⟩) w
theorem RetPost.rep {K : KW} {B : Hp} {Y : List Addr} {H : Hp} {tg : Tg} {d : D} {v : V} (hY : ∀ b ∈ Y, (B b).isSome = true) (h : RetPost K B Y H tg d v) : RepS K (cut H Y) d v := by
  cases tg with
  | fr =>
    obtain ⟨p, e, hb, n⟩ := h
    subst e
    exact n.rep (Same.cutl fun b m => List.mem_cons_of_mem _ m) fun o h => cut_some.mpr ⟨h, fun z => by
      have q := hY p z
      rw [hb] at q; cases q⟩
  | st => exact h
  | fr2 => exact h
  | b1 => exact h
  | b2 => exact h
theorem call_run {K : KW} {n : Nat} {sp : DSp} (ms : MonoD sp) (ma : MonoA sa) {s : L2.St} {H : Hp} {Q : VK} {E : XK} (h : rdE K (sCall n sp sa) s H Q) : tCall (toSp K n sp) [] E (rdA K sa) s H Q := by
  obtain ⟨F, σ, W, A, L, w⟩ := h
  refine L.args ma w fun ds W1 vs H1 w1 L1 e p => ?_
  rw [List.append_nil]
  refine ⟨by rw [p.length]; exact w1.1, ds.map (·.2), W1, ?_⟩
  have xt : ∀ b ∈ A.flatten ++ F.X, (Hm H1 W1 b).isSome = true := fun b m => by
    obtain ⟨o, q⟩ := L1.xt m
    rw [q]; rfl
  by_cases f : allSto ds = true
  · refine ⟨A.flatten ++ F.X, L1.cell, xt, p.keep L.own e.same f, ms _ _ _ _ (fun tg d W2 w2 v H' r => w2 v H' ?_ ?_) w1.2⟩
    · exact e.trans ⟨r.same, r.cell, r.kc⟩
    · rw [f]
      have r4 := r.post
      cases tg with
      | fr =>
        obtain ⟨q, e2, hb, nd⟩ := r4
        exact ⟨q, e2, e.same.free hb, nd⟩
      | st => exact r4
      | fr2 => exact r4
      | b1 => exact r4
      | b2 => exact r4
  · refine ⟨F.X, ?_, fun b m => xt b (List.mem_append_right _ m), p.rep L.own e.same, ms _ _ _ _ (fun tg d W2 w2 v H' r => w2 v H' ?_ ?_) w1.2⟩
    · have q := L1.cell
      cases W1 with
      | none => trivial
      | some t =>
        obtain ⟨r, q1, q2, q3⟩ := q
        exact ⟨r, Same.cutl (fun b => mem_snd) _ _ q1, Same.cutl (fun b => mem_snd) _ _ q2, q3⟩
    · have kc := r.kc
      refine e.trans ⟨r.same, ?_, kc⟩
      -- the counter's own list stays out of one's own
      have q0 := L1.cell
      have q1 := r.cell
      have sm := r.same
      cases W1 with
      | none => cases (show W2 = none from kc); trivial
      | some t =>
        obtain ⟨q, e2⟩ := kc
        subst e2
        obtain ⟨r1, a1, a2, a3⟩ := q0
        obtain ⟨r2, b1, b2, b3⟩ := q1
        have c1 := Same.cut sm _ _ _ a1
        have c2 := Same.cut sm _ _ _ a2
        exact ⟨r1, c1, c2, b3⟩
    · have ff : allSto ds = false := by simpa using f
      rw [ff]
      have r4 := r.post.rep fun b m => xt b (List.mem_append_right _ m)
      -- one's own are no tuples
      have key : ∀ b o, Hm H' W2 b = some o → b ∈ A.flatten → OwnO o := fun b o e3 m => by
        obtain ⟨o', e', q⟩ := L1.trk b m
        rw [r.same _ _ e'] at e3; cases e3
        exact q
      have ti : TupsIn (cut (Hm H' W2) F.X) (cut (Hm H' W2) (A.flatten ++ F.X)) := fun b u hb => by
        obtain ⟨k1, k2⟩ := cut_some.mp hb
        exact cut_some.mpr ⟨k1, fun m => (List.mem_append.mp m).elim (fun m => key b _ k1 m) k2⟩
      have stt : ∀ {t : Tg}, t ≠ .fr → callTag false d t = if flat d = true then .st else .b2 := fun {t} ht => by cases t <;> first | rfl | exact absurd rfl ht
      by_cases hfr : tg = .fr
      · subst hfr
        show Post K A.flatten F.X (Hm H W) (Hm H' W2) (if (false || flatEl d) = true then .fr else .b2) d v
        rw [Bool.false_or]
        by_cases fe : flatEl d = true
        · rw [if_pos fe]
          obtain ⟨q, ev, hb, nd⟩ := r.post
          refine ⟨q, ev, e.same.free hb, ?_⟩
          have ti2 : TupsIn (cut (Hm H' W2) (q :: F.X)) (cut (Hm H' W2) (q :: (A.flatten ++ F.X))) := fun b u hb => by
            obtain ⟨k1, k2⟩ := cut_some.mp hb
            refine cut_some.mpr ⟨k1, fun m => ?_⟩
            rcases List.mem_cons.mp m with rfl | m
            · exact k2 (by simp)
            · rcases List.mem_append.mp m with m | m
              · exact key b _ k1 m
              · exact k2 (List.mem_cons_of_mem _ m)
          cases d with
          | lst ds =>
            obtain ⟨xs, k1, k2⟩ := nd
            exact ⟨xs, k1, RepSs.flat ti2 _ _ fe k2⟩
          | dct kvs =>
            obtain ⟨od, xs, k1, k3⟩ := nd
            exact ⟨od, xs, k1, RepDs.flat ti2 _ _ fe k3⟩
          | _ => exact nd.elim
        · rw [if_neg fe]; exact r4
      · rw [stt hfr]
        by_cases fl : flat d = true
        · rw [if_pos fl]; exact RepS.flat ti d v fl r4
        · rw [if_neg fl]; exact r4
theorem vCall {x : Str} {p : Pos} {k n : Nat} {sp : DSp} (C : Callee X.prog X.w X.K X.mg X.base x k n sp) (hr : Room k X.A) (hg : Gl X x) (ha : VA X (a :: es) sa)
    (hdb : (x == ("__debug__" : Str)) = false := by decide) (he : starEach (a :: es) X.env = (false, eval a X.env) :: starEach es X.env := by rfl) (hpl : (backTo pos (starEach es X.env)).any (·.1) = false := by rfl) : VE X (.Call (.Name x p) (a :: es) [] pos) (sCall n sp sa) := by
  obtain ⟨f, fd, ps, F, hm, hk, hb⟩ := C.ex
  exact ⟨peI (pe_call F hr hg hm hk hb .nil pass0 ha.pe hdb he hpl) fun s H Q h => call_run C.mono ha.mono h, mono_sCall C.mono ha.mono⟩
end
end VL

/-! VL7: the state changed; statements without loops. -/
namespace VL
open PySem PySem.Spec PyProof.Rows L2

/-! ### lists of lists of addresses -/
theorem nodup_part : ∀ {A : List (List Addr)} {i : Nat} {a : List Addr}, A.flatten.Nodup → A[i]? = some a → a.Nodup
  | [], i, a, _, h => by simp at h
  | x :: A, 0, a, n, h => by
    rw [List.flatten_cons] at n
    simp at h; subst h
    exact (List.nodup_append.mp n).1
  | x :: A, i + 1, a, n, h => by
    rw [List.flatten_cons] at n
    exact nodup_part (List.nodup_append.mp n).2.1 (by simpa using h)
theorem nodup_apart : ∀ {A : List (List Addr)} {i j : Nat} {a b : List Addr} {p : Addr}, A.flatten.Nodup → A[i]? = some a → A[j]? = some b → i ≠ j → p ∈ a → p ∉ b
  | [], i, j, a, b, p, _, h, _, _, _ => by simp at h
  | x :: A, 0, 0, a, b, p, n, h, h2, ne, m => absurd rfl ne
  | x :: A, 0, j + 1, a, b, p, n, h, h2, ne, m => by
    rw [List.flatten_cons] at n
    simp at h; subst h
    exact fun q => (List.nodup_append.mp n).2.2 p m p (flatten_get (by simpa using h2) q) rfl
  | x :: A, i + 1, 0, a, b, p, n, h, h2, ne, m => by
    rw [List.flatten_cons] at n
    simp at h2; subst h2
    exact fun q => (List.nodup_append.mp n).2.2 p q p (flatten_get (by simpa using h) m) rfl
  | x :: A, i + 1, j + 1, a, b, p, n, h, h2, ne, m => by
    rw [List.flatten_cons] at n
    exact nodup_apart (List.nodup_append.mp n).2.1 (by simpa using h) (by simpa using h2) (fun e => ne (by rw [e])) m
theorem mem_setNil : ∀ {A : List (List Addr)} {i : Nat} {b : Addr}, b ∈ (A.set i []).flatten → b ∈ A.flatten
  | [], i, b, h => by simpa using h
  | x :: A, 0, b, h => by
    rw [List.set_cons_zero, List.flatten_cons] at h
    rw [List.flatten_cons]
    exact List.mem_append_right _ (by simpa using h)
  | x :: A, i + 1, b, h => by
    rw [List.set_cons_succ, List.flatten_cons] at h
    rw [List.flatten_cons]
    rcases List.mem_append.mp h with h | h
    · exact List.mem_append_left _ h
    · exact List.mem_append_right _ (mem_setNil h)
theorem nodup_setNil : ∀ {A : List (List Addr)} {i : Nat}, A.flatten.Nodup → (A.set i []).flatten.Nodup
  | [], i, n => by simpa using n
  | x :: A, 0, n => by
    rw [List.flatten_cons] at n
    rw [List.set_cons_zero, List.flatten_cons]
    simpa using (List.nodup_append.mp n).2.1
  | x :: A, i + 1, n => by
    rw [List.flatten_cons] at n
    rw [List.set_cons_succ, List.flatten_cons]
    obtain ⟨h1, h2, h3⟩ := List.nodup_append.mp n
    exact List.nodup_append.mpr ⟨h1, nodup_setNil h2, fun a m b q => h3 a m b (mem_setNil q)⟩
/-- new addresses in the place of the old ones -/
theorem mem_setNew : ∀ {A : List (List Addr)} {i : Nat} {ps : List Addr} {b : Addr}, b ∈ (A.set i ps).flatten → b ∈ ps ∨ b ∈ (A.set i []).flatten
  | [], i, ps, b, h => by simp at h
  | x :: A, 0, ps, b, h => by
    rw [List.set_cons_zero, List.flatten_cons] at h ⊢
    rcases List.mem_append.mp h with h | h
    · exact .inl h
    · exact .inr (by simpa using h)
  | x :: A, i + 1, ps, b, h => by
    rw [List.set_cons_succ, List.flatten_cons] at h ⊢
    rcases List.mem_append.mp h with h | h
    · exact .inr (List.mem_append_left _ h)
    · rcases mem_setNew h with h | h
      · exact .inl h
      · exact .inr (List.mem_append_right _ h)
theorem nodup_setNew : ∀ {A : List (List Addr)} {i : Nat} {ps : List Addr}, A.flatten.Nodup → ps.Nodup → (∀ p ∈ ps, p ∉ A.flatten) → (A.set i ps).flatten.Nodup
  | [], i, ps, n, _, _ => by simpa using n
  | x :: A, 0, ps, n, np, hp => by
    rw [List.flatten_cons] at n hp
    rw [List.set_cons_zero, List.flatten_cons]
    exact List.nodup_append.mpr ⟨np, (List.nodup_append.mp n).2.1, fun a m b q e => hp a m (List.mem_append_right _ (e ▸ q))⟩
  | x :: A, i + 1, ps, n, np, hp => by
    rw [List.flatten_cons] at n hp
    rw [List.set_cons_succ, List.flatten_cons]
    obtain ⟨h1, h2, h3⟩ := List.nodup_append.mp n
    refine List.nodup_append.mpr ⟨h1, nodup_setNew h2 np fun p m q => hp p m (List.mem_append_right _ q), fun a m b q e => ?_⟩
    rcases mem_setNew q with q | q
    · exact hp b q (List.mem_append_left _ (e ▸ m))
    · exact h3 a m b (mem_setNil q) e
theorem get_set {α : Type} {l : List α} {i j : Nat} {x y : α} (h : (l.set i x)[j]? = some y) : (i = j ∧ y = x ∧ i < l.length) ∨ (i ≠ j ∧ l[j]? = some y) := by
  by_cases e : i = j
  · subst e
    by_cases q : i < l.length
    · rw [List.getElem?_set_self q] at h
      exact .inl ⟨rfl, (Option.some.inj h).symm, q⟩
    · rw [List.getElem?_eq_none (by rw [List.length_set]; omega)] at h
      cases h
  · rw [List.getElem?_set_ne e] at h
    exact .inr ⟨e, h⟩
theorem RepO.off {K : KW} {G H H' : Hp} {A : List Addr} {v : V} (h : ∀ b ∈ A, H' b = H b) : ∀ {sv : SV}, RepO K G H sv v A → RepO K G H' sv v A
  | .val d, q => q
  | .ml ds, ⟨p, e, e2, xs, q, r⟩ => ⟨p, e, e2, xs, (h p (by rw [e2]; simp)).trans q, r⟩
  | .md _, ⟨p, xs, e, e2, q, r⟩ => ⟨p, xs, e, e2, (h p (by rw [e2]; simp)).trans q, r⟩
  | .lk g _, ⟨e, e2, q, r⟩ => ⟨e, e2, (h g.1 (by rw [e2]; simp)).trans q, r⟩
  | .mg g, ⟨p, ps, e, e2, q, r⟩ => by
    subst e2
    refine ⟨p, ps, e, rfl, (h p (by simp)).trans q, ?_⟩
    have h' : ∀ b ∈ ps, H' b = H b := fun b m => h b (List.mem_cons_of_mem _ m)
    clear h q
    induction g generalizing ps with
    | nil => exact r
    | cons x g ih =>
      obtain ⟨p', qs, xs, e3, e4, e5, r'⟩ := r
      subst e3
      exact ⟨p', qs, xs, rfl, (h' p' (by simp)).trans e4, e5, ih qs r' fun b m => h' b (List.mem_cons_of_mem _ m)⟩

section
variable {K : KW} {F : Frm} {σ : SG} {W W' : Wd} {A : List (List Addr)} {s : L2.St} {H H' : Hp}
theorem Live.frozen (L : Live K F σ W A s H) {A' : List (List Addr)} (h : ∀ b, b ∈ A'.flatten → b ∈ A.flatten) : Same (cut (Hm H W) (A.flatten ++ F.X)) (cut (Hm H W) (A'.flatten ++ F.X)) :=
  Same.cutl fun b m => by
    rcases List.mem_append.mp m with m | m
    · exact List.mem_append_left _ (h b m)
    · exact List.mem_append_right _ m
theorem CellOk.mono {G G' H : Hp} {W : Wd} (h : Same G G') (c : CellOk G H W) : CellOk G' H W := by
  cases W with
  | none => trivial
  | some t =>
    obtain ⟨r, a, b, c⟩ := c
    exact ⟨r, h _ _ a, h _ _ b, c⟩
/-- a name is given data that stay -/
theorem Live.setVal (L : Live K F σ W A s H) (i : Nat) {d : D} {v : V} (r : RepS K (cut (Hm H W) (A.flatten ++ F.X)) d v) : Live K F (σ.set i (some (.val d))) W A (s.set i (some v)) H := by
  refine ⟨L.nd, by rw [List.length_set]; exact L.al, by rw [List.length_set, List.length_set]; exact L.sl, L.base, L.xb, L.trk, L.cell, L.kc, fun j sv h => ?_⟩
  rcases get_set h with ⟨rfl, e, hl⟩ | ⟨ne, h⟩
  · cases e
    have ha : A[i]? = some (A[i]'(by rw [L.al]; exact hl)) := List.getElem?_eq_getElem _
    exact ⟨v, _, List.getElem?_set_self (by rw [L.sl]; exact hl), ha, r⟩
  · obtain ⟨u, a, h1, h2, h3⟩ := L.slot j sv h
    exact ⟨u, a, by rw [List.getElem?_set_ne ne]; exact h1, h2, h3⟩
/-- a name forgotten -/
theorem Live.drop (L : Live K F σ W A s H) (i : Nat) (s' : Option V) : Live K F (σ.set i none) W A (s.set i s') H := by
  refine ⟨L.nd, by rw [List.length_set]; exact L.al, by rw [List.length_set, List.length_set]; exact L.sl, L.base, L.xb, L.trk, L.cell, L.kc, fun j sv h => ?_⟩
  rcases get_set h with ⟨rfl, e, hl⟩ | ⟨ne, h⟩
  · cases e
  · obtain ⟨u, a, h1, h2, h3⟩ := L.slot j sv h
    exact ⟨u, a, by rw [List.getElem?_set_ne ne]; exact h1, h2, h3⟩
/-- what was a name's own is let go -/
theorem Live.free (L : Live K F σ W A s H) (i : Nat) : Live K F (σ.set i none) W (A.set i []) s H := by
  have fz := L.frozen (A' := A.set i []) fun b => mem_setNil
  refine ⟨nodup_setNil L.nd, by rw [List.length_set, List.length_set]; exact L.al, by rw [List.length_set]; exact L.sl, fun b o h => ⟨(L.base b o h).1, fun m => (L.base b o h).2 (mem_setNil m)⟩, L.xb, fun b m => L.trk b (mem_setNil m), L.cell.mono fz, L.kc, fun j sv h => ?_⟩
  rcases get_set h with ⟨rfl, e, hl⟩ | ⟨ne, h⟩
  · cases e
  · obtain ⟨u, a, h1, h2, h3⟩ := L.slot j sv h
    exact ⟨u, a, h1, by rw [List.getElem?_set_ne ne]; exact h2, h3.mono fz (.refl _)⟩
/-- a name is given an object of its own, that was made just now: L ahead of it, e on the way -/
theorem Live.setOwn (L : Live K F σ W A s H) (e : Ext (A.flatten ++ F.X) W H W' H') (i : Nat) {sv : SV} {v : V} {ps : List Addr} (nd : ps.Nodup) (new : ∀ p ∈ ps, Hm H W p = none) (own : ∀ p ∈ ps, ∃ o, Hm H' W' p = some o ∧ OwnO o)
    (r : RepO K (cut (Hm H' W') (ps ++ (A.flatten ++ F.X))) (Hm H' W') sv v ps) : Live K F (σ.set i (some sv)) W' (A.set i ps) (s.set i (some v)) H' := by
  have out : ∀ p ∈ ps, p ∉ A.flatten ++ F.X := fun p m => L.new (new p m)
  have L' := L.step e
  -- what stood frozen ahead is not of the new ones
  have fz : Same (cut (Hm H W) (A.flatten ++ F.X)) (cut (Hm H' W') ((A.set i ps).flatten ++ F.X)) := fun b o h => by
    obtain ⟨h1, h2⟩ := cut_some.mp h
    refine cut_some.mpr ⟨e.same _ _ h1, fun m => ?_⟩
    rcases List.mem_append.mp m with m | m
    · rcases mem_setNew m with m | m
      · rw [new b m] at h1; cases h1
      · exact h2 (List.mem_append_left _ (mem_setNil m))
    · exact h2 (List.mem_append_right _ m)
  have fz2 : Same (cut (Hm H' W') (ps ++ (A.flatten ++ F.X))) (cut (Hm H' W') ((A.set i ps).flatten ++ F.X)) := Same.cutl fun b m => by
    rcases List.mem_append.mp m with m | m
    · rcases mem_setNew m with m | m
      · exact List.mem_append_left _ m
      · exact List.mem_append_right _ (List.mem_append_left _ (mem_setNil m))
    · exact List.mem_append_right _ (List.mem_append_right _ m)
  refine ⟨nodup_setNew L.nd nd fun p m q => out p m (List.mem_append_left _ q), by rw [List.length_set, List.length_set]; exact L.al, by rw [List.length_set, List.length_set]; exact L.sl, fun b o h => ⟨(L'.base b o h).1, fun m => ?_⟩, L.xb, fun b m => ?_, ?_, L'.kc, fun j sv' h => ?_⟩
  · rcases mem_setNew m with m | m
    · have q := (L.base b o h).1
      rw [new b m] at q; cases q
    · exact (L.base b o h).2 (mem_setNil m)
  · rcases mem_setNew m with m | m
    · exact own b m
    · exact L'.trk b (mem_setNil m)
  · have c0 := L.cell
    have c1 := L'.cell
    have kc := e.kc
    cases W with
    | none => cases (show W' = none from kc); trivial
    | some t =>
      obtain ⟨q, rfl⟩ := kc
      obtain ⟨r1, a1, a2, a3⟩ := c0
      obtain ⟨r2, b1, b2, b3⟩ := c1
      exact ⟨r1, fz _ _ a1, fz _ _ a2, b3⟩
  · rcases get_set h with ⟨rfl, e2, hl⟩ | ⟨ne, h⟩
    · cases e2
      exact ⟨v, ps, List.getElem?_set_self (by rw [L.sl]; exact hl), List.getElem?_set_self (by rw [L.al]; exact hl), r.mono fz2 (.refl _)⟩
    · obtain ⟨u, a, h1, h2, h3⟩ := L.slot j sv' h
      exact ⟨u, a, by rw [List.getElem?_set_ne ne]; exact h1, by rw [List.getElem?_set_ne ne]; exact h2, h3.mono fz e.same⟩
theorem Hm_upd_ne {p b : Addr} {o : HO} (h : b ≠ p) : Hm (upd H p o) W b = Hm H W b := by
  cases W with
  | none => exact upd_ne h
  | some t =>
    show (if b = t.c then none else upd H p o b) = (if b = t.c then none else H b)
    rw [upd_ne h]
theorem Hm_upd_eq {p : Addr} {o o' : HO} (h : Hm H W p = some o') : Hm (upd H p o) W p = some o := by
  cases W with
  | none => exact upd_same
  | some t => exact Hm_some.mpr ⟨upd_same, (Hm_some.mp h).2⟩
/-- one's own object is changed -/
theorem Live.wr (L : Live K F σ W A s H) {i : Nat} {v : V} {a : List Addr} {p : Addr} {o : HO} {sv : SV} (hs : s[i]? = some (some v)) (ha : A[i]? = some a) (hp : p ∈ a) (ho : OwnO o)
    (r : RepO K (cut (Hm H W) (A.flatten ++ F.X)) (Hm (upd H p o) W) sv v a) : Live K F (σ.set i (some sv)) W A s (upd H p o) := by
  have hpA := flatten_get ha hp
  obtain ⟨o0, e0, _⟩ := L.trk p hpA
  have ce : cut (Hm (upd H p o) W) (A.flatten ++ F.X) = cut (Hm H W) (A.flatten ++ F.X) := by
    funext b
    unfold cut
    split
    · rfl
    · rename_i h
      exact Hm_upd_ne fun (e : b = p) => h (by rw [e]; exact List.mem_append_left _ hpA)
  refine ⟨L.nd, by rw [List.length_set]; exact L.al, by rw [List.length_set]; exact L.sl, fun b o' h => ?_, L.xb, fun b m => ?_, ?_, L.kc, fun j sv' h => ?_⟩
  · obtain ⟨h1, h2⟩ := L.base b o' h
    exact ⟨(Hm_upd_ne fun (e : b = p) => h2 (by rw [e]; exact hpA)).trans h1, h2⟩
  · by_cases e : b = p
    · subst e; exact ⟨o, Hm_upd_eq e0, ho⟩
    · obtain ⟨o', h1, h2⟩ := L.trk b m
      exact ⟨o', (Hm_upd_ne e).trans h1, h2⟩
  · rw [ce]
    have c := L.cell
    cases W with
    | none => trivial
    | some t =>
      obtain ⟨q, a1, a2, a3⟩ := c
      exact ⟨q, a1, a2, (upd_ne (Ne.symm (Hm_some.mp e0).2)).trans a3⟩
  · rw [ce]
    rcases get_set h with ⟨rfl, e2, hl⟩ | ⟨ne, h⟩
    · cases e2
      exact ⟨v, a, hs, ha, r⟩
    · obtain ⟨u, a', h1, h2, h3⟩ := L.slot j sv' h
      exact ⟨u, a', h1, h2, h3.off fun b m => Hm_upd_ne fun (e : b = p) => nodup_apart L.nd ha h2 ne hp (by rw [← e]; exact m)⟩
end

/-! ### statements -/
section
variable {X : Cx} {st : Stmt} {rest : List Stmt} {t u : SS} {e : Expr} {te ta tb : SE} {pos : Pos}
def sNil : SS := fun D σ W => D.nx σ W
def sSeq (t u : SS) : SS := fun D σ W => t { D with nx := u D } σ W
theorem mono_sNil : MonoS sNil := fun D D' σ W h w => h.nx _ _ w
theorem mono_sSeq (m : MonoS t) (n : MonoS u) : MonoS (sSeq t u) := fun D D' σ W h w =>
  m { D with nx := u D } { D' with nx := u D' } σ W ⟨fun σ' W' q => n _ _ _ _ h q, h.rt, h.bk, h.ct⟩ w
theorem vsNil : VSs X [] sNil := ⟨pssI pss_nil fun Dn s H ⟨F, σ, W, A, L, w⟩ => w A s H L, mono_sNil⟩
theorem vsCons (h : VS X st t) (h' : VSs X rest u) : VSs X (st :: rest) (sSeq t u) := by
  refine ⟨pssI (pss_cons h.pe h'.pe) fun Dn s H ⟨F, σ, W, A, L, w⟩ => ?_, mono_sSeq h.mono h'.mono⟩
  refine ⟨F, σ, W, A, L, h.mono { endsOf X.kw F Dn with nx := u (endsOf X.kw F Dn) } _ σ W ⟨fun σ' W' q A' s' H' L' => ?_, fun _ _ _ q => q, fun _ _ q => q, fun _ _ q => q⟩ w⟩
  exact ⟨F, σ', W', A', L', q⟩
theorem vsOne (h : VS X st t) : VSs X [st] t := ⟨pss_one h.pe, h.mono⟩
/-- a step of the data alone: it changes what is one's own to what stays -/
def sGhost (g : SG → (SG → Prop) → Prop) (u : SS) : SS := fun D σ W => g σ fun σ' => u D σ' W
def frz (i : Nat) (σ : SG) (Q : SG → Prop) : Prop := match σ[i]? with
  | some (some (.ml ds)) => Q (σ.set i (some (.val (.lst ds))))
  | some (some (.mg g)) => Q (σ.set i (some (.val (.lst (g.map D.lst)))))
  | some (some (.val d)) => Q (σ.set i (some (.val d)))
  | _ => False
theorem set_self {α : Type} : ∀ {l : List α} {i : Nat} {x : α}, l[i]? = some x → l.set i x = l
  | [], i, x, h => by simp at h
  | y :: l, 0, x, h => by simp at h; subst h; rfl
  | y :: l, i + 1, x, h => by rw [List.set_cons_succ, set_self (by simpa using h)]
theorem frz_live {K : KW} {F : Frm} {σ : SG} {W : Wd} {A : List (List Addr)} {s : L2.St} {H : Hp} (L : Live K F σ W A s H) {i : Nat} {Q : SG → Prop} (w : frz i σ Q) : ∃ σ' A', Live K F σ' W A' s H ∧ Q σ' := by
  unfold frz at w
  have fz := L.frozen (A' := A.set i []) fun b => mem_setNil
  -- the freed ones stand in the frozen part behind
  have key : ∀ {sv : SV} {d : D}, σ[i]? = some (some sv) → (∀ v a, s[i]? = some (some v) → A[i]? = some a → RepO K (cut (Hm H W) (A.flatten ++ F.X)) (Hm H W) sv v a → RepS K (cut (Hm H W) ((A.set i []).flatten ++ F.X)) d v) →
      Q (σ.set i (some (.val d))) → ∃ σ' A', Live K F σ' W A' s H ∧ Q σ' := fun {sv d} hx hr q => by
    obtain ⟨v, a, h1, h2, h3⟩ := L.slot i sv hx
    have r := hr v a h1 h2 h3
    have L3 := (L.free i).setVal i (d := d) (v := v) r
    rw [set_self h1, List.set_set] at L3
    exact ⟨_, _, L3, q⟩
  have free : ∀ {a : List Addr} {p : Addr} {o : HO}, A[i]? = some a → p ∈ a → Hm H W p = some o → cut (Hm H W) ((A.set i []).flatten ++ F.X) p = some o := fun {a p o} h2 m q => by
    refine cut_some.mpr ⟨q, fun z => ?_⟩
    rcases List.mem_append.mp z with z | z
    · obtain ⟨b, hb, mb⟩ := List.mem_flatten.mp z
      obtain ⟨j, hj⟩ := List.mem_iff_getElem?.mp hb
      rcases get_set hj with ⟨rfl, e2, _⟩ | ⟨ne, h⟩
      · subst e2; cases mb
      · exact nodup_apart L.nd h2 h ne m mb
    · exact L.ax (flatten_get h2 m) z
  split at w
  · rename_i ds hx
    refine key hx (fun v a h1 h2 ⟨p, e, e2, n⟩ => ?_) w
    subst e
    exact n.rep fz fun o q => free h2 (by rw [e2]; simp) q
  · rename_i g hx
    refine key hx (fun v a h1 h2 ⟨p, ps, e, e2, e3, n⟩ => ?_) w
    subst e
    simp only [RepS]
    exact ⟨p, _, rfl, free h2 (by rw [e2]; simp) e3, n.rep fz fun p' m o q => free h2 (by rw [e2]; simp [m]) q⟩
  · rename_i d hx
    exact key hx (fun v a h1 h2 h3 => RepS.mono fz _ _ h3) w
  · exact w.elim
theorem mono_frz {i : Nat} {σ : SG} {Q Q' : SG → Prop} (h : ∀ σ', Q σ' → Q' σ') (w : frz i σ Q) : frz i σ Q' := by
  unfold frz at w ⊢
  split at w <;> first | exact h _ w | exact w.elim
theorem vsFrz (i : Nat) (h : VSs X rest u) : VSs X rest (sGhost (frz i) u) := by
  refine ⟨pssI h.pe fun Dn s H ⟨F, σ, W, A, L, w⟩ => ?_, fun D D' σ W l w => mono_frz (fun σ' q => h.mono _ _ _ _ l q) w⟩
  obtain ⟨σ', A', L', q⟩ := frz_live L w
  exact ⟨F, σ', W, A', L', q⟩
def sPass : SS := sNil
theorem vPass : VS X (.Pass pos) sNil := ⟨psI ps_pass fun Dn s H ⟨F, σ, W, A, L, w⟩ => w A s H L, mono_sNil⟩
def sBreak : SS := fun D σ W => D.bk σ W
def sCont : SS := fun D σ W => D.ct σ W
theorem vBreak : VS X (.Break pos) sBreak := ⟨psI ps_break fun Dn s H ⟨F, σ, W, A, L, w⟩ => w A s H L, fun D D' σ W h w => h.bk _ _ w⟩
theorem vContinue : VS X (.Continue pos) sCont := ⟨psI ps_continue fun Dn s H ⟨F, σ, W, A, L, w⟩ => w A s H L, fun D D' σ W h w => h.ct _ _ w⟩
def sIfS (c : SB) (t u : SS) : SS := fun D σ W => c σ W fun b W1 => if b = true then t D σ W1 else u D σ W1
theorem mono_sIfS {c : SB} (mc : MonoB c) (m : MonoS t) (n : MonoS u) : MonoS (sIfS c t u) := fun D D' σ W h w => mc _ _ _ _ (fun b W1 w1 => by
  cases b with
  | true => exact m _ _ _ _ h w1
  | false => exact n _ _ _ _ h w1) w
theorem vIfS {c : Expr} {tc : SB} {a b : List Stmt} (hc : VT X c tc) (h : VSs X a t) (h' : VSs X b u) : VS X (.If c a b pos) (sIfS tc t u) := by
  refine ⟨psI (ps_if hc.pe h.pe h'.pe) fun Dn s H ⟨F, σ, W, A, L, w⟩ => ?_, mono_sIfS hc.mono h.mono h'.mono⟩
  refine L.test hc.mono w fun k W1 H1 w1 L1 e => ?_
  cases k with
  | true => exact ⟨F, σ, W1, A, L1, w1⟩
  | false => exact ⟨F, σ, W1, A, L1, w1⟩
def retTag : Tg → Tg
  | .fr => .fr
  | .b1 => .fr
  | _ => .st
def sRet (t : SE) : SS := fun D σ W => t σ W fun g d W1 => D.rt (retTag g) d W1
theorem mono_sRet (m : MonoE te) : MonoS (sRet te) := fun D D' σ W h w => m _ _ _ _ (fun g d W1 q => h.rt _ _ _ q) w
theorem Live.ret {K : KW} {F : Frm} {σ : SG} {W W1 : Wd} {A : List (List Addr)} {s : L2.St} {H H1 : Hp} (L : Live K F σ W A s H) (e : Ext (A.flatten ++ F.X) W H W1 H1) {g : Tg} {d : D} {v : V} (p : Post K A.flatten F.X (Hm H W) (Hm H1 W1) g d v) : RetP K F W1 H1 (retTag g) d v := by
  have L1 := L.step e
  have bs : ∀ {p : Addr}, (∀ o, F.B p ≠ some o) → F.B p = none := fun {p} h => by
    cases q : F.B p with
    | none => rfl
    | some o => exact absurd q (h o)
  have c1 : ∀ b, b ∈ F.X → b ∈ A.flatten ++ F.X := fun b => mem_snd
  refine ⟨fun b o h => (L1.base b o h).1, L1.cell.mono (Same.cutl c1), L1.kc, ?_⟩
  cases g with
  | st => exact Post.rep L.own e.same p
  | b2 => exact Post.rep L.own e.same p
  | fr2 => exact Post.rep L.own e.same p
  | fr =>
    obtain ⟨q, e1, e2, n⟩ := p
    refine ⟨q, e1, bs fun o h => ?_, n.mono (Same.cutl fun b m => ?_) (.refl _)⟩
    · have h2 := (L.base q o h).1
      rw [e2] at h2; cases h2
    · rcases List.mem_cons.mp m with m | m
      · subst m; exact List.mem_cons_self
      · exact List.mem_cons_of_mem _ (c1 b m)
  | b1 =>
    obtain ⟨q, e1, e2, n⟩ := p
    refine ⟨q, e1, bs fun o h => (L.base q o h).2 e2, n.mono (Same.cutl fun b m => ?_) (.refl _)⟩
    rcases List.mem_cons.mp m with m | m
    · subst m; exact List.mem_append_left _ e2
    · exact c1 b m
theorem vRet (h : VE X e te) : VS X (.Return (some e) pos) (sRet te) := by
  refine ⟨psI (ps_ret h.pe) fun Dn s H ⟨F, σ, W, A, L, w⟩ => ?_, mono_sRet h.mono⟩
  refine L.one h.mono w fun g d W1 v H1 w1 L1 e1 p => ?_
  exact w1 v H1 (L.ret e1 p)
def sRetN : SS := fun D σ W => D.rt .st .non W
theorem vRetN : VS X (.Return none pos) sRetN := by
  refine ⟨psI ps_retN fun Dn s H ⟨F, σ, W, A, L, w⟩ => ?_, fun D D' σ W h w => h.rt _ _ _ w⟩
  exact w _ H (L.ret (g := .st) L.ext0 Post.ofNon)
/-- an expression as a statement -/
def sDrop (t : SE) : SS := fun D σ W => t σ W fun _ _ W1 => D.nx σ W1
theorem vDrop (h : VE X e te) (hs : swapsWith e none pos.line X.env = pure false := by rfl) : VS X (.Expr e pos) (sDrop te) := by
  refine ⟨psI (ps_expr h.pe hs) fun Dn s H ⟨F, σ, W, A, L, w⟩ => ?_, fun D D' σ W l w => h.mono _ _ _ _ (fun g d W1 q => l.nx _ _ q) w⟩
  exact L.one h.mono w fun g d W1 v H1 w1 L1 e1 p => w1 A s H1 L1

/-! ### names given -/
def sSet (i : Nat) (t : SE) : SS := fun D σ W => t σ W fun g d W1 => sto g d ∧ D.nx (σ.set i (some (.val d))) W1
theorem mono_sSet {i : Nat} (m : MonoE te) : MonoS (sSet i te) := fun D D' σ W h w => m _ _ _ _ (fun g d W1 q => ⟨q.1, h.nx _ _ q.2⟩) w
theorem rd_set {K : KW} {i : Nat} (m : MonoE te) {Dn : Ends} {s : L2.St} {H : Hp} (h : rdS K (sSet i te) Dn s H) : tAsg (rdE K te) (gName i) Dn s H := by
  obtain ⟨F, σ, W, A, L, w⟩ := h
  exact L.one m w fun g d W1 v H1 w1 L1 e1 p => w1.2 _ _ _ (L1.setVal i (p.keep L.own e1.same w1.1))
theorem vSet {i : Nat} {x : Str} {p : Pos} (hN : X.N.Nodup) (hi : X.N[i]? = some x) (hx : Loc X.env.scope x) (h : VE X e te) (hs : swapsWith e (some (.Name x p)) pos.line X.env = pure false := by rfl) (hf : X.fn x = true ∨ X.env.scope.names.lookup x = some .local := by first | exact .inl rfl | exact .inr rfl | assumption) :
    VS X (.Assign [.Name x p] e pos) (sSet i te) := ⟨psI (ps_set hN hi hx h.pe hs hf) fun Dn s H q => rd_set h.mono q, mono_sSet h.mono⟩
/-- an object of one's own -/
def ownOf (g : Tg) (d : D) (Q : SV → Prop) : Prop := match g, d with
  | .fr, .lst ds => Q (.ml ds)
  | .fr2, .lst rs => ∃ rows : List (List D), rs = rows.map D.lst ∧ Q (.mg rows)
  | _, _ => False
def sOwn (i : Nat) (t : SE) : SS := fun D σ W => t σ W fun g d W1 => ownOf g d fun sv => D.nx (σ.set i (some sv)) W1
theorem mono_ownOf {g : Tg} {d : D} {Q Q' : SV → Prop} (h : ∀ x, Q x → Q' x) (w : ownOf g d Q) : ownOf g d Q' := by
  unfold ownOf at w ⊢
  split at w
  · exact h _ w
  · obtain ⟨r, e, q⟩ := w; exact ⟨r, e, h _ q⟩
  · exact w.elim
theorem mono_sOwn {i : Nat} (m : MonoE te) : MonoS (sOwn i te) := fun D D' σ W h w => m _ _ _ _ (fun g d W1 q => mono_ownOf (fun sv q => h.nx _ _ q) q) w
theorem map_lst_inj : ∀ {a b : List (List D)}, a.map D.lst = b.map D.lst → a = b
  | [], [], _ => rfl
  | [], _ :: _, h => by simp at h
  | _ :: _, [], h => by simp at h
  | x :: a, y :: b, h => by
    simp only [List.map_cons, List.cons.injEq, D.lst.injEq] at h
    rw [h.1, map_lst_inj h.2]
theorem RowsO.own {K : KW} {G H : Hp} : ∀ {g : List (List D)} {ps : List Addr}, RowsO K G H g ps → ∀ p ∈ ps, ∃ o, H p = some o ∧ OwnO o
  | [], ps, h, p, m => by cases (show ps = [] from h); cases m
  | r :: g, ps, ⟨p', qs, xs, e, e2, _, t⟩, p, m => by
    subst e
    rcases List.mem_cons.mp m with m | m
    · subst m; exact ⟨_, e2, trivial⟩
    · exact t.own p m
theorem rd_own {K : KW} {i : Nat} (m : MonoE te) {Dn : Ends} {s : L2.St} {H : Hp} (h : rdS K (sOwn i te) Dn s H) : tAsg (rdE K te) (gName i) Dn s H := by
  obtain ⟨F, σ, W, A, L, w⟩ := h
  refine L.one m w fun g d W1 v H1 w1 L1 e1 p => ?_
  unfold ownOf at w1
  split at w1
  · obtain ⟨q, e, e2, n⟩ := p
    obtain ⟨xs, e3, _⟩ := id n
    exact w1 _ _ _ (L.setOwn e1 i (ps := [q]) (by simp) (fun p m => by simp at m; subst m; exact e2) (fun p m => by simp at m; subst m; exact ⟨_, e3, trivial⟩) ⟨q, e, rfl, n⟩)
  · obtain ⟨rows, e0, q1⟩ := w1
    obtain ⟨q, ps, g2, e, e2, e3, e4, e5, n⟩ := p
    subst e0
    injection e with e
    have e6 := map_lst_inj e
    subst e6
    refine q1 _ _ _ (L.setOwn e1 i (ps := q :: ps) e3 e4 (fun p m => ?_) ⟨q, ps, e2, rfl, e5, n⟩)
    rcases List.mem_cons.mp m with m | m
    · subst m; exact ⟨_, e5, trivial⟩
    · exact n.own p m
  · exact w1.elim
theorem vOwn {i : Nat} {x : Str} {p : Pos} (hN : X.N.Nodup) (hi : X.N[i]? = some x) (hx : Loc X.env.scope x) (h : VE X e te) (hs : swapsWith e (some (.Name x p)) pos.line X.env = pure false := by rfl) (hf : X.fn x = true ∨ X.env.scope.names.lookup x = some .local := by first | exact .inl rfl | exact .inr rfl | assumption) :
    VS X (.Assign [.Name x p] e pos) (sOwn i te) := ⟨psI (ps_set hN hi hx h.pe hs hf) fun Dn s H q => rd_own h.mono q, mono_sOwn h.mono⟩
end
end VL

/-! VL8: targets, stores into one's own objects, loops. -/
namespace VL
open PySem PySem.Spec PyProof.Rows L2

/-! ### targets -/
inductive TgF where
  | name (i : Nat) | tup (is : List Nat)
def setsV : L2.St → List Nat → List V → L2.St
  | s, i :: is, v :: vs => setsV (s.set i (some v)) is vs
  | s, _, _ => s
def setsD : SG → List Nat → List D → SG
  | s, i :: is, v :: vs => setsD (s.set i (some (.val v))) is vs
  | s, _, _ => s
def tgV (K : KW) : TgF → TG
  | .name i => gName i
  | .tup is => fun v σ H Q => ∃ a xs, v = .ref a ∧ (SqT K H a xs ∨ SqL K H a xs) ∧ xs.length = is.length ∧ Q (setsV σ is xs) H
def tgD (f : TgF) (g : Tg) (d : D) (σ : SG) (Q : SG → Prop) : Prop := match f with
  | .name i => sto g d ∧ Q (σ.set i (some (.val d)))
  | .tup is => match d with
    | .tup ds => ds.length = is.length ∧ est g ds ∧ Q (setsD σ is ds)
    | .lst ds => ds.length = is.length ∧ est g ds ∧ Q (setsD σ is ds)
    | _ => False
theorem mono_tgD {f : TgF} {g : Tg} {d : D} {σ : SG} {Q Q' : SG → Prop} (h : ∀ σ', Q σ' → Q' σ') (w : tgD f g d σ Q) : tgD f g d σ Q' := by
  cases f with
  | name i => exact ⟨w.1, h _ w.2⟩
  | tup is => cases d <;> first | exact w.elim | exact ⟨w.1, w.2.1, h _ w.2.2⟩
def VG (X : Cx) (tg : Expr) (f : TgF) : Prop := PG X tg (tgV X.kw f)
def gNames (is : List Nat) : TGs := fun vs σ H Q => vs.length = is.length ∧ Q (setsV σ is vs) H
section
variable {X : Cx} {pos : Pos}
theorem pgI {tg : Expr} {t t' : TG} (h : PG X tg t) (i : ∀ v s H Q, t' v s H Q → t v s H Q) : PG X tg t' := ⟨fun pins s σ H v u Q I r w => h.run pins s σ H v u Q I r (i _ _ _ _ w)⟩
theorem pgsI {tg : List Expr} {t t' : TGs} (h : PGs X tg t) (i : ∀ v s H Q, t' v s H Q → t v s H Q) : PGs X tg t' := ⟨fun pins s σ H v u Q I r w => h.run pins s σ H v u Q I r (i _ _ _ _ w)⟩
theorem vgName {i : Nat} {x : Str} (hN : X.N.Nodup) (hi : X.N[i]? = some x) (hx : Loc X.env.scope x) (hf : X.fn x = true ∨ X.env.scope.names.lookup x = some .local := by first | exact .inl rfl | exact .inr rfl | assumption) : VG X (.Name x pos) (.name i) := pg_name hN hi hx hf
theorem vgNil : PGs X [] (gNames []) := pgsI pgs_nil fun vs s H Q ⟨h, q⟩ => by
  have e := List.eq_nil_of_length_eq_zero h
  subst e
  exact ⟨rfl, q⟩
theorem vgCons {e : Expr} {es : List Expr} {i : Nat} {is : List Nat} (h : VG X e (.name i)) (h' : PGs X es (gNames is))
    (hs : (assignEach (e :: es) X.env).map (·.2) = assign e X.env :: (assignEach es X.env).map (·.2) := by rfl) : PGs X (e :: es) (gNames (i :: is)) := pgsI (pgs_cons h h' hs) fun vs s H Q ⟨hl, q⟩ => by
  cases vs with
  | nil => cases hl
  | cons v vs => exact ⟨v, vs, rfl, by simpa using hl, q⟩
theorem vgTup {es : List Expr} {k : Nat} {is : List Nat} (hc : X.calm = true) (h : PGs X es (gNames is)) (hn : (assignEach es X.env).length = is.length := by rfl) (hst : (assignEach es X.env).findIdx? (·.1) = none := by rfl) : VG X (.Tuple es k pos) (.tup is) := by
  have h1 := pg_tup (k := k) (pos := pos) hc h hn hst
  have h2 := pg_unl (k := k) (pos := pos) hc h hn hst
  refine ⟨fun pins s σ H v u Q I r w => ?_⟩
  obtain ⟨a, xs, e, hq | hq, hl, q⟩ := w
  · exact h1.run pins s σ H v u Q I r ⟨a, xs, e, hq, hl, hl, q⟩
  · exact h2.run pins s σ H v u Q I r ⟨a, xs, e, hq, hl, hl, q⟩
end
section
variable {K : KW} {F : Frm} {W : Wd} {H : Hp}
theorem Live.setVals : ∀ {is : List Nat} {ds : List D} {vs : List V} {σ : SG} {A : List (List Addr)} {s : L2.St}, Live K F σ W A s H → RepSs K (cut (Hm H W) (A.flatten ++ F.X)) ds vs → Live K F (setsD σ is ds) W A (setsV s is vs) H
  | [], ds, vs, σ, A, s, L, r => by cases ds <;> cases vs <;> exact L
  | i :: is, [], vs, σ, A, s, L, r => by
    simp only [RepSs] at r
    subst r
    exact L
  | i :: is, d :: ds, vs, σ, A, s, L, r => by
    simp only [RepSs] at r
    obtain ⟨v, us, e, h1, h2⟩ := r
    subst e
    exact Live.setVals (is := is) (ds := ds) (vs := us) (L.setVal i h1) h2
def TgF.slots : TgF → List Nat
  | .name i => [i]
  | .tup is => is
theorem wipe_none (s : L2.St) : ∀ {vs : List Nat} {i : Nat}, i ∈ vs → i < s.length → (wipe s vs)[i]? = some none
  | [], i, h, _ => by cases h
  | v :: vs, i, h, hl => by
    unfold wipe
    by_cases e : v = i
    · subst e
      rw [List.getElem?_set_self (by rw [wipe_length]; exact hl)]
    · rw [List.getElem?_set_ne e]
      rcases List.mem_cons.mp h with h | h
      · exact absurd h.symm e
      · exact wipe_none s h hl
theorem wipe_set (s : L2.St) {i : Nat} {x : Option V} : ∀ {vs : List Nat}, i ∈ vs → wipe (s.set i x) vs = wipe s vs
  | [], h => by cases h
  | v :: vs, h => by
    unfold wipe
    by_cases m : i ∈ vs
    · rw [wipe_set s m]
    · have e : i = v := by
        rcases List.mem_cons.mp h with h | h
        · exact h
        · exact absurd h m
      subst e
      clear h
      have key : ∀ {ws : List Nat}, i ∉ ws → wipe (s.set i x) ws = (wipe s ws).set i x := by
        intro ws
        induction ws with
        | nil => intro _; rfl
        | cons w ws ih =>
          intro hw
          unfold wipe
          rw [ih fun q => hw (List.mem_cons_of_mem _ q), List.set_comm _ _ (fun e : i = w => hw (by rw [e]; simp))]
      rw [key m, List.set_set]
theorem wipe_sets : ∀ {is : List Nat} {xs : List V} {s : L2.St} {vs : List Nat}, (∀ i ∈ is, i ∈ vs) → wipe (setsV s is xs) vs = wipe s vs
  | [], xs, s, vs, _ => by cases xs <;> rfl
  | i :: is, [], s, vs, _ => rfl
  | i :: is, x :: xs, s, vs, h => by
    show wipe (setsV (s.set i (some x)) is xs) vs = wipe s vs
    rw [wipe_sets fun j m => h j (List.mem_cons_of_mem _ m), wipe_set s (h i (by simp))]
theorem wipe_wipe (s : L2.St) : ∀ (vs ws : List Nat), (∀ i ∈ ws, i ∈ vs) → wipe (wipe s ws) vs = wipe s vs
  | vs, [], _ => rfl
  | vs, w :: ws, h => by
    show wipe ((wipe s ws).set w none) vs = wipe s vs
    rw [wipe_set _ (h w (by simp)), wipe_wipe s vs ws fun i m => h i (List.mem_cons_of_mem _ m)]
theorem Live.tgt {σ : SG} {A : List (List Addr)} {s : L2.St} {W0 : Wd} {H0 : Hp} (L : Live K F σ W A s H) (O : Own A.flatten F.X (Hm H0 W0)) (hs : Same (Hm H0 W0) (Hm H W)) {f : TgF} {g : Tg} {d : D} {v : V} {Q : SG → Prop} {R : L2.St → Hp → Prop}
    (p : Post K A.flatten F.X (Hm H0 W0) (Hm H W) g d v) (w : tgD f g d σ Q) (h : ∀ σ' s', Live K F σ' W A s' H → (∀ vs, (∀ i ∈ f.slots, i ∈ vs) → wipe s' vs = wipe s vs) → Q σ' → R s' H) : tgV K f v s H R := by
  cases f with
  | name i => exact h _ _ (L.setVal i (p.keep O hs w.1)) (fun vs m => wipe_set _ (m i (by simp [TgF.slots]))) w.2
  | tup is =>
    cases d with
    | tup ds =>
      obtain ⟨w1, w2, w3⟩ := w
      obtain ⟨a, xs, e, h1, r, r2⟩ := p.tup O hs
      have L' := L.setVals (is := is) (r2 w2)
      exact ⟨a, xs, e, .inl (Same.seqT Same.unHm h1), by rw [← r.length]; exact w1, h _ _ L' (fun vs m => wipe_sets m) w3⟩
    | lst ds =>
      obtain ⟨w1, w2, w3⟩ := w
      obtain ⟨a, xs, e, h1, r, r2⟩ := p.lst O hs
      have L' := L.setVals (is := is) (r2 w2)
      exact ⟨a, xs, e, .inr (.of (Hm_of h1)), by rw [← r.length]; exact w1, h _ _ L' (fun vs m => wipe_sets m) w3⟩
    | _ => exact w.elim
end
section
variable {X : Cx} {pos : Pos} {e : Expr} {te tk ta tb : SE}
/-- a target is given a value -/
def sAsg (f : TgF) (t : SE) : SS := fun D σ W => t σ W fun g d W1 => tgD f g d σ fun σ' => D.nx σ' W1
theorem vAsg {tg : Expr} {f : TgF} (hg : VG X tg f) (h : VE X e te) (hs : swapsWithSole [tg] e pos.line X.env = pure false := by rfl) (hw : swappedStores [tg] e X.env = pure none := by rfl)
    (h1 : (assignEach [tg] X.env).map (·.2) = [assign tg X.env] := by rfl) : VS X (.Assign [tg] e pos) (sAsg f te) := by
  refine ⟨psI (ps_asg h.pe hg hs hw h1) fun Dn s H ⟨F, σ, W, A, L, w⟩ => ?_, fun D D' σ W l w => h.mono _ _ _ _ (fun g d W1 q => mono_tgD (fun σ' q => l.nx _ _ q) q) w⟩
  refine L.one h.mono w fun g d W1 v H1 w1 L1 e1 p => ?_
  exact L1.tgt L.own e1.same p w1 fun σ' s' L' _ q => q A s' H1 L'

/-! ### x.append(e) -/
def sApp (i : Nat) (t : SE) : SS := fun D σ W => match σ[i]? with
  | some (some (.ml ds)) => t σ W fun g d W1 => sto g d ∧ ds.length < sizeLine ∧ D.nx (σ.set i (some (.ml (ds ++ [d])))) W1
  | _ => False
theorem mono_sApp {i : Nat} (m : MonoE te) : MonoS (sApp i te) := by
  intro D D' σ W l w
  unfold sApp at w ⊢
  split at w
  · exact m _ _ _ _ (fun g d W1 q => ⟨q.1, q.2.1, l.nx _ _ q.2.2⟩) w
  · exact w.elim
theorem vApp {i : Nat} {x : Str} {p apos cpos : Pos} (hN : X.N[i]? = some x) (hv : Vis X.env.scope x) (h : VE X e te)
    (hd : (x == ("__debug__" : Str)) = false := by decide) (hcd : (x == ("__classdict__" : Str)) = false := by decide)
    (hbase : attributeBase (.Name x p) "append" X.env (eval (.Name x p) X.env) = eval (.Name x p) X.env := by rfl)
    (hfew : ((backTo cpos (starEach [e] X.env)).all (fun x => !x.1) && (backToKw cpos (keywordEach [] X.env)).all (fun x => x.1.isSome)
      && decide (([e] : List Expr).length + ([] : List Keyword).length + (if ([] : List Keyword).isEmpty then 0 else 1) < 30)) = true := by rfl)
    (hline : (apos.endLine == cpos.line) = true := by rfl) (hse : starEach [e] X.env = (false, eval e X.env) :: starEach [] X.env := by rfl) (hplain : (backTo cpos (starEach [] X.env)).any (·.1) = false := by rfl)
    (hs : swapsWith (.Call (.Attribute (.Name x p) "append" apos) [e] [] cpos) none pos.line X.env = pure false := by rfl) :
    VS X (.Expr (.Call (.Attribute (.Name x p) "append" apos) [e] [] cpos) pos) (sApp i te) := by
  refine ⟨psI (ps_expr (pe_bm PySem.F.plainAttrs_list PySem.F.slot_list_append PySem.F.type_list_append mt_append (pe_var hN hv hd hcd) (pa_cons h.pe pa_nil hse) hbase hfew hline hse hplain) hs) fun Dn s H ⟨F, σ, W, A, L, w⟩ => ?_, mono_sApp h.mono⟩
  unfold sApp at w
  split at w
  · rename_i ds hx
    obtain ⟨v, a, h1, h2, q, e1, e2, xs, e3, r⟩ := L.slot i _ hx
    refine ⟨v, h1, ?_, ?_⟩
    · subst e1; exact .inl ⟨rfl, xs, .of (Hm_of e3)⟩
    · refine L.one h.mono w fun g d W1 u H1 w1 L1 ee p => ?_
      obtain ⟨w2, w3, w4⟩ := w1
      have e4 := ee.same _ _ e3
      have ru := p.keep L.own ee.same w2
      have rx := RepSs.mono (Same.cut ee.same (A.flatten ++ F.X)) _ _ r
      refine ⟨q, xs, u, e1, rfl, Hm_of e4, by rw [← r.length]; exact w3, w4 A s _ (L1.wr h1 h2 (by rw [e2]; simp) trivial ⟨q, e1, e2, _, Hm_upd_eq e4, rx.append (RepSs.one ru)⟩)⟩
  · exact w.elim
/-- x.append(y), y a list of one's own, gone behind it -/
def sAppMv (i j : Nat) : SS := fun D σ W => match σ[i]?, σ[j]? with
  | some (some (.mg g)), some (some (.ml ds)) => g.length < sizeLine ∧ i ≠ j ∧ D.nx ((σ.set i (some (.mg (g ++ [ds])))).set j none) W
  | some (some (.ml [])), some (some (.ml ds)) => i ≠ j ∧ D.nx ((σ.set i (some (.mg [ds]))).set j none) W
  | _, _ => False

/-! ### x[k] = e -/
def putML (ds : List D) (k d : D) (Q : List D → Prop) : Prop := match k with
  | .int n => ∃ j, ixN ds.length n = some j ∧ Q (ds.set j d)
  | _ => False
def sPut (i : Nat) (tk tv : SE) : SS := fun D σ W => match σ[i]? with
  | some (some (.ml ds)) => tv σ W fun g d W1 => tk σ W1 fun _ k W2 => sto g d ∧ putML ds k d fun ds' => D.nx (σ.set i (some (.ml ds'))) W2
  | _ => False
theorem mono_sPut {i : Nat} (m : MonoE tk) (n : MonoE te) : MonoS (sPut i tk te) := by
  intro D D' σ W l w
  unfold sPut at w ⊢
  split at w
  · refine n _ _ _ _ (fun g d W1 q => m _ _ _ _ (fun _ k W2 q => ⟨q.1, ?_⟩) q) w
    obtain ⟨_, q⟩ := q
    unfold putML at q ⊢
    split at q
    · obtain ⟨j, h, q⟩ := q; exact ⟨j, h, l.nx _ _ q⟩
    · exact q.elim
  · exact w.elim
theorem vPut {i : Nat} {x : Str} {k : Expr} {p ps : Pos} (hN : X.N[i]? = some x) (hv : Vis X.env.scope x) (hk : VE X k tk) (h : VE X e te)
    (hd : (x == ("__debug__" : Str)) = false := by decide) (hcd : (x == ("__classdict__" : Str)) = false := by decide)
    (ha : ∀ v, assign (.Subscript (.Name x p) k ps) X.env v = (do
      let ov ← holding [v] (eval (.Name x p) X.env)
      let iv ← holding [v, ov] (eval k X.env)
      standAt ps
      holding [v, ov, iv] (setItem ov iv v)
      release [v, ov, iv] []) := by intro _; rfl)
    (hs : swapsWithSole [.Subscript (.Name x p) k ps] e pos.line X.env = pure false := by rfl) (hw : swappedStores [.Subscript (.Name x p) k ps] e X.env = pure none := by rfl)
    (h1 : (assignEach [.Subscript (.Name x p) k ps] X.env).map (·.2) = [assign (.Subscript (.Name x p) k ps) X.env] := by rfl) :
    VS X (.Assign [.Subscript (.Name x p) k ps] e pos) (sPut i tk te) := by
  refine ⟨psI (ps_asg h.pe (pg_sub (pe_var hN hv hd hcd) hk.pe set_list ha) hs hw h1) fun Dn s H ⟨F, σ, W, A, L, w⟩ => ?_, mono_sPut hk.mono h.mono⟩
  unfold sPut at w
  split at w
  · rename_i ds hx
    obtain ⟨v, a, q1, q2, q, e1, e2, xs, e3, r⟩ := L.slot i _ hx
    refine L.one h.mono w fun g d W1 u H1 w1 L1 ee p => ⟨v, q1, ?_⟩
    refine L1.one hk.mono w1 fun g2 d2 W2 u2 H2 w2 L2 ee2 p2 => ?_
    obtain ⟨w3, w4⟩ := w2
    unfold putML at w4
    split at w4
    · obtain ⟨j, hj, w5⟩ := w4
      have e4 := ee2.same _ _ (ee.same _ _ e3)
      have ru := RepS.mono (Same.cut ee2.same (A.flatten ++ F.X)) _ _ (p.keep L.own ee.same w3)
      have rx := RepSs.mono (Same.cut (ee.same.trans ee2.same) (A.flatten ++ F.X)) _ _ r
      exact ⟨q, xs, _, j, e1, p2.int, Hm_of e4, by rw [← r.length]; exact hj, w5 A s _ (L2.wr q1 q2 (by rw [e2]; simp) trivial ⟨q, e1, e2, _, Hm_upd_eq e4, rx.set j ru⟩)⟩
    · exact w4.elim
  · exact w.elim
/-- x[r][c] = e -/
def atRow (g : List (List D)) (r : D) (Q : Nat → List D → Prop) : Prop := match r with
  | .int a => ∃ j row, ixN g.length a = some j ∧ g[j]? = some row ∧ Q j row
  | _ => False
def sPut2 (i : Nat) (tr tc tv : SE) : SS := fun D σ W => match σ[i]? with
  | some (some (.mg g)) => tv σ W fun t d W1 => tr σ W1 fun _ r W2 => atRow g r fun j row => tc σ W2 fun _ c W3 => sto t d ∧ putML row c d fun row' => D.nx (σ.set i (some (.mg (g.set j row')))) W3
  | _ => False
theorem mono_putML {ds : List D} {k d : D} {Q Q' : List D → Prop} (h : ∀ x, Q x → Q' x) (w : putML ds k d Q) : putML ds k d Q' := by
  unfold putML at w ⊢
  split at w
  · obtain ⟨j, e, q⟩ := w; exact ⟨j, e, h _ q⟩
  · exact w.elim
theorem mono_atRow {g : List (List D)} {r : D} {Q Q' : Nat → List D → Prop} (h : ∀ j x, Q j x → Q' j x) (w : atRow g r Q) : atRow g r Q' := by
  unfold atRow at w ⊢
  split at w
  · obtain ⟨j, row, e, e2, q⟩ := w; exact ⟨j, row, e, e2, h _ _ q⟩
  · exact w.elim
theorem mono_sPut2 {i : Nat} (m : MonoE ta) (m' : MonoE tb) (n : MonoE te) : MonoS (sPut2 i ta tb te) := by
  intro D D' σ W l w
  unfold sPut2 at w ⊢
  split at w
  · exact n _ _ _ _ (fun g d W1 q => m _ _ _ _ (fun _ k W2 q => mono_atRow (fun j row q => m' _ _ _ _ (fun _ k2 W3 q => ⟨q.1, mono_putML (fun x q => l.nx _ _ q) q.2⟩) q) q) q) w
  · exact w.elim
theorem RowsO.get {K : KW} {G H : Hp} : ∀ {g : List (List D)} {ps : List Addr} {j : Nat} {row : List D}, RowsO K G H g ps → g[j]? = some row → ∃ p xs, ps[j]? = some p ∧ H p = some (.lst xs) ∧ RepSs K G row xs
  | [], _, _, _, _, h => by simp at h
  | r :: g, ps, 0, row, ⟨p, qs, xs, e, e2, q, t⟩, h => by
    simp at h; subst h; subst e
    exact ⟨p, xs, rfl, e2, q⟩
  | r :: g, ps, j + 1, row, ⟨p, qs, xs, e, e2, q, t⟩, h => by
    subst e
    obtain ⟨p', xs', h1, h2, h3⟩ := RowsO.get t (by simpa using h)
    exact ⟨p', xs', by simpa using h1, h2, h3⟩
theorem RowsO.length {K : KW} {G H : Hp} : ∀ {g : List (List D)} {ps : List Addr}, RowsO K G H g ps → g.length = ps.length
  | [], ps, h => by cases (show ps = [] from h); rfl
  | r :: g, ps, ⟨p, qs, xs, e, e2, q, t⟩ => by subst e; rw [List.length_cons, List.length_cons, RowsO.length t]
theorem RowsO.set {K : KW} {G H H' : Hp} : ∀ {g : List (List D)} {ps : List Addr} {j : Nat} {p : Addr} {row : List D} {xs : List V}, RowsO K G H g ps → ps.Nodup → ps[j]? = some p → H' p = some (.lst xs) → RepSs K G row xs → (∀ b ∈ ps, b ≠ p → H' b = H b) → RowsO K G H' (g.set j row) ps
  | [], ps, j, p, row, xs, h, nd, hp, _, _, _ => by cases (show ps = [] from h); simp at hp
  | r :: g, ps, 0, p, row, xs, ⟨p', qs, ys, e, e2, q, t⟩, nd, hp, h1, h2, h3 => by
    subst e
    simp at hp; subst hp
    refine ⟨p', qs, xs, rfl, h1, h2, ?_⟩
    have nd2 := List.nodup_cons.mp nd
    have hb : ∀ b ∈ qs, H' b = H b := fun b m => h3 b (List.mem_cons_of_mem _ m) fun e => nd2.1 (e ▸ m)
    clear h3 nd
    induction g generalizing qs with
    | nil => exact t
    | cons x g ih =>
      obtain ⟨p2, qs2, zs, e3, e4, e5, t2⟩ := t
      subst e3
      exact ⟨p2, qs2, zs, rfl, (hb p2 (by simp)).trans e4, e5, ih qs2 t2 ⟨fun m => nd2.1 (List.mem_cons_of_mem _ m), (List.nodup_cons.mp nd2.2).2⟩ fun b m => hb b (List.mem_cons_of_mem _ m)⟩
  | r :: g, ps, j + 1, p, row, xs, ⟨p', qs, ys, e, e2, q, t⟩, nd, hp, h1, h2, h3 => by
    subst e
    have nd2 := List.nodup_cons.mp nd
    have hm : p ∈ qs := List.mem_of_getElem? (by simpa using hp)
    exact ⟨p', qs, ys, rfl, (h3 p' (by simp) fun e => nd2.1 (e ▸ hm)).trans e2, q, RowsO.set t nd2.2 (by simpa using hp) h1 h2 fun b m => h3 b (List.mem_cons_of_mem _ m)⟩
theorem vPut2 {i : Nat} {x : Str} {r c : Expr} {p ps ps2 : Pos} (hN : X.N[i]? = some x) (hv : Vis X.env.scope x) (hr : VE X r ta) (hc : VE X c tb) (h : VE X e te)
    (hd : (x == ("__debug__" : Str)) = false := by decide) (hcd : (x == ("__classdict__" : Str)) = false := by decide) (hix : PlainIx r := by exact fun _ _ => rfl)
    (ha : ∀ v, assign (.Subscript (.Subscript (.Name x p) r ps2) c ps) X.env v = (do
      let ov ← holding [v] (eval (.Subscript (.Name x p) r ps2) X.env)
      let iv ← holding [v, ov] (eval c X.env)
      standAt ps
      holding [v, ov, iv] (setItem ov iv v)
      release [v, ov, iv] []) := by intro _; rfl)
    (hs : swapsWithSole [.Subscript (.Subscript (.Name x p) r ps2) c ps] e pos.line X.env = pure false := by rfl) (hw : swappedStores [.Subscript (.Subscript (.Name x p) r ps2) c ps] e X.env = pure none := by rfl)
    (h1 : (assignEach [.Subscript (.Subscript (.Name x p) r ps2) c ps] X.env).map (·.2) = [assign (.Subscript (.Subscript (.Name x p) r ps2) c ps) X.env] := by rfl) :
    VS X (.Assign [.Subscript (.Subscript (.Name x p) r ps2) c ps] e pos) (sPut2 i ta tb te) := by
  refine ⟨psI (ps_asg h.pe (pg_sub (pe_ix ix_list (pe_var hN hv hd hcd) hr.pe hix) hc.pe set_list ha) hs hw h1) fun Dn s H ⟨F, σ, W, A, L, w⟩ => ?_, mono_sPut2 hr.mono hc.mono h.mono⟩
  unfold sPut2 at w
  split at w
  · rename_i g hx
    obtain ⟨v, a, q1, q2, q, qs, e1, e2, e3, rr⟩ := L.slot i _ hx
    refine L.one h.mono w fun t d W1 u H1 w1 L1 ee p => ⟨v, q1, ?_⟩
    refine L1.one hr.mono w1 fun t2 d2 W2 u2 H2 w2 L2 ee2 p2 => ?_
    -- what stands where
    have keep2 : Same (Hm H W) (Hm H2 W2) := ee.same.trans ee2.same
    have rr2 := rr.mono (Same.cut keep2 (A.flatten ++ F.X)) keep2
    unfold atRow at w2
    split at w2
    · obtain ⟨j, row, z1, z2, w3⟩ := w2
      obtain ⟨pj, xs, z3, z4, z5⟩ := rr2.get z2
      have e4 := keep2 _ _ e3
      have zj : (qs.map V.ref)[j]? = some (.ref pj) := by rw [List.getElem?_map, z3]; rfl
      obtain ⟨j1, i1, i2⟩ := atI_j (xs := g) (ys := qs.map V.ref) (i := _) (d := row) (by rw [List.length_map]; exact rr2.length) (by unfold atI; rw [z1]; exact z2)
      refine ⟨q, qs.map V.ref, _, .ref pj, e1, p2.int, .of (Hm_of e4), ?_, ?_⟩
      · unfold atI
        rw [List.length_map, ← rr2.length, z1]
        exact zj
      · refine L2.one hc.mono w3 fun g3 d3 W3 u3 H3 w4 L3 ee3 p3 => ?_
        obtain ⟨w5, w6⟩ := w4
        unfold putML at w6
        split at w6
        · obtain ⟨k, hk, w7⟩ := w6
          have keep3 := keep2.trans ee3.same
          have rr3 := rr.mono (Same.cut keep3 (A.flatten ++ F.X)) keep3
          have ru := RepS.mono (Same.cut (ee2.same.trans ee3.same) (A.flatten ++ F.X)) _ _ (p.keep L.own ee.same w5)
          have rx := RepSs.mono (Same.cut ee3.same (A.flatten ++ F.X)) _ _ z5
          have z6 := ee3.same _ _ z4
          have nd := nodup_part L.nd q2
          rw [e2] at nd
          have nd2 := List.nodup_cons.mp nd
          have hm : pj ∈ qs := List.mem_of_getElem? z3
          refine ⟨pj, xs, _, k, rfl, p3.int, Hm_of z6, by rw [← z5.length]; exact hk, w7 A s _ (L3.wr q1 q2 (by rw [e2]; exact List.mem_cons_of_mem _ hm) trivial ⟨q, qs, e1, e2, ?_, ?_⟩)⟩
          · exact (Hm_upd_ne fun (e : q = pj) => nd2.1 (by rw [e]; exact hm)).trans (keep3 _ _ e3)
          · exact rr3.set nd2.2 z3 (Hm_upd_eq z6) (rx.set k ru) fun b m ne => Hm_upd_ne ne
        · exact w6.elim
    · exact w2.elim
  · exact w.elim
end
end VL

/-! VL9: what is walked; for, while; list comprehensions; a def. -/
namespace VL
open PySem PySem.Spec PyProof.Rows L2

/-! ### what is walked -/
abbrev SI := SG → Wd → (List D → Wd → Prop) → Prop
def MonoI (t : SI) : Prop := ∀ σ W Q Q', (∀ b W', Q b W' → Q' b W') → t σ W Q → t σ W Q'
/-- the item has come: nothing new, or a new tuple -/
def ItemOk (K : KW) (G H H' : Hp) (d : D) (x : V) : Prop :=
  (H' = H ∧ RepS K G d x) ∨ ∃ p xs ds, H p = none ∧ H' = upd H p (.tup xs) ∧ d = .tup ds ∧ x = .ref p ∧ RepSs K G ds xs
def ItOk (K : KW) (G : Hp) (J : It) (items : List D) : Prop :=
  ∀ H, Same G H → (∀ (i : Nat) (d : D), items[i]? = some d → J.go i H ∧ ∀ x H', J.yld i H x H' → ItemOk K G H H' d x) ∧ ∀ i, items.length ≤ i → J.stop i H
def rdI (K : KW) (t : SI) : TI := fun s H R => ∃ F σ W A, Live K F σ W A s H ∧ t σ W fun items W1 => ∀ J H1, Ext (A.flatten ++ F.X) W H W1 H1 → ItOk K (cut (Hm H1 W1) (A.flatten ++ F.X)) J items → R J H1
structure VI (X : Cx) (tg iter : Expr) (t : SI) : Prop where
  pe : PI X tg iter (rdI X.kw t)
  mono : MonoI t
theorem piI {X : Cx} {tg e : Expr} {t t' : TI} (h : PI X tg e t) (i : ∀ s H Q, t' s H Q → t s H Q) : PI X tg e t' := ⟨fun pins s σ H R I w => h.run pins s σ H R I (i _ _ _ w)⟩
/-- a list, a tuple or a text, as it is met -/
def iSeq (K : KW) (tl : TE) : TI := fun σ H R => tl σ H fun x H1 => (∃ a xs, x = .ref a ∧ SqL K H1 a xs ∧ R (Itl K a) H1) ∨ (∃ a xs, x = .ref a ∧ SqT K H1 a xs ∧ R (Itt K a) H1) ∨ ∃ z, x = .str z ∧ R (Its z) H1
theorem pi_seq {X : Cx} {tg l : Expr} {tl : TE} (hl : PE X l tl) : PI X tg l (iSeq X.kw tl) := by
  constructor
  intro pins s σ H R I h
  refine thn (hl.run pins s σ H _ I h) fun v s1 hh => ?_
  obtain ⟨x, H1, I1, r1, q1⟩ := hh
  rcases q1 with ⟨a, xs, rfl, hq, q⟩ | ⟨a, xs, rfl, hq, q⟩ | ⟨z, rfl, q⟩
  · cases r1
    obtain ⟨its, _, pl, _⟩ := I1.list hq
    exact wpAny_pyIter_list pl.isList (pi_one (tk := s1.toks) I1 _ (turn_list a _) ⟨_, Heap.get?_push_size _ rfl, rfl, rfl⟩ q)
  · cases r1
    obtain ⟨its, _, pt, _⟩ := I1.tuple hq
    exact wpAny_pyIter_tuple (show s1.heap.IsTuple a its.toArray from pt) (pi_one (tk := s1.toks) I1 _ (turn_tuple a _) ⟨_, Heap.get?_push_size _ rfl, rfl, rfl⟩ q)
  · obtain ⟨t, rfl⟩ := r1
    cases ha : z.cps.all (· < 128)
    · exact wpAny_pyIter_wide ha (pi_one (tk := s1.toks) I1 _ (turn_str _ z t "str_iterator" (.inr rfl)) ⟨_, Heap.get?_push_size _ rfl, rfl, rfl⟩ q)
    · exact wpAny_pyIter_ascii ha (pi_one (tk := s1.toks) I1 _ (turn_str _ z t "str_ascii_iterator" (.inl rfl)) ⟨_, Heap.get?_push_size _ rfl, rfl, rfl⟩ q)
def frozenTg : Tg → Bool
  | .b1 => false
  | .b2 => false
  | _ => true
def signsD (z : Str) : List D := z.cps.toList.map fun c => .str ⟨#[c]⟩
def itemsOf (g : Tg) (d : D) (Q : List D → Prop) : Prop := match d with
  | .lst ds => frozenTg g = true ∧ Q ds
  | .tup ds => est g ds ∧ Q ds
  | .str z => Q (signsD z)
  | _ => False
def sIter (t : SE) : SI := fun σ W R => t σ W fun g d W1 => itemsOf g d fun ds => R ds W1
theorem mono_itemsOf {g : Tg} {d : D} {Q Q' : List D → Prop} (h : ∀ x, Q x → Q' x) (w : itemsOf g d Q) : itemsOf g d Q' := by
  cases d <;> first | exact w.elim | exact h _ w | exact ⟨w.1, h _ w.2⟩
section
variable {X : Cx} {pos : Pos} {tg a b c : Expr} {ta : SE} {es : List Expr} {sa : SA}
theorem vIter (h : VE X a ta) : VI X tg a (sIter ta) := by
  refine ⟨piI (pi_seq h.pe) fun s H R ⟨F, σ, W, A, L, w⟩ => ?_, fun σ W Q Q' l w => h.mono _ _ _ _ (fun g d W1 q => mono_itemsOf (fun x q => l _ _ q) q) w⟩
  refine L.one h.mono w fun g d W1 v H1 w1 L1 e p => ?_
  cases d with
  | lst ds =>
    obtain ⟨f, w2⟩ := w1
    have st : sto g (.lst ds) := by cases g <;> first | rfl | cases f
    have r := p.keep L.own e.same st
    simp only [RepS] at r
    obtain ⟨q, xs, e1, e2, r2⟩ := r
    refine .inl ⟨q, xs, e1, .of (Hm_of (Same.uncut _ _ e2)), w2 _ _ e fun H2 sm => ⟨fun i d hi => ?_, fun i hi => ⟨xs, .of (sm _ _ e2), by rw [← r2.length]; exact hi⟩⟩⟩
    obtain ⟨x, hx, rx⟩ := r2.get hi
    refine ⟨⟨xs, x, .of (sm _ _ e2), hx⟩, fun y H' ⟨eh, hy⟩ => .inl ⟨eh, ?_⟩⟩
    have hyx := hy xs (.of (sm _ _ e2))
    rw [hx] at hyx
    cases hyx
    exact rx
  | tup ds =>
    obtain ⟨f, w2⟩ := w1
    have r := p.tupSt L.own e.same f
    simp only [Post, RepS] at r
    obtain ⟨q, xs, e1, e2, r2⟩ := r
    refine .inr (.inl ⟨q, xs, e1, Same.seqT Same.unHm (Same.seqT Same.uncut (.inl (.inl e2))), w2 _ _ e fun H2 sm => ⟨fun i d hi => ?_, fun i hi => ⟨xs, Same.seqT sm (.inl (.inl e2)), by rw [← r2.length]; exact hi⟩⟩⟩)
    obtain ⟨x, hx, rx⟩ := r2.get hi
    refine ⟨⟨xs, x, Same.seqT sm (.inl (.inl e2)), hx⟩, fun y H' ⟨eh, hy⟩ => .inl ⟨eh, ?_⟩⟩
    have hyx := hy xs (Same.seqT sm (.inl (.inl e2)))
    rw [hx] at hyx
    cases hyx
    exact rx
  | str z =>
    refine .inr (.inr ⟨z, p.str, w1 _ _ e fun H2 sm => ⟨fun i d hi => ?_, fun i hi => ?_⟩⟩)
    · unfold signsD at hi
      rw [List.getElem?_map] at hi
      cases hc : z.cps.toList[i]? with
      | none => rw [hc] at hi; cases hi
      | some c =>
        rw [hc] at hi
        cases hi
        have hc2 : z.cps[i]? = some c := by simpa using hc
        have hlt : i < z.cps.size := by
          obtain ⟨q, _⟩ := Array.getElem?_eq_some_iff.mp hc2
          exact q
        refine ⟨hlt, fun y H' ⟨eh, c', hc', ey⟩ => .inl ⟨eh, ?_⟩⟩
        rw [hc2] at hc'
        cases hc'
        subst ey
        simp [RepS]
    · unfold signsD at hi
      rw [List.length_map] at hi
      show z.cps.size ≤ i
      simpa using hi
  | _ => exact w1.elim
/-! ### ranges -/
def upTo (lo : Int) (n : Nat) : List D := (List.range n).map fun i => .int (lo + (i : Nat))
def downTo (hi : Int) (n : Nat) : List D := (List.range n).map fun i => .int (hi - (i : Nat))
def sRng1 (ta : SA) : SI := fun σ W R => ta σ W fun ds W1 => match ds with
  | [(_, .int j)] => -(2 ^ 62) ≤ j ∧ j < 2 ^ 62 ∧ R (upTo 0 j.toNat) W1
  | _ => False
def sRng2 (ta : SA) : SI := fun σ W R => ta σ W fun ds W1 => match ds with
  | [(_, .int i), (_, .int j)] => (-(2 ^ 62) ≤ i ∧ i < 2 ^ 62 ∧ -(2 ^ 62) ≤ j ∧ j < 2 ^ 62) ∧ R (upTo i (j - i).toNat) W1
  | _ => False
def sRngD (ta : SA) : SI := fun σ W R => ta σ W fun ds W1 => match ds with
  | [(_, .int i), (_, .int j), (_, .int (-1))] => (-(2 ^ 62) ≤ i ∧ i < 2 ^ 62 ∧ -(2 ^ 62) ≤ j ∧ j < 2 ^ 62) ∧ R (downTo i (i - j).toNat) W1
  | _ => False
theorem itr_ok {K : KW} {G : Hp} {lo : Int} {n : Nat} : ItOk K G (Itr lo n) (upTo lo n) := fun H sm => ⟨fun i d hi => by
    unfold upTo at hi
    rw [List.getElem?_map] at hi
    cases hr : (List.range n)[i]? with
    | none => rw [hr] at hi; cases hi
    | some k =>
      rw [hr] at hi
      cases hi
      obtain ⟨h1, h2⟩ := List.getElem?_eq_some_iff.mp hr
      rw [List.length_range] at h1
      rw [List.getElem_range] at h2
      subst h2
      refine ⟨h1, fun x H' ⟨e, ex⟩ => .inl ⟨e, ?_⟩⟩
      subst ex
      simp [RepS], fun i hi => by
    unfold upTo at hi
    rw [List.length_map, List.length_range] at hi
    exact hi⟩
theorem itc_ok {K : KW} {G : Hp} {lo : Int} {n : Nat} : ItOk K G (Itc lo (-1) n) (downTo lo n) := fun H sm => ⟨fun i d hi => by
    unfold downTo at hi
    rw [List.getElem?_map] at hi
    cases hr : (List.range n)[i]? with
    | none => rw [hr] at hi; cases hi
    | some k =>
      rw [hr] at hi
      cases hi
      obtain ⟨h1, h2⟩ := List.getElem?_eq_some_iff.mp hr
      rw [List.length_range] at h1
      rw [List.getElem_range] at h2
      subst h2
      refine ⟨h1, fun x H' ⟨e, ex⟩ => .inl ⟨e, ?_⟩⟩
      subst ex
      simp only [RepS]
      congr 1
      omega, fun i hi => by
    unfold downTo at hi
    rw [List.length_map, List.length_range] at hi
    exact hi⟩
theorem vRng1 {p : Pos} (hg : Gl X "range") (hm : X.mg "range" = none) (ha : VA X [a] sa) (hs : starEach [a] X.env = [(false, eval a X.env)] := by rfl) : VI X tg (.Call (.Name "range" p) [a] [] pos) (sRng1 sa) := by
  refine ⟨piI (pi_range1 hg hm ha.pe hs) fun s H R ⟨F, σ, W, A, L, w⟩ => ?_, fun σ W Q Q' l w => ha.mono _ _ _ _ (fun ds W1 q => ?_) w⟩
  · refine L.args ha.mono w fun ds W1 vs H1 w1 L1 e p => ?_
    split at w1
    · obtain ⟨v, rfl, p1⟩ := p.one
      exact ⟨_, by rw [p1.int], w1.1, w1.2.1, w1.2.2 _ _ e itr_ok⟩
    · exact w1.elim
  · split at q
    · exact ⟨q.1, q.2.1, l _ _ q.2.2⟩
    · exact q.elim
theorem vRng2 {p : Pos} (hg : Gl X "range") (hm : X.mg "range" = none) (ha : VA X [a, b] sa) (hs : starEach [a, b] X.env = [(false, eval a X.env), (false, eval b X.env)] := by rfl) (hs2 : starEach [b] X.env = [(false, eval b X.env)] := by rfl) : VI X tg (.Call (.Name "range" p) [a, b] [] pos) (sRng2 sa) := by
  refine ⟨piI (pi_range2 hg hm ha.pe hs hs2) fun s H R ⟨F, σ, W, A, L, w⟩ => ?_, fun σ W Q Q' l w => ha.mono _ _ _ _ (fun ds W1 q => ?_) w⟩
  · refine L.args ha.mono w fun ds W1 vs H1 w1 L1 e p => ?_
    split at w1
    · obtain ⟨v, u, rfl, p1, p2⟩ := p.two
      exact ⟨_, _, by rw [p1.int, p2.int], w1.1, w1.2 _ _ e itr_ok⟩
    · exact w1.elim
  · split at q
    · exact ⟨q.1, l _ _ q.2⟩
    · exact q.elim
theorem PostA.three {K : KW} {A Y : List Addr} {H0 H : Hp} {t u w : Tg} {x y z : D} {vs : List V} (h : PostA K A Y H0 H [(t, x), (u, y), (w, z)] vs) : ∃ v1 v2 v3, vs = [v1, v2, v3] ∧ Post K A Y H0 H t x v1 ∧ Post K A Y H0 H u y v2 ∧ Post K A Y H0 H w z v3 := by
  obtain ⟨v, us, e, p, q⟩ := h
  obtain ⟨v2, v3, e2, q2, q3⟩ := PostA.two q
  subst e2
  exact ⟨v, v2, v3, e, p, q2, q3⟩
theorem vRngD {p : Pos} (hg : Gl X "range") (hm : X.mg "range" = none) (ha : VA X [a, b, c] sa) (hs : starEach [a, b, c] X.env = (false, eval a X.env) :: starEach [b, c] X.env := by rfl) (hpl : (backTo pos (starEach [b, c] X.env)).any (·.1) = false := by rfl) : VI X tg (.Call (.Name "range" p) [a, b, c] [] pos) (sRngD sa) := by
  refine ⟨piI (pi_range3 hg hm ha.pe hs hpl) fun s H R ⟨F, σ, W, A, L, w⟩ => ?_, fun σ W Q Q' l w => ha.mono _ _ _ _ (fun ds W1 q => ?_) w⟩
  · refine L.args ha.mono w fun ds W1 vs H1 w1 L1 e p => ?_
    split at w1
    · obtain ⟨v, u, z, rfl, p1, p2, p3⟩ := p.three
      exact ⟨_, _, _, _, by rw [p1.int, p2.int, p3.int], RgC.neg w1.1.1 w1.1.2.1 w1.1.2.2.1 w1.1.2.2.2, w1.2 _ _ e itc_ok⟩
    · exact w1.elim
  · split at q
    · exact ⟨q.1, l _ _ q.2⟩
    · exact q.elim
end

/-! ### for, while -/
def forD (f : TgF) (body : SS) : List D → SEnds → SG → Wd → Prop
  | [], D, σ, W => D.nx σ W
  | x :: xs, D, σ, W => tgD f .st x σ fun σ' => body { nx := forD f body xs D, ct := forD f body xs D, bk := D.nx, rt := D.rt } σ' W
def sFor (it : SI) (f : TgF) (body : SS) : SS := fun D σ W => it σ W fun items W1 => forD f body items D σ W1
theorem mono_forD {f : TgF} {body : SS} (m : MonoS body) : ∀ {items : List D} {D D' : SEnds} {σ : SG} {W : Wd}, D.Le D' → forD f body items D σ W → forD f body items D' σ W
  | [], D, D', σ, W, l, w => l.nx _ _ w
  | x :: xs, D, D', σ, W, l, w => mono_tgD (fun σ' q => m { nx := forD f body xs D, ct := forD f body xs D, bk := D.nx, rt := D.rt } { nx := forD f body xs D', ct := forD f body xs D', bk := D'.nx, rt := D'.rt } _ _ ⟨fun _ _ q => mono_forD m l q, l.rt, l.nx, fun _ _ q => mono_forD m l q⟩ q) w
theorem Live.item {K : KW} {F : Frm} {σ : SG} {W : Wd} {A : List (List Addr)} {s : L2.St} {H H' : Hp} {G : Hp} {d : D} {x : V} (L : Live K F σ W A s H) (g : Same G (cut (Hm H W) (A.flatten ++ F.X))) (i : ItemOk K G H H' d x) :
    Live K F σ W A s H' ∧ Ext (A.flatten ++ F.X) W H W H' ∧ Post K A.flatten F.X (Hm H' W) (Hm H' W) .st d x := by
  rcases i with ⟨rfl, r⟩ | ⟨p, xs, ds, hp, rfl, rfl, rfl, r⟩
  · exact ⟨L, L.ext0, RepS.mono g _ _ r⟩
  · have e := L.ext0.laid hp (.tup xs)
    have q := Post.newT (X := F.X) L.own L.ext0 (RepSs.mono g _ _ r) hp
    exact ⟨L.step e, e, q⟩
theorem vFor {X : Cx} {tg iter : Expr} {body : List Stmt} {it : SI} {f : TgF} {tb : SS} {pos : Pos} (hp : PassesOwn (model X.prog X.w) X.A X.env X.xe) (hc : X.calm = true) (hi : VI X tg iter it) (hg : VG X tg f) (hb : VSs X body tb)
    (hs : ∀ x, foldedSetIterable iter X.env x = pure x := by intro _; rfl) : VS X (.For tg iter body [] pos) (sFor it f tb) := by
  refine ⟨psI (ps_for hp hc hi.pe hg hb.pe hs) fun Dn s H ⟨F, σ, W, A, L, w⟩ => ?_, fun D D' σ W l w => hi.mono _ _ _ _ (fun items W1 q => mono_forD hb.mono l q) w⟩
  refine ⟨F, σ, W, A, L, hi.mono _ _ _ _ (fun items W1 q J H1 e ok => ?_) w⟩
  have L1 := L.step e
  -- all that is not one's own stays through the loop
  generalize hB : cut (Hm H1 W1) A.flatten = B
  have hFB : Same F.B B := fun b o h => by
    rw [← hB]
    exact cut_some.mpr (L1.base b o h)
  have hGB : Same (cut (Hm H1 W1) (A.flatten ++ F.X)) B := by
    rw [← hB]
    exact Same.cutl fun b m => List.mem_append_left _ m
  have hXB : ∀ b ∈ F.X, (B b).isSome = true := fun b m => by
    obtain ⟨o, h⟩ := Option.isSome_iff_exists.mp (L.xb b m)
    rw [hFB b o h]; rfl
  have hG : ∀ {σ' : SG} {W' : Wd} {A' : List (List Addr)} {s' : L2.St} {H' : Hp}, Live X.kw {F with B := B} σ' W' A' s' H' → Same (cut (Hm H1 W1) (A.flatten ++ F.X)) (cut (Hm H' W') (A'.flatten ++ F.X)) := fun {σ' W' A' s' H'} L' b o h => by
    obtain ⟨h1, h2⟩ := L'.base b o (hGB b o h)
    refine cut_some.mpr ⟨h1, fun m => (List.mem_append.mp m).elim h2 fun m => ?_⟩
    exact (cut_some.mp h).2 (List.mem_append_right _ m)
  have back : ∀ {σ' : SG} {W' : Wd} {A' : List (List Addr)} {s' : L2.St} {H' : Hp}, Live X.kw {F with B := B} σ' W' A' s' H' → Live X.kw F σ' W' A' s' H' := fun L' => Live.weak L' hFB L.xb
  have L1' : Live X.kw {F with B := B} σ W1 A s H1 := ⟨L1.nd, L1.al, L1.sl, fun b o h => by rw [← hB] at h; exact cut_some.mp h, hXB, L1.trk, L1.cell, L1.kc, L1.slot⟩
  refine ⟨fun i m s' H' => i + m = items.length ∧ ∃ σ' W' A', Live X.kw {F with B := B} σ' W' A' s' H' ∧ forD f tb (items.drop i) (endsOf X.kw F Dn) σ' W', ⟨items.length, by omega, σ, W1, A, L1', by simpa using q⟩, fun i m s' H' ⟨hm, σ', W', A', L', w'⟩ => ?_⟩
  have okH := ok H' ((hG L').trans (fun b o h => Same.unHm _ _ (Same.uncut _ _ h)))
  by_cases hlt : i < items.length
  · have hd : items[i]? = some items[i] := List.getElem?_eq_getElem hlt
    rw [List.drop_eq_getElem_cons hlt] at w'
    obtain ⟨go, yl⟩ := okH.1 i _ hd
    refine .inr ⟨go, fun s2 H2 => ∃ σ2 W2 A2, Live X.kw {F with B := B} σ2 W2 A2 s2 H2 ∧ forD f tb (items.drop (i + 1)) (endsOf X.kw F Dn) σ2 W2, fun s2 H2 ⟨σ2, W2, A2, L2', w2⟩ => ⟨m - 1, by omega, by omega, σ2, W2, A2, L2', w2⟩, fun x H2 y => ?_⟩
    obtain ⟨L3, e3, p3⟩ := L'.item (hG L') (yl x H2 y)
    refine L3.tgt (W0 := W') (H0 := H2) L3.own (.refl _) p3 w' fun σ4 s4 L4 _ w4 => ?_
    refine ⟨{F with B := B}, σ4, W', A', L4, hb.mono { nx := forD f tb (items.drop (i + 1)) (endsOf X.kw F Dn), ct := forD f tb (items.drop (i + 1)) (endsOf X.kw F Dn), bk := (endsOf X.kw F Dn).nx, rt := (endsOf X.kw F Dn).rt } _ _ _ ⟨fun σ5 W5 q5 A5 s5 H5 L5 => ⟨σ5, W5, A5, L5, q5⟩, fun tg d W5 q5 v H5 r => q5 v H5 ?_, fun σ5 W5 q5 A5 s5 H5 L5 => q5 A5 s5 H5 (back L5), fun σ5 W5 q5 A5 s5 H5 L5 => ⟨σ5, W5, A5, L5, q5⟩⟩ w4⟩
    refine ⟨hFB.trans r.same, r.cell, r.kc, ?_⟩
    have r4 := r.post
    cases tg with
    | fr =>
      obtain ⟨q, e2, hb', nd⟩ := r4
      exact ⟨q, e2, hFB.free hb', nd⟩
    | st => exact r4
    | fr2 => exact r4
    | b1 => exact r4
    | b2 => exact r4
  · rw [List.drop_eq_nil_of_le (by omega)] at w'
    exact .inl ⟨okH.2 i (by omega), w' A' s' H' (back L')⟩
def sWhile (c : SB) (body : SS) : SS := fun D σ W => ∃ I : Nat → SG → Wd → Prop, (∃ m, I m σ W) ∧ ∀ m σ W, I m σ W → c σ W fun b W1 => if b = true then
  body { D with nx := fun σ' W' => ∃ m', m' < m ∧ I m' σ' W', ct := fun σ' W' => ∃ m', m' < m ∧ I m' σ' W', bk := D.nx } σ W1 else D.nx σ W1
theorem vWhile {X : Cx} {c : Expr} {body : List Stmt} {tc : SB} {tb : SS} {pos : Pos} (hp : PassesOwn (model X.prog X.w) X.A X.env X.xe) (hc : VT X c tc) (hb : VSs X body tb) : VS X (.While c body [] pos) (sWhile tc tb) := by
  refine ⟨psI (ps_while hp hc.pe hb.pe) fun Dn s H ⟨F, σ, W, A, L, I, ⟨m0, w0⟩, turn⟩ => ?_, fun D D' σ W l ⟨I, h0, turn⟩ => ⟨I, h0, fun m σ W w => hc.mono _ _ _ _ (fun b W1 q => ?_) (turn m σ W w)⟩⟩
  · refine ⟨fun m s' H' => ∃ σ' W' A', Live X.kw F σ' W' A' s' H' ∧ I m σ' W', ⟨m0, σ, W, A, L, w0⟩, fun m s' H' ⟨σ', W', A', L', w'⟩ => ?_⟩
    refine L'.test hc.mono (turn m σ' W' w') fun b W1 H1 w1 L1 e => ?_
    cases b with
    | true => exact ⟨fun s2 H2 => ∃ σ2 W2 A2, Live X.kw F σ2 W2 A2 s2 H2 ∧ ∃ m', m' < m ∧ I m' σ2 W2, fun s2 H2 ⟨σ2, W2, A2, L2', m', hm, w2⟩ => ⟨m', hm, σ2, W2, A2, L2', w2⟩, F, σ', W1, A', L1,
        hb.mono { endsOf X.kw F Dn with nx := fun σ' W' => ∃ m', m' < m ∧ I m' σ' W', ct := fun σ' W' => ∃ m', m' < m ∧ I m' σ' W', bk := (endsOf X.kw F Dn).nx } _ _ _ ⟨fun σ5 W5 q5 A5 s5 H5 L5 => ⟨σ5, W5, A5, L5, q5⟩, fun _ _ _ q => q, fun _ _ q => q, fun σ5 W5 q5 A5 s5 H5 L5 => ⟨σ5, W5, A5, L5, q5⟩⟩ w1⟩
    | false => exact w1 A' s' H1 L1
  · cases b with
    | true => exact hb.mono { D with nx := fun σ' W' => ∃ m', m' < m ∧ I m' σ' W', ct := fun σ' W' => ∃ m', m' < m ∧ I m' σ' W', bk := D.nx } { D' with nx := fun σ' W' => ∃ m', m' < m ∧ I m' σ' W', ct := fun σ' W' => ∃ m', m' < m ∧ I m' σ' W', bk := D'.nx } _ _ ⟨fun _ _ q => q, l.rt, l.nx, fun _ _ q => q⟩ q
    | false => exact l.nx _ _ q
end VL

/-! VL10: list comprehensions. -/
namespace VL
open PySem PySem.Spec PyProof.Rows L2

def wipeD (σ : SG) : List Nat → SG
  | [] => σ
  | v :: vs => (wipeD σ vs).set v none
/-- a comprehension's tests -/
structure VTs (X : Cx) (ifs : List Expr) (t : SB) : Prop where
  pe : PTs X ifs (rdB X.kw t)
  mono : MonoB t
def bYes : SB := fun _ W Q => Q true W
theorem ptsI {X : Cx} {e : List Expr} {t t' : TT} (h : PTs X e t) (i : ∀ s H Q, t' s H Q → t s H Q) : PTs X e t' := ⟨fun pins s σ H Q I w => h.run pins s σ H Q I (i _ _ _ w)⟩
theorem vtsNil {X : Cx} : VTs X [] bYes := ⟨ptsI pts_nil fun s H Q ⟨F, σ, W, A, L, w⟩ => w H L.ext0, fun _ _ _ _ h w => h _ _ w⟩
theorem vtsOne {X : Cx} {c : Expr} {t : SB} (h : VT X c t) : VTs X [c] t := ⟨pts_one h.pe, h.mono⟩

/-- the items of a comprehension, one after another -/
def compD (f : TgF) (tt : SB) (te : SE) (ok : Tg → D → Prop) : List D → SG → List D → Wd → (List D → Wd → Prop) → Prop
  | [], _, acc, W, Q => Q acc W
  | x :: xs, σ, acc, W, Q => tgD f .st x σ fun σ2 => tt σ2 W fun b W1 => if b = true then te σ2 W1 fun g d W2 => ok g d ∧ acc.length < sizeLine ∧ compD f tt te ok xs σ (acc ++ [d]) W2 Q
    else compD f tt te ok xs σ acc W1 Q
def okC (two : Bool) (g : Tg) (d : D) : Prop := if two = true then g = .fr ∧ ∃ row, d = .lst row else sto g d
def sLc (two : Bool) (it : SI) (f : TgF) (tt : SB) (te : SE) (vs : List Nat) : SE := fun σ W Q => it σ W fun items W1 => compD f tt te (okC two) items (wipeD σ vs) [] W1 fun ds W2 => Q (if two = true then .fr2 else .fr) (.lst ds) W2
theorem mono_compD {f : TgF} {tt : SB} {te : SE} {ok : Tg → D → Prop} (mt : MonoB tt) (me : MonoE te) : ∀ {items : List D} {σ : SG} {acc : List D} {W : Wd} {Q Q' : List D → Wd → Prop}, (∀ ds W', Q ds W' → Q' ds W') → compD f tt te ok items σ acc W Q → compD f tt te ok items σ acc W Q'
  | [], σ, acc, W, Q, Q', h, w => h _ _ w
  | x :: xs, σ, acc, W, Q, Q', h, w => mono_tgD (fun σ2 q => mt _ _ _ _ (fun b W1 q => by
      cases b with
      | true => exact me _ _ _ _ (fun g d W2 q => ⟨q.1, q.2.1, mono_compD mt me h q.2.2⟩) q
      | false => exact mono_compD mt me h q) q) w
theorem mono_sLc {two : Bool} {it : SI} {f : TgF} {tt : SB} {te : SE} {vs : List Nat} (mi : MonoI it) (mt : MonoB tt) (me : MonoE te) : MonoE (sLc two it f tt te vs) := fun σ W Q Q' h w => mi _ _ _ _ (fun items W1 q => mono_compD mt me (fun ds W2 q => h _ _ _ q) q) w

/-! ### within the block -/
def CellV (H : Hp) : Wd → Prop
  | none => True
  | some t => H t.c = some (.lst [.int t.pos])
theorem CellOk.v {G H : Hp} {W : Wd} (c : CellOk G H W) : CellV H W := by
  cases W with
  | none => trivial
  | some t => obtain ⟨_, _, _, h⟩ := c; exact h
theorem CellOk.carry {O O' : List Addr} {W W' : Wd} {H H' : Hp} (c : CellOk (cut (Hm H W) O) H W) (sm : Same (Hm H W) (Hm H' W')) (kc : WdLe W W') (v : CellV H' W') (hO : ∀ b o, Hm H W b = some o → b ∉ O → b ∉ O') : CellOk (cut (Hm H' W') O') H' W' := by
  cases W with
  | none => cases (show W' = none from kc); trivial
  | some t =>
    obtain ⟨q, rfl⟩ := kc
    obtain ⟨r, a, b, d⟩ := c
    have k : ∀ {x : Addr} {o : HO}, cut (Hm H (some t)) O x = some o → cut (Hm H' (some { t with pos := q })) O' x = some o := fun {x o} h => by
      obtain ⟨h1, h2⟩ := cut_some.mp h
      exact cut_some.mpr ⟨sm _ _ h1, hO _ _ h1 h2⟩
    exact ⟨r, k a, k b, v⟩
section
variable {K : KW} {F : Frm} {σ : SG} {W W' : Wd} {A : List (List Addr)} {s : L2.St} {H H' : Hp}
/-- new objects at ps that are in the making -/
def Frm.plus (F : Frm) (ps : List Addr) (H : Hp) : Frm := { F with B := fun b => if b ∈ ps then H b else F.B b, X := ps ++ F.X }
theorem Live.inside (L : Live K F σ W A s H) (sm : Same (Hm H W) (Hm H' W')) (kc : WdLe W W') (cv : CellV H' W') {ps : List Addr} (new : ∀ p ∈ ps, Hm H W p = none) (tr : ∀ p ∈ ps, ∃ o, Hm H' W' p = some o) : Live K (F.plus ps (Hm H' W')) σ W' A s H' := by
  have fz : Same (cut (Hm H W) (A.flatten ++ F.X)) (cut (Hm H' W') (A.flatten ++ (ps ++ F.X))) := fun b o h => by
    obtain ⟨h1, h2⟩ := cut_some.mp h
    refine cut_some.mpr ⟨sm _ _ h1, fun m => ?_⟩
    rcases List.mem_append.mp m with m | m
    · exact h2 (List.mem_append_left _ m)
    · rcases List.mem_append.mp m with m | m
      · rw [new b m] at h1; cases h1
      · exact h2 (List.mem_append_right _ m)
  refine ⟨L.nd, L.al, L.sl, fun b o h => ?_, fun b m => ?_, fun b m => let ⟨o, q, r⟩ := L.trk b m; ⟨o, sm _ _ q, r⟩, ?_, L.kc.trans kc, fun i sv h => ?_⟩
  · have h' : (if b ∈ ps then Hm H' W' b else F.B b) = some o := h
    by_cases m : b ∈ ps
    · rw [if_pos m] at h'
      refine ⟨h', fun z => ?_⟩
      obtain ⟨o', q, _⟩ := L.trk b z
      rw [new b m] at q; cases q
    · rw [if_neg m] at h'
      exact ⟨sm _ _ (L.base b o h').1, (L.base b o h').2⟩
  · show (if b ∈ ps then Hm H' W' b else F.B b).isSome = true
    by_cases m' : b ∈ ps
    · rw [if_pos m']
      obtain ⟨o, q⟩ := tr b m'
      rw [q]; rfl
    · rw [if_neg m']
      exact L.xb b ((List.mem_append.mp m).resolve_left m')
  · refine L.cell.carry sm kc cv fun b o h1 h2 m => ?_
    rcases List.mem_append.mp m with m | m
    · exact h2 (List.mem_append_left _ m)
    · rcases List.mem_append.mp m with m | m
      · rw [new b m] at h1; cases h1
      · exact h2 (List.mem_append_right _ m)
  · obtain ⟨v, a, h1, h2, h3⟩ := L.slot i sv h
    exact ⟨v, a, h1, h2, h3.mono fz sm⟩
theorem Live.wipe (L : Live K F σ W A s H) : ∀ vs : List Nat, Live K F (wipeD σ vs) W A (L2.wipe s vs) H
  | [] => L
  | v :: vs => (Live.wipe L vs).drop v none
theorem same_updN {p : Addr} {o : HO} (h : Same (Hm H W) (Hm H' W')) (hp : Hm H W p = none) : Same (Hm H W) (Hm (upd H' p o) W') := fun b u e => by
  have ne : b ≠ p := fun z => by rw [z, hp] at e; cases e
  rw [Hm_upd_ne ne]
  exact h b u e
theorem CellV.upd {p : Addr} {o o' : HO} (h : CellV H' W') (hp : Hm H' W' p = some o') : CellV (upd H' p o) W' := by
  cases W' with
  | none => trivial
  | some t => exact (upd_ne (Ne.symm (Hm_some.mp hp).2)).trans h
theorem CellV.new {p : Addr} {o : HO} (h : CellV H' W') (hp : H' p = none) : CellV (L2.upd H' p o) W' := by
  cases W' with
  | none => trivial
  | some t => exact (upd_ne fun (e : t.c = p) => by
      have h' : H' t.c = some (.lst [.int t.pos]) := h
      rw [e, hp] at h'; cases h').trans h
theorem RowsO.add {G : Hp} : ∀ {g : List (List D)} {ps : List Addr} {row : List D} {q : Addr} {xs : List V}, RowsO K G H g ps → H q = some (.lst xs) → RepSs K G row xs → RowsO K G H (g ++ [row]) (ps ++ [q])
  | [], ps, row, q, xs, h, e, r => by
    cases (show ps = [] from h)
    exact ⟨q, [], xs, rfl, e, r, rfl⟩
  | r :: g, ps, row, q, xs, ⟨p, qs, ys, e, e2, h, t⟩, e3, h3 => by
    subst e
    exact ⟨p, qs ++ [q], ys, rfl, e2, h, RowsO.add t e3 h3⟩
end
/-- what was gathered: qs, the new lists among it -/
def AccOk (K : KW) (two : Bool) (O : List Addr) (Dd : Addr) (H : Hp) (acc : List D) (accV : List V) (qs : List Addr) : Prop :=
  if two = true then ∃ rows, acc = rows.map D.lst ∧ accV = qs.map V.ref ∧ RowsO K (cut H ((Dd :: qs) ++ O)) H rows qs else qs = [] ∧ RepSs K (cut H ((Dd :: qs) ++ O)) acc accV
/-- the state between two turns -/
structure AccIn (K : KW) (two : Bool) (O : List Addr) (Dd : Addr) (W1 : Wd) (H1 : Hp) (W : Wd) (H : Hp) (acc : List D) : Prop where
  ex : ∃ accV qs, Hm H W Dd = some (.lst accV) ∧ accV.length = acc.length ∧ (Dd :: qs).Nodup ∧ (∀ p ∈ Dd :: qs, Hm H1 W1 p = none ∧ ∃ o, Hm H W p = some o) ∧ AccOk K two O Dd (Hm H W) acc accV qs
  same : Same (Hm H1 W1) (Hm H W)
  kc : WdLe W1 W
  cv : CellV H W
section
variable {K : KW} {two : Bool} {F : Frm} {σ : SG} {W1 W : Wd} {A : List (List Addr)} {s : L2.St} {H1 H : Hp} {Dd : Addr} {acc : List D}
theorem AccIn.post (L1 : Live K F σ W1 A s H1) (a : AccIn K two (A.flatten ++ F.X) Dd W1 H1 W H acc) : Ext (A.flatten ++ F.X) W1 H1 W H ∧ Post K A.flatten F.X (Hm H1 W1) (Hm H W) (if two = true then .fr2 else .fr) (.lst acc) (.ref Dd) := by
  obtain ⟨accV, qs, h1, hl, nd, h2, h3⟩ := a.ex
  refine ⟨⟨a.same, L1.cell.carry a.same a.kc a.cv fun _ _ _ h => h, a.kc⟩, ?_⟩
  cases two with
  | true =>
    obtain ⟨rows, e1, e2, r⟩ := (show ∃ rows, _ from h3)
    exact ⟨Dd, qs, rows, by rw [e1], rfl, nd, fun q m => (h2 q m).1, by rw [h1, e2], r⟩
  | false =>
    obtain ⟨e, r⟩ := (show qs = [] ∧ _ from h3)
    subst e
    exact ⟨Dd, rfl, (h2 Dd (by simp)).1, accV, h1, r⟩
theorem AccIn.start (L1 : Live K F σ W1 A s H1) (hD : H1 Dd = none) : AccIn K two (A.flatten ++ F.X) Dd W1 H1 W1 (upd H1 Dd (.lst [])) [] := by
  have n := Hm_none (W := W1) hD
  have u := Hm_upd L1.ext0 hD (.lst [])
  refine ⟨⟨[], [], u, rfl, by simp, fun p m => ?_, ?_⟩, same_updN (.refl _) n, .refl _, L1.cell.v.new hD⟩
  · have e : p = Dd := by simpa using m
    subst e
    exact ⟨n, _, u⟩
  · cases two with
    | true => exact ⟨[], rfl, rfl, rfl⟩
    | false => exact ⟨rfl, by simp [RepSs]⟩
/-- the heap grows, nothing else -/
theorem AccIn.grow {W2 : Wd} {H2 : Hp} (a : AccIn K two (A.flatten ++ F.X) Dd W1 H1 W H acc) (sm : Same (Hm H W) (Hm H2 W2)) (kc : WdLe W W2) (cv : CellV H2 W2) : AccIn K two (A.flatten ++ F.X) Dd W1 H1 W2 H2 acc := by
  obtain ⟨accV, qs, h1, hl, nd, h2, h3⟩ := a.ex
  refine ⟨⟨accV, qs, sm _ _ h1, hl, nd, fun p m => ⟨(h2 p m).1, let ⟨o, q⟩ := (h2 p m).2; ⟨o, sm _ _ q⟩⟩, ?_⟩, a.same.trans sm, a.kc.trans kc, cv⟩
  cases two with
  | true =>
    obtain ⟨rows, e1, e2, r⟩ := (show ∃ rows, _ from h3)
    exact ⟨rows, e1, e2, r.mono (Same.cut sm _) sm⟩
  | false =>
    obtain ⟨e, r⟩ := (show qs = [] ∧ _ from h3)
    exact ⟨e, RepSs.mono (Same.cut sm _) _ _ r⟩
/-- the state in the block -/
theorem AccIn.live (L1 : Live K F σ W1 A s H1) (a : AccIn K two (A.flatten ++ F.X) Dd W1 H1 W H acc) : ∃ qs, Live K (F.plus (Dd :: qs) (Hm H W)) σ W A s H ∧ (∀ p ∈ Dd :: qs, Hm H1 W1 p = none) ∧ (two = false → qs = []) ∧
    ∀ (W2 : Wd) (H2 : Hp) (g : Tg) (d : D) (y : V), Ext (A.flatten ++ ((Dd :: qs) ++ F.X)) W H W2 H2 → Post K A.flatten ((Dd :: qs) ++ F.X) (Hm H W) (Hm H2 W2) g d y → okC two g d → acc.length < sizeLine →
      ∃ accV, H2 Dd = some (.lst accV) ∧ accV.length < sizeLine ∧ AccIn K two (A.flatten ++ F.X) Dd W1 H1 W2 (upd H2 Dd (.lst (accV ++ [y]))) (acc ++ [d]) := by
  obtain ⟨accV, qs, h1, hl, nd, h2, h3⟩ := a.ex
  have Li := L1.inside a.same a.kc a.cv (ps := Dd :: qs) (fun p m => (h2 p m).1) (fun p m => (h2 p m).2)
  refine ⟨qs, Li, fun p m => (h2 p m).1, fun et => ?_, fun W2 H2 g d y e p ok hz => ?_⟩
  · subst et
    exact (show qs = [] ∧ _ from h3).1
  have e1 := e.same _ _ h1
  have eD := (h2 Dd (by simp)).1
  have ceq : ∀ {O : List Addr}, Dd ∈ O → cut (Hm (upd H2 Dd (.lst (accV ++ [y]))) W2) O = cut (Hm H2 W2) O := fun {O} m => by
    funext b
    unfold cut
    split
    · rfl
    · rename_i h
      exact Hm_upd_ne fun (z : b = Dd) => h (by rw [z]; exact m)
  have perm : ∀ b, b ∈ A.flatten ++ ((Dd :: qs) ++ F.X) ↔ b ∈ (Dd :: qs) ++ (A.flatten ++ F.X) := fun b => by
    simp only [List.mem_append]
    constructor <;> (intro h; rcases h with h | h | h <;> simp [h])
  have cperm : ∀ {H : Hp}, cut H (A.flatten ++ ((Dd :: qs) ++ F.X)) = cut H ((Dd :: qs) ++ (A.flatten ++ F.X)) := fun {H} => by
    funext b
    unfold cut
    by_cases h : b ∈ A.flatten ++ ((Dd :: qs) ++ F.X)
    · rw [if_pos h, if_pos ((perm b).mp h)]
    · rw [if_neg h, if_neg fun z => h ((perm b).mpr z)]
  refine ⟨accV, Hm_of e1, by rw [hl]; exact hz, ?_, same_updN (a.same.trans e.same) eD, a.kc.trans e.kc, e.cell.v.upd e1⟩
  cases two with
  | false =>
    obtain ⟨eq, r⟩ := (show qs = [] ∧ _ from h3)
    subst eq
    have st : sto g d := ok
    refine ⟨accV ++ [y], [], Hm_upd_eq e1, by simp [hl], nd, fun p m => ?_, rfl, ?_⟩
    · have e : p = Dd := by simpa using m
      subst e
      exact ⟨eD, _, Hm_upd_eq e1⟩
    · rw [ceq (by simp)]
      have py := p.keep Li.own e.same st
      refine (RepSs.mono (Same.cut e.same _) _ _ r).append (RepSs.one ?_)
      have c := cperm (H := Hm H2 W2)
      rw [← c]
      exact py
  | true =>
    obtain ⟨rows, e3, e4, r⟩ := (show ∃ rows, _ from h3)
    obtain ⟨g1, row, e5⟩ := (show g = .fr ∧ ∃ row, d = .lst row from ok)
    subst g1; subst e5
    obtain ⟨q, ey, qn, xs, qx, rx⟩ := p
    have qD : q ≠ Dd := fun z => by rw [z, h1] at qn; cases qn
    have qq : q ∉ Dd :: qs := fun m => by
      obtain ⟨o, z⟩ := (h2 q m).2
      rw [qn] at z; cases z
    refine ⟨accV ++ [y], qs ++ [q], Hm_upd_eq e1, by simp [hl], ?_, fun p m => ?_, rows ++ [row], by rw [e3]; simp, by rw [e4, ey]; simp, ?_⟩
    · rw [← List.cons_append]
      refine List.nodup_append.mpr ⟨nd, by simp, fun x m z mz => ?_⟩
      have ez : z = q := by simpa using mz
      subst ez
      intro ex
      exact qq (ex ▸ m)
    · rw [← List.cons_append] at m
      rcases List.mem_append.mp m with m | m
      · refine ⟨(h2 p m).1, ?_⟩
        by_cases z : p = Dd
        · subst z; exact ⟨_, Hm_upd_eq e1⟩
        · obtain ⟨o, ho⟩ := (h2 p m).2
          exact ⟨o, by rw [Hm_upd_ne z]; exact e.same _ _ ho⟩
      · have ez : p = q := by simpa using m
        subst ez
        exact ⟨a.same.free qn, _, by rw [Hm_upd_ne qD]; exact qx⟩
    · rw [ceq (by simp)]
      have inc : Same (cut (Hm H W) ((Dd :: qs) ++ (A.flatten ++ F.X))) (cut (Hm H2 W2) ((Dd :: (qs ++ [q])) ++ (A.flatten ++ F.X))) := fun b o h => by
        obtain ⟨k1, k2⟩ := cut_some.mp h
        refine cut_some.mpr ⟨e.same _ _ k1, fun m => ?_⟩
        rcases List.mem_append.mp m with m | m
        · rw [← List.cons_append] at m
          rcases List.mem_append.mp m with m | m
          · exact k2 (List.mem_append_left _ m)
          · have ez : b = q := by simpa using m
            rw [ez, qn] at k1; cases k1
        · exact k2 (List.mem_append_right _ m)
      have off : ∀ {g : List (List D)} {ps : List Addr} {G : Hp}, (∀ b ∈ ps, b ≠ Dd) → RowsO K G (Hm H2 W2) g ps → RowsO K G (Hm (upd H2 Dd (.lst (accV ++ [y]))) W2) g ps := by
        intro g
        induction g with
        | nil => intro ps G _ h; exact h
        | cons x g ih =>
          intro ps G hb h
          obtain ⟨p', qs', ys, k1, k2, k3, k4⟩ := h
          subst k1
          exact ⟨p', qs', ys, rfl, by rw [Hm_upd_ne (hb p' (by simp))]; exact k2, k3, ih (fun b m => hb b (List.mem_cons_of_mem _ m)) k4⟩
      have ndD := (List.nodup_cons.mp nd).1
      refine (off (fun b m z => ndD (z ▸ m)) (r.mono inc e.same)).add (by rw [Hm_upd_ne qD]; exact qx) (RepSs.mono (Same.cutl fun b m => ?_) _ _ rx)
      rcases List.mem_append.mp m with m | m
      · rw [← List.cons_append] at m
        rcases List.mem_append.mp m with m | m
        · exact List.mem_cons_of_mem _ (List.mem_append_right _ (List.mem_append_left _ m))
        · have ez : b = q := by simpa using m
          subst ez; exact List.mem_cons_self
      · rcases List.mem_append.mp m with m | m
        · exact List.mem_cons_of_mem _ (List.mem_append_left _ m)
        · exact List.mem_cons_of_mem _ (List.mem_append_right _ (List.mem_append_right _ m))
end

theorem Post.frm {K : KW} {A X X' : List Addr} {H0 H : Hp} {g : Tg} {d : D} {v : V} (e : X = X') (h : Post K A X H0 H g d v) : Post K A X' H0 H g d v := e ▸ h
/-- a list comprehension: how it is read, as a value and given to a name on one line -/
structure VC (X : Cx) (e : Expr) (t : SE) : Prop where
  ex : ∃ r : TE, PE X e r ∧ (∀ (i : Nat) (y : Str) (py spos : Pos), X.N[i]? = some y → X.env.scope.names.lookup y = some .local → swapsWith e (some (.Name y py)) spos.line X.env = pure true → PS X (.Assign [.Name y py] e spos) (tAsg r (gName i))) ∧ ∀ s H Q, rdE X.kw t s H Q → r s H Q
  mono : MonoE t
theorem VC.ve {X : Cx} {e : Expr} {t : SE} (h : VC X e t) : VE X e t :=
  let ⟨_, p, _, i⟩ := h.ex
  ⟨peI p i, h.mono⟩
theorem lc_read {K : KW} {it : SI} {f : TgF} {tt : SB} {te : SE} {vs : List Nat} {two : Bool} (mi : MonoI it) (mt : MonoB tt) (me : MonoE te) (hsl : ∀ i ∈ f.slots, i ∈ vs) {s : L2.St} {H : Hp} {Q : VK} (h : rdE K (sLc two it f tt te vs) s H Q) :
    tLc (rdI K it) (tgV K f) (rdB K tt) (rdE K te) vs s H Q := by
  obtain ⟨F, σ, W, A, L, w⟩ := h
  refine ⟨F, σ, W, A, L, mi _ _ _ _ (fun items W1 q J H1 e okJ Dd hD => ?_) w⟩
  have L1 := L.step e
  refine ⟨fun i m H' => i + m = items.length ∧ ∃ W' acc, AccIn K two (A.flatten ++ F.X) Dd W1 H1 W' H' acc ∧ compD f tt te (okC two) (items.drop i) (wipeD σ vs) acc W' fun ds W2 => ∀ v H', Ext (A.flatten ++ F.X) W H W2 H' → Post K A.flatten F.X (Hm H W) (Hm H' W2) (if two = true then .fr2 else .fr) (.lst ds) v → Q v H',
    ⟨items.length, by omega, W1, [], .start L1 hD, by simpa using q⟩, fun i m H' ⟨hm, W', acc, ai, w'⟩ => ?_⟩
  have fr1 : Same (cut (Hm H1 W1) (A.flatten ++ F.X)) H' := fun b o h => Same.unHm _ _ (ai.same _ _ (cut_some.mp h).1)
  have okH := okJ H' fr1
  by_cases hlt : i < items.length
  · rw [List.drop_eq_getElem_cons hlt] at w'
    obtain ⟨go, yl⟩ := okH.1 i _ (List.getElem?_eq_getElem hlt)
    refine .inr ⟨go, fun H3 => ∃ W3 acc3, AccIn K two (A.flatten ++ F.X) Dd W1 H1 W3 H3 acc3 ∧ compD f tt te (okC two) (items.drop (i + 1)) (wipeD σ vs) acc3 W3 fun ds W2 => ∀ v H', Ext (A.flatten ++ F.X) W H W2 H' → Post K A.flatten F.X (Hm H W) (Hm H' W2) (if two = true then .fr2 else .fr) (.lst ds) v → Q v H',
      fun H3 ⟨W3, acc3, a3, w3⟩ => ⟨m - 1, by omega, by omega, W3, acc3, a3, w3⟩, fun x H2 y => ?_⟩
    obtain ⟨qs, Li, hnew, _, fin⟩ := ai.live L1
    have gG : Same (cut (Hm H1 W1) (A.flatten ++ F.X)) (cut (Hm H' W') (A.flatten ++ (F.plus (Dd :: qs) (Hm H' W')).X)) := fun b o h => by
      obtain ⟨k1, k2⟩ := cut_some.mp h
      refine cut_some.mpr ⟨ai.same _ _ k1, fun mm => ?_⟩
      rcases List.mem_append.mp mm with mm | mm
      · exact k2 (List.mem_append_left _ mm)
      · rcases List.mem_append.mp (show b ∈ (Dd :: qs) ++ F.X from mm) with mm | mm
        · rw [hnew b mm] at k1; cases k1
        · exact k2 (List.mem_append_right _ mm)
    obtain ⟨L3, e3, p3⟩ := (Li.wipe vs).item gG (yl x H2 y)
    refine L3.tgt (W0 := W') (H0 := H2) L3.own (.refl _) p3 w' fun σ4 s4 L4 hw w4 => ⟨?_, ?_⟩
    · rw [hw _ hsl, wipe_wipe _ _ _ fun _ m => m]
    · refine L4.test mt w4 fun b W5 H5 w5 L5 e5 => ?_
      cases b with
      | false =>
        have e6 := e3.trans e5
        exact ⟨W5, acc, ai.grow e6.same e6.kc e6.cell.v, w5⟩
      | true =>
        refine L5.one me w5 fun g d W6 y6 H6 w6 L6 e6 p6 => ?_
        obtain ⟨k1, k2, k3⟩ := w6
        have e7 := e3.trans e5
        obtain ⟨accV, z1, z2, z3⟩ := fin W6 H6 g d y6 (e7.trans e6) (p6.back e7.same) k1 k2
        exact ⟨accV, z1, z2, W6, acc ++ [d], z3, k3⟩
  · rw [List.drop_eq_nil_of_le (by omega)] at w'
    obtain ⟨e9, p9⟩ := ai.post L1
    exact .inl ⟨okH.2 i (by omega), w' _ H' (e.trans e9) (p9.back e.same)⟩

theorem vcLc {X : Cx} {elt tg iter : Expr} {ifs : List Expr} {scope : Scope} {own : List (Str × Nat)} {pos : Pos} {it : SI} {f : TgF} {tt : SB} {te : SE} (two : Bool) (hc : X.calm = true) (hN : X.N.Nodup) (hi : VI X tg iter it) (ok : BlkOk X.N X.env.scope scope own) (hsl : ∀ i ∈ f.slots, i ∈ own.map (·.2))
    (hg : ∀ (s : Shared) (H : Hp) (C : Addr) (cl : List (Str × Addr)) (fp : List Addr), VG (X.blk s H scope (compEnvC scope cl C X.env) fp) tg f) (ht : ∀ (s : Shared) (H : Hp) (C : Addr) (cl : List (Str × Addr)) (fp : List Addr), VTs (X.blk s H scope (compEnvC scope cl C X.env) fp) ifs tt)
    (he : ∀ (s : Shared) (H : Hp) (C : Addr) (cl : List (Str × Addr)) (fp : List Addr), VE (X.blk s H scope (compEnvC scope cl C X.env) fp) elt te) (hs : ∀ x, foldedSetIterable iter X.env x = pure x := by intro _; rfl) :
    VC X (.ListComp elt [⟨tg, iter, ifs, 0⟩] scope pos) (sLc two it f tt te (own.map (·.2))) := by
  have mt : MonoB tt := (ht ({} : Shared) (fun _ => none) 0 [] []).mono
  have me : MonoE te := (he ({} : Shared) (fun _ => none) 0 [] []).mono
  exact ⟨⟨_, pe_lc (g := tgV X.kw f) (tt := rdB X.kw tt) (te := rdE X.kw te) hc hN hi.pe ok (fun s H C cl fp => hg s H C cl fp) (fun s H C cl fp => (ht s H C cl fp).pe) (fun s H C cl fp => (he s H C cl fp).pe) hs,
    fun i y py spos hy hl sw => ps_setLc (g := tgV X.kw f) (tt := rdB X.kw tt) (te := rdE X.kw te) hc hN hy hl sw hi.pe ok (fun s H C cl fp => hg s H C cl fp) (fun s H C cl fp => (ht s H C cl fp).pe) (fun s H C cl fp => (he s H C cl fp).pe) hs,
    fun s H Q h => lc_read hi.mono mt me hsl h⟩, mono_sLc hi.mono mt me⟩

/-! ### two clauses -/
def comp2D (f : TgF) (tt : SB) (it1 : SI) (f1 : TgF) (tt1 : SB) (te : SE) (vs1 : List Nat) : List D → SG → List D → Wd → (List D → Wd → Prop) → Prop
  | [], _, acc, W, Q => Q acc W
  | x :: xs, σ, acc, W, Q => tgD f .st x σ fun σ2 => tt σ2 W fun b W1 => if b = true then it1 σ2 W1 fun items1 W2 => compD f1 tt1 te sto items1 (wipeD σ2 vs1) acc W2 fun acc' W3 => comp2D f tt it1 f1 tt1 te vs1 xs σ acc' W3 Q
    else comp2D f tt it1 f1 tt1 te vs1 xs σ acc W1 Q
def sLc2 (it : SI) (f : TgF) (tt : SB) (it1 : SI) (f1 : TgF) (tt1 : SB) (te : SE) (vs vs1 : List Nat) : SE := fun σ W Q => it σ W fun items W1 => comp2D f tt it1 f1 tt1 te vs1 items (wipeD σ vs) [] W1 fun ds W2 => Q .fr (.lst ds) W2
theorem mono_comp2D {f f1 : TgF} {tt tt1 : SB} {it1 : SI} {te : SE} {vs1 : List Nat} (mt : MonoB tt) (mi : MonoI it1) (mt1 : MonoB tt1) (me : MonoE te) : ∀ {items : List D} {σ : SG} {acc : List D} {W : Wd} {Q Q' : List D → Wd → Prop}, (∀ ds W', Q ds W' → Q' ds W') →
    comp2D f tt it1 f1 tt1 te vs1 items σ acc W Q → comp2D f tt it1 f1 tt1 te vs1 items σ acc W Q'
  | [], σ, acc, W, Q, Q', h, w => h _ _ w
  | x :: xs, σ, acc, W, Q, Q', h, w => mono_tgD (fun σ2 q => mt _ _ _ _ (fun b W1 q => by
      cases b with
      | true => exact mi _ _ _ _ (fun items1 W2 q => mono_compD mt1 me (fun acc' W3 q => mono_comp2D mt mi mt1 me h q) q) q
      | false => exact mono_comp2D mt mi mt1 me h q) q) w
theorem RepO.mono2 {K : KW} {G G' H H' : Hp} {A : List Addr} {v : V} (g : Same G G') (h : ∀ b ∈ A, ∀ o, H b = some o → H' b = some o) : ∀ {sv : SV}, RepO K G H sv v A → RepO K G' H' sv v A
  | .val d, q => RepS.mono g _ _ q
  | .ml ds, ⟨p, e, e2, xs, q, r⟩ => ⟨p, e, e2, xs, h p (by rw [e2]; simp) _ q, RepSs.mono g _ _ r⟩
  | .md _, ⟨p, xs, e, e2, q, t⟩ => ⟨p, xs, e, e2, h p (by rw [e2]; simp) _ q, RepDs.mono g _ _ t⟩
  | .lk gg _, ⟨e, e2, q, t⟩ => ⟨e, e2, h gg.1 (by rw [e2]; simp) _ q, RepDs.mono g _ _ t⟩
  | .mg r, ⟨p, ps, e, e2, q, t⟩ => by
    subst e2
    refine ⟨p, ps, e, rfl, h p (by simp) _ q, ?_⟩
    have h' : ∀ b ∈ ps, ∀ o, H b = some o → H' b = some o := fun b m => h b (List.mem_cons_of_mem _ m)
    clear h q
    induction r generalizing ps with
    | nil => exact t
    | cons x r ih =>
      obtain ⟨p', qs, xs, e3, e4, e5, t'⟩ := t
      subst e3
      exact ⟨p', qs, xs, rfl, h' p' (by simp) _ e4, RepSs.mono g _ _ e5, ih qs t' fun b m => h' b (List.mem_cons_of_mem _ m)⟩
theorem Live.redo {K : KW} {F : Frm} {σ : SG} {W W' : Wd} {A : List (List Addr)} {s : L2.St} {H H' Hv : Hp} {ps : List Addr} (L : Live K (F.plus ps Hv) σ W A s H) (sm : ∀ b o, b ∉ ps → Hm H W b = some o → Hm H' W' b = some o) (kc : WdLe W W') (cv : CellV H' W') (tr : ∀ p ∈ ps, ∃ o, Hm H' W' p = some o) : Live K (F.plus ps (Hm H' W')) σ W' A s H' := by
  have hpA : ∀ b ∈ A.flatten, b ∉ ps := fun b m z => L.ax m (show b ∈ ps ++ F.X from List.mem_append_left _ z)
  have fz : Same (cut (Hm H W) (A.flatten ++ (ps ++ F.X))) (cut (Hm H' W') (A.flatten ++ (ps ++ F.X))) := fun b o h => by
    obtain ⟨h1, h2⟩ := cut_some.mp h
    exact cut_some.mpr ⟨sm b o (fun z => h2 (List.mem_append_right _ (List.mem_append_left _ z))) h1, h2⟩
  refine ⟨L.nd, L.al, L.sl, fun b o h => ?_, fun b m => ?_, fun b m => let ⟨o, q, r⟩ := L.trk b m; ⟨o, sm b o (hpA b m) q, r⟩, ?_, L.kc.trans kc, fun i sv h => ?_⟩
  · have h' : (if b ∈ ps then Hm H' W' b else F.B b) = some o := h
    by_cases m : b ∈ ps
    · rw [if_pos m] at h'
      exact ⟨h', fun z => hpA b z m⟩
    · rw [if_neg m] at h'
      obtain ⟨k1, k2⟩ := L.base b o (show (if b ∈ ps then Hv b else F.B b) = some o by rw [if_neg m]; exact h')
      exact ⟨sm b o m k1, k2⟩
  · show (if b ∈ ps then Hm H' W' b else F.B b).isSome = true
    by_cases m' : b ∈ ps
    · rw [if_pos m']
      obtain ⟨o, q⟩ := tr b m'
      rw [q]; rfl
    · rw [if_neg m']
      have q : (if b ∈ ps then Hv b else F.B b).isSome = true := L.xb b m
      rw [if_neg m'] at q
      exact q
  · have c : CellOk (cut (Hm H W) (A.flatten ++ (ps ++ F.X))) H W := L.cell
    cases W with
    | none => cases (show W' = none from kc); trivial
    | some t =>
      obtain ⟨q, rfl⟩ := kc
      obtain ⟨r, a, b, d⟩ := c
      exact ⟨r, fz _ _ a, fz _ _ b, cv⟩
  · obtain ⟨v, a, h1, h2, h3⟩ := L.slot i sv h
    exact ⟨v, a, h1, h2, h3.mono2 fz fun b m o q => sm b o (hpA b (flatten_get h2 m)) q⟩
theorem lc2_read {K : KW} {it it1 : SI} {f f1 : TgF} {tt tt1 : SB} {te : SE} {vs vs1 : List Nat} (mi : MonoI it) (mt : MonoB tt) (mi1 : MonoI it1) (mt1 : MonoB tt1) (me : MonoE te) (hsl : ∀ i ∈ f.slots, i ∈ vs) (hsl1 : ∀ i ∈ f1.slots, i ∈ vs1) {s : L2.St} {H : Hp} {Q : VK}
    (h : rdE K (sLc2 it f tt it1 f1 tt1 te vs vs1) s H Q) : tLc2 (rdI K it) (tgV K f) (rdB K tt) (rdI K it1) (tgV K f1) (rdB K tt1) (rdE K te) vs vs1 s H Q := by
  obtain ⟨F, σ, W, A, L, w⟩ := h
  refine ⟨F, σ, W, A, L, mi _ _ _ _ (fun items W1 q J H1 e okJ Dd hD => ?_) w⟩
  have L1 := L.step e
  generalize hQ : (fun (ds : List D) (W2 : Wd) => ∀ v H', Ext (A.flatten ++ F.X) W H W2 H' → Post K A.flatten F.X (Hm H W) (Hm H' W2) .fr (.lst ds) v → Q v H') = QQ at q
  refine ⟨fun i m H' => i + m = items.length ∧ ∃ W' acc, AccIn K false (A.flatten ++ F.X) Dd W1 H1 W' H' acc ∧ comp2D f tt it1 f1 tt1 te vs1 (items.drop i) (wipeD σ vs) acc W' QQ,
    ⟨items.length, by omega, W1, [], .start L1 hD, by simpa using q⟩, fun i m H' ⟨hm, W', acc, ai, w'⟩ => ?_⟩
  have fr1 : Same (cut (Hm H1 W1) (A.flatten ++ F.X)) H' := fun b o h => Same.unHm _ _ (ai.same _ _ (cut_some.mp h).1)
  have okH := okJ H' fr1
  by_cases hlt : i < items.length
  · rw [List.drop_eq_getElem_cons hlt] at w'
    obtain ⟨go, yl⟩ := okH.1 i _ (List.getElem?_eq_getElem hlt)
    refine .inr ⟨go, fun H3 => ∃ W3 acc3, AccIn K false (A.flatten ++ F.X) Dd W1 H1 W3 H3 acc3 ∧ comp2D f tt it1 f1 tt1 te vs1 (items.drop (i + 1)) (wipeD σ vs) acc3 W3 QQ,
      fun H3 ⟨W3, acc3, a3, w3⟩ => ⟨m - 1, by omega, by omega, W3, acc3, a3, w3⟩, fun x H2 y => ?_⟩
    obtain ⟨qs, Li, hnew, hqs, _⟩ := ai.live L1
    have eqs := hqs rfl
    subst eqs
    have gG : Same (cut (Hm H1 W1) (A.flatten ++ F.X)) (cut (Hm H' W') (A.flatten ++ (F.plus [Dd] (Hm H' W')).X)) := fun b o h => by
      obtain ⟨k1, k2⟩ := cut_some.mp h
      refine cut_some.mpr ⟨ai.same _ _ k1, fun mm => ?_⟩
      rcases List.mem_append.mp mm with mm | mm
      · exact k2 (List.mem_append_left _ mm)
      · rcases List.mem_append.mp (show b ∈ [Dd] ++ F.X from mm) with mm | mm
        · rw [hnew b mm] at k1; cases k1
        · exact k2 (List.mem_append_right _ mm)
    obtain ⟨L3, e3, p3⟩ := (Li.wipe vs).item gG (yl x H2 y)
    refine L3.tgt (W0 := W') (H0 := H2) L3.own (.refl _) p3 w' fun σ4 s4 L4 hw w4 => ⟨?_, ?_⟩
    · rw [hw _ hsl, wipe_wipe _ _ _ fun _ m => m]
    · refine L4.test mt w4 fun b W5 H5 w5 L5 e5 => ?_
      have e6 := e3.trans e5
      have a5 : AccIn K false (A.flatten ++ F.X) Dd W1 H1 W5 H5 acc := ai.grow e6.same e6.kc e6.cell.v
      cases b with
      | false => exact ⟨W5, acc, a5, w5⟩
      | true =>
        -- the inner clause
        refine ⟨_, σ4, W5, A, L5, mi1 _ _ _ _ (fun items1 W7 q7 J1 H7 e7 okJ1 => ?_) w5⟩
        have a7 : AccIn K false (A.flatten ++ F.X) Dd W1 H1 W7 H7 acc := a5.grow e7.same e7.kc e7.cell.v
        have L7 := L5.step e7
        refine ⟨fun j k H' => j + k = items1.length ∧ ∃ W' acc, AccIn K false (A.flatten ++ F.X) Dd W1 H1 W' H' acc ∧ (∀ b o, b ∉ [Dd] → Hm H7 W7 b = some o → Hm H' W' b = some o) ∧ WdLe W7 W' ∧
            compD f1 tt1 te sto (items1.drop j) (wipeD σ4 vs1) acc W' fun acc' W3 => comp2D f tt it1 f1 tt1 te vs1 (items.drop (i + 1)) (wipeD σ vs) acc' W3 QQ,
          ⟨items1.length, by omega, W7, acc, a7, fun _ _ _ h => h, .refl _, by simpa using q7⟩, fun j k H8 ⟨hk, W8, acc8, a8, sm8, kc8, w8⟩ => ?_⟩
        have fr8 : Same (cut (Hm H7 W7) (A.flatten ++ (F.plus [Dd] (Hm H' W')).X)) H8 := fun b o h => by
          obtain ⟨k1, k2⟩ := cut_some.mp h
          exact Same.unHm _ _ (sm8 b o (fun z => k2 (List.mem_append_right _ (show b ∈ [Dd] ++ F.X from List.mem_append_left _ z))) k1)
        have okH8 := okJ1 H8 fr8
        by_cases hlt1 : j < items1.length
        · rw [List.drop_eq_getElem_cons hlt1] at w8
          obtain ⟨go1, yl1⟩ := okH8.1 j _ (List.getElem?_eq_getElem hlt1)
          refine .inr ⟨go1, fun H3 => ∃ W3 acc3, AccIn K false (A.flatten ++ F.X) Dd W1 H1 W3 H3 acc3 ∧ (∀ b o, b ∉ [Dd] → Hm H7 W7 b = some o → Hm H3 W3 b = some o) ∧ WdLe W7 W3 ∧
              compD f1 tt1 te sto (items1.drop (j + 1)) (wipeD σ4 vs1) acc3 W3 fun acc' W3 => comp2D f tt it1 f1 tt1 te vs1 (items.drop (i + 1)) (wipeD σ vs) acc' W3 QQ,
            fun H3 ⟨W3, acc3, z1, z2, z3, z4⟩ => ⟨k - 1, by omega, by omega, W3, acc3, z1, z2, z3, z4⟩, fun x1 H9 y1 => ?_⟩
          obtain ⟨qs8, _, _, hq8, fin8⟩ := a8.live L1
          have eq8 := hq8 rfl
          subst eq8
          have tr8 : ∀ p ∈ [Dd], ∃ o, Hm H8 W8 p = some o := fun p m => by
            obtain ⟨accV, qs', z1, _⟩ := a8.ex
            have ep : p = Dd := by simpa using m
            subst ep
            exact ⟨_, z1⟩
          have L8 : Live K (F.plus [Dd] (Hm H8 W8)) σ4 W8 A s4 H8 := L7.redo sm8 kc8 a8.cv tr8
          have gG8 : Same (cut (Hm H7 W7) (A.flatten ++ (F.plus [Dd] (Hm H' W')).X)) (cut (Hm H8 W8) (A.flatten ++ (F.plus [Dd] (Hm H8 W8)).X)) := fun b o h => by
            obtain ⟨k1, k2⟩ := cut_some.mp h
            exact cut_some.mpr ⟨sm8 b o (fun z => k2 (List.mem_append_right _ (show b ∈ [Dd] ++ F.X from List.mem_append_left _ z))) k1, k2⟩
          obtain ⟨L9, e9, p9⟩ := (L8.wipe vs1).item gG8 (yl1 x1 H9 y1)
          refine L9.tgt (W0 := W8) (H0 := H9) L9.own (.refl _) p9 w8 fun σ10 s10 L10 hw10 w10 => ⟨?_, ?_⟩
          · rw [hw10 _ hsl1, wipe_wipe _ _ _ fun _ m => m]
          · refine L10.test mt1 w10 fun b W11 H11 w11 L11 e11 => ?_
            have e12 := e9.trans e11
            cases b with
            | false => exact ⟨W11, acc8, a8.grow e12.same e12.kc e12.cell.v, fun b o h1 h2 => e12.same _ _ (sm8 b o h1 h2), kc8.trans e12.kc, w11⟩
            | true =>
              refine L11.one me w11 fun g d W13 y13 H13 w13 L13 e13 p13 => ?_
              obtain ⟨k1, k2, k3⟩ := w13
              obtain ⟨accV, z1, z2, z3⟩ := fin8 W13 H13 g d y13 (e12.trans e13) (p13.back e12.same) k1 k2
              refine ⟨accV, z1, z2, W13, acc8 ++ [d], z3, fun b o h1 h2 => ?_, kc8.trans (e12.trans e13).kc, k3⟩
              rw [Hm_upd_ne (show b ≠ Dd from fun z => h1 (by rw [z]; simp))]
              exact (e12.trans e13).same _ _ (sm8 b o h1 h2)
        · rw [List.drop_eq_nil_of_le (by omega)] at w8
          exact .inl ⟨okH8.2 j (by omega), W8, acc8, a8, w8⟩
  · rw [List.drop_eq_nil_of_le (by omega)] at w'
    obtain ⟨e9, p9⟩ := ai.post L1
    subst hQ
    exact .inl ⟨okH.2 i (by omega), w' _ H' (e.trans e9) (p9.back e.same)⟩

theorem vcLc2 {X : Cx} {elt tg iter tg1 iter1 : Expr} {ifs ifs1 : List Expr} {scope : Scope} {own : List (Str × Nat)} {vs1 : List Nat} {pos : Pos} {it it1 : SI} {f f1 : TgF} {tt tt1 : SB} {te : SE} (hc : X.calm = true) (hN : X.N.Nodup) (hi : VI X tg iter it) (ok : BlkOk X.N X.env.scope scope own) (hv : ∀ i ∈ vs1, i ∈ own.map (·.2))
    (hsl : ∀ i ∈ f.slots, i ∈ own.map (·.2)) (hsl1 : ∀ i ∈ f1.slots, i ∈ vs1)
    (hg : ∀ (s : Shared) (H : Hp) (C : Addr) (cl : List (Str × Addr)) (fp : List Addr), VG (X.blk s H scope (compEnvC scope cl C X.env) fp) tg f) (ht : ∀ (s : Shared) (H : Hp) (C : Addr) (cl : List (Str × Addr)) (fp : List Addr), VTs (X.blk s H scope (compEnvC scope cl C X.env) fp) ifs tt)
    (hi1 : ∀ (s : Shared) (H : Hp) (C : Addr) (cl : List (Str × Addr)) (fp : List Addr), VI (X.blk s H scope (compEnvC scope cl C X.env) fp) tg1 iter1 it1)
    (hg1 : ∀ (s : Shared) (H : Hp) (C : Addr) (cl : List (Str × Addr)) (fp : List Addr), VG (X.blk s H scope (compEnvC scope cl C X.env) fp) tg1 f1) (ht1 : ∀ (s : Shared) (H : Hp) (C : Addr) (cl : List (Str × Addr)) (fp : List Addr), VTs (X.blk s H scope (compEnvC scope cl C X.env) fp) ifs1 tt1)
    (he : ∀ (s : Shared) (H : Hp) (C : Addr) (cl : List (Str × Addr)) (fp : List Addr), VE (X.blk s H scope (compEnvC scope cl C X.env) fp) elt te) (hs : ∀ x, foldedSetIterable iter X.env x = pure x := by intro _; rfl) (hs1 : ∀ env x, foldedSetIterable iter1 env x = pure x := by intro _ _; rfl) :
    VC X (.ListComp elt [⟨tg, iter, ifs, 0⟩, ⟨tg1, iter1, ifs1, 0⟩] scope pos) (sLc2 it f tt it1 f1 tt1 te (own.map (·.2)) vs1) := by
  have mt : MonoB tt := (ht ({} : Shared) (fun _ => none) 0 [] []).mono
  have mt1 : MonoB tt1 := (ht1 ({} : Shared) (fun _ => none) 0 [] []).mono
  have mi1 : MonoI it1 := (hi1 ({} : Shared) (fun _ => none) 0 [] []).mono
  have me : MonoE te := (he ({} : Shared) (fun _ => none) 0 [] []).mono
  exact ⟨⟨_, pe_lc2 (g := tgV X.kw f) (tt := rdB X.kw tt) (wi1 := rdI X.kw it1) (g1 := tgV X.kw f1) (tt1 := rdB X.kw tt1) (te := rdE X.kw te) (vs1 := vs1) hc hN hi.pe ok hv (fun s H C cl fp => hg s H C cl fp) (fun s H C cl fp => (ht s H C cl fp).pe)
      (fun s H C cl fp => (hi1 s H C cl fp).pe) (fun s H C cl fp => hg1 s H C cl fp) (fun s H C cl fp => (ht1 s H C cl fp).pe) (fun s H C cl fp => (he s H C cl fp).pe) hs hs1,
    fun i y py spos hy hl sw => ps_setLc2 (g := tgV X.kw f) (tt := rdB X.kw tt) (wi1 := rdI X.kw it1) (g1 := tgV X.kw f1) (tt1 := rdB X.kw tt1) (te := rdE X.kw te) (vs1 := vs1) hc hN hy hl sw hi.pe ok hv (fun s H C cl fp => hg s H C cl fp) (fun s H C cl fp => (ht s H C cl fp).pe)
      (fun s H C cl fp => (hi1 s H C cl fp).pe) (fun s H C cl fp => hg1 s H C cl fp) (fun s H C cl fp => (ht1 s H C cl fp).pe) (fun s H C cl fp => (he s H C cl fp).pe) hs hs1,
    fun s H Q h => lc2_read hi.mono mt mi1 mt1 me hsl hsl1 h⟩, fun σ W Q Q' h w => hi.mono _ _ _ _ (fun items W1 q => mono_comp2D mt mi1 mt1 me (fun ds W2 q => h _ _ _ q) q) w⟩
/-- a name is given a comprehension's list, on one line -/
theorem vSetC {X : Cx} {e : Expr} {te : SE} {i : Nat} {x : Str} {p pos : Pos} (hi : X.N[i]? = some x) (hx : X.env.scope.names.lookup x = some .local) (h : VC X e te) (sw : swapsWith e (some (.Name x p)) pos.line X.env = pure true) : VS X (.Assign [.Name x p] e pos) (sSet i te) :=
  let ⟨_, _, ps, im⟩ := h.ex
  ⟨psI (ps i x p pos hi hx sw) fun Dn s H q => im _ _ _ (rd_set h.mono q), mono_sSet h.mono⟩
theorem vOwnC {X : Cx} {e : Expr} {te : SE} {i : Nat} {x : Str} {p pos : Pos} (hi : X.N[i]? = some x) (hx : X.env.scope.names.lookup x = some .local) (h : VC X e te) (sw : swapsWith e (some (.Name x p)) pos.line X.env = pure true) : VS X (.Assign [.Name x p] e pos) (sOwn i te) :=
  let ⟨_, _, ps, im⟩ := h.ex
  ⟨psI (ps i x p pos hi hx sw) fun Dn s H q => im _ _ _ (rd_own h.mono q), mono_sOwn h.mono⟩
end VL

/-! VL11: what is lent within an expression; moves; defs; the law's draws. -/
namespace VL
open PySem PySem.Spec PyProof.Rows L2

/-! ### within an expression one's own objects may be read as data that stay -/
def frzV : SV → D
  | .val d => d
  | .ml ds => .lst ds
  | .md kvs => .dct kvs
  | .lk _ kvs => .dct kvs
  | .mg g => .lst (g.map D.lst)
def frzO : Option SV → Option SV
  | some (.md _) => none
  | some x => some (.val (frzV x))
  | none => none
def frzAll (σ : SG) : SG := σ.map frzO
def borTag (g : Tg) (d : D) : Tg := match g with
  | .fr => if flatEl d = true then .fr else .b2
  | _ => .b2
def sBor (t : SE) : SE := fun σ W Q => t (frzAll σ) W fun g d W1 => Q (borTag g d) d W1
theorem mono_sBor {t : SE} (m : MonoE t) : MonoE (sBor t) := fun σ W Q Q' h w => m _ _ _ _ (fun g d W1 q => h _ _ _ q) w
theorem nil_flat : ∀ n : Nat, (List.replicate n ([] : List Addr)).flatten = []
  | 0 => rfl
  | n + 1 => by rw [List.replicate_succ, List.flatten_cons, nil_flat n]; rfl
section
variable {K : KW} {F : Frm} {σ : SG} {W : Wd} {A : List (List Addr)} {s : L2.St} {H : Hp}
theorem Live.lend (L : Live K F σ W A s H) : Live K F (frzAll σ) W (List.replicate A.length []) s H := by
  have nf := nil_flat A.length
  have inc : Same (cut (Hm H W) (A.flatten ++ F.X)) (cut (Hm H W) ((List.replicate A.length ([] : List Addr)).flatten ++ F.X)) := Same.cutl fun b m => by
    rw [nf] at m
    exact List.mem_append_right _ (by simpa using m)
  refine ⟨by rw [nf]; exact List.nodup_nil, by rw [List.length_replicate]; unfold frzAll; rw [List.length_map]; exact L.al, by unfold frzAll; rw [List.length_map]; exact L.sl, fun b o h => ⟨(L.base b o h).1, by rw [nf]; simp⟩, L.xb, by rw [nf]; simp, L.cell.mono inc, L.kc, fun i sv h => ?_⟩
  unfold frzAll at h
  rw [List.getElem?_map] at h
  cases hx : σ[i]? with
  | none => rw [hx] at h; cases h
  | some o =>
    cases o with
    | none => rw [hx] at h; cases h
    | some x =>
      rw [hx] at h
      have hm : (∀ kvs, x ≠ .md kvs) ∧ sv = .val (frzV x) := by
        cases x with
        | md kvs => injection h with h; cases h
        | _ => injection h with h; injection h with h; exact ⟨(fun _ z => nomatch z), h.symm⟩
      obtain ⟨hm, rfl⟩ := hm
      obtain ⟨v, a, h1, h2, h3⟩ := L.slot i x hx
      have hi : i < A.length := (List.getElem?_eq_some_iff.mp h2).1
      refine ⟨v, [], h1, by rw [List.getElem?_replicate, if_pos hi], ?_⟩
      rw [nf, List.nil_append]
      have i2 : Same (cut (Hm H W) (A.flatten ++ F.X)) (cut (Hm H W) F.X) := Same.cutl fun b => mem_snd
      have out : ∀ {p : Addr} {o : HO}, p ∈ a → Hm H W p = some o → cut (Hm H W) F.X p = some o := fun m e => cut_some.mpr ⟨e, L.ax (flatten_get h2 m)⟩
      cases x with
      | val d => exact RepS.mono i2 _ _ h3
      | ml ds =>
        obtain ⟨p, e, e2, n⟩ := h3
        subst e
        exact n.rep i2 fun o q => out (by rw [e2]; simp) q
      | md ds => exact absurd rfl (hm ds)
      | lk t ds =>
        obtain ⟨e, e2, n, r⟩ := h3
        subst e
        show RepS K (cut (Hm H W) F.X) (.dct ds) (.ref t.1)
        simp only [RepS]
        exact ⟨t.1, _, _, rfl, out (by rw [e2]; simp) n, RepDs.mono i2 _ _ r⟩
      | mg g =>
        obtain ⟨p, ps, e, e2, e3, n⟩ := h3
        subst e
        show RepS K (cut (Hm H W) F.X) (.lst (g.map D.lst)) (.ref p)
        simp only [RepS]
        exact ⟨p, _, rfl, out (by rw [e2]; simp) e3, n.rep i2 fun p' m o q => out (by rw [e2]; simp [m]) q⟩
end
theorem bor_read {K : KW} {t : SE} (hm : MonoE t) {s : L2.St} {H : Hp} {Q : VK} (h : rdE K (sBor t) s H Q) : rdE K t s H Q := by
  obtain ⟨F, σ, W, A, L, w⟩ := h
  refine ⟨F, frzAll σ, W, List.replicate A.length [], L.lend, hm _ _ _ _ (fun g d W1 q v H1 e1 p => ?_) w⟩
  have nf := nil_flat A.length
  rw [nf] at e1 p
  have e2 : Ext (A.flatten ++ F.X) W H W1 H1 := ⟨e1.same, L.cell.carry e1.same e1.kc e1.cell.v fun _ _ _ h => h, e1.kc⟩
  have own0 : Own [] F.X (Hm H W) := ⟨fun b m => (nomatch m), fun b m => L.xt (List.mem_append_right _ m), fun b m => (nomatch m)⟩
  refine q v H1 e2 ?_
  have gen : Post K A.flatten F.X (Hm H W) (Hm H1 W1) .b2 d v := p.rep own0 e1.same
  cases g with
  | fr =>
    show Post K A.flatten F.X (Hm H W) (Hm H1 W1) (if flatEl d = true then .fr else .b2) d v
    by_cases f : flatEl d = true
    · rw [if_pos f]
      obtain ⟨p0, ev, hn, nd⟩ := p
      refine ⟨p0, ev, hn, ?_⟩
      -- flat parts: only tuples are asked
      have ti : TupsIn (cut (Hm H1 W1) (p0 :: ([] ++ F.X))) (cut (Hm H1 W1) (p0 :: (A.flatten ++ F.X))) := fun b u hb => by
        have key : ∀ o, Hm H1 W1 b = some o → b ∈ A.flatten → OwnO o := fun o e m => by
          obtain ⟨o', e', q⟩ := L.trk b m
          rw [e1.same _ _ e'] at e; cases e
          exact q
        obtain ⟨k1, k2⟩ := cut_some.mp hb
        refine cut_some.mpr ⟨k1, fun m => ?_⟩
        rcases List.mem_cons.mp m with m | m
        · exact k2 (by rw [m]; simp)
        · rcases List.mem_append.mp m with m | m
          · exact key _ k1 m
          · exact k2 (by simp [m])
      cases d with
      | lst ds =>
        obtain ⟨xs, k1, k2⟩ := nd
        exact ⟨xs, k1, RepSs.flat ti _ _ f k2⟩
      | dct kvs =>
        obtain ⟨od, xs, k1, k3⟩ := nd
        exact ⟨od, xs, k1, RepDs.flat ti _ _ f k3⟩
      | _ => exact nd.elim
    · rw [if_neg f]; exact gen
  | st => exact gen
  | fr2 => exact gen
  | b1 => exact gen
  | b2 => exact gen

theorem vBor {X : Cx} {e : Expr} {t : SE} (h : VE X e t) : VE X e (sBor t) := ⟨peI h.pe fun s H Q q => bor_read h.mono q, mono_sBor h.mono⟩
theorem vcBor {X : Cx} {e : Expr} {t : SE} (h : VC X e t) : VC X e (sBor t) :=
  let ⟨r, p, ps, im⟩ := h.ex
  ⟨⟨r, p, ps, fun s H Q q => im _ _ _ (bor_read h.mono q)⟩, mono_sBor h.mono⟩

/-! ### moves -/
section
variable {X : Cx} {pos : Pos}
/-! ### -/
theorem flatten_move {A : List (List Addr)} {i j : Nat} {a b : List Addr} (n : A.flatten.Nodup) (hi : A[i]? = some a) (hj : A[j]? = some b) (ne : i ≠ j) :
    ((A.set i (a ++ b)).set j []).flatten.Nodup ∧ ∀ x, x ∈ ((A.set i (a ++ b)).set j []).flatten ↔ x ∈ A.flatten := by
  have hil : i < A.length := (List.getElem?_eq_some_iff.mp hi).1
  have hjl : j < A.length := (List.getElem?_eq_some_iff.mp hj).1
  have mem : ∀ x, x ∈ ((A.set i (a ++ b)).set j []).flatten ↔ x ∈ A.flatten := fun x => by
    constructor
    · intro h
      obtain ⟨c, hc, hx⟩ := List.mem_flatten.mp h
      obtain ⟨k, hk⟩ := List.mem_iff_getElem?.mp hc
      rcases get_set hk with ⟨_, e, _⟩ | ⟨_, hk⟩
      · subst e; cases hx
      · rcases get_set hk with ⟨_, e, _⟩ | ⟨_, hk⟩
        · subst e
          rcases List.mem_append.mp hx with hx | hx
          · exact flatten_get hi hx
          · exact flatten_get hj hx
        · exact flatten_get hk hx
    · intro h
      obtain ⟨c, hc, hx⟩ := List.mem_flatten.mp h
      obtain ⟨k, hk⟩ := List.mem_iff_getElem?.mp hc
      have atI : ((A.set i (a ++ b)).set j [])[i]? = some (a ++ b) := by
        rw [List.getElem?_set_ne (Ne.symm ne), List.getElem?_set_self hil]
      by_cases e1 : k = i
      · subst e1
        rw [hi] at hk; cases hk
        exact flatten_get atI (List.mem_append_left _ hx)
      · by_cases e2 : k = j
        · subst e2
          rw [hj] at hk; cases hk
          exact flatten_get atI (List.mem_append_right _ hx)
        · refine flatten_get (i := k) (a := c) ?_ hx
          rw [List.getElem?_set_ne (Ne.symm e2), List.getElem?_set_ne (Ne.symm e1)]
          exact hk
  refine ⟨?_, mem⟩
  -- first out of j, then into i
  have n1 : (A.set j []).flatten.Nodup := nodup_setNil n
  have e : (A.set i (a ++ b)).set j [] = (A.set j []).set i (a ++ b) := List.set_comm _ _ ne
  rw [e]
  have hi' : (A.set j [])[i]? = some a := by rw [List.getElem?_set_ne (Ne.symm ne)]; exact hi
  have n2 : ((A.set j []).set i []).flatten.Nodup := nodup_setNil n1
  have e3 : (A.set j []).set i (a ++ b) = ((A.set j []).set i []).set i (a ++ b) := by rw [List.set_set]
  rw [e3]
  refine nodup_setNew n2 (List.nodup_append.mpr ⟨nodup_part n hi, nodup_part n hj, fun x m y m' e => nodup_apart n hi hj ne m (e ▸ m')⟩) fun p m q => ?_
  obtain ⟨c, hc, hx⟩ := List.mem_flatten.mp q
  obtain ⟨k, hk⟩ := List.mem_iff_getElem?.mp hc
  rcases get_set hk with ⟨_, e, _⟩ | ⟨n3, hk⟩
  · subst e; cases hx
  · rcases get_set hk with ⟨_, e, _⟩ | ⟨n4, hk⟩
    · subst e; cases hx
    · rcases List.mem_append.mp m with m | m
      · exact nodup_apart n hi hk n3 m hx
      · exact nodup_apart n hj hk n4 m hx
/-- objects and data put elsewhere, all that was one's own stays so -/
theorem Live.regroup {K : KW} {F : Frm} {σ σ' : SG} {W : Wd} {A A' : List (List Addr)} {s s' : L2.St} {H : Hp} (L : Live K F σ W A s H) (nd : A'.flatten.Nodup) (mem : ∀ x, x ∈ A'.flatten ↔ x ∈ A.flatten) (al : A'.length = σ'.length) (sl : s'.length = σ'.length)
    (slot : ∀ (i : Nat) (sv : SV), σ'[i]? = some (some sv) → ∃ v Ai, s'[i]? = some (some v) ∧ A'[i]? = some Ai ∧ RepO K (cut (Hm H W) (A.flatten ++ F.X)) (Hm H W) sv v Ai) : Live K F σ' W A' s' H := by
  have c : cut (Hm H W) (A'.flatten ++ F.X) = cut (Hm H W) (A.flatten ++ F.X) := by
    funext b
    unfold cut
    have e : b ∈ A'.flatten ++ F.X ↔ b ∈ A.flatten ++ F.X := by simp only [List.mem_append, mem]
    by_cases h : b ∈ A.flatten ++ F.X
    · rw [if_pos h, if_pos (e.mpr h)]
    · rw [if_neg h, if_neg fun z => h (e.mp z)]
  exact ⟨nd, al, sl, fun b o h => ⟨(L.base b o h).1, fun m => (L.base b o h).2 ((mem b).mp m)⟩, L.xb, fun b m => L.trk b ((mem b).mp m), by rw [c]; exact L.cell, L.kc, by rw [c]; exact slot⟩
/-- x = y, y one's own, gone behind it -/
def sMv (i j : Nat) : SS := fun D σ W => match σ[j]? with
  | some (some x) => i ≠ j ∧ i < σ.length ∧ D.nx ((σ.set i (some x)).set j none) W
  | _ => False
theorem vMv {i j : Nat} {x y : Str} {p q : Pos} (hN : X.N.Nodup) (hi : X.N[i]? = some x) (hx : Loc X.env.scope x) (hj : X.N[j]? = some y) (hv : Vis X.env.scope y)
    (hd : (y == ("__debug__" : Str)) = false := by decide) (hcd : (y == ("__classdict__" : Str)) = false := by decide)
    (hs : swapsWith (.Name y q) (some (.Name x p)) pos.line X.env = pure false := by rfl) (hf : X.fn x = true ∨ X.env.scope.names.lookup x = some .local := by first | exact .inl rfl | exact .inr rfl | assumption) : VS X (.Assign [.Name x p] (.Name y q) pos) (sMv i j) := by
  refine ⟨psI (ps_set hN hi hx (pe_var hj hv hd hcd) hs hf) fun Dn s H ⟨F, σ, W, A, L, w⟩ => ?_, fun D D' σ W l w => ?_⟩
  · unfold sMv at w
    split at w
    · rename_i x hx
      obtain ⟨ne, hl, w⟩ := w
      obtain ⟨v, b, h1, h2, h3⟩ := L.slot j x hx
      have hi' : A[i]? = some (A[i]'(by rw [L.al]; exact hl)) := List.getElem?_eq_getElem _
      generalize (A[i]'(by rw [L.al]; exact hl)) = a at hi'
      -- what i held is let go first
      have L1 := L.free i
      have h2' : (A.set i [])[j]? = some b := by rw [List.getElem?_set_ne ne]; exact h2
      have hi2 : (A.set i [])[i]? = some [] := List.getElem?_set_self (by rw [L.al]; exact hl)
      obtain ⟨m1, m2⟩ := flatten_move L1.nd hi2 h2' ne
      rw [List.nil_append, List.set_set] at m1 m2
      have fz := L.frozen (A' := A.set i []) fun b => mem_setNil
      refine ⟨v, h1, w _ _ _ (L1.regroup (σ' := (σ.set i (some x)).set j none) (s' := s.set i (some v)) m1 m2 (by simp [L.al]) (by simp [L.sl]) fun k sv hk => ?_)⟩
      rcases get_set hk with ⟨_, e, _⟩ | ⟨nj, hk⟩
      · cases e
      · rcases get_set hk with ⟨e0, e, _⟩ | ⟨ni, hk⟩
        · cases e
          subst e0
          exact ⟨v, b, List.getElem?_set_self (by rw [L.sl]; exact hl), by rw [List.getElem?_set_ne (Ne.symm ne), List.getElem?_set_self (by rw [L.al]; exact hl)], h3.mono fz (.refl _)⟩
        · obtain ⟨u, c, q1, q2, q3⟩ := L.slot k sv hk
          exact ⟨u, c, by rw [List.getElem?_set_ne ni]; exact q1, by rw [List.getElem?_set_ne nj, List.getElem?_set_ne ni]; exact q2, q3.mono fz (.refl _)⟩
    · exact w.elim
  · unfold sMv at w ⊢
    split at w
    · exact ⟨w.1, w.2.1, l.nx _ _ w.2.2⟩
    · exact w.elim
theorem RowsO.off {K : KW} {G H H' : Hp} : ∀ {g : List (List D)} {ps : List Addr}, (∀ b ∈ ps, H' b = H b) → RowsO K G H g ps → RowsO K G H' g ps
  | [], ps, _, h => h
  | r :: g, ps, hb, ⟨p, qs, xs, e, e2, q, t⟩ => by
    subst e
    exact ⟨p, qs, xs, rfl, (hb p (by simp)).trans e2, q, RowsO.off (fun b m => hb b (List.mem_cons_of_mem _ m)) t⟩
theorem vAppMv {i j : Nat} {x y : Str} {p q apos cpos : Pos} (hN : X.N[i]? = some x) (hv : Vis X.env.scope x) (hNj : X.N[j]? = some y) (hvj : Vis X.env.scope y)
    (hd : (x == ("__debug__" : Str)) = false := by decide) (hcd : (x == ("__classdict__" : Str)) = false := by decide) (hd2 : (y == ("__debug__" : Str)) = false := by decide) (hcd2 : (y == ("__classdict__" : Str)) = false := by decide)
    (hbase : attributeBase (.Name x p) "append" X.env (eval (.Name x p) X.env) = eval (.Name x p) X.env := by rfl)
    (hfew : ((backTo cpos (starEach [.Name y q] X.env)).all (fun x => !x.1) && (backToKw cpos (keywordEach [] X.env)).all (fun x => x.1.isSome)
      && decide (([.Name y q] : List Expr).length + ([] : List Keyword).length + (if ([] : List Keyword).isEmpty then 0 else 1) < 30)) = true := by rfl)
    (hline : (apos.endLine == cpos.line) = true := by rfl) (hse : starEach [.Name y q] X.env = (false, eval (.Name y q) X.env) :: starEach [] X.env := by rfl) (hplain : (backTo cpos (starEach [] X.env)).any (·.1) = false := by rfl)
    (hs : swapsWith (.Call (.Attribute (.Name x p) "append" apos) [.Name y q] [] cpos) none pos.line X.env = pure false := by rfl) :
    VS X (.Expr (.Call (.Attribute (.Name x p) "append" apos) [.Name y q] [] cpos) pos) (sAppMv i j) := by
  refine ⟨psI (ps_expr (pe_bm PySem.F.plainAttrs_list PySem.F.slot_list_append PySem.F.type_list_append mt_append (pe_var hN hv hd hcd) (pa_cons (pe_var hNj hvj hd2 hcd2) pa_nil hse) hbase hfew hline hse hplain) hs) fun Dn s H ⟨F, σ, W, A, L, w⟩ => ?_, fun D D' σ W l w => ?_⟩
  · -- one list grows by the other
    have key : ∀ {sv : SV} {g : List (List D)} {ds : List D}, σ[i]? = some (some sv) → σ[j]? = some (some (.ml ds)) → i ≠ j → g.length < sizeLine →
        (∀ v a, RepO X.kw (cut (Hm H W) (A.flatten ++ F.X)) (Hm H W) sv v a → ∃ p ps, v = .ref p ∧ a = p :: ps ∧ Hm H W p = some (.lst (ps.map V.ref)) ∧ RowsO X.kw (cut (Hm H W) (A.flatten ++ F.X)) (Hm H W) g ps) →
        (endsOf X.kw F Dn).nx ((σ.set i (some (.mg (g ++ [ds])))).set j none) W →
        tDrop (tBM X.kw "list" rAppend (tVar i) (tCons (tVar j) tNil)) Dn s H := fun {sv g ds} hi hj ne hz hg w => by
      obtain ⟨v, a, q1, q2, q3⟩ := L.slot i sv hi
      obtain ⟨u, b, r1, r2, r3⟩ := L.slot j _ hj
      obtain ⟨p, ps, e1, e2, e3, rr⟩ := hg v a q3
      obtain ⟨q, f1, f2, xs, f3, rx⟩ := r3
      subst e1; subst f1
      have pne : q ≠ p := fun z => nodup_apart (p := p) L.nd q2 r2 ne (by rw [e2]; simp) (by rw [f2, z]; simp)
      obtain ⟨m1, m2⟩ := flatten_move L.nd q2 r2 ne
      refine ⟨.ref p, q1, .inl ⟨rfl, _, .of (Hm_of e3)⟩, .ref q, r1, p, _, .ref q, rfl, rfl, Hm_of e3, by rw [List.length_map, ← rr.length]; exact hz, ?_⟩
      have L1 : Live X.kw F ((σ.set i none).set j none) W ((A.set i (a ++ b)).set j []) s H := L.regroup m1 m2 (by simp [L.al]) (by simp [L.sl]) fun k sv' hk => by
        rcases get_set hk with ⟨_, e, _⟩ | ⟨nj, hk⟩
        · cases e
        · rcases get_set hk with ⟨_, e, _⟩ | ⟨ni, hk⟩
          · cases e
          · obtain ⟨u, c, z1, z2, z3⟩ := L.slot k sv' hk
            exact ⟨u, c, z1, by rw [List.getElem?_set_ne nj, List.getElem?_set_ne ni]; exact z2, z3⟩
      have hil : i < A.length := (List.getElem?_eq_some_iff.mp q2).1
      have hA : ((A.set i (a ++ b)).set j [])[i]? = some (a ++ b) := by rw [List.getElem?_set_ne (Ne.symm ne), List.getElem?_set_self hil]
      have ndA := nodup_part L.nd q2
      rw [e2] at ndA
      have ndp := (List.nodup_cons.mp ndA).1
      have ce : cut (Hm H W) (((A.set i (a ++ b)).set j []).flatten ++ F.X) = cut (Hm H W) (A.flatten ++ F.X) := by
        funext z
        unfold cut
        have e : z ∈ ((A.set i (a ++ b)).set j []).flatten ++ F.X ↔ z ∈ A.flatten ++ F.X := by simp only [List.mem_append, m2]
        by_cases h : z ∈ A.flatten ++ F.X
        · rw [if_pos h, if_pos (e.mpr h)]
        · rw [if_neg h, if_neg fun y => h (e.mp y)]
      have fin := L1.wr (o := .lst (ps.map V.ref ++ [.ref q])) (sv := .mg (g ++ [ds])) q1 hA (p := p) (by rw [e2]; simp) trivial (by
        rw [ce]
        refine ⟨p, ps ++ [q], rfl, by rw [e2, f2]; rfl, by rw [Hm_upd_eq e3]; simp, ?_⟩
        refine (rr.off fun z m => Hm_upd_ne fun (e : z = p) => ndp (e ▸ m)).add ?_ rx
        rw [Hm_upd_ne pne]
        exact f3)
      rw [List.set_comm _ _ (Ne.symm ne), List.set_set] at fin
      exact w _ _ _ fin
    unfold sAppMv at w
    split at w
    · rename_i g ds hi hj
      exact key hi hj w.2.1 w.1 (fun v a h => h) w.2.2
    · rename_i ds hi hj
      refine key (g := []) hi hj w.1 (by rw [sizeLine_eq]; decide) (fun v a ⟨p, e, e2, xs, e3, r⟩ => ⟨p, [], e, e2, ?_, rfl⟩) w.2
      simp only [RepSs] at r
      rw [e3, r]
      rfl
    · exact w.elim
  · unfold sAppMv at w ⊢
    split at w
    · exact ⟨w.1, w.2.1, l.nx _ _ w.2.2⟩
    · exact ⟨w.1, l.nx _ _ w.2⟩
    · exact w.elim
end

/-! ### a def -/
def mkSp (n : Nat) (body : SS) : DSp := fun ds W Q => body { nx := fun _ W => Q .st .non W, rt := fun g d W => Q g d W } (ds.map (fun d => some (.val d)) ++ List.replicate (n - ds.length) none) W
theorem mono_mkSp {n : Nat} {body : SS} (m : MonoS body) : MonoD (mkSp n body) := fun ds W Q Q' h w => m { nx := fun _ W => Q .st .non W, rt := fun g d W => Q g d W } { nx := fun _ W => Q' .st .non W, rt := fun g d W => Q' g d W } _ _ ⟨fun _ _ q => h _ _ _ q, fun _ _ _ q => h _ _ _ q, fun _ _ q => q, fun _ _ q => q⟩ w
section
variable {P : Program} {w : World} {K : PySem.W.Frag} {mg : Str → Option Value} {base : Heap}
/-- a def's start as data -/
theorem Live.start {K : KW} {H : Hp} {W : Wd} {Y : List Addr} {ds : List D} {vs : List V} {N : List Str} (cell : CellOk (cut (Hm H W) Y) H W) (hx : ∀ b ∈ Y, (Hm H W b).isSome = true) (r : RepSs K (cut (Hm H W) Y) ds vs) :
    Live K ⟨Hm H W, Y, W⟩ (ds.map (fun d => some (.val d)) ++ List.replicate (N.length - ds.length) none) W (List.replicate (ds.length + (N.length - ds.length)) []) (L2.start N vs) H := by
  have hl := r.length
  have nf := nil_flat (ds.length + (N.length - ds.length))
  refine ⟨by rw [nf]; exact List.nodup_nil, by simp, by unfold L2.start; simp [hl], fun b o h => ⟨h, by rw [nf]; simp⟩, hx, by rw [nf]; simp, by rw [nf]; exact cell, .refl _, fun i sv h => ?_⟩
  rw [nf, List.nil_append]
  by_cases hi : i < ds.length
  · rw [List.getElem?_append_left (by simpa using hi), List.getElem?_map, List.getElem?_eq_getElem hi] at h
    cases h
    obtain ⟨v, h1, h2⟩ := r.get (List.getElem?_eq_getElem hi)
    refine ⟨v, [], ?_, by rw [List.getElem?_replicate, if_pos (by omega)], h2⟩
    unfold L2.start
    rw [List.getElem?_append_left (by rw [List.length_map, ← hl]; exact hi), List.getElem?_map, h1]
    rfl
  · rw [List.getElem?_append_right (by simpa using hi), List.getElem?_replicate] at h
    split at h <;> cases h
/-- the def at a name of the module, with this text -/
structure DefAt (K : PySem.W.Frag) (mg : Str → Option Value) (x : Str) (st : Stmt) : Prop where
  ex : ∃ (f : Addr) (fd : FuncData), Fun K x x st f fd ∧ mg x = some (.ref f)
/-- how a def with n parameters binds -/
def BindN (x : Str) (st : Stmt) (ps : List Str) : Prop := ∀ (kV doc pm : Value) (an : Option Addr) (cdv ct : Value) (us : List Value), us.length = ps.length → bindArgs (PySem.W.fnOf x x (defArgs st) (defBody st) (defScope st) .none kV doc pm an cdv ct) ⟨us, []⟩ = pure (ps.zip us)
theorem fn_mk {x : Str} {st : Stmt} {f : Addr} {fd : FuncData} {N ps : List Str} {k : Nat} {body : SS} (F : Fun K x x st f fd) (S : FnScope N ps (defScope st)) (hm : MonoS body)
    (hb : ∀ (cdv : Value) (A : Around) (outer : List Env) (s : Shared) (H : Hp) (E : XK), Room k (A.deeper (envOfC x (defScope st) s.heap.objs.size f cdv)) → PSs (cxOf CX0 P w K mg base N x (defScope st) f cdv A outer s H E).nox (defBody st) (rdS ⟨w, P, K⟩ body)) :
    FnOk P w K mg base CX0 (k + 1) f fd ps (toSp ⟨w, P, K⟩ ps.length (mkSp N.length body)) := by
  refine F.ok S (fun vs H Q E h => h.1) fun cdv A outer s H vs Q E hr h => ⟨_, hb cdv A outer s H E hr, ?_⟩
  obtain ⟨hl, ds, W, Y, cell, hx, r, q⟩ := h
  have L := Live.start (N := N) cell hx r
  refine ⟨_, _, W, _, L, hm { nx := fun _ W' => ∀ v H', RetP ⟨w, P, K⟩ ⟨Hm H W, Y, W⟩ W' H' .st .non v → Q v H', rt := fun tg d W' => ∀ v H', RetP ⟨w, P, K⟩ ⟨Hm H W, Y, W⟩ W' H' tg d v → Q v H' } _ _ _ ⟨fun σ' W' q A' s' H' L' => ?_, fun tg d W' q v H' rp => q v H' rp, fun _ _ q => q.elim, fun _ _ q => q.elim⟩ q⟩
  exact q .non H' (L'.ret (g := .st) L'.ext0 Post.ofNon)
theorem def_ok {x : Str} {st : Stmt} {N ps : List Str} {k n : Nat} {body : SS} {A0 : Around} (hA : Room (k + 1) A0) (T : DefAt K mg x st) (S : FnScope N ps (defScope st)) (hn : ps.length = n) (bn : BindN x st ps)
    (hb : ∀ (f : Addr) (cdv : Value) (A : Around) (outer : List Env) (s : Shared) (H : Hp) (E : XK), Room k (A.deeper (envOfC x (defScope st) s.heap.objs.size f cdv)) → VSs (cxOf CX0 P w K mg base N x (defScope st) f cdv A outer s H E).nox (defBody st) body)
    : Callee P w K mg base x (k + 1) n (mkSp N.length body) := by
  obtain ⟨f, fd, F, hg⟩ := T.ex
  have hm : MonoS body := (hb f .none A0 [] ({} : Shared) (fun _ => none) (fun _ _ _ => False) (hA.deeper _)).mono
  subst hn
  exact ⟨⟨f, fd, ps, fn_mk F S hm fun cdv A outer s H E hr => (hb f cdv A outer s H E hr).pe, hg, F.kp, F.binds bn⟩, mono_mkSp hm⟩
end
end VL

/-! VL12: short words; chains; the law's draws. -/
namespace VL
open PySem PySem.Spec PyProof.Rows L2

section
variable {X : Cx} {pos : Pos} {a b c : Expr} {ta tb tc : SE} {es : List Expr} {sa : SA} {k : Nat}
theorem Room.units65 {A : Around} (r : Room k A) : A.units + 65 < cLine := by have := r.un; omega
theorem vChain {op op' : CmpOp} {r r' : R2} {f f' : OpD} (ho : OpR X (compareOp op) r) (ho' : OpR X (compareOp op') r') (hf : OpOk X.kw r f) (hf' : OpOk X.kw r' f') (mf : MonoO f) (mf' : MonoO f') (ha : VE X a ta) (hb : VE X b tb) (hc : VE X c tc)
    (h1 : lastMarks [op, op'] [b, c] = false := by rfl) : VE X (.Compare a [op, op'] [b, c] pos) (sChain f f' ta tb tc) :=
  ⟨peI (pe_chain ho ho' ha.pe hb.pe hc.pe h1) fun s H Q h => rdChain hf hf' ha.mono hb.mono hc.mono h, mono_sChain mf mf' ha.mono hb.mono hc.mono⟩
theorem vtChain {op op' : CmpOp} {r r' : R2} {f f' : OpD} (ho : OpR X (compareOp op) r) (ho' : OpR X (compareOp op') r') (hf : OpOk X.kw r f) (hf' : OpOk X.kw r' f') (mf : MonoO f) (mf' : MonoO f') (ha : VE X a ta) (hb : VE X b tb) (hc : VE X c tc)
    (h1 : lastMarks [op, op'] [b, c] = false := by rfl) : VT X (.Compare a [op, op'] [b, c] pos) (sTest (sChain f f' ta tb tc)) := by
  have m := mono_sChain mf mf' ha.mono hb.mono hc.mono
  refine ⟨ptI (pt_chain ho ho' ha.pe hb.pe hc.pe h1) fun s H Q h => ?_, mono_sTest m⟩
  exact rdChain hf hf' ha.mono hb.mono hc.mono (rdTest m h)
/-! ### operators in short -/
theorem vAdd (ha : VE X a ta) (hb : VE X b tb) : VE X (.BinOp a .Add b pos) (sBin dAdd ta tb) := vBin opAdd okAdd mono_dAdd ha hb
theorem vSub (ha : VE X a ta) (hb : VE X b tb) : VE X (.BinOp a .Sub b pos) (sBin dSub ta tb) := vBin op_sub (okI0 fun _ _ _ => by simp [RepS]) mono_dI0 ha hb
theorem vMul (ha : VE X a ta) (hb : VE X b tb) : VE X (.BinOp a .Mult b pos) (sBin dMul ta tb) := vBin opMul okMul mono_dMul ha hb
theorem vFdiv (ha : VE X a ta) (hb : VE X b tb) : VE X (.BinOp a .FloorDiv b pos) (sBin dFdiv ta tb) := vBin op_fdiv (okII fun _ _ _ => by simp [RepS]) mono_dII ha hb
theorem vMod (ha : VE X a ta) (hb : VE X b tb) : VE X (.BinOp a .Mod b pos) (sBin dMod ta tb) := vBin op_mod (okII fun _ _ _ => by simp [RepS]) mono_dII ha hb
theorem vPow (ha : VE X a ta) (hb : VE X b tb) : VE X (.BinOp a .Pow b pos) (sBin dPow ta tb) := vBin op_pow (okII fun _ _ _ => by simp [RepS]) mono_dII ha hb
theorem okLt {K : KW} : OpOk K (rI0 fun i j => .bl (decide (i < j))) dLt := okI0 fun _ _ _ => by simp [RepS]
theorem okLe {K : KW} : OpOk K (rI0 fun i j => .bl (decide (i ≤ j))) dLe := okI0 fun _ _ _ => by simp [RepS]
theorem okGt {K : KW} : OpOk K (rI0 fun i j => .bl (decide (j < i))) dGt := okI0 fun _ _ _ => by simp [RepS]
theorem okGe {K : KW} : OpOk K (rI0 fun i j => .bl (decide (j ≤ i))) dGe := okI0 fun _ _ _ => by simp [RepS]
theorem opIs {X : Cx} : OpR X (compareOp .Is) rIs2 := OpR.or op_isN op_is_bl
theorem opIsNot {X : Cx} : OpR X (compareOp .IsNot) rIsNot2 := OpR.or op_notN op_isnot_bl
end

/-! ### max, min of a tuple of ints -/
theorem reads_ints {h : Heap} : ∀ {ns : List Int} {us : List Value}, Vals (ns.map V.int) us → ∃ as, ReadsAll h us (ns.map PyData.int) as
  | [], _, .nil => ⟨_, .nil⟩
  | n :: ns, _, .cons r t => by
    obtain ⟨k, rfl⟩ := r
    obtain ⟨as, q⟩ := reads_ints (h := h) t
    exact ⟨_, .cons (.int n k) q⟩
theorem alike_ints (ns : List Int) : PySem.W.AlikeAll (ns.map PyData.int) := by
  refine ⟨fun x hx y hy => ?_, fun x hx e => ?_⟩
  · obtain ⟨a, _, rfl⟩ := List.mem_map.mp hx
    obtain ⟨b, _, rfl⟩ := List.mem_map.mp hy
    rfl
  · obtain ⟨a, _, rfl⟩ := List.mem_map.mp hx
    cases e
theorem depth_ints : ∀ ns : List Int, PyData.depthAll (ns.map PyData.int) ≤ 1
  | [] => by simp [PyData.depthAll]
  | n :: ns => by
    have h := depth_ints ns
    simp only [List.map_cons, PyData.depthAll, PyData.depth]
    omega
theorem foldl_max : ∀ (ns : List Int) (n : Int), ns.foldl max n ∈ n :: ns ∧ ∀ y ∈ n :: ns, y ≤ ns.foldl max n
  | [], n => by simp
  | k :: ns, n => by
    obtain ⟨h1, h2⟩ := foldl_max ns (max n k)
    rw [List.foldl_cons]
    have g : max n k ≤ ns.foldl max (max n k) := h2 _ (by simp)
    refine ⟨?_, fun y hy => ?_⟩
    · rcases List.mem_cons.mp h1 with e | e
      · rw [e]
        rcases Int.le_total n k with q | q
        · rw [Int.max_eq_right q]; simp
        · rw [Int.max_eq_left q]; simp
      · simp [e]
    · rcases List.mem_cons.mp hy with e | hy
      · subst e; omega
      · rcases List.mem_cons.mp hy with e | hy
        · subst e; omega
        · exact h2 y (by simp [hy])
theorem foldl_min : ∀ (ns : List Int) (n : Int), ns.foldl min n ∈ n :: ns ∧ ∀ y ∈ n :: ns, ns.foldl min n ≤ y
  | [], n => by simp
  | k :: ns, n => by
    obtain ⟨h1, h2⟩ := foldl_min ns (min n k)
    rw [List.foldl_cons]
    have g : ns.foldl min (min n k) ≤ min n k := h2 _ (by simp)
    refine ⟨?_, fun y hy => ?_⟩
    · rcases List.mem_cons.mp h1 with e | e
      · rw [e]
        rcases Int.le_total n k with q | q
        · rw [Int.min_eq_left q]; simp
        · rw [Int.min_eq_right q]; simp
      · simp [e]
    · rcases List.mem_cons.mp hy with e | hy
      · subst e; omega
      · rcases List.mem_cons.mp hy with e | hy
        · subst e; omega
        · exact h2 y (by simp [hy])
def rBestT (K : KW) (le : Int → Int → Prop) : List V → Hp → VK → Prop := fun vs H Q => ∃ (a : Addr) (ns : List Int), vs = [V.ref a] ∧ (SqL K H a (ns.map V.int) ∨ SqT K H a (ns.map V.int)) ∧ 0 < ns.length ∧ ∀ m, m ∈ ns → (∀ y, y ∈ ns → le y m) → Q (.int m) H
section
variable {X : Cx}
theorem opMax1 (hc : X.calm = true) (hu : X.A.units + 65 < cLine) : CallR X (.builtin "max") (rBestT X.kw fun y m => y ≤ m) := by
  intro pins s σ H vs us Q I r h
  obtain ⟨a, ns, rfl, hs | hs, hne, q⟩ := h
  · exact cr_max hc pins s σ H [.ref a] us Q I r ⟨a, ns, rfl, hs, hne, q⟩
  · obtain ⟨its, rv, hl, _⟩ := I.tuple hs
    rw [Vals.ref1 r]
    cases ns with
    | nil => exact absurd hne (by simp)
    | cons n ns =>
      obtain ⟨as, hr⟩ := reads_ints (h := s.heap) rv
      have dp := depth_ints (n :: ns)
      refine PySem.W.max_tuple_data (x := .int n) (xs := ns.map .int) (I.ok.hd hc) (show s.heap.IsTuple a its.toArray from hl) (by simpa using hr) (alike_ints (n :: ns)) (by have e : PyData.depthAll (.int n :: ns.map .int) ≤ 1 := dp; omega) fun i v h' tk bs _ rd hk => ?_
      rw [PySem.W.maxD_ints] at rd
      obtain ⟨m1, m2⟩ := foldl_max ns n
      cases rd with
      | int _ t => exact ⟨.int _, H, I.kept hk, ⟨t, rfl⟩, q _ m1 m2⟩
theorem opMin1 (hc : X.calm = true) (hu : X.A.units + 65 < cLine) : CallR X (.builtin "min") (rBestT X.kw fun y m => m ≤ y) := by
  intro pins s σ H vs us Q I r h
  obtain ⟨a, ns, rfl, hs | hs, hne, q⟩ := h
  · exact cr_min hc pins s σ H [.ref a] us Q I r ⟨a, ns, rfl, hs, hne, q⟩
  · obtain ⟨its, rv, hl, _⟩ := I.tuple hs
    rw [Vals.ref1 r]
    cases ns with
    | nil => exact absurd hne (by simp)
    | cons n ns =>
      obtain ⟨as, hr⟩ := reads_ints (h := s.heap) rv
      have dp := depth_ints (n :: ns)
      refine PySem.W.min_tuple_data (x := .int n) (xs := ns.map .int) (I.ok.hd hc) (show s.heap.IsTuple a its.toArray from hl) (by simpa using hr) (alike_ints (n :: ns)) (by have e : PyData.depthAll (.int n :: ns.map .int) ≤ 1 := dp; omega) fun i v h' tk bs _ rd hk => ?_
      rw [PySem.W.minD_ints] at rd
      obtain ⟨m1, m2⟩ := foldl_min ns n
      cases rd with
      | int _ t => exact ⟨.int _, H, I.kept hk, ⟨t, rfl⟩, q _ m1 m2⟩
theorem okBest {K : KW} {le : Int → Int → Prop} : FnDOk K (rBestT K le) (dBest le) := by
  intro A Y W0 H0 W H a ds vs R Q p w k
  unfold dBest at w
  split at w
  · obtain ⟨ns, e, e2, w⟩ := w
    subst e
    obtain ⟨v, rfl, p1⟩ := p.one
    obtain ⟨q, xs, e1, q1, r1, s1⟩ := p1.lst a.own a.ext.same
    rw [RepSs.ints] at r1
    subst r1
    exact ⟨q, ns, by rw [e1], .inl (.of (Hm_of q1)), e2, fun m h1 h2 => a.now Post.ofInt (w m h1 h2) k⟩
  · obtain ⟨ns, e, e2, w⟩ := w
    subst e
    obtain ⟨v, rfl, p1⟩ := p.one
    obtain ⟨q, xs, e1, q1, r1, s1⟩ := p1.tup a.own a.ext.same
    rw [RepSs.ints] at r1
    subst r1
    exact ⟨q, ns, by rw [e1], .inr (Same.seqT Same.unHm q1), e2, fun m h1 h2 => a.now Post.ofInt (w m h1 h2) k⟩
  · exact w.elim
theorem okMax1 {K : KW} : FnDOk K (rBestT K fun y m => y ≤ m) dMax1 := okBest
theorem okMin1 {K : KW} : FnDOk K (rBestT K fun y m => m ≤ y) dMin1 := okBest
/-- a constant of the module -/
theorem vGl {x : Str} {v : V} {d : D} {pos : Pos} (hg : Gl X x) (hm : ∃ u, X.mg x = some u ∧ RelV v u) (hr : ∀ H, RepS X.kw H d v) (hd : (x == ("__debug__" : Str)) = false := by decide) : VE X (.Name x pos) (sC d) :=
  let ⟨_, e, r⟩ := hm
  vGlob hg e r hr hd
end
/-! ### room -/
abbrev roomA : Around := callerA
theorem roomA_ok {k : Nat} (h : k ≤ 100) : Room k roomA := Room.mono (k := 100) ⟨rfl, by decide, by decide⟩ h

/-! ### the law's draws -/
/-- what is drawn -/
def takeV (t : Tape) (m : Int) : Int := (if (t.pos : Int) < t.row.length then t.row[t.pos]?.getD 0 else ((t.pos : Int) * 7919 + t.tot * 31 + (t.pos : Int) * t.pos * 17) / 3) % m
def takeSp : DSp := fun ds W Q => match ds, W with
  | [.deal a, .int m], some t => a = t.a ∧ 0 < m ∧ t.pos < 2 ^ 60 ∧ Q .st (.int (takeV t m)) (some { t with pos := t.pos + 1 })
  | _, _ => False
theorem mono_takeSp : MonoD takeSp := by
  intro ds W Q Q' h w
  unfold takeSp at w ⊢
  split at w
  · exact ⟨w.1, w.2.1, w.2.2.1, h _ _ _ w.2.2.2⟩
  · exact w.elim
end VL

/-! VL13: reckoning with the transformers. -/
namespace VL
open PySem PySem.Spec PyProof.Rows L2

/-! ### loops by what holds between two turns -/
theorem forD_ind {f : TgF} {body : SS} {D : SEnds} (I : List VL.D → SG → Wd → Prop) : ∀ {items : List VL.D} {σ : SG} {W : Wd}, I items σ W →
    (∀ x xs σ W (k : SG → Wd → Prop), (∀ σ W, I xs σ W → k σ W) → I (x :: xs) σ W → tgD f .st x σ fun σ' => body { nx := k, ct := k, bk := D.nx, rt := D.rt } σ' W) →
    (∀ σ W, I [] σ W → D.nx σ W) → forD f body items D σ W
  | [], σ, W, h0, hs, hd => hd _ _ h0
  | x :: xs, σ, W, h0, hs, hd => hs x xs σ W _ (fun σ' W' h => forD_ind I h hs hd) h0
/-- over a list of ints as they are -/
theorem upTo_cons (lo : Int) (n : Nat) : upTo lo (n + 1) = .int lo :: upTo (lo + 1) n := by
  unfold upTo
  rw [List.range_succ_eq_map, List.map_cons, List.map_map]
  congr 1
  · simp
  · apply List.map_congr_left
    intro a _
    simp only [Function.comp]
    congr 1
    omega
theorem upTo_zero (lo : Int) : upTo lo 0 = [] := rfl
theorem forD_up {f : TgF} {body : SS} {D : SEnds} (I : Int → SG → Wd → Prop) {hi : Int} : ∀ {n : Nat} {lo : Int} {σ : SG} {W : Wd}, lo + n = hi → I lo σ W →
    (∀ i σ W (k : SG → Wd → Prop), lo ≤ i → i < hi → (∀ σ W, I (i + 1) σ W → k σ W) → I i σ W → tgD f .st (.int i) σ fun σ' => body { nx := k, ct := k, bk := D.nx, rt := D.rt } σ' W) →
    (∀ σ W, I hi σ W → D.nx σ W) → forD f body (upTo lo n) D σ W
  | 0, lo, σ, W, e, h0, hs, hd => by
    have e' : lo = hi := by omega
    subst e'
    exact hd _ _ h0
  | n + 1, lo, σ, W, e, h0, hs, hd => by
    rw [upTo_cons]
    exact hs lo σ W _ (Int.le_refl _) (by omega) (fun σ' W' h => forD_up I (n := n) (lo := lo + 1) (by omega) h (fun i σ W k h1 h2 => hs i σ W k (by omega) h2) hd) h0
theorem forD_nil {f : TgF} {body : SS} {D : SEnds} {σ : SG} {W : Wd} : forD f body [] D σ W = D.nx σ W := rfl
theorem forD_cons {f : TgF} {body : SS} {D : SEnds} {σ : SG} {W : Wd} {x : VL.D} {xs : List VL.D} : forD f body (x :: xs) D σ W = tgD f .st x σ fun σ' => body { nx := forD f body xs D, ct := forD f body xs D, bk := D.nx, rt := D.rt } σ' W := rfl
theorem compD_nil {f : TgF} {tt : SB} {te : SE} {ok : Tg → D → Prop} {σ : SG} {acc : List D} {W : Wd} {Q : List D → Wd → Prop} : compD f tt te ok [] σ acc W Q = Q acc W := rfl
/-- a comprehension whose element is a function of the item -/
theorem compD_map {f : TgF} {te : SE} {ok : Tg → D → Prop} (g : D → D) : ∀ {items : List D} {σ : SG} {acc : List D} {W : Wd} {Q : List D → Wd → Prop}, acc.length + items.length ≤ sizeLine →
    (∀ x ∈ items, ∀ (k : D → Wd → Prop), k (g x) W → tgD f .st x σ fun σ2 => te σ2 W fun t d W2 => ok t d ∧ k d W2) → Q (acc ++ items.map g) W → compD f bYes te ok items σ acc W Q
  | [], σ, acc, W, Q, hz, hs, hq => by simpa [compD] using hq
  | x :: xs, σ, acc, W, Q, hz, hs, hq => by
    have h := hs x (by simp) (fun d W2 => acc.length < sizeLine ∧ compD f bYes te ok xs σ (acc ++ [d]) W2 Q) ⟨by simp at hz; omega, compD_map g (by simp at hz ⊢; omega) (fun y m => hs y (by simp [m])) (by simpa using hq)⟩
    exact h
/-- .. and whose test is one, too -/
theorem compD_filter {f : TgF} {tt : SB} {te : SE} {ok : Tg → D → Prop} (p : D → Bool) (g : D → D) : ∀ {items : List D} {σ : SG} {acc : List D} {W : Wd} {Q : List D → Wd → Prop}, acc.length + items.length ≤ sizeLine →
    (∀ x ∈ items, ∀ (k : D → Wd → Prop) (k2 : Wd → Prop), (p x = true → k (g x) W) → (p x = false → k2 W) → tgD f .st x σ fun σ2 => tt σ2 W fun b W1 => if b = true then te σ2 W1 fun t d W2 => ok t d ∧ k d W2 else k2 W1) →
    Q (acc ++ (items.filter p).map g) W → compD f tt te ok items σ acc W Q
  | [], σ, acc, W, Q, hz, hs, hq => by simpa [compD] using hq
  | x :: xs, σ, acc, W, Q, hz, hs, hq => by
    refine hs x (by simp) (fun d W2 => acc.length < sizeLine ∧ compD f tt te ok xs σ (acc ++ [d]) W2 Q) (fun W2 => compD f tt te ok xs σ acc W2 Q) (fun e => ?_) (fun e => ?_)
    · exact ⟨by simp at hz; omega, compD_filter p g (by simp at hz ⊢; omega) (fun y m => hs y (by simp [m])) (by simpa [List.filter_cons, e] using hq)⟩
    · exact compD_filter p g (by simp at hz ⊢; omega) (fun y m => hs y (by simp [m])) (by simpa [List.filter_cons, e] using hq)
theorem atI_pos {α : Type} {xs : List α} {i : Int} {v : α} (h : 0 ≤ i) (e : xs[i.toNat]? = some v) : atI xs i = some v := by
  have q := atI_nat e
  rw [Int.toNat_of_nonneg h] at q
  exact q
end VL

set_option maxHeartbeats 4000000
/-! VL14: a law's draws: made, taken; the law's own end. -/
namespace VL
open PySem PySem.Spec PyProof.Rows L2
local macro_rules | `(tactic| walk_at "e") => `(tactic| simp only [sSeq, sNil, sOwn, sSet, sFor, sIfS, sFn, aNil, aCons, sC, sVar, sv, sBin, sUn, sTest, sRng1, sRng2, sRngD, sIter, itemsOf, frozenTg, dLst, dTup, dMin2, dF2, dLen, dAbs, dInt, dF1, dIx, dI0, dII, dPow, dMod, dFdiv, dAdd, dMul, dSub, dLt, dLe, dGt, dGe, dSum,
  ownOf, sto, stoB, est, el, tgD, allSto, sApp, sPut, putML, List.getElem?_cons_succ, List.getElem?_cons_zero, List.set_cons_succ, List.set_cons_zero, List.map_cons, List.map_nil, List.all_cons, List.all_nil, Bool.and_true, Bool.true_and, if_true, if_false, and_true, true_and, List.length_nil, List.length_cons, reduceIte, Bool.false_eq_true, decide_eq_true_eq])
def b_deal3 : SS := sSeq (sOwn 1 (sFn dLst (aNil))) (sSeq (sFor (sRng1 (aCons (sFn dMin2 (aCons (sFn dLen (aCons (sVar 0) (aNil))) (aCons (sC (.int 63)) (aNil)))) (aNil))) (.name 2) (sSeq (sSet 3 (sFn dAbs (aCons (sFn dInt (aCons (sBin dIx (sVar 0) (sVar 2)) (aNil))) (aNil)))) (sIfS (sTest (sBin dGe (sVar 3) (sBin dPow (sC (.int 10)) (sC (.int 18))))) (sFor (sRng1 (aCons (sC (.int 40)) (aNil))) (.name 4) (sIfS (sTest (sBin dGt (sVar 3) (sC (.int 0)))) (sSeq (sApp 1 (sBin dMod (sVar 3) (sC (.int 1009)))) (sSet 3 (sBin dFdiv (sVar 3) (sC (.int 1009))))) (sNil))) (sSeq (sSet 3 (sBin dAdd (sBin dAdd (sBin dMul (sBin dMod (sVar 3) (sC (.int 2147483629))) (sC (.int 48271))) (sBin dMul (sVar 2) (sC (.int 69621)))) (sC (.int 11)))) (sFor (sRng1 (aCons (sC (.int 5)) (aNil))) (.name 4) (sSeq (sSet 3 (sBin dMod (sBin dAdd (sBin dAdd (sBin dMul (sVar 3) (sC (.int 16807))) (sC (.int 12345))) (sVar 4)) (sC (.int 2147483647)))) (sApp 1 (sBin dMod (sBin dFdiv (sVar 3) (sC (.int 7))) (sC (.int 1009)))))))))) (sSet 5 (sBin dAdd (sFn dSum (aCons (sVar 1) (aNil))) (sFn dLen (aCons (sVar 0) (aNil))))))
theorem deal3 (ns : List Int) (h : ns.length ≤ 63) (D : SEnds) (hD : ∀ (row : List Int) tot o2 o3 o4, D.nx [some (.val (.scr ns)), some (.ml (row.map .int)), o2, o3, o4, some (.val (.int tot))] none) : b_deal3 D [some (.val (.scr ns)), none, none, none, none, none] none := by
  unfold b_deal3
  walk_at "e"
  have e63 : (if (63 : Int) < (ns.length : Int) then (63 : Int) else (ns.length : Int)) = (ns.length : Int) := by rw [if_neg (by omega)]
  rw [e63]
  refine ⟨Nat.zero_le _, by omega, by omega, ?_⟩
  refine forD_up (hi := (ns.length : Int)) (fun i σ W => W = none ∧ ∃ (row : List Int) (o2 o3 o4 : Option SV), σ = [some (.val (.scr ns)), some (.ml (row.map .int)), o2, o3, o4, none] ∧ (row.length : Int) ≤ 40 * i) (by omega) ⟨rfl, [], none, none, none, rfl, by simp⟩ ?_ ?_
  · rintro i σ W k h0 h1 hk ⟨rfl, row, o2, o3, o4, rfl, hl⟩
    have hx : ∃ n, atI ns i = some n := ⟨_, atI_pos h0 (List.getElem?_eq_getElem (show i.toNat < ns.length by omega))⟩
    obtain ⟨n, hn⟩ := hx
    walk_at "e"
    refine ⟨n, hn, ⟨by decide, by decide, by decide⟩, ?_⟩
    generalize (if n < 0 then -n else n) = c0
    split
    · rename_i hc
      refine ⟨by decide, by decide, ?_⟩
      refine forD_up (hi := 40) (fun j σ W => W = none ∧ ∃ (row : List Int) (o2 o4 : Option SV) (c : Int), σ = [some (.val (.scr ns)), some (.ml (row.map .int)), o2, some (.val (.int c)), o4, none] ∧ (row.length : Int) ≤ 40 * i + j) (by decide) ⟨rfl, row, _, o4, _, rfl, by omega⟩ ?_ ?_
      · rintro j σ W k2 g0 g1 hk2 ⟨rfl, row, o2, o4, c, rfl, hl⟩
        walk_at "e"
        split
        · refine ⟨by decide, ?_, ⟨by decide, by decide⟩, ?_⟩
          · rw [List.length_map, sizeLine_eq]; omega
          · exact hk2 _ _ ⟨rfl, row ++ [c % 1009], _, _, _, by rw [List.map_append]; rfl, by rw [List.length_append]; simp; omega⟩
        · exact hk2 _ _ ⟨rfl, row, _, _, _, rfl, by omega⟩
      · rintro σ W ⟨rfl, row, o2, o4, c, rfl, hl⟩
        exact hk _ _ ⟨rfl, row, _, _, _, rfl, by omega⟩
    · refine ⟨by decide, .inr (by decide), .inr (by decide), by decide, by decide, ?_⟩
      refine forD_up (hi := 5) (fun j σ W => W = none ∧ ∃ (row : List Int) (o2 o4 : Option SV) (c : Int), σ = [some (.val (.scr ns)), some (.ml (row.map .int)), o2, some (.val (.int c)), o4, none] ∧ (row.length : Int) ≤ 40 * i + j) (by decide) ⟨rfl, row, _, o4, _, rfl, by omega⟩ ?_ ?_
      · rintro j σ W k2 g0 g1 hk2 ⟨rfl, row, o2, o4, c, rfl, hl⟩
        walk_at "e"
        refine ⟨.inr (by decide), by decide, ⟨by decide, by decide⟩, by decide, ?_, ?_⟩
        · rw [List.length_map, sizeLine_eq]; omega
        · exact hk2 _ _ ⟨rfl, row ++ [_], _, _, _, by rw [List.map_append]; rfl, by rw [List.length_append]; simp; omega⟩
      · rintro σ W ⟨rfl, row, o2, o4, c, rfl, hl⟩
        exact hk _ _ ⟨rfl, row, _, _, _, rfl, by omega⟩
  · rintro σ W ⟨rfl, row, o2, o3, o4, rfl, hl⟩
    walk_at "e"
    exact ⟨row, rfl, hD row _ _ _ _⟩

/-! ### one draw -/
def takeRd (K : PySem.W.Frag) : TS :=
  tSeq (tAsg (tOp (rIxL K) (tOp (rIxL K) (tVar 0) (tC (.int 1))) (tC (.int 0))) (gName 2))
  (tSeq (tAsg (tOp (rI0 fun i j => .int (i + j)) (tVar 2) (tC (.int 1))) (gSub (tOp (rIxL K) (tVar 0) (tC (.int 1))) (tC (.int 0)) rSetL))
  (tSeq (tIfS (tTest (tOp (rI0 fun i j => .bl (decide (i < j))) (tVar 2) (tCB (fun xs H Q => ∃ p ys, xs = [.ref p] ∧ (SqL K H p ys ∨ SqT K H p ys) ∧ Q (.int ys.length) H) (tCons (tOp (rIxL K) (tVar 0) (tC (.int 0))) tNil))))
    (tRet (tOp (rI (fun _ j => 0 < j) fun i j => .int (i % j)) (tOp (rIxL K) (tOp (rIxL K) (tVar 0) (tC (.int 0))) (tVar 2)) (tVar 1))) tNext)
  (tRet (tOp (rI (fun _ j => 0 < j) fun i j => .int (i % j)) (tOp (rI CDiv fun i j => .int (i / j)) (tOp (rI0 fun i j => .int (i + j)) (tOp (rI0 fun i j => .int (i + j)) (tOp (rI CMul fun i j => .int (i * j)) (tVar 2) (tC (.int 7919)))
    (tOp (rI CMul fun i j => .int (i * j)) (tOp (rIxL K) (tVar 0) (tC (.int 2))) (tC (.int 31)))) (tOp (rI CMul fun i j => .int (i * j)) (tOp (rI CMul fun i j => .int (i * j)) (tVar 2) (tVar 2)) (tC (.int 17)))) (tC (.int 3))) (tVar 1)))))
theorem take_read {K : KW} {vs : List V} {H : Hp} {Q : VK} {E : XK} (h : toSp K 2 takeSp vs H Q E) : takeRd K { nx := fun _ H' => Q .non H', rt := Q } (L2.start ["deal", "many", "at"] vs) H := by
  obtain ⟨hl, ds, W, Y, cell, hx, rep, w⟩ := h
  unfold takeSp at w
  split at w
  · rename_i a m t
    obtain ⟨ea, hm, hp, w⟩ := w
    subst ea
    have ev : vs = [.ref t.a, .int m] := by
      simp only [RepSs, RepS] at rep
      obtain ⟨x, r, e1, e2, y, r2, e3, e4, e5⟩ := rep
      rw [e1, e2, e3, e4, e5]
    subst ev
    obtain ⟨r, c1, c2, c3⟩ := cell
    have k1 := Hm_of (cut_some.mp c1).1
    have k2 := Hm_of (cut_some.mp c2).1
    have n1 := (Hm_some.mp (cut_some.mp c1).1).2
    have n2 := (Hm_some.mp (cut_some.mp c2).1).2
    have st : L2.start ["deal", "many", "at"] [V.ref t.a, V.int m] = [some (.ref t.a), some (.int m), none] := rfl
    rw [st]
    refine ⟨.ref t.a, rfl, t.a, _, 1, .ref t.c, rfl, rfl, .of k1, rfl, t.c, _, 0, .int t.pos, rfl, rfl, .of c3, rfl, ?_⟩
    refine ⟨.int t.pos, rfl, t.pos, 1, rfl, rfl, .ref t.a, rfl, t.a, _, 1, .ref t.c, rfl, rfl, .of k1, rfl, t.c, _, 0, 0, rfl, rfl, c3, rfl, ?_⟩
    -- the counter is one more
    generalize hH : upd H t.c (.lst ([V.int t.pos].set 0 (.int (t.pos + 1)))) = H'
    have u1 : H' t.a = some (.lst [.ref r, .ref t.c, .int t.tot]) := by rw [← hH, upd_ne n1]; exact k1
    have u2 : H' r = some (.lst (t.row.map V.int)) := by rw [← hH, upd_ne n2]; exact k2
    have u3 : H' t.c = some (.lst [.int (t.pos + 1)]) := by rw [← hH, upd_same]; rfl
    have same : Hm H' (some { t with pos := t.pos + 1 }) = Hm H (some t) := by
      funext b
      show (if b = t.c then none else H' b) = (if b = t.c then none else H b)
      by_cases e : b = t.c
      · rw [if_pos e, if_pos e]
      · rw [if_neg e, if_neg e, ← hH, upd_ne e]
    have fin : ∀ x : Int, x % m = takeV t m → Q (.int (x % m)) H' := fun x hx => by
      rw [hx]
      refine w _ _ ⟨?_, ?_, ⟨t.pos + 1, rfl⟩, ?_⟩
      · rw [same]; exact .refl _
      · rw [same]
        exact ⟨r, c1, c2, by show H' t.c = _; rw [u3]; rfl⟩
      · show RepS K _ _ _
        simp [RepS]
    refine ⟨.int t.pos, rfl, .ref t.a, rfl, t.a, _, 0, .ref r, rfl, rfl, .of u1, rfl, r, _, rfl, .inl (.of u2), t.pos, _, rfl, rfl, _, rfl, ?_⟩
    by_cases hlt : (t.pos : Int) < ((t.row.map V.int).length : Nat)
    · rw [decide_eq_true hlt]
      refine iteT ?_
      rw [List.length_map] at hlt
      have hlt' : t.pos < t.row.length := by omega
      refine ⟨.ref t.a, rfl, t.a, _, 0, .ref r, rfl, rfl, .of u1, rfl, .int t.pos, rfl, r, _, t.pos, .int t.row[t.pos], rfl, rfl, .of u2, ?_, .int m, rfl, _, m, rfl, rfl, hm, ?_⟩
      · exact atI_nat (by rw [List.getElem?_map, List.getElem?_eq_getElem hlt']; rfl)
      · exact fin _ (by unfold takeV; rw [if_pos hlt, List.getElem?_eq_getElem hlt']; rfl)
    · rw [decide_eq_false hlt]
      refine iteF ?_
      refine ⟨.int t.pos, rfl, _, _, rfl, rfl, .inr ⟨by decide, by decide⟩, .ref t.a, rfl, t.a, _, 2, .int t.tot, rfl, rfl, .of u1, rfl, _, _, rfl, rfl, .inr ⟨by decide, by decide⟩, _, _, rfl, rfl, .int t.pos, rfl, .int t.pos, rfl, _, _, rfl, rfl, .inl ⟨by omega, by omega⟩,
        _, _, rfl, rfl, .inr ⟨by decide, by decide⟩, _, _, rfl, rfl, _, _, rfl, rfl, ⟨by decide, by decide⟩, .int m, rfl, _, m, rfl, rfl, hm, ?_⟩
      exact fin _ (by unfold takeV; rw [if_neg (by rw [List.length_map] at hlt; exact hlt)])
  · exact w.elim
section
variable {P : Program} {w : World} {K : PySem.W.Frag} {mg : Str → Option Value} {base : Heap}
theorem take_mk {st : Stmt} (T : DefAt K mg "_law_take" st) (S : FnScope ["deal", "many", "at"] ["deal", "many"] (defScope st)) (bn : BindN "_law_take" st ["deal", "many"])
    (hb : ∀ (f : Addr) (cdv : Value) (A : Around) (outer : List Env) (s : Shared) (H : Hp) (E : XK), PSs (cxOf CX0 P w K mg base ["deal", "many", "at"] "_law_take" (defScope st) f cdv A outer s H E).nox (defBody st) (takeRd K)) : Callee P w K mg base "_law_take" 1 2 takeSp := by
  obtain ⟨f, fd, F, hg⟩ := T.ex
  exact ⟨⟨f, fd, _, F.ok (k := 0) S (fun vs H Q E h => h.1) fun cdv A outer s H vs Q E hr h => ⟨_, hb f cdv A outer s H E, take_read h⟩, hg, F.kp, F.binds bn⟩, mono_takeSp⟩

/-! ### the draws made -/
def spDeal (K : PySem.W.Frag) : Sp := fun vs H Q _ => ∃ (a : Addr) (ns : List Int), vs = [.ref a] ∧ SqL K H a (ns.map V.int) ∧ ns.length ≤ 63 ∧
  ∀ (row : List Int) (tot : Int) (p r c : Addr) (H' : Hp), Same H H' → H p = none → H r = none → H c = none → p ≠ c → r ≠ c → H' p = some (.lst [.ref r, .ref c, .int tot]) → H' r = some (.lst (row.map V.int)) → H' c = some (.lst [.int 0]) → Q (.ref p) H'
def dealRd (K : KW) (t1 t2 t3 : SS) : TS := tSeq (rdS K t1) (tSeq (rdS K t2) (tSeq (rdS K t3) (tRet (tLst (tCons (tVar 1) (tCons (tLst (tCons (tC (.int 0)) tNil)) (tCons (tVar 5) tNil)))))))
theorem rd_seq {K : KW} {t u : SS} (ht : MonoS t) {Dn : Ends} {s : L2.St} {H : Hp} (h : rdS K (sSeq t u) Dn s H) : tSeq (rdS K t) (rdS K u) Dn s H := by
  obtain ⟨F, σ, W, A, L, w⟩ := h
  refine ⟨F, σ, W, A, L, ht { endsOf K F Dn with nx := u (endsOf K F Dn) } _ σ W ⟨fun σ' W' q A' s' H' L' => ?_, fun _ _ _ q => q, fun _ _ q => q, fun _ _ q => q⟩ w⟩
  exact ⟨F, σ', W', A', L', q⟩
theorem deal_read {t1 t2 t3 : SS} (e : sSeq t1 (sSeq t2 t3) = b_deal3) (m1 : MonoS t1) (m2 : MonoS t2) {vs : List V} {H : Hp} {Q : VK} {E : XK} (h : spDeal K vs H Q E) : dealRd (⟨w, P, K⟩ : KW) t1 t2 t3 { nx := fun _ H' => Q .non H', rt := Q } (L2.start ["script", "row", "k", "cell", "turn", "total"] vs) H := by
  obtain ⟨a, ns, rfl, hS, hl, q⟩ := h
  have L := Live.start (K := (⟨w, P, K⟩ : KW)) (H := H) (W := none) (Y := []) (ds := [.scr ns]) (vs := [.ref a]) (N := ["script", "row", "k", "cell", "turn", "total"]) trivial (fun b m => (nomatch m)) (by
    simp only [RepSs, RepS]
    exact ⟨_, _, rfl, ⟨a, rfl, by rw [cut_nil]; exact hS, hl⟩, rfl⟩)
  -- the three statements as one, then the list
  have key : rdS (⟨w, P, K⟩ : KW) (sSeq t1 (sSeq t2 t3)) { nx := tRet (tLst (tCons (tVar 1) (tCons (tLst (tCons (tC (.int 0)) tNil)) (tCons (tVar 5) tNil)))) { nx := fun _ H' => Q .non H', rt := Q }, rt := Q } (L2.start ["script", "row", "k", "cell", "turn", "total"] [.ref a]) H := by
    rw [e]
    refine ⟨_, _, none, _, L, deal3 ns hl _ fun row tot o2 o3 o4 A' s' H' L' => ?_⟩
    obtain ⟨v1, a1, z1, z2, p1, z3, z4, xs, z5, z6⟩ := L'.slot 1 _ rfl
    obtain ⟨v5, a5, y1, y2, y3⟩ := L'.slot 5 _ rfl
    have ex : xs = row.map V.int := RepSs.ints.mp z6
    have e5 : v5 = .int tot := by simpa [RepO, RepS] using y3
    subst ex; subst e5
    have hn : H p1 = none := by
      cases hq : H p1 with
      | none => rfl
      | some o => exact absurd (flatten_get z2 (by rw [z4]; simp)) (L'.base p1 o hq).2
    have sm : Same H H' := fun b o ho => (L'.base b o ho).1
    have z5' : H' p1 = some (.lst (row.map V.int)) := z5
    refine ⟨v1, z1, ⟨by show 1 ≤ sizeLine; rw [sizeLine_eq]; decide, fun c hc => ⟨.int tot, y1, by show 3 ≤ sizeLine; rw [sizeLine_eq]; decide, fun p hp => ?_⟩⟩⟩
    have hcp : p ≠ c := fun z => by rw [z, upd_same] at hp; cases hp
    have hp1c : p1 ≠ c := fun z => by rw [z, hc] at z5'; cases z5'
    have hp1p : p1 ≠ p := fun z => by rw [← z, upd_ne hp1c, z5'] at hp; cases hp
    have hpn : H' p = none := by rw [upd_ne hcp] at hp; exact hp
    refine q row tot p p1 c _ (fun b o ho => ?_) (sm.free hpn) hn (sm.free hc) hcp hp1c ?_ ?_ ?_
    · have hb := sm b o ho
      rw [upd_ne (ne_of_none hb hpn), upd_ne (ne_of_none hb hc)]
      exact hb
    · rw [upd_same, z3]
    · rw [upd_ne hp1p, upd_ne hp1c]; exact z5'
    · rw [upd_ne hcp.symm, upd_same]
  have k2 := rd_seq m1 key
  obtain ⟨F, σ, W, A, L0, w0⟩ := k2
  refine ⟨F, σ, W, A, L0, ?_⟩
  refine m1 _ _ _ _ ?_ w0
  exact ⟨fun σ' W' hq A' s' H' L' => rd_seq m2 (hq A' s' H' L'), fun _ _ _ hq => hq, fun _ _ hq => hq, fun _ _ hq => hq⟩
theorem deal_mk {st : Stmt} {t1 t2 t3 : SS} (T : DefAt K mg "_law_deal" st) (S : FnScope ["script", "row", "k", "cell", "turn", "total"] ["script"] (defScope st)) (e : sSeq t1 (sSeq t2 t3) = b_deal3) (m1 : MonoS t1) (m2 : MonoS t2)
    (hb : ∀ (f : Addr) (cdv : Value) (A : Around) (outer : List Env) (s : Shared) (H : Hp) (E : XK), Room 0 (A.deeper (envOfC "_law_deal" (defScope st) s.heap.objs.size f cdv)) → PSs (cxOf CX0 P w K mg base ["script", "row", "k", "cell", "turn", "total"] "_law_deal" (defScope st) f cdv A outer s H E).nox (defBody st) (dealRd (⟨w, P, K⟩ : KW) t1 t2 t3)) :
    ∃ f fd, FnOk P w K mg base CX0 1 f fd ["script"] (spDeal K) ∧ mg "_law_deal" = some (.ref f) ∧ PySem.W.keepIn K (.ref f) = true ∧ (BindN "_law_deal" st ["script"] → Binds K fd ["script"] []) := by
  obtain ⟨f, fd, F, hg⟩ := T.ex
  exact ⟨f, fd, F.ok (k := 0) S (fun vs H Q E ⟨a, ns, h, _⟩ => by rw [h]; rfl) fun cdv A outer s H vs Q E hr h => ⟨_, hb f cdv A outer s H E hr, deal_read e m1 m2 h⟩, hg, F.kp, fun bn => F.binds bn⟩

/-! ### the law -/
def spLaw (K : PySem.W.Frag) : Sp := fun vs H Q _ => ∃ (a : Addr) (ns : List Int), vs = [.ref a] ∧ SqL K H a (ns.map V.int) ∧ ns.length ≤ 63 ∧ ∀ H', Q (.bl true) H'
/-- what the law's text behind its first row is to give -/
def LawOk (n : Nat) (body : SS) : Prop := ∀ (ns row : List Int) (tot : Int) (a c : Addr), ns.length ≤ 63 →
  body { nx := fun _ _ => False, rt := fun _ d _ => d = .bl true } (some (.val (.scr ns)) :: some (.val (.deal a)) :: List.replicate n none) (some ⟨a, c, row, tot, 0⟩)
theorem law_read {N : List Str} {n : Nat} {body : SS} (hN : N.length = n + 2) (hm : MonoS body) (hL : LawOk n body) {vs : List V} {H : Hp} {Q : VK} {E : XK} (h : spLaw K vs H Q E) :
    tSeq (tAsg (tCall (spDeal K) [] E0 (tCons (tVar 0) tNil)) (gName 1)) (rdS (⟨w, P, K⟩ : KW) body) { nx := fun _ H' => Q .non H', rt := Q } (L2.start N vs) H := by
  obtain ⟨a, ns, rfl, hS, hl, q⟩ := h
  have st : L2.start N [V.ref a] = some (.ref a) :: List.replicate (n + 1) none := by
    unfold L2.start
    rw [hN]
    rfl
  rw [st]
  refine ⟨.ref a, rfl, a, ns, rfl, hS, hl, fun row tot p r c H' sm np nr nc pc rc hp hr hc => ?_⟩
  have ws := hL ns row tot p c hl
  have sm' : Same H (Hm H' (some ⟨p, c, row, tot, 0⟩)) := fun b o h => Hm_some.mpr ⟨sm _ _ h, fun z => by
    have z' : b = c := z
    rw [z', nc] at h; cases h⟩
  have nf := nil_flat (n + 2)
  have L : Live (⟨w, P, K⟩ : KW) ⟨Hm H' (some ⟨p, c, row, tot, 0⟩), [], some ⟨p, c, row, tot, 0⟩⟩ (some (.val (.scr ns)) :: some (.val (.deal p)) :: List.replicate n none) (some ⟨p, c, row, tot, 0⟩) (List.replicate (n + 2) []) (some (.ref a) :: some (.ref p) :: List.replicate n none) H' := by
    refine ⟨by rw [nf]; exact List.nodup_nil, by simp, by simp, fun b o h => ⟨h, by rw [nf]; simp⟩, fun b m => (nomatch m), by rw [nf]; simp, ?_, .refl _, fun i sv h => ?_⟩
    · rw [nf]
      show CellOk (cut (Hm H' _) []) _ _
      rw [cut_nil]
      exact ⟨r, Hm_some.mpr ⟨hp, pc⟩, Hm_some.mpr ⟨hr, rc⟩, hc⟩
    · rw [nf]
      show ∃ v Ai, _ ∧ _ ∧ RepO (⟨w, P, K⟩ : KW) (cut (Hm H' _) []) _ _ _ _
      rw [cut_nil]
      match i, h with
      | 0, h =>
        cases h
        exact ⟨.ref a, [], rfl, rfl, by show RepS (⟨w, P, K⟩ : KW) _ _ _; simp only [RepS]; exact ⟨a, rfl, sm'.seq hS, hl⟩⟩
      | 1, h =>
        cases h
        exact ⟨.ref p, [], rfl, rfl, by show RepS (⟨w, P, K⟩ : KW) _ _ _; simp [RepS]⟩
      | i + 2, h =>
        have h' : (List.replicate n (none : Option SV))[i]? = some (some sv) := h
        rw [List.getElem?_replicate] at h'
        split at h' <;> cases h'
  refine ⟨_, _, _, _, L, ?_⟩
  refine hm _ _ _ _ ?_ ws
  refine ⟨fun _ _ h => h.elim, fun tg d W' h v H2 rp => ?_, fun _ _ h => h.elim, fun _ _ h => h.elim⟩
  have e : d = .bl true := h
  subst e
  have ev : v = .bl true := by
    have r4 := rp.post
    cases tg with
    | fr => obtain ⟨_, _, _, nd⟩ := r4; exact nd.elim
    | st => simpa [RetPost, RepS] using r4
    | fr2 => simpa [RetPost, RepS] using r4
    | b1 => simpa [RetPost, RepS] using r4
    | b2 => simpa [RetPost, RepS] using r4
  subst ev
  exact q H2
end

section
variable {P : Program} {w : World} {K : PySem.W.Frag} {mg : Str → Option Value} {base : Heap}
theorem def_at {h : Heap} {x : Str} {st : Stmt} {f : Addr} {oc : Value} {od an : Option Addr} {osl : Array (Option Value)} {kV doc pm cdv ct : Value} (X : K.In h) (G : h.Ns mainGlobals mg) (a : PySem.W.nsIn K mainGlobals x = some (some (.ref f)))
    (l : K.lookup f = some ⟨oc, od, .func (PySem.W.fnOf x x (defArgs st) (defBody st) (defScope st) .none kV doc pm an cdv ct), osl⟩) (c : PySem.W.codeIn K cdv x = true) (k : PySem.W.keepIn K (.ref f) = true) : DefAt K mg x st :=
  ⟨f, _, fun_mk l c k, PySem.W.mg_of X G a⟩
theorem con_at {h : Heap} {x : Str} {v : V} {u : Value} (X : K.In h) (G : h.Ns mainGlobals mg) (a : PySem.W.nsIn K mainGlobals x = some (some u)) (r : RelV v u) : ∃ u, mg x = some u ∧ RelV v u := ⟨u, PySem.W.mg_of X G a, r⟩
theorem callee_false {x : Str} {st : Stmt} {ps : List Str} {k n : Nat} (T : DefAt K mg x st) (bn : BindN x st ps) : Callee P w K mg base x k n (fun _ _ _ => False) := by
  obtain ⟨f, fd, F, hg⟩ := T.ex
  exact ⟨⟨f, fd, ps, ⟨fun vs H Q E ⟨_, _, _, _, _, _, _, h⟩ => h.elim, fun _ _ _ _ _ _ _ _ _ _ _ _ _ ⟨_, _, _, _, _, _, _, h⟩ => h.elim⟩, hg, F.kp, F.binds bn⟩, fun _ _ _ _ _ h => h⟩
theorem law_fin {l : PySem.W.OpenLaw} {st : Stmt} {N : List Str} {fa : Addr} {k n : Nat} {body : SS} (T : DefAt K mg "law" st) (hfa : mg "law" = some (.ref fa)) (S : FnScope N ["script"] (defScope st)) (bn : BindN "law" st ["script"]) (hN : N.length = n + 2) (hm : MonoS body) (hL : LawOk n body)
    (hb : ∀ (base : Heap) (f : Addr) (cdv : Value) (A : Around) (outer : List Env) (s : Shared) (H : Hp) (E : XK), Room k (A.deeper (envOfC "law" (defScope st) s.heap.objs.size f cdv)) →
      PSs (cxOf CX0 l.prog w K mg base N "law" (defScope st) f cdv A outer s H E).nox (defBody st) (tSeq (tAsg (tCall (spDeal K) [] E0 (tCons (tVar 0) tNil)) (gName 1)) (rdS (⟨w, l.prog, K⟩ : KW) body))) :
    ∃ fd : FuncData, (∀ (s : Shared) (v : Value), BindsTo s fd ⟨[v], []⟩ [("script", v)]) ∧ ∀ base : Heap, K.In base → base.Ns mainGlobals mg → FnOk l.prog w K mg base CX0 (k + 1) fa fd ["script"] (spLaw K) := by
  obtain ⟨f, fd, F, hg⟩ := T.ex
  have e := hfa.symm.trans hg
  cases e
  obtain ⟨oc, od, kV, doc, pm, an, cdv, ct, osl, efd, lk, hcd⟩ := F.ex
  refine ⟨fd, fun s v => .of_eq ?_, fun base _ _ => ?_⟩
  · rw [efd]
    exact bn kV doc pm an cdv ct [v] rfl
  · exact F.ok S (fun vs H Q E ⟨a, ns, h, _⟩ => by rw [h]; rfl) fun cdv A outer s H vs Q E hr h => ⟨_, hb base fa cdv A outer s H E hr, law_read hN hm hL h⟩
end
end VL

/-! VD1: dicts whose keys are tuples, nested: the rules of HandS' kind. -/
namespace VL
open PySem PySem.Spec PyProof.Rows L2

/-! ### the entries -/
def entAt (xs : List Ent) (k : NK) : Option V := (xs.find? fun x => decide (x.1 = k)).map (·.2.2)
def putE (xs : List Ent) (k : NK) (b : Addr) (v : V) : List Ent := if (entAt xs k).isSome then xs.map (fun x => if x.1 = k then (x.1, x.2.1, v) else x) else xs ++ [(k, b, v)]
abbrev RawR (xs : List Ent) (raw : List (NK × Addr × Value)) : Prop := Paired (fun (p : Ent) (q : NK × Addr × Value) => p.1 = q.1 ∧ p.2.1 = q.2.1 ∧ RelV p.2.2 q.2.2) xs raw
theorem entAt_cons {x : Ent} {xs : List Ent} {k : NK} : entAt (x :: xs) k = if x.1 = k then some x.2.2 else entAt xs k := by
  unfold entAt
  rw [List.find?_cons]
  by_cases h : x.1 = k <;> simp [h]
theorem atKey_cons {x : NK × Addr × Value} {xs : List (NK × Addr × Value)} {k : NK} : atKey (x :: xs) k = if x.1 = k then some x.2 else atKey xs k := by
  unfold atKey
  rw [List.find?_cons]
  by_cases h : x.1 = k <;> simp [h]
theorem RawR.val {xs : List Ent} {raw : List (NK × Addr × Value)} (r : RawR xs raw) (k : NK) : RelO (entAt xs k) ((atKey raw k).map (·.2)) := by
  induction r with
  | nil => exact True.intro
  | @cons p q ps qs h t ih =>
    rw [entAt_cons, atKey_cons, ← h.1]
    by_cases e : p.1 = k
    · rw [if_pos e, if_pos e]; exact h.2.2
    · rw [if_neg e, if_neg e]; exact ih
theorem RawR.put {xs : List Ent} {raw : List (NK × Addr × Value)} (r : RawR xs raw) (k : NK) {b : Addr} {v : V} {u : Value} (ry : RelV v u) : RawR (putE xs k b v) (storedH raw k b u) := by
  have e : (entAt xs k).isSome = (atKey raw k).isSome := by rw [(r.val k).isSome_eq, Option.isSome_map]
  unfold putE storedH
  rw [e]
  by_cases q : (atKey raw k).isSome = true
  · rw [if_pos q, if_pos q]
    clear e q
    induction r with
    | nil => exact .nil
    | @cons p q ps qs h t ih =>
      rw [List.map_cons, List.map_cons]
      refine .cons ?_ ih
      unfold putAt
      by_cases e : p.1 = k
      · rw [if_pos e, if_pos (h.1.symm.trans e)]; exact ⟨h.1, h.2.1, ry⟩
      · rw [if_neg e, if_neg (fun z => e (h.1.trans z))]; exact h
  · rw [if_neg q, if_neg q]; exact Paired.snoc r ⟨rfl, rfl, ry⟩
theorem putE_length (xs : List Ent) (k : NK) (b : Addr) (v : V) : (putE xs k b v).length ≤ xs.length + 1 := by
  unfold putE
  split
  · rw [List.length_map]; omega
  · rw [List.length_append]; simp

/-! ### keys in the heap -/
section
variable {X : Cx} {pins : List (Addr × Obj)} {σ : L2.St} {H : Hp} {s : Shared}
mutual
theorem nested_of (I : Inv X pins σ H s) : ∀ (d : D) (k : NK) (v : V) (u : Value), keyOf d = some k → RepS X.kw H d v → RelV v u → NestedIs s.heap k u
  | .non, k, v, u, e, r, h => by
    unfold keyOf at e; cases e
    simp only [RepS] at r; subst r
    cases (show u = Value.none from h); exact .none
  | .bl b, k, v, u, e, r, h => by
    unfold keyOf at e; cases e
    simp only [RepS] at r; subst r
    cases (show u = Value.bool b from h); exact .bool rfl
  | .int i, k, v, u, e, r, h => by
    unfold keyOf at e; cases e
    simp only [RepS] at r; subst r
    obtain ⟨t, rfl⟩ := (show ∃ t, u = Value.int i t from h); exact .int i t
  | .str x, k, v, u, e, r, h => by
    unfold keyOf at e; cases e
    simp only [RepS] at r; subst r
    obtain ⟨t, rfl⟩ := (show ∃ t, u = Value.str x t from h); exact .text x t
  | .tup ds, k, v, u, e, r, h => by
    unfold keyOf at e
    cases e2 : keysOf ds with
    | none => rw [e2] at e; cases e
    | some ks =>
      rw [e2] at e; cases e
      simp only [RepS] at r
      obtain ⟨a, xs, rfl, ha, hx⟩ := r
      cases (show u = Value.ref a from h)
      obtain ⟨_, its, rv, o, h1, h2, n, h3⟩ := (show ObjOk X.prog X.w H s.heap a (.tup xs) from I.hok a _ ha)
      exact .tup h1 h2 h3 (by simpa using nesteds_of I ds ks xs its e2 hx rv)
  | .lst _, _, _, _, e, _, _ => by unfold keyOf at e; cases e
  | .dct _, _, _, _, e, _, _ => by unfold keyOf at e; cases e
  | .deal _, _, _, _, e, _, _ => by unfold keyOf at e; cases e
  | .fn _, _, _, _, e, _, _ => by unfold keyOf at e; cases e
  | .scr _, _, _, _, e, _, _ => by unfold keyOf at e; cases e
theorem nesteds_of (I : Inv X pins σ H s) : ∀ (ds : List D) (ks : List NK) (vs : List V) (us : List Value), keysOf ds = some ks → RepSs X.kw H ds vs → Vals vs us → NestedAll s.heap ks us
  | [], ks, vs, us, e, r, h => by
    unfold keysOf at e; cases e
    simp only [RepSs] at r; subst r
    cases h; exact .nil
  | d :: ds, ks, vs, us, e, r, h => by
    unfold keysOf at e
    cases e1 : keyOf d with
    | none => rw [e1] at e; cases e
    | some k =>
      cases e2 : keysOf ds with
      | none => rw [e1, e2] at e; cases e
      | some ks2 =>
        rw [e1, e2] at e; cases e
        simp only [RepSs] at r
        obtain ⟨x, r', rfl, h1, h2⟩ := r
        cases h with
        | cons a b => exact .cons (nested_of I d k x _ e1 h1 a) (nesteds_of I ds ks2 r' _ e2 h2 b)
end
/-- at b stands the key k -/
def IsKey (K : KW) (H : Hp) (k : NK) (b : Addr) : Prop := ∃ d, KeyOk d k ∧ RepS K H d (.ref b)
theorem IsKey.mono {K : KW} {H H' : Hp} {k : NK} {b : Addr} (h : Same H H') : IsKey K H k b → IsKey K H' k b := fun ⟨d, e, r⟩ => ⟨d, e, r.mono h⟩
theorem IsKey.is {k : NK} {b : Addr} (I : Inv X pins σ H s) (h : IsKey X.kw H k b) : (nestedKind X.prog X.w).is s.heap k b := by
  obtain ⟨d, ⟨e, dp, _⟩, r⟩ := h
  exact ⟨nested_of I d k _ _ e r rfl, dp⟩
/-- the keys of these entries stand -/
def KeysIn (K : KW) (H : Hp) (xs : List Ent) : Prop := ∀ x ∈ xs, IsKey K H x.1 x.2.1
theorem KeysIn.mono {K : KW} {H H' : Hp} {xs : List Ent} (h : Same H H') : KeysIn K H xs → KeysIn K H' xs := fun q x m => (q x m).mono h
theorem RepDs.keys {K : KW} {H : Hp} : ∀ {kvs : List (D × D)} {xs : List Ent}, RepDs K H kvs xs → KeysIn K H xs
  | [], xs, h => by simp only [RepDs] at h; subst h; intro x m; cases m
  | (k, d) :: ds, xs, h => by
    simp only [RepDs] at h
    obtain ⟨nk, b, v, r, rfl, h0, h1, h2, h3⟩ := h
    intro x m
    cases m with
    | head => exact ⟨k, h0, h1⟩
    | tail _ m => exact RepDs.keys h3 x m
theorem kd_rd {a : Addr} {xs : List Ent} (I : Inv X pins σ H s) (e : Rd H a (KdO X.kw a xs)) (ks : KeysIn X.kw H xs) : xs.length ≤ sizeLine ∧ (a == sysModules) = false ∧ ∃ raw, RawR xs raw ∧ s.heap.DictOfH (nestedKind X.prog X.w) a raw := by
  obtain ⟨⟨h1, h2, raw, r, o, es, ep, h3, h4, h5, h6, h7⟩, _⟩ := (show ObjOk X.prog X.w H s.heap a (KdO X.kw a xs) from e.ok I.hok)
  refine ⟨h1, h2, raw, r, o, es, ep, h3, h4, h5, h6, fun x hx => ?_, h7⟩
  have all : ∀ {l : List Ent} {m : List (NK × Addr × Value)}, RawR l m → (∀ y ∈ l, IsKey X.kw H y.1 y.2.1) → ∀ x ∈ m, (nestedKind X.prog X.w).is s.heap x.1 x.2.1 := by
    intro l m q
    induction q with
    | nil => intro _ x hx; exact nomatch hx
    | @cons p q ps qs hq t ih =>
      intro hl x hx
      rcases List.mem_cons.mp hx with e | hx
      · subst e
        rw [← hq.1, ← hq.2.1]
        exact (hl p (by simp)).is I
      · exact ih (fun y m => hl y (List.mem_cons_of_mem _ m)) x hx
  exact all r ks x hx
theorem kd_ok {P : Program} {w : World} {K : PySem.W.Frag} {H' : Hp} {h' : Heap} {a : Addr} {xs : List Ent} {raw : List (NK × Addr × Value)} (z : xs.length ≤ sizeLine) (hd : (a == sysModules) = false) (r : RawR xs raw) (dd : h'.DictOfH (nestedKind P w) a raw) :
    ObjOk P w H' h' a (KdO ⟨w, P, K⟩ a xs) := by
  obtain ⟨o, es, ep, h3, h4, h5, h6, _, h7⟩ := dd
  exact ⟨⟨z, hd, raw, r, o, es, ep, h3, h4, h5, h6, h7⟩, ⟨o, h3⟩, fun h1 h2 ⟨z, hd, raw, r, o, es, ep, g3, g4, g5, g6, g7⟩ k => ⟨z, hd, raw, r, o, es, ep, k _ g3, g4, g5, g6, g7⟩⟩
theorem room8 {A : Around} (hu : A.units + 9 < cLine) {P : Program} {w : World} : (nestedKind P w).room A.in1 := by
  show A.units + 1 + 8 < cLine; omega
variable {a b : Addr} {xs : List Ent} {k : NK} {v : V} {u r : Value} {A : Around} {E : Value → Shared → Prop}
theorem k_getItem {Q : Value → Shared → Prop} (hu : A.units + 9 < cLine) (I : Inv X pins σ H s) (e : Rd H a (KdO X.kw a xs)) (ks : KeysIn X.kw H xs) (kb : IsKey X.kw H k b) (l : entAt xs k = some v) (h : ∀ w' s', Inv X pins σ H s' → RelV v w' → Q w' s') :
    wpAny (model X.prog X.w) A (getItem (.ref a) (.ref b)) Q E s := by
  obtain ⟨z, hd, raw, rel, dd⟩ := kd_rd I e ks
  obtain ⟨w', hw, rw'⟩ := RelO.some_of (v := v) (o := (atKey raw k).map (·.2)) (by rw [← l]; exact rel.val k)
  obtain ⟨p, hp, hp2⟩ := Option.map_eq_some_iff.mp hw
  refine wpAny_getItem_heap (room8 hu) (kb.is I) dd hp ?_
  rw [hp2]
  exact h w' _ (I.tok _) rw'
theorem k_in {Q : Value → Shared → Prop} (hu : A.units + 9 < cLine) (I : Inv X pins σ H s) (e : Rd H a (KdO X.kw a xs)) (ks : KeysIn X.kw H xs) (kb : IsKey X.kw H k b) (h : ∀ s', Inv X pins σ H s' → Q (.bool (entAt xs k).isSome) s') :
    wpAny (model X.prog X.w) A (compareOp .In (.ref b) (.ref a)) Q E s := by
  obtain ⟨z, hd, raw, rel, dd⟩ := kd_rd I e ks
  refine wpAny_in_heap (room8 hu) (kb.is I) hd dd ?_
  have q := (rel.val k).isSome_eq
  rw [Option.isSome_map] at q
  rw [← q]
  exact h _ (I.tok _)
theorem k_notIn {Q : Value → Shared → Prop} (hu : A.units + 9 < cLine) (I : Inv X pins σ H s) (e : Rd H a (KdO X.kw a xs)) (ks : KeysIn X.kw H xs) (kb : IsKey X.kw H k b) (h : ∀ s', Inv X pins σ H s' → Q (.bool (!(entAt xs k).isSome)) s') :
    wpAny (model X.prog X.w) A (compareOp .NotIn (.ref b) (.ref a)) Q E s := by
  obtain ⟨z, hd, raw, rel, dd⟩ := kd_rd I e ks
  refine wpAny_notIn_heap (room8 hu) (kb.is I) hd dd ?_
  have q := (rel.val k).isSome_eq
  rw [Option.isSome_map] at q
  rw [← q]
  exact h _ (I.tok _)
theorem k_setItem {Q : Unit → Shared → Prop} (hu : A.units + 9 < cLine) (I : Inv X pins σ H s) (e : H a = some (KdO X.kw a xs)) (ks : KeysIn X.kw H xs) (kb : IsKey X.kw H k b) (hl : xs.length < sizeLine) (rv : RelV v r) (h : ∀ s', Inv X pins σ (upd H a (KdO X.kw a (putE xs k b v))) s' → Q () s') :
    wpAny (model X.prog X.w) A (setItem (.ref a) (.ref b) r) Q E s := by
  obtain ⟨z, hd, raw, rel, dd⟩ := kd_rd I (.inl e) ks
  have hz : raw.length ≤ sizeLine := by rw [← Paired.length rel]; exact z
  have hl' : (putE xs k b v).length ≤ sizeLine := by have := putE_length xs k b v; omega
  refine wpAny_setItem_heap (hsz := hz) (room8 hu) (kb.is I) dd fun h' dd' hs => h _ ?_
  have he : ∃ q, h'.get? a = some q := let ⟨q, _, _, hq, _⟩ := dd'; ⟨q, hq⟩
  exact d_write I (by rw [e]; exact True.intro) hs he (kd_ok hl' hd (rel.put k rv) dd')
theorem k_dictSet {Q : Unit → Shared → Prop} (hu : A.units + 8 < cLine) (I : Inv X pins σ H s) (e : H a = some (KdO X.kw a xs)) (ks : KeysIn X.kw H xs) (kb : IsKey X.kw H k b) (hl : xs.length < sizeLine) (rv : RelV v r) (h : ∀ s', Inv X pins σ (upd H a (KdO X.kw a (putE xs k b v))) s' → Q () s') :
    wpAny (model X.prog X.w) A (dictSet a (.ref b) r) Q E s := by
  obtain ⟨z, hd, raw, rel, dd⟩ := kd_rd I (.inl e) ks
  have hz : raw.length ≤ sizeLine := by rw [← Paired.length rel]; exact z
  have hl' : (putE xs k b v).length ≤ sizeLine := by have := putE_length xs k b v; omega
  refine wpAny_dictSet_heap (hsz := hz) (show (nestedKind X.prog X.w).room A from hu) (kb.is I) dd fun h' dd' hs => h _ ?_
  have he : ∃ q, h'.get? a = some q := let ⟨q, _, _, hq, _⟩ := dd'; ⟨q, hq⟩
  exact d_write I (by rw [e]; exact True.intro) hs he (kd_ok hl' hd (rel.put k rv) dd')
theorem k_get1 {Q : Value → Shared → Prop} (hu : A.units + 9 < cLine) (I : Inv X pins σ H s) (e : Rd H a (KdO X.kw a xs)) (ks : KeysIn X.kw H xs) (kb : IsKey X.kw H k b) (h : ∀ w' s', Inv X pins σ H s' → RelV ((entAt xs k).getD .non) w' → Q w' s') :
    wpAny (model X.prog X.w) A (call (.builtin "dict.get") [.ref a, .ref b]) Q E s := by
  obtain ⟨z, hd, raw, rel, dd⟩ := kd_rd I e ks
  refine call_meetsIn PySem.F.slot_dict_get dd.typeIs PySem.F.entry_dict_get (PySem.F.args_dict_get_2 _ _) (meetsH_dict_get (nestedKind X.prog X.w) a b hd) ⟨room8 hu, k, raw, kb.is I, dd, h _ _ (I.tok _) ?_⟩
  exact (rel.val k).getD rfl
theorem k_get2 {d : V} {Q : Value → Shared → Prop} (hu : A.units + 9 < cLine) (I : Inv X pins σ H s) (e : Rd H a (KdO X.kw a xs)) (ks : KeysIn X.kw H xs) (kb : IsKey X.kw H k b) (rd : RelV d r) (h : ∀ w' s', Inv X pins σ H s' → RelV ((entAt xs k).getD d) w' → Q w' s') :
    wpAny (model X.prog X.w) A (call (.builtin "dict.get") [.ref a, .ref b, r]) Q E s := by
  obtain ⟨z, hd, raw, rel, dd⟩ := kd_rd I e ks
  refine call_meetsIn PySem.F.slot_dict_get dd.typeIs PySem.F.entry_dict_get (PySem.F.args_dict_get_3 _ _ _) (meetsH_dict_get_default (nestedKind X.prog X.w) a b hd r) ⟨room8 hu, k, raw, kb.is I, dd, h _ _ (I.tok _) ?_⟩
  exact (rel.val k).getD rd
theorem k_len {Q : Value → Shared → Prop} (I : Inv X pins σ H s) (e : Rd H a (KdO X.kw a xs)) (ks : KeysIn X.kw H xs) (h : ∀ t s', Inv X pins σ H s' → Q (.int xs.length t) s') : wpAny (model X.prog X.w) A (call (.builtin "len") [.ref a]) Q E s := by
  obtain ⟨z, hd, raw, rel, dd⟩ := kd_rd I e ks
  have dk : s.heap.DictKeyed (nestedKind X.prog X.w) a (pairsH raw) := ⟨raw, dd, rfl⟩
  have hl : (pairsH raw).length = xs.length := by rw [pairsH_length, Paired.length rel]
  refine PyProof.Rows.call_len_slot (n := (pairsH raw).length) dk.typeIs F.slot_dict_len (fun Q' hq => len_keyed hd dk hq) (by omega) (by rw [sizeLine_eq] at z; omega) ?_
  rw [hl]
  exact h _ _ (I.tok _)
theorem k_typeIs (I : Inv X pins σ H s) (e : Rd H a (KdO X.kw a xs)) : s.TypeIs (.ref a) "dict" ∧ (∀ b, Value.ref a = .ref b → ∃ ob, s.heap.get? b = some ob ∧ ob.dict = none) := by
  obtain ⟨⟨h1, h2, raw, r, o, es, ep, h3, h4, h5, h6, h7⟩, _⟩ := (show ObjOk X.prog X.w H s.heap a (KdO X.kw a xs) from e.ok I.hok)
  refine ⟨⟨o, h3, h4.1⟩, fun b q => ?_⟩
  cases q
  exact ⟨o, h3, h4.2.1⟩
theorem kd_empty {P : Program} {w : World} {K : PySem.W.Frag} {H : Hp} (h : Heap) (hb : sysModules < h.objs.size) : ObjOk P w H (h.push { cls := .type "dict", data := .dict #[] }) h.objs.size (KdO ⟨w, P, K⟩ h.objs.size []) :=
  kd_ok (Nat.zero_le _) (beq_eq_false_iff_ne.mpr (Ne.symm (Nat.ne_of_lt hb))) .nil (Heap.DictOfH.new h)
end
end VL

/-! VD2: dicts as data: where they come from, look-ups, a store. -/
namespace VL
open PySem PySem.Spec PyProof.Rows L2

/-! ### dicts as data -/
def dAt (kvs : List (D × D)) (k : NK) : Option D := (kvs.find? fun p => decide (keyOf p.1 = some k)).map (·.2)
def dPut (kvs : List (D × D)) (kd : D) (k : NK) (d : D) : List (D × D) := if (dAt kvs k).isSome then kvs.map (fun p => if keyOf p.1 = some k then (p.1, d) else p) else kvs ++ [(kd, d)]
theorem dAt_cons {p : D × D} {kvs : List (D × D)} {k : NK} : dAt (p :: kvs) k = if keyOf p.1 = some k then some p.2 else dAt kvs k := by
  unfold dAt
  rw [List.find?_cons]
  by_cases h : keyOf p.1 = some k <;> simp [h]
theorem RepDs.length {K : KW} {H : Hp} : ∀ {kvs : List (D × D)} {xs : List Ent}, RepDs K H kvs xs → xs.length = kvs.length
  | [], xs, h => by simp only [RepDs] at h; subst h; rfl
  | (k, d) :: ds, xs, h => by
    simp only [RepDs] at h
    obtain ⟨nk, b, v, r, rfl, h0, h1, h2, h3⟩ := h
    simp [RepDs.length h3]
theorem RepDs.at {K : KW} {H : Hp} (k : NK) : ∀ {kvs : List (D × D)} {xs : List Ent}, RepDs K H kvs xs → (dAt kvs k = none ∧ entAt xs k = none) ∨ ∃ d v, dAt kvs k = some d ∧ entAt xs k = some v ∧ RepS K H d v
  | [], xs, h => by simp only [RepDs] at h; subst h; exact .inl ⟨rfl, rfl⟩
  | (kd, d) :: ds, xs, h => by
    simp only [RepDs] at h
    obtain ⟨nk, b, v, r, rfl, h0, h1, h2, h3⟩ := h
    rw [dAt_cons, entAt_cons, h0.1]
    by_cases e : nk = k
    · subst e
      exact .inr ⟨d, v, by simp, by simp, h2⟩
    · have e' : ¬ (some nk = some k) := fun z => e (Option.some.inj z)
      rw [if_neg e', if_neg e]
      exact RepDs.at k h3
theorem RepDs.isSome {K : KW} {H : Hp} {k : NK} {kvs : List (D × D)} {xs : List Ent} (h : RepDs K H kvs xs) : (entAt xs k).isSome = (dAt kvs k).isSome := by
  rcases h.at k with ⟨a, b⟩ | ⟨d, v, a, b, _⟩ <;> rw [a, b] <;> rfl
theorem RepDs.put {K : KW} {H : Hp} {kd d : D} {k : NK} {b : Addr} {v : V} {kvs : List (D × D)} {xs : List Ent} (h : RepDs K H kvs xs) (hk : KeyOk kd k) (rk : RepS K H kd (.ref b)) (rv : RepS K H d v) : RepDs K H (dPut kvs kd k d) (putE xs k b v) := by
  unfold dPut putE
  rw [h.isSome]
  by_cases q : (dAt kvs k).isSome = true
  · rw [if_pos q, if_pos q]
    clear q
    induction kvs generalizing xs with
    | nil => simp only [RepDs] at h; subst h; simp [RepDs]
    | cons p kvs ih =>
      obtain ⟨k0, d0⟩ := p
      simp only [RepDs] at h
      obtain ⟨nk, b0, v0, r, rfl, h0, h1, h2, h3⟩ := h
      simp only [List.map_cons]
      by_cases e : nk = k
      · subst e
        rw [if_pos h0.1, if_pos rfl]
        simp only [RepDs]
        exact ⟨nk, b0, v, _, rfl, h0, h1, rv, ih h3⟩
      · have e' : ¬ (keyOf k0 = some k) := fun z => e (Option.some.inj (h0.1.symm.trans z))
        rw [if_neg e', if_neg e]
        simp only [RepDs]
        exact ⟨nk, b0, v0, _, rfl, h0, h1, h2, ih h3⟩
  · rw [if_neg q, if_neg q]
    clear q
    induction kvs generalizing xs with
    | nil =>
      simp only [RepDs] at h; subst h
      simp only [List.nil_append, RepDs]
      exact ⟨k, b, v, [], rfl, hk, rk, rv, rfl⟩
    | cons p kvs ih =>
      obtain ⟨k0, d0⟩ := p
      simp only [RepDs] at h
      obtain ⟨nk, b0, v0, r, rfl, h0, h1, h2, h3⟩ := h
      simp only [List.cons_append, RepDs]
      exact ⟨nk, b0, v0, _, rfl, h0, h1, h2, ih h3⟩
theorem dPut_length (kvs : List (D × D)) (kd : D) (k : NK) (d : D) : (dPut kvs kd k d).length ≤ kvs.length + 1 := by
  unfold dPut
  split
  · rw [List.length_map]; omega
  · simp

/-! ### where a dict comes from -/
abbrev SDs := SG → Wd → (Tg → List (D × D) → Wd → Prop) → Prop
def MonoDs (t : SDs) : Prop := ∀ σ W Q Q', (∀ g b W', Q g b W' → Q' g b W') → t σ W Q → t σ W Q'
def DPost (K : KW) (A X : List Addr) (H : Hp) (g : Tg) (kvs : List (D × D)) (v : V) : Prop := ∃ a xs, v = .ref a ∧ Rd H a (KdO K a xs) ∧ RepDs K (cut H X) kvs xs ∧ (el g = .st → RepDs K (cut H (A ++ X)) kvs xs)
def rdDs (K : KW) (t : SDs) : TE := fun s H Q => ∃ F σ W A, Live K F σ W A s H ∧ t σ W fun g kvs W1 => ∀ v H1, Ext (A.flatten ++ F.X) W H W1 H1 → DPost K A.flatten F.X (Hm H1 W1) g kvs v → Q v H1
structure VDs (X : Cx) (e : Expr) (t : SDs) : Prop where
  pe : PE X e (rdDs X.kw t)
  mono : MonoDs t
theorem el_or (g : Tg) : el g = .st ∨ el g = .b2 := by cases g <;> simp [el]
theorem Rd.mono {H H' : Hp} (e : Same H H') {a : Addr} {o : HO} (h : Rd H a o) : Rd H' a o := by
  rcases h with h | ⟨u, h⟩
  · exact .inl (e _ _ h)
  · exact .inr ⟨u, e _ _ h⟩
theorem DPost.mono {K : KW} {A X : List Addr} {H H' : Hp} {g : Tg} {kvs : List (D × D)} {v : V} (e : Same H H') : DPost K A X H g kvs v → DPost K A X H' g kvs v := fun ⟨a, xs, h1, h2, h3, h4⟩ =>
  ⟨a, xs, h1, Rd.mono e h2, RepDs.mono (Same.cut e _) _ _ h3, fun z => RepDs.mono (Same.cut e _) _ _ (h4 z)⟩
/-- a value that is a dict -/
def sDv (t : SE) : SDs := fun σ W Q => t σ W fun g d W1 => match d with
  | .dct kvs => Q g kvs W1
  | _ => False
theorem mono_sDv {t : SE} (m : MonoE t) : MonoDs (sDv t) := fun σ W Q Q' h w => m _ _ _ _ (fun g d W1 q => by
  cases d <;> first | exact h _ _ _ q | exact q.elim) w
theorem Post.dct {K : KW} {A X : List Addr} {H0 H : Hp} {g : Tg} {kvs : List (D × D)} {v : V} (O : Own A X H0) (hs : Same H0 H) (p : Post K A X H0 H g (.dct kvs) v) : DPost K A X H g kvs v := by
  cases g with
  | st =>
    have p' : RepS K (cut H (A ++ X)) (.dct kvs) v := p
    simp only [RepS] at p'
    obtain ⟨a, od, xs, rfl, h1, h2⟩ := p'
    exact ⟨a, xs, rfl, .inr ⟨od, (cut_some.mp h1).1⟩, RepDs.mono (Same.cutl fun b => mem_snd) _ _ h2, fun _ => h2⟩
  | fr =>
    obtain ⟨p0, rfl, hn, od, xs, h1, h2⟩ := p
    refine ⟨p0, xs, rfl, .inr ⟨od, h1⟩, RepDs.mono (Same.cutl fun b m => List.mem_cons_of_mem _ (mem_snd m)) _ _ h2, fun _ => RepDs.mono (Same.cutl fun b m => List.mem_cons_of_mem _ m) _ _ h2⟩
  | fr2 => obtain ⟨_, _, _, e, _⟩ := p; cases e
  | b1 =>
    obtain ⟨p0, rfl, hm, od, xs, h1, h2⟩ := p
    exact ⟨p0, xs, rfl, .inr ⟨od, h1⟩, RepDs.mono (Same.cutl fun b => mem_snd) _ _ h2, fun _ => h2⟩
  | b2 =>
    have p' : RepS K (cut H X) (.dct kvs) v := p
    simp only [RepS] at p'
    obtain ⟨a, od, xs, rfl, h1, h2⟩ := p'
    exact ⟨a, xs, rfl, .inr ⟨od, (cut_some.mp h1).1⟩, h2, fun z => nomatch z⟩
section
variable {X : Cx} {e o i : Expr} {pos : Pos}
theorem vdV {t : SE} (h : VE X e t) : VDs X e (sDv t) := by
  refine ⟨peI h.pe fun s H Q ⟨F, σ, W, A, L, w⟩ => ?_, mono_sDv h.mono⟩
  refine L.one h.mono w fun g d W1 v H1 w1 L1 e1 p => ?_
  cases d with
  | dct kvs => exact w1 v H1 e1 (p.dct L.own e1.same)
  | _ => exact w1.elim
/-- one's own dict -/
def sDm (i : Nat) : SDs := fun σ W Q => match σ[i]? with
  | some (some (.md kvs)) => Q .st kvs W
  | _ => False
theorem mono_sDm (i : Nat) : MonoDs (sDm i) := fun σ W Q Q' h w => by
  unfold sDm at w ⊢
  split at w
  · exact h _ _ _ w
  · exact w.elim
theorem vdM (i : Nat) {x : Str} (hN : X.N[i]? = some x := by rfl) (hv : Vis X.env.scope x := by first | exact .inl rfl | exact .inr (.inl rfl) | exact .inr (.inr rfl)) (hd : (x == ("__debug__" : Str)) = false := by decide) (hcd : (x == ("__classdict__" : Str)) = false := by decide) : VDs X (.Name x pos) (sDm i) := by
  refine ⟨peI (pe_var (i := i) hN hv hd hcd) fun s H Q ⟨F, σ, W, A, L, w⟩ => ?_, mono_sDm i⟩
  unfold sDm at w
  split at w
  · rename_i kvs hx
    obtain ⟨v, a, h1, h2, p, xs, h3, h4, h5, h6⟩ := L.slot i _ hx
    refine ⟨v, h1, w v H L.ext0 ⟨p, xs, h3, .inl h5, RepDs.mono (Same.cutl fun b => mem_snd) _ _ h6, fun _ => h6⟩⟩
  · exact w.elim
theorem rdH {H : Hp} {W : Wd} {a : Addr} {o : HO} (h : Rd (Hm H W) a o) : Rd H a o := Rd.mono Same.unHm h
theorem KeyOk.ref {K : KW} {A Y : List Addr} {H0 H : Hp} {g : Tg} {d : D} {v : V} {k : NK} (hk : KeyOk d k) (O : Own A Y H0) (hs : Same H0 H) (p : Post K A Y H0 H g d v) : ∃ b, v = .ref b ∧ RepS K (cut H (A ++ Y)) d v := by
  have kp : RepS K (cut H (A ++ Y)) d v := by
    have f := flat_key d k hk.1
    cases g with
    | st => exact p
    | fr => exact p.keep O hs (show sto .fr d from rfl)
    | fr2 => exact p.keep O hs (show sto .fr2 d from rfl)
    | b1 => exact p.keep O hs (show sto .b1 d from f)
    | b2 => exact p.keep O hs (show sto .b2 d from f)
  obtain ⟨_, _, ht⟩ := hk
  cases d with
  | tup ds =>
    have kp' := kp
    simp only [RepS] at kp'
    obtain ⟨a, xs, e, _⟩ := kp'
    exact ⟨a, e, kp⟩
  | _ => simp [isTup] at ht
end
end VL

/-! VD3: the rules of dicts: look-ups, a store, a new one, given up, locked for a statement. -/
namespace VL
open PySem PySem.Spec PyProof.Rows L2
section
variable {X : Cx} {e o i f : Expr} {pos : Pos} {td : SDs} {tk tx : SE}
/-- the dict, then the key -/
theorem Live.dk {K : KW} {F : Frm} {σ : SG} {W : Wd} {A : List (List Addr)} {s : L2.St} {H : Hp} (L : Live K F σ W A s H) (md : MonoDs td) {R : Tg → List (D × D) → Wd → Prop} (w : td σ W R) {Q : V → Hp → Prop}
    (h : ∀ g kvs W1 v H1, R g kvs W1 → Live K F σ W1 A s H1 → Ext (A.flatten ++ F.X) W H W1 H1 → DPost K A.flatten F.X (Hm H1 W1) g kvs v → Q v H1) : rdDs K td s H Q :=
  ⟨F, σ, W, A, L, md _ _ _ _ (fun g kvs W1 r v H1 e p => h g kvs W1 v H1 r (L.step e) e p) w⟩
def sDGet (td : SDs) (tk : SE) : SE := fun σ W Q => td σ W fun g kvs W1 => tk σ W1 fun _ kd W2 => ∃ k d, KeyOk kd k ∧ dAt kvs k = some d ∧ Q (el g) d W2
theorem mono_sDGet (md : MonoDs td) (mk : MonoE tk) : MonoE (sDGet td tk) := fun σ W Q Q' h w => md _ _ _ _ (fun g kvs W1 q => mk _ _ _ _ (fun _ kd W2 ⟨k, d, a, b, c⟩ => ⟨k, d, a, b, h _ _ _ c⟩) q) w
theorem DPost.elem {K : KW} {A Y : List Addr} {H0 H : Hp} {g : Tg} {kvs : List (D × D)} {v : V} {k : NK} {d : D} (p : DPost K A Y H g kvs v) (h : dAt kvs k = some d) : ∃ a xs x, v = .ref a ∧ Rd H a (KdO K a xs) ∧ KeysIn K H xs ∧ entAt xs k = some x ∧ Post K A Y H0 H (el g) d x := by
  obtain ⟨a, xs, e, h1, h2, h3⟩ := p
  have ks := KeysIn.mono (Same.uncut) h2.keys
  rcases el_or g with z | z
  · rcases (h3 z).at k with ⟨c1, _⟩ | ⟨d', x, c1, c2, c3⟩
    · rw [c1] at h; cases h
    · rw [c1] at h; cases h
      exact ⟨a, xs, x, e, h1, ks, c2, by rw [z]; exact c3⟩
  · rcases h2.at k with ⟨c1, _⟩ | ⟨d', x, c1, c2, c3⟩
    · rw [c1] at h; cases h
    · rw [c1] at h; cases h
      exact ⟨a, xs, x, e, h1, ks, c2, by rw [z]; exact c3⟩
theorem DPost.opt {K : KW} {A Y : List Addr} {H : Hp} {g : Tg} {kvs : List (D × D)} {v : V} (k : NK) (p : DPost K A Y H g kvs v) : ∃ a xs, v = .ref a ∧ Rd H a (KdO K a xs) ∧ KeysIn K H xs ∧ (entAt xs k).isSome = (dAt kvs k).isSome ∧ xs.length = kvs.length := by
  obtain ⟨a, xs, e, h1, h2, h3⟩ := p
  exact ⟨a, xs, e, h1, KeysIn.mono (Same.uncut) h2.keys, h2.isSome, h2.length⟩
theorem KeysIn.unHm {K : KW} {H : Hp} {W : Wd} {xs : List Ent} (h : KeysIn K (Hm H W) xs) : KeysIn K H xs := KeysIn.mono Same.unHm h
theorem vDGet (hu : X.A.units + 9 < cLine) (ho : VDs X o td) (hi : VE X i tk) (hs : NoSl i := by exact fun _ _ => rfl) : VE X (.Subscript o i pos) (sDGet td tk) := by
  refine ⟨⟨fun pins s σ0 H Q I h => ?_⟩, mono_sDGet ho.mono hi.mono⟩
  obtain ⟨F, σ, W, A, L, w⟩ := h
  refine subD_of PySem.F.slot_dict_getitem.lookup hs (thn (ho.pe.run pins s σ0 H (fun v H1 => rdE X.kw tk σ0 H1 fun y H2 => ∃ a xs x b k, v = .ref a ∧ y = .ref b ∧ Rd H2 a (KdO X.kw a xs) ∧ KeysIn X.kw H2 xs ∧ IsKey X.kw H2 k b ∧ entAt xs k = some x ∧ Q x H2) I
    (L.dk ho.mono w fun g kvs W1 v H1 w1 L1 e1 p1 => L1.one hi.mono w1 fun gk kd W2 y H2 w2 L2 e2 p2 => ?_)) fun u s1 ⟨x, H1, I1, rx, q1⟩ => thn (hi.pe.run pins s1 σ0 H1 _ I1 q1) fun iv s2 ⟨y, H2, I2, ry, a, xs, x2, b, k, ex, ey, hr, hk, ib, he, q⟩ => ?_)
  · obtain ⟨k, d, hk, hd, q⟩ := w2
    obtain ⟨b, ey, rk⟩ := hk.ref L1.own e2.same p2
    obtain ⟨a, xs, x, ex, z1, z2, z3, z4⟩ := (p1.mono e2.same).elem (H0 := Hm H W) hd
    subst ey
    exact ⟨a, xs, x, b, k, ex, rfl, rdH z1, z2.unHm, IsKey.mono (Same.uncut.trans Same.unHm) ⟨kd, hk, rk⟩, z3, q x H2 (e1.trans e2) z4⟩
  · subst ex ey
    obtain rfl : u = Value.ref a := rx
    obtain rfl : iv = Value.ref b := ry
    exact ⟨(k_typeIs I2 hr).1, k_getItem hu I2 hr hk ib he fun w' s3 I3 rw' => ⟨x2, H2, I3, rw', q⟩⟩
/-- k in d -/
def sDIn (neg : Bool) (tk : SE) (td : SDs) : SE := fun σ W Q => tk σ W fun _ kd W1 => td σ W1 fun g kvs W2 => ∃ k, KeyOk kd k ∧ Q .st (.bl (if neg then !(dAt kvs k).isSome else (dAt kvs k).isSome)) W2
theorem mono_sDIn {neg : Bool} (mk : MonoE tk) (md : MonoDs td) : MonoE (sDIn neg tk td) := fun σ W Q Q' h w => mk _ _ _ _ (fun _ kd W1 q => md _ _ _ _ (fun g kvs W2 ⟨k, a, b⟩ => ⟨k, a, h _ _ _ b⟩) q) w
theorem pc_kin (hu : X.A.units + 9 < cLine) {neg : Bool} (hi : VE X i tk) (ho : VDs X o td) : PC X (if neg then .NotIn else .In) i o (rdE X.kw (sDIn neg tk td)) := by
  refine ⟨fun pins s σ0 H Q I h => ?_⟩
  obtain ⟨F, σ, W, A, L, w⟩ := h
  refine thn (hi.pe.run pins s σ0 H (fun y H1 => rdDs X.kw td σ0 H1 fun v H2 => ∃ a xs b k, v = .ref a ∧ y = .ref b ∧ Rd H2 a (KdO X.kw a xs) ∧ KeysIn X.kw H2 xs ∧ IsKey X.kw H2 k b ∧ Q (.bl (if neg then !(entAt xs k).isSome else (entAt xs k).isSome)) H2) I
    (L.one hi.mono w fun gk kd W1 y H1 w1 L1 e1 p1 => L1.dk ho.mono w1 fun g kvs W2 v H2 w2 L2 e2 p2 => ?_)) fun iv s1 ⟨y, H1, I1, ry, q1⟩ => thn (ho.pe.run pins s1 σ0 H1 _ I1 q1) fun u s2 ⟨x, H2, I2, rx, a, xs, b, k, ex, ey, hr, hk, ib, q⟩ => ?_
  · obtain ⟨k, hk, q⟩ := w2
    obtain ⟨b, ey, rk⟩ := hk.ref L.own e1.same p1
    obtain ⟨a, xs, ex, z1, z2, z3, _⟩ := p2.opt k
    subst ey
    refine ⟨a, xs, b, k, ex, rfl, rdH z1, z2.unHm, IsKey.mono ((Same.cut e2.same _).trans (Same.uncut.trans Same.unHm)) ⟨kd, hk, rk⟩, ?_⟩
    rw [z3]
    exact q _ H2 (e1.trans e2) Post.ofBl
  · subst ex ey
    obtain rfl : u = Value.ref a := rx
    obtain rfl : iv = Value.ref b := ry
    cases neg with
    | true => exact k_notIn hu I2 hr hk ib fun s3 I3 => ⟨.bl (!(entAt xs k).isSome), H2, I3, rfl, q⟩
    | false => exact k_in hu I2 hr hk ib fun s3 I3 => ⟨.bl (entAt xs k).isSome, H2, I3, rfl, q⟩
theorem vDIn (hu : X.A.units + 9 < cLine) (hi : VE X i tk) (ho : VDs X o td) (hm : behindInMarks .In o = false := by rfl) : VE X (.Compare i [.In] [o] pos) (sDIn false tk td) :=
  ⟨pe_cmp (pc_kin hu (neg := false) hi ho) hm, mono_sDIn hi.mono ho.mono⟩
theorem vDNotIn (hu : X.A.units + 9 < cLine) (hi : VE X i tk) (ho : VDs X o td) (hm : behindInMarks .NotIn o = false := by rfl) : VE X (.Compare i [.NotIn] [o] pos) (sDIn true tk td) :=
  ⟨pe_cmp (pc_kin hu (neg := true) hi ho) hm, mono_sDIn hi.mono ho.mono⟩
/-- d.get(k), d.get(k, x) -/
def sDGet1 (td : SDs) (tk : SE) : SE := fun σ W Q => td σ W fun g kvs W1 => tk σ W1 fun _ kd W2 => ∃ k, KeyOk kd k ∧ match dAt kvs k with
  | some d => Q (el g) d W2
  | none => Q .st .non W2
theorem mono_sDGet1 (md : MonoDs td) (mk : MonoE tk) : MonoE (sDGet1 td tk) := fun σ W Q Q' h w => md _ _ _ _ (fun g kvs W1 q => mk _ _ _ _ (fun _ kd W2 ⟨k, a, b⟩ => ⟨k, a, by
  split at b <;> exact h _ _ _ b⟩) q) w
theorem vDGet1 {apos : Pos} (hu : X.A.units + 9 < cLine) (ho : VDs X o td) (hi : VE X i tk) (m : M1 X o "get" apos i pos) : VE X (.Call (.Attribute o "get" apos) [i] [] pos) (sDGet1 td tk) := by
  refine ⟨⟨fun pins s σ0 H Q I h => ?_⟩, mono_sDGet1 ho.mono hi.mono⟩
  obtain ⟨F, σ, W, A, L, w⟩ := h
  refine wpAny_Call_method m.base m.few m.line PySem.F.plainAttrs_dict PySem.F.slot_dict_get PySem.F.type_dict_get (thn (ho.pe.run pins s σ0 H (fun v H1 => (∃ a xs, v = .ref a ∧ Rd H1 a (KdO X.kw a xs)) ∧ rdE X.kw tk σ0 H1 fun y H2 => ∃ a xs b k, v = .ref a ∧ y = .ref b ∧ Rd H2 a (KdO X.kw a xs) ∧ KeysIn X.kw H2 xs ∧ IsKey X.kw H2 k b ∧ Q ((entAt xs k).getD .non) H2) I
    (L.dk ho.mono w fun g kvs W1 v H1 w1 L1 e1 p1 => ⟨let ⟨a, xs, z1, z2, _⟩ := p1; ⟨a, xs, z1, rdH z2⟩, L1.one hi.mono w1 fun gk kd W2 y H2 w2 L2 e2 p2 => ?_⟩)) fun u s1 ⟨x, H1, I1, rx, ⟨a, xs, ex, hr1⟩, q1⟩ => ?_)
  · obtain ⟨k, hk, q⟩ := w2
    obtain ⟨b, ey, rk⟩ := hk.ref L1.own e2.same p2
    subst ey
    have ik : IsKey X.kw H2 k b := IsKey.mono (Same.uncut.trans Same.unHm) ⟨kd, hk, rk⟩
    have p1' := p1.mono e2.same
    cases hd : dAt kvs k with
    | none =>
      rw [hd] at q
      obtain ⟨a, xs, ex, z1, z2, z3, _⟩ := p1'.opt k
      rw [hd] at z3
      have z4 : entAt xs k = none := by cases hq : entAt xs k <;> simp_all
      exact ⟨a, xs, b, k, ex, rfl, rdH z1, z2.unHm, ik, by rw [z4]; exact q _ H2 (e1.trans e2) Post.ofNon⟩
    | some d =>
      rw [hd] at q
      obtain ⟨a, xs, x, ex, z1, z2, z3, z4⟩ := p1'.elem (H0 := Hm H W) hd
      exact ⟨a, xs, b, k, ex, rfl, rdH z1, z2.unHm, ik, by rw [z3]; exact q _ H2 (e1.trans e2) z4⟩
  · subst ex
    obtain rfl : u = Value.ref a := rx
    obtain ⟨t1, t2⟩ := k_typeIs I1 hr1
    refine ⟨t1, t2, ?_⟩
    rw [m.trees]
    refine Calls.callWith_builtin rfl (Calls.evalArgs_plain (Calls.spliced_cons (thn (hi.pe.run pins s1 σ0 H1 _ I1 q1) fun iv s2 ⟨y, H2, I2, ry, a2, xs2, b, k, ex2, ey, hr, hk, ib, q⟩ => Calls.spliced_nil ?_)))
    cases ex2
    subst ey
    obtain rfl : iv = Value.ref b := ry
    exact k_get1 hu I2 hr hk ib fun w' s3 I3 rw' => ⟨_, H2, I3, rw', q⟩
def sDGet2 (td : SDs) (tk tx : SE) : SE := fun σ W Q => td σ W fun g kvs W1 => tk σ W1 fun _ kd W2 => tx σ W2 fun gx x W3 => ∃ k, KeyOk kd k ∧ match dAt kvs k with
  | some d => Q (el g) d W3
  | none => Q gx x W3
theorem mono_sDGet2 (md : MonoDs td) (mk : MonoE tk) (mx : MonoE tx) : MonoE (sDGet2 td tk tx) := fun σ W Q Q' h w => md _ _ _ _ (fun g kvs W1 q => mk _ _ _ _ (fun _ kd W2 q => mx _ _ _ _ (fun gx x W3 ⟨k, a, b⟩ => ⟨k, a, by
  split at b <;> exact h _ _ _ b⟩) q) q) w
theorem vDGet2 {apos : Pos} (hu : X.A.units + 9 < cLine) (ho : VDs X o td) (hi : VE X i tk) (hx : VE X f tx) (m : M2 X o "get" apos i f pos) : VE X (.Call (.Attribute o "get" apos) [i, f] [] pos) (sDGet2 td tk tx) := by
  refine ⟨⟨fun pins s σ0 H Q I h => ?_⟩, mono_sDGet2 ho.mono hi.mono hx.mono⟩
  obtain ⟨F, σ, W, A, L, w⟩ := h
  refine wpAny_Call_method m.base m.few m.line PySem.F.plainAttrs_dict PySem.F.slot_dict_get PySem.F.type_dict_get (thn (ho.pe.run pins s σ0 H (fun v H1 => (∃ a xs, v = .ref a ∧ Rd H1 a (KdO X.kw a xs)) ∧ rdE X.kw tk σ0 H1 fun y H2 => rdE X.kw tx σ0 H2 fun z H3 => ∃ a xs b k, v = .ref a ∧ y = .ref b ∧ Rd H3 a (KdO X.kw a xs) ∧ KeysIn X.kw H3 xs ∧ IsKey X.kw H3 k b ∧ Q ((entAt xs k).getD z) H3) I
    (L.dk ho.mono w fun g kvs W1 v H1 w1 L1 e1 p1 => ⟨let ⟨a, xs, z1, z2, _⟩ := p1; ⟨a, xs, z1, rdH z2⟩, L1.one hi.mono w1 fun gk kd W2 y H2 w2 L2 e2 p2 => L2.one hx.mono w2 fun gx x W3 z H3 w3 L3 e3 p3 => ?_⟩)) fun u s1 ⟨x, H1, I1, rx, ⟨a, xs, ex, hr1⟩, q1⟩ => ?_)
  · obtain ⟨k, hk, q⟩ := w3
    obtain ⟨b, ey, rk⟩ := hk.ref L1.own e2.same p2
    subst ey
    have ik : IsKey X.kw H3 k b := IsKey.mono ((Same.cut e3.same _).trans (Same.uncut.trans Same.unHm)) ⟨kd, hk, rk⟩
    have p1' := p1.mono (e2.same.trans e3.same)
    have e12 := e1.trans e2
    cases hd : dAt kvs k with
    | none =>
      rw [hd] at q
      obtain ⟨a, xs, ex, z1, z2, z3, _⟩ := p1'.opt k
      rw [hd] at z3
      have z4 : entAt xs k = none := by cases hq : entAt xs k <;> simp_all
      exact ⟨a, xs, b, k, ex, rfl, rdH z1, z2.unHm, ik, by rw [z4]; exact q _ H3 (e12.trans e3) (p3.back e12.same)⟩
    | some d =>
      rw [hd] at q
      obtain ⟨a, xs, x, ex, z1, z2, z3, z4⟩ := p1'.elem (H0 := Hm H W) hd
      exact ⟨a, xs, b, k, ex, rfl, rdH z1, z2.unHm, ik, by rw [z3]; exact q _ H3 (e12.trans e3) z4⟩
  · subst ex
    obtain rfl : u = Value.ref a := rx
    obtain ⟨t1, t2⟩ := k_typeIs I1 hr1
    refine ⟨t1, t2, ?_⟩
    rw [m.trees]
    refine Calls.callWith_builtin rfl (Calls.evalArgs_plain (Calls.spliced_cons (thn (hi.pe.run pins s1 σ0 H1 _ I1 q1) fun iv s2 ⟨y, H2, I2, ry, q2⟩ => Calls.spliced_cons (thn (hx.pe.run pins s2 σ0 H2 _ I2 q2) fun fv s3 ⟨z, H3, I3, rz, a2, xs2, b, k, ex2, ey, hr, hk, ib, q⟩ => Calls.spliced_nil ?_))))
    cases ex2
    subst ey
    obtain rfl : iv = Value.ref b := ry
    exact k_get2 hu I3 hr hk ib rz fun w' s4 I4 rw' => ⟨_, H3, I4, rw', q⟩
/-- len(d) -/
def sDLen (td : SDs) : SE := fun σ W Q => td σ W fun _ kvs W1 => Q .st (.int kvs.length) W1
theorem call_lenK : CallR X (.builtin "len") (fun xs H Q => ∃ a es, xs = [V.ref a] ∧ Rd H a (KdO X.kw a es) ∧ KeysIn X.kw H es ∧ Q (.int es.length) H) := by
  intro pins s σ H xs us Q I r h
  obtain ⟨a, kvs, rfl, ha, hk, q⟩ := h
  obtain ⟨u, rfl, ru⟩ := vals1 r
  cases ru
  exact k_len I ha hk fun t s' I' => ⟨.int kvs.length, H, I', ⟨t, rfl⟩, q⟩
theorem vDLen {p : Pos} (ho : VDs X o td) (hg : Gl X "len") (hm : X.mg "len" = none) (hst : starEach [o] X.env = (false, eval o X.env) :: starEach [] X.env := by rfl) : VE X (.Call (.Name "len" p) [o] [] pos) (sDLen td) := by
  refine ⟨peI (pe_callB call_lenK hg hm PySem.boot_len (pa_cons ho.pe pa_nil hst) (he := hst)) fun s H Q ⟨F, σ, W, A, L, w⟩ => ?_, fun σ W Q Q' h w => ho.mono _ _ _ _ (fun g kvs W1 q => h _ _ _ q) w⟩
  refine L.dk ho.mono w fun g kvs W1 v H1 w1 L1 e1 p1 => ?_
  obtain ⟨a, xs, ex, z1, z2, z3, z4⟩ := p1.opt .none
  subst ex
  refine ⟨a, xs, rfl, rdH z1, z2.unHm, ?_⟩
  rw [z4]
  exact w1 _ H1 e1 Post.ofInt
end
end VL

/-! VD4: dicts of one's own: a store, a new one, given up, locked for a statement. -/
namespace VL
open PySem PySem.Spec PyProof.Rows L2
section
variable {X : Cx} {e o i f : Expr} {pos : Pos} {td : SDs} {tk tx tv : SE}
def sDPut (j : Nat) (tk tv : SE) : SS := fun D σ W => tv σ W fun g d W1 => match σ[j]? with
  | some (some (.md kvs)) => tk σ W1 fun _ kd W2 => ∃ k, KeyOk kd k ∧ sto g d ∧ kvs.length < sizeLine ∧ D.nx (σ.set j (some (.md (dPut kvs kd k d)))) W2
  | _ => False
theorem mono_sDPut {j : Nat} (mk : MonoE tk) (mv : MonoE tv) : MonoS (sDPut j tk tv) := fun D D' σ W h w => mv _ _ _ _ (fun g d W1 q => by
  split at q
  · rename_i kvs hx
    exact mk _ _ _ _ (fun _ kd W2 ⟨k, a, b, c, q⟩ => ⟨k, a, b, c, h.nx _ _ q⟩) q
  · exact q.elim) w
theorem vDPut {j : Nat} {x : Str} {p pos' : Pos} {value : Expr} (hu : X.A.units + 9 < cLine) (hi : VE X i tk) (hv : VE X value tv) (hN : X.N[j]? = some x := by rfl) (hvis : Vis X.env.scope x := by first | exact .inl rfl | exact .inr (.inl rfl) | exact .inr (.inr rfl))
    (hs : swapsWith value (some (.Subscript (.Name x p) i pos')) pos.line X.env = pure false := by rfl) (hd : (x == ("__debug__" : Str)) = false := by decide) (hcd : (x == ("__classdict__" : Str)) = false := by decide) :
    VS X (.Assign [.Subscript (.Name x p) i pos'] value pos) (sDPut j tk tv) := by
  refine ⟨⟨fun pins s σ0 H D I h => ?_⟩, mono_sDPut hi.mono hv.mono⟩
  obtain ⟨F, σ, W, A, L, w⟩ := h
  have ho : PE X (.Name x p) (tVar j) := pe_var hN hvis hd hcd
  refine wpAny_Assign_Subscript (thn (hv.pe.run pins s σ0 H (fun v H1 => tVar j σ0 H1 fun o H2 => rdE X.kw tk σ0 H2 fun y H3 => ∃ a xs b k, o = .ref a ∧ y = .ref b ∧ H3 a = some (KdO X.kw a xs) ∧ KeysIn X.kw H3 xs ∧ IsKey X.kw H3 k b ∧ xs.length < sizeLine ∧ D.nx σ0 (upd H3 a (KdO X.kw a (putE xs k b v)))) I
    (L.one hv.mono w fun g d W1 v H1 w1 L1 e1 p1 => ?_)) fun r s1 ⟨v, H1, I1, rv, q1⟩ => thn (ho.run pins s1 σ0 H1 _ I1 q1) fun u s2 ⟨x2, H2, I2, rx, q2⟩ => thn (hi.pe.run pins s2 σ0 H2 _ I2 q2) fun iv s3 ⟨y, H3, I3, ry, a, xs, b, k, ex, ey, ha, hk, ib, hl, q⟩ => ?_) hs
  · split at w1
    · rename_i kvs hx
      obtain ⟨v1, A1, h1, h2, p0, xs0, h3, h4, h5, h6⟩ := L1.slot j _ hx
      refine ⟨v1, h1, L1.one hi.mono w1 fun _ kd W2 y H3 w2 L2 e2 p2 => ?_⟩
      obtain ⟨k, hk, st, hl, q⟩ := w2
      obtain ⟨b, ey, rk⟩ := hk.ref L1.own e2.same p2
      obtain ⟨v1', A1', h1', h2', p0', xs0', h3', h4', h5', h6'⟩ := L2.slot j _ hx
      have z1 : v1' = v1 := by rw [h1] at h1'; injection h1' with z; injection z with z; exact z.symm
      subst z1
      rw [h3] at h3'; cases h3'
      subst h3 ey
      have rv : RepS X.kw (cut (Hm H3 W2) (A.flatten ++ F.X)) d v := RepS.mono (Same.cut e2.same _) _ _ (p1.keep L.own e1.same st)
      refine ⟨p0, xs0', b, k, rfl, rfl, Hm_of h5', KeysIn.mono (Same.uncut.trans Same.unHm) h6'.keys, IsKey.mono (Same.uncut.trans Same.unHm) ⟨kd, hk, rk⟩, by rw [h6'.length]; exact hl, ?_⟩
      refine q _ _ _ (L2.wr h1' h2' (by rw [h4']; simp) (show OwnO (KdO X.kw p0 _) from trivial) ⟨p0, _, rfl, h4', Hm_upd_eq h5', h6'.put hk rk rv⟩)
    · exact w1.elim
  · subst ex ey
    obtain rfl : u = Value.ref a := rx
    obtain rfl : iv = Value.ref b := ry
    exact k_setItem hu I3 ha hk ib hl rv fun s4 I4 => ⟨σ0, _, I4, q⟩

/-! ### a dict just made -/
abbrev SN := SG → Wd → (List (D × D) → Wd → Prop) → Prop
def MonoN (t : SN) : Prop := ∀ σ W Q Q', (∀ b W', Q b W' → Q' b W') → t σ W Q → t σ W Q'
def NewD (K : KW) (O : List Addr) (H0 H : Hp) (kvs : List (D × D)) (p : Addr) : Prop := H0 p = none ∧ ∃ xs, H p = some (KdO K p xs) ∧ RepDs K (cut H (p :: O)) kvs xs
def rdN (K : KW) (t : SN) : TE := fun s H Q => ∃ F σ W A, Live K F σ W A s H ∧ t σ W fun kvs W1 => ∀ p H1, Ext (A.flatten ++ F.X) W H W1 H1 → NewD K (A.flatten ++ F.X) (Hm H W) (Hm H1 W1) kvs p → Q (.ref p) H1
structure VN (X : Cx) (e : Expr) (t : SN) : Prop where
  pe : PE X e (rdN X.kw t)
  mono : MonoN t
def sDNil : SN := fun _ W Q => Q [] W
theorem vnNil : VN X (.Dict [] [] pos) sDNil := by
  refine ⟨⟨fun pins s σ0 H Q I h => ?_⟩, fun _ _ _ _ h w => h _ _ w⟩
  obtain ⟨F, σ, W, A, L, w⟩ := h
  have hn := I.hok.fresh (Nat.le_refl s.heap.objs.size)
  refine wpAny_Dict_empty ⟨.ref s.heap.objs.size, _, I.laid (a := s.heap.objs.size) (o := KdO X.kw s.heap.objs.size []) (t' := s.toks) (fun _ _ q => Heap.get?_push_of_some _ q) (Nat.le_refl _) (kd_empty s.heap I.big), rfl, ?_⟩
  exact w _ _ (Ext.laid L.ext0 hn _) ⟨Hm_none hn, [], Hm_upd L.ext0 hn _, by simp [RepDs]⟩
/-- .. kept as one's own -/
def sNewOwn (j : Nat) (t : SN) : SS := fun D σ W => t σ W fun kvs W1 => D.nx (σ.set j (some (.md kvs))) W1
theorem mono_sNewOwn {j : Nat} {t : SN} (m : MonoN t) : MonoS (sNewOwn j t) := fun D D' σ W h w => m _ _ _ _ (fun kvs W1 q => h.nx _ _ q) w
theorem rd_newOwn {K : KW} {j : Nat} {t : SN} (m : MonoN t) {Dn : Ends} {s : L2.St} {H : Hp} (h : rdS K (sNewOwn j t) Dn s H) : tAsg (rdN K t) (gName j) Dn s H := by
  obtain ⟨F, σ, W, A, L, w⟩ := h
  refine ⟨F, σ, W, A, L, m _ _ _ _ (fun kvs W1 q p H1 e1 nd => ?_) w⟩
  obtain ⟨n1, xs, n2, n3⟩ := nd
  refine q _ _ _ (L.setOwn e1 j (ps := [p]) (by simp) (fun p' m => by simp at m; subst m; exact n1) (fun p' m => by simp at m; subst m; exact ⟨_, n2, trivial⟩) ⟨p, xs, rfl, rfl, n2, n3⟩)
theorem vNewOwn {t : SN} {j : Nat} {x : Str} {p : Pos} (hN : X.N.Nodup) (hi : X.N[j]? = some x) (hx : Loc X.env.scope x) (h : VN X e t) (hs : swapsWith e (some (.Name x p)) pos.line X.env = pure false := by rfl) (hf : X.fn x = true ∨ X.env.scope.names.lookup x = some .local := by first | exact .inl rfl | exact .inr rfl | assumption) :
    VS X (.Assign [.Name x p] e pos) (sNewOwn j t) := ⟨psI (ps_set hN hi hx h.pe hs hf) fun Dn s H q => rd_newOwn h.mono q, mono_sNewOwn h.mono⟩
/-- .. as a value that stays -/
theorem pe_frz {t : TE} (h : PE X e t) : PE X e (fun σ H Q => t σ H fun v H1 => ∃ p u, v = .ref p ∧ H1 p = some u ∧ Mut (some u) ∧ ∀ od, Q v (upd H1 p (.frz od u))) := by
  refine ⟨fun pins s σ H Q I hw => ?_⟩
  refine thn (h.run pins s σ H _ I hw) fun v s1 ⟨x, H1, I1, r, p, u, ex, hp, mu, q⟩ => ?_
  obtain ⟨od, I2⟩ := I1.lock hp mu
  exact ⟨x, _, I2, r, q od⟩
def sNewV (t : SN) : SE := fun σ W Q => t σ W fun kvs W1 => Q .fr (.dct kvs) W1
/-- an object that was made on the way is changed -/
theorem Live.relaid {K : KW} {F : Frm} {σ : SG} {W W' : Wd} {A : List (List Addr)} {s : L2.St} {H H' : Hp} (L : Live K F σ W A s H) (e : Ext (A.flatten ++ F.X) W H W' H') {p : Addr} {o o' : HO} (hn : Hm H W p = none) (hp : Hm H' W' p = some o) : Ext (A.flatten ++ F.X) W H W' (upd H' p o') :=
  ⟨same_updN e.same hn, L.cell.carry (same_updN e.same hn) e.kc (e.cell.v.upd hp) fun _ _ _ h => h, e.kc⟩
theorem cut_upd {H : Hp} {W : Wd} {O : List Addr} {p : Addr} {o : HO} (h : p ∈ O) : cut (Hm (upd H p o) W) O = cut (Hm H W) O := by
  funext b
  unfold cut
  split
  · rfl
  · rename_i z
    exact Hm_upd_ne fun (e : b = p) => z (by rw [e]; exact h)
theorem vNewV {t : SN} (h : VN X e t) : VE X e (sNewV t) := by
  refine ⟨peI (pe_frz h.pe) fun s H Q ⟨F, σ, W, A, L, w⟩ => ?_, fun σ W Q Q' hq w => h.mono _ _ _ _ (fun kvs W1 q => hq _ _ _ q) w⟩
  refine ⟨F, σ, W, A, L, h.mono _ _ _ _ (fun kvs W1 q p H1 e1 nd => ?_) w⟩
  obtain ⟨n1, xs, n2, n3⟩ := nd
  refine ⟨p, _, rfl, Hm_of n2, trivial, fun od => ?_⟩
  refine q _ _ (L.relaid e1 n1 n2) ⟨p, rfl, n1, od, xs, Hm_upd_eq n2, ?_⟩
  rw [cut_upd (by simp)]
  exact n3
/-! ### given up: what was one's own stays -/
def frzM (i : Nat) (σ : SG) (Q : SG → Prop) : Prop := match σ[i]? with
  | some (some (.md kvs)) => Q (σ.set i (some (.val (.dct kvs))))
  | _ => False
theorem mono_frzM {i : Nat} {σ : SG} {Q Q' : SG → Prop} (h : ∀ σ', Q σ' → Q' σ') (w : frzM i σ Q) : frzM i σ Q' := by
  unfold frzM at w ⊢
  split at w <;> first | exact h _ w | exact w.elim
theorem vsFrzM {rest : List Stmt} {u : SS} (i : Nat) (h : VSs X rest u) : VSs X rest (sGhost (frzM i) u) := by
  refine ⟨⟨fun pins s σ0 H D I hw => ?_⟩, fun D D' σ W l w => mono_frzM (fun σ' q => h.mono _ _ _ _ l q) w⟩
  obtain ⟨F, σ, W, A, L, w⟩ := hw
  have w' : frzM i σ fun σ' => u (endsOf X.kw F D) σ' W := w
  unfold frzM at w'
  split at w'
  · rename_i kvs hx
    obtain ⟨v, a, h1, h2, p, xs, h3, h4, h5, h6⟩ := L.slot i _ hx
    subst h3
    obtain ⟨od, I2⟩ := I.lock (Hm_of h5) (show Mut (some (KdO X.kw p xs)) from trivial)
    refine h.pe.run pins s σ0 _ D I2 ?_
    -- the object is locked, then let go
    have hpA : p ∈ A.flatten := flatten_get h2 (by rw [h4]; simp)
    have L2 := L.wr (i := i) (sv := .lk (p, od, xs) kvs) h1 h2 (p := p) (o := .frz od (KdO X.kw p xs)) (by rw [h4]; simp) (show OwnO (.frz od (KdO X.kw p xs)) from trivial) ⟨rfl, h4, Hm_upd_eq h5, h6⟩
    have fz := L2.frozen (A' := A.set i []) fun b => mem_setNil
    have r : RepS X.kw (cut (Hm (upd H p (.frz od (KdO X.kw p xs))) W) ((A.set i []).flatten ++ F.X)) (.dct kvs) (.ref p) := by
      simp only [RepS]
      refine ⟨p, od, xs, rfl, cut_some.mpr ⟨Hm_upd_eq h5, fun z => ?_⟩, RepDs.mono fz _ _ ?_⟩
      · rcases List.mem_append.mp z with z | z
        · obtain ⟨b, hb, mb⟩ := List.mem_flatten.mp z
          obtain ⟨j, hj⟩ := List.mem_iff_getElem?.mp hb
          rcases get_set hj with ⟨rfl, e2, _⟩ | ⟨ne, hj⟩
          · subst e2; cases mb
          · exact nodup_apart L.nd h2 hj ne (by rw [h4]; simp) mb
        · exact L.ax hpA z
      · rw [cut_upd (List.mem_append_left _ hpA)]
        exact h6
    have L3 := (L2.free i).setVal i (d := .dct kvs) (v := .ref p) r
    rw [set_self h1, List.set_set, List.set_set] at L3
    exact ⟨F, _, W, _, L3, w'⟩
  · exact w'.elim
/-! ### locked while a statement runs -/
def unlK (i : Nat) (g : Addr × Obj × List Ent) (N : SG → Wd → Prop) : SG → Wd → Prop := fun σ' W' => ∃ ds, σ'[i]? = some (some (.lk g ds)) ∧ N (σ'.set i (some (.md ds))) W'
def lockEnds (i : Nat) (g : Addr × Obj × List Ent) (D : SEnds) : SEnds := { nx := unlK i g D.nx, rt := D.rt, bk := unlK i g D.bk, ct := unlK i g D.ct }
theorem lockEnds_le {i : Nat} {g : Addr × Obj × List Ent} {D D' : SEnds} (h : D.Le D') : (lockEnds i g D).Le (lockEnds i g D') :=
  ⟨fun σ' W' ⟨ds, a, b⟩ => ⟨ds, a, h.nx _ _ b⟩, h.rt, fun σ' W' ⟨ds, a, b⟩ => ⟨ds, a, h.bk _ _ b⟩, fun σ' W' ⟨ds, a, b⟩ => ⟨ds, a, h.ct _ _ b⟩⟩
def sLocked (i : Nat) (t : SS) : SS := fun D σ W => match σ[i]? with
  | some (some (.md kvs)) => ∀ g, t (lockEnds i g D) (σ.set i (some (.lk g kvs))) W
  | _ => False
theorem mono_sLocked {i : Nat} {t : SS} (m : MonoS t) : MonoS (sLocked i t) := fun D D' σ W h w => by
  unfold sLocked at w ⊢
  split at w
  · exact fun g => m _ _ _ _ (lockEnds_le h) (w g)
  · exact w.elim
/-- .. a return leaves it locked -/
def tLockR (t : TS) : TS := fun D σ H => ∃ d u, H d = some u ∧ Mut (some u) ∧ ∀ od, t ⟨fun σ' H' => H' d = some (.frz od u) ∧ D.nx σ' (upd H' d u), D.rt, fun σ' H' => H' d = some (.frz od u) ∧ D.bk σ' (upd H' d u), fun σ' H' => H' d = some (.frz od u) ∧ D.ct σ' (upd H' d u)⟩ σ (upd H d (.frz od u))
theorem ps_lockR {st : Stmt} {t : TS} (h : PS X st t) : PS X st (tLockR t) := by
  refine ⟨fun pins s σ H D I hw => ?_⟩
  obtain ⟨d, u, hd, mu, hw⟩ := hw
  obtain ⟨od, I1⟩ := I.lock hd mu
  refine thn (h.run pins s σ _ _ I1 (hw od)) fun f s1 q => ?_
  cases f with
  | next => obtain ⟨σ', H', I2, e, q⟩ := q; exact ⟨σ', _, I2.unlock e (I.nofrz hd mu), q⟩
  | brk => obtain ⟨σ', H', I2, e, q⟩ := q; exact ⟨σ', _, I2.unlock e (I.nofrz hd mu), q⟩
  | cont => obtain ⟨σ', H', I2, e, q⟩ := q; exact ⟨σ', _, I2.unlock e (I.nofrz hd mu), q⟩
  | ret v => exact q
theorem vLocked {st : Stmt} {t : SS} (i : Nat) (h : VS X st t) : VS X st (sLocked i t) := by
  refine ⟨psI (ps_lockR h.pe) fun Dn s H ⟨F, σ, W, A, L, w⟩ => ?_, mono_sLocked h.mono⟩
  unfold sLocked at w
  split at w
  · rename_i kvs hx
    obtain ⟨v, a, h1, h2, p, xs, h3, h4, h5, h6⟩ := L.slot i _ hx
    subst h3
    refine ⟨p, KdO X.kw p xs, Hm_of h5, trivial, fun od => ?_⟩
    have L2 := L.wr (i := i) (sv := .lk (p, od, xs) kvs) h1 h2 (p := p) (o := .frz od (KdO X.kw p xs)) (by rw [h4]; simp) (show OwnO (.frz od (KdO X.kw p xs)) from trivial) ⟨rfl, h4, Hm_upd_eq h5, h6⟩
    have back : ∀ {N : List (Option V) → Hp → Prop} {σ' : SG} {W' : Wd} {ds : List (D × D)}, σ'[i]? = some (some (.lk (p, od, xs) ds)) → (∀ A s H, Live X.kw F (σ'.set i (some (.md ds))) W' A s H → N s H) → ∀ A s H, Live X.kw F σ' W' A s H → H p = some (.frz od (KdO X.kw p xs)) ∧ N s (upd H p (KdO X.kw p xs)) :=
      fun {N σ' W' ds} hx' hN A' s' H' L' => by
        obtain ⟨v', a', k1, k2, k3, k4, k5, k6⟩ := L'.slot i _ hx'
        refine ⟨Hm_of k5, hN _ _ _ (L'.wr (i := i) (p := p) k1 k2 (by rw [k4]; simp) (show OwnO (KdO X.kw p xs) from trivial) ⟨p, xs, k3, k4, Hm_upd_eq k5, k6⟩)⟩
    refine ⟨F, _, W, A, L2, h.mono (lockEnds i (p, od, xs) (endsOf X.kw F Dn)) _ _ _ ⟨fun σ' W' ⟨ds, z, q⟩ => back z q, fun _ _ _ q => q, fun σ' W' ⟨ds, z, q⟩ => back z q, fun σ' W' ⟨ds, z, q⟩ => back z q⟩ (w (p, od, xs))⟩
  · exact w.elim
end
end VL

/-! VD5: walks over dicts that are locked: keys, values, items. -/
namespace VL
open PySem PySem.Spec PyProof.Rows L2

section
variable {X : Cx} {pins : List (Addr × Obj)} {σ : L2.St} {H : Hp} {s : Shared} {d : Addr} {o : Obj}
theorem kd_entries {P : Program} {w : World} {xs : List Ent} {raw : List (NK × Addr × Value)} {es : Array DictEntry} (r : RawR xs raw) (he : es.toList = raw.map (entryOfKey (nestedKind P w))) :
    es.size = xs.length ∧ ∀ (i : Nat) (en : Ent), xs[i]? = some en → ∃ hi : i < es.size, es[i].key = .ref en.2.1 ∧ RelV en.2.2 es[i].val := by
  have l1 : es.size = raw.length := size_of_entries he
  have l2 : xs.length = raw.length := Paired.length r
  refine ⟨by omega, fun i en e => ?_⟩
  obtain ⟨b, hb, e1, e2, e3⟩ := paired_get r e
  have hx : i < raw.length := (List.getElem?_eq_some_iff.mp hb).1
  have hi : i < es.size := by omega
  have q := entry_at he i
  rw [hb, Array.getElem?_eq_getElem hi] at q
  have q' := Option.some.inj q
  exact ⟨hi, by rw [q', e2]; rfl, by rw [q']; exact e3⟩
theorem Inv.frzKd {xs : List Ent} (I : Inv X pins σ H s) (h : H d = some (.frz o (KdO X.kw d xs))) :
    (d == sysModules) = false ∧ s.heap.get? d = some o ∧ o.ExactDict ∧ ∃ (es : Array DictEntry) (ep : Nat), o.data = .dict es ep ∧ es.size = xs.length ∧ ∀ (i : Nat) (en : Ent), xs[i]? = some en → ∃ hi : i < es.size, es[i].key = .ref en.2.1 ∧ RelV en.2.2 es[i].val := by
  obtain ⟨hd, ⟨z, hs, raw, r, o', es, ep, ho, hx, hdt, he, _⟩, _⟩ := I.hok d _ h
  rw [hd] at ho
  cases ho
  obtain ⟨e1, e2⟩ := kd_entries r he
  exact ⟨hs, hd, hx, es, ep, hdt, e1, e2⟩
end
/-- what is walked of the locked dict: 0 its keys, 1 its values, 2 its items -/
inductive KMode where
  | keys | vals | items
def ItK (K : KW) (m : KMode) (d : Addr) (o : Obj) (xs : List Ent) : It :=
  ⟨fun i H => H d = some (.frz o (KdO K d xs)) ∧ i < xs.length,
   fun i H x H' => match m with
    | .keys => H' = H ∧ ∃ en, xs[i]? = some en ∧ x = .ref en.2.1
    | .vals => H' = H ∧ ∃ en, xs[i]? = some en ∧ x = en.2.2
    | .items => ∃ T en, xs[i]? = some en ∧ x = .ref T ∧ H T = none ∧ H' = upd H T (.tup [.ref en.2.1, en.2.2]),
   fun i H => H d = some (.frz o (KdO K d xs)) ∧ xs.length ≤ i⟩
section
variable {P : Program} {w : World} {Fr : PySem.W.Frag} {tg : Expr} {d : Addr} {o : Obj} {es : Array DictEntry} {ep : Nat} {xs : List Ent}
theorem turn_kkeys (it : Addr) (hod : o.data = .dict es ep) : Turn P w Fr tg (ItK ⟨w, P, Fr⟩ .keys d o xs) [it] it (fun i h => h.IsKeyIter it d i xs.length ep) where
  mem := by simp
  obj := fun i h st b hb => by
    have e : b = it := by simpa using hb
    subst e
    obtain ⟨oi, e, c, dd⟩ := st
    exact ⟨oi, e, fun v z => by rw [dd] at z; cases z⟩
  keep := fun i h h' st k => st.at fun oi e => k it (by simp) oi e
  item := by
    intro X hP hw hK hc i pins s σ H E I hf st hg
    subst hP hw hK
    obtain ⟨hd, hi⟩ := hg
    obtain ⟨f0, f1, f2, f3, f4, f5⟩ := hf it (by simp)
    obtain ⟨hs, hgd, hx, es', ep', hdt, hsz, ent⟩ := VL.Inv.frzKd I hd
    obtain ⟨rfl, rfl⟩ := dict_ep hod hdt
    obtain ⟨en, hen⟩ : ∃ p, xs[i]? = some p := ⟨xs[i], List.getElem?_eq_getElem hi⟩
    obtain ⟨hie, hkey, _⟩ := ent i en hen
    rw [← hsz] at st
    refine wpAny_pyNext_keys_item_raw st ⟨o, hgd, hx, hdt⟩ hie fun h' st' sb => ?_
    have I1 : Inv X pins σ H { s with heap := h' } := I.turned (t' := s.toks) (fun b ob hb e => (sb.2 b hb).trans e) f0 f1 f3 f4 f5
    obtain ⟨oi, e, c, dd⟩ := id st'
    refine ⟨_, rfl, go_of (s := { s with heap := h' }) e c dd (by decide) ⟨.ref en.2.1, H, I1, hkey, ⟨rfl, en, hen, rfl⟩, ?_, fun b hb => (hf b hb).1⟩⟩
    show h'.IsKeyIter it d (i + 1) xs.length _
    rw [← hsz]
    exact st'
  done := by
    intro X hP hw hK hc i pins s σ H E I hf st hg
    subst hP hw hK
    obtain ⟨hd, hi⟩ := hg
    obtain ⟨f0, f1, f2, f3, f4, f5⟩ := hf it (by simp)
    obtain ⟨hs, hgd, hx, es', ep', hdt, hsz, ent⟩ := VL.Inv.frzKd I hd
    obtain ⟨rfl, rfl⟩ := dict_ep hod hdt
    rw [← hsz] at st
    exact wpAny_pyNext_keys_end_raw (I.ok.hd hc) st ⟨o, hgd, hx, hdt⟩ (by omega) fun h' eb => ⟨rfl, I.turned (t' := s.toks) (fun b ob hb e => eb b ob hb e) f0 f1 f3 f4 f5⟩
  self := fun A i s Q E st h => by
    refine wpAny_pyIter_slot st.typeIs F.slot_dict_keyiterator_iter (wpAny_call_entry F.slot_dict_keyiterator_iter st.typeIs F.entry_dict_keyiterator_iter ?_ (F.args_dict_keyiterator_iter_1 _))
    show wpAny _ _ (ret (.ref it)) _ _ s
    exact wpAny_pure ⟨_, rfl, "dict_keyiterator", _, st.typeIs, F.slot_dict_keyiterator_next.lookup, h⟩
theorem turn_kvals (it : Addr) (hod : o.data = .dict es ep) : Turn P w Fr tg (ItK ⟨w, P, Fr⟩ .vals d o xs) [it] it (fun i h => h.IsValIter it d i xs.length ep) where
  mem := by simp
  obj := fun i h st b hb => by
    have e : b = it := by simpa using hb
    subst e
    obtain ⟨oi, e, c, dd⟩ := st
    exact ⟨oi, e, fun v z => by rw [dd] at z; cases z⟩
  keep := fun i h h' st k => st.at fun oi e => k it (by simp) oi e
  item := by
    intro X hP hw hK hc i pins s σ H E I hf st hg
    subst hP hw hK
    obtain ⟨hd, hi⟩ := hg
    obtain ⟨f0, f1, f2, f3, f4, f5⟩ := hf it (by simp)
    obtain ⟨hs, hgd, hx, es', ep', hdt, hsz, ent⟩ := VL.Inv.frzKd I hd
    obtain ⟨rfl, rfl⟩ := dict_ep hod hdt
    obtain ⟨en, hen⟩ : ∃ p, xs[i]? = some p := ⟨xs[i], List.getElem?_eq_getElem hi⟩
    obtain ⟨hie, _, hval⟩ := ent i en hen
    rw [← hsz] at st
    refine wpAny_pyNext_values_item_raw st ⟨o, hgd, hx, hdt⟩ hie fun h' st' sb => ?_
    have I1 : Inv X pins σ H { s with heap := h' } := I.turned (t' := s.toks) (fun b ob hb e => (sb.2 b hb).trans e) f0 f1 f3 f4 f5
    obtain ⟨oi, e, c, dd⟩ := id st'
    refine ⟨_, rfl, go_of (s := { s with heap := h' }) e c dd (by decide) ⟨en.2.2, H, I1, hval, ⟨rfl, en, hen, rfl⟩, ?_, fun b hb => (hf b hb).1⟩⟩
    show h'.IsValIter it d (i + 1) xs.length _
    rw [← hsz]
    exact st'
  done := by
    intro X hP hw hK hc i pins s σ H E I hf st hg
    subst hP hw hK
    obtain ⟨hd, hi⟩ := hg
    obtain ⟨f0, f1, f2, f3, f4, f5⟩ := hf it (by simp)
    obtain ⟨hs, hgd, hx, es', ep', hdt, hsz, ent⟩ := VL.Inv.frzKd I hd
    obtain ⟨rfl, rfl⟩ := dict_ep hod hdt
    rw [← hsz] at st
    exact wpAny_pyNext_values_end_raw (I.ok.hd hc) st ⟨o, hgd, hx, hdt⟩ (by omega) fun h' eb => ⟨rfl, I.turned (t' := s.toks) (fun b ob hb e => eb b ob hb e) f0 f1 f3 f4 f5⟩
  self := fun A i s Q E st h => wpAny_pyIter_valiter st h
theorem turn_kitems {elts : List Expr} {kk : Nat} {tpos : Pos} (it : Addr) (hod : o.data = .dict es ep) :
    Turn P w Fr (.Tuple elts kk tpos) (ItK ⟨w, P, Fr⟩ .items d o xs) [it] it (fun i h => ∃ ok ov, IsItemIter h it d i xs.length ep ok ov) where
  mem := by simp
  obj := fun i h st b hb => by
    have e : b = it := by simpa using hb
    subst e
    obtain ⟨ok, ov, e⟩ := st
    exact ⟨_, e, fun v z => nomatch z⟩
  keep := fun i h h' st k => let ⟨ok, ov, e⟩ := st; ⟨ok, ov, k it (by simp) _ e⟩
  item := by
    intro X hP hw hK hc i pins s σ H E I hf st hg
    subst hP hw hK
    obtain ⟨hd, hi⟩ := hg
    obtain ⟨hs, hgd, hx, es', ep', hdt, hsz, ent⟩ := VL.Inv.frzKd I hd
    obtain ⟨rfl, rfl⟩ := dict_ep hod hdt
    obtain ⟨en, hen⟩ : ∃ p, xs[i]? = some p := ⟨xs[i], List.getElem?_eq_getElem hi⟩
    obtain ⟨hie, hkey, hval⟩ := ent i en hen
    obtain ⟨ok, ov, he⟩ := st
    rw [← hsz] at he
    have hlt : it < s.heap.objs.size := Heap.lt_size he
    refine wpAny_pyNext_items_item_raw he ⟨o, hgd, hx, hdt⟩ hie fun h' ho hT hz hk => ?_
    refine ⟨_, rfl, wpAny_letOwnedTupleGo_items (s := { s with heap := h' }) ho fun h'' he' sb => ?_⟩
    have hT2 : h''.get? s.heap.objs.size = some { cls := .type "tuple", data := .seq #[es'[i].key, es'[i].val] } := (sb.2 _ (Nat.ne_of_gt hlt)).trans hT
    have new : ObjOk X.prog X.w (upd H s.heap.objs.size (.tup [.ref en.2.1, en.2.2])) h'' s.heap.objs.size (.tup [.ref en.2.1, en.2.2]) :=
      ⟨by show 2 ≤ sizeLine; decide, [es'[i].key, es'[i].val], .cons hkey (.cons hval .nil), ⟨_, hT2, rfl, _, rfl⟩⟩
    have I1 : Inv X pins σ (upd H s.heap.objs.size (.tup [.ref en.2.1, en.2.2])) { s with heap := h'' } :=
      I.turnedNew (t' := s.toks) (ch := [it]) (fun b ob hb e => (sb.2 b (by simpa using hb)).trans (hk b ob (by simpa using hb) e)) hf (Nat.le_refl _) new
    refine ⟨.ref s.heap.objs.size, _, I1, rfl, ⟨_, en, hen, rfl, I.hok.fresh (Nat.le_refl _), rfl⟩, ⟨es'[i].key, es'[i].val, ?_⟩, fun b hb => ?_⟩
    · rw [← hsz]; exact he'
    · have e : b = it := by simpa using hb
      rw [e, upd_ne (Nat.ne_of_lt hlt)]
      exact (hf it (by simp)).1
  done := by
    intro X hP hw hK hc i pins s σ H E I hf st hg
    subst hP hw hK
    obtain ⟨hd, hi⟩ := hg
    obtain ⟨f0, f1, f2, f3, f4, f5⟩ := hf it (by simp)
    obtain ⟨hs, hgd, hx, es', ep', hdt, hsz, ent⟩ := VL.Inv.frzKd I hd
    obtain ⟨rfl, rfl⟩ := dict_ep hod hdt
    obtain ⟨ok, ov, he⟩ := st
    rw [← hsz] at he
    exact wpAny_pyNext_items_end_raw (I.ok.hd hc) he ⟨o, hgd, hx, hdt⟩ (by omega) fun h' eb => ⟨rfl, I.turned (t' := s.toks) (fun b ob hb e => eb b ob hb e) f0 f1 f3 f4 f5⟩
  self := fun A i s Q E st h => let ⟨_, _, e⟩ := st; PySem.W.kcp_self e h
end
/-- the locked dict: what its walk asks -/
def iK (K : KW) (m : KMode) (td : TE) : TI := fun σ H R => td σ H fun x H1 => ∃ d o xs, x = .ref d ∧ H1 d = some (.frz o (KdO K d xs)) ∧ R (ItK K m d o xs) H1
section
variable {X : Cx} {tg e : Expr} {td : TE} {apos cpos : Pos}
theorem pi_kkeys (he : PE X e td) : PI X tg e (iK X.kw .keys td) := by
  refine ⟨fun pins s σ H R I h => ?_⟩
  refine thn (he.run pins s σ H _ I h) fun u s1 ⟨x, H1, I1, rx, d, o, xs, ex, hd, q⟩ => ?_
  subst ex
  obtain rfl : u = Value.ref d := rx
  obtain ⟨hs, hgd, hx, es, ep, hdt, hsz, ent⟩ := VL.Inv.frzKd I1 hd
  refine iter_keys hs hgd hx hdt (pi_one (tk := s1.toks) I1 _ (turn_kkeys _ hdt) ⟨_, Heap.get?_push_size _ rfl, rfl, ?_⟩ q)
  rw [hsz] <;> rfl
theorem pi_kvals (he : PE X e td) (hbase : attributeBase e "values" X.env (eval e X.env) = eval e X.env := by rfl) (hline : (apos.endLine == cpos.line) = true := by rfl) : PI X tg (.Call (.Attribute e "values" apos) [] [] cpos) (iK X.kw .vals td) := by
  refine ⟨fun pins s σ H R I h => ?_⟩
  refine wpAny_Call_method (T := "dict") (id := "dict.values") hbase rfl hline F.plainAttrs_dict F.slot_dict_values F.type_dict_values (thn (he.run pins s σ H _ I h) fun u s1 ⟨x, H1, I1, rx, d, o, xs, ex, hd, q⟩ => ?_)
  subst ex
  obtain rfl : u = Value.ref d := rx
  obtain ⟨hs, hgd, hx, es, ep, hdt, hsz, ent⟩ := VL.Inv.frzKd I1 hd
  have raw : s1.heap.DictRaw d es ep := ⟨o, hgd, hx, hdt⟩
  refine ⟨raw.typeIs, fun b q => by cases q; exact ⟨o, hgd, hx.2.1⟩, ?_⟩
  have I2 : Inv X pins σ H1 { s1 with heap := s1.heap.push { cls := .type "dict_values", data := .fields #[.ref d] } } := I1.kept (t' := s1.toks) fun b ob q => Heap.get?_push_of_some _ q
  have fin : wpAny (model X.prog X.w) X.A (pyIter (.ref s1.heap.objs.size)) (PIE X pins σ tg R) X.xe { s1 with heap := s1.heap.push { cls := .type "dict_values", data := .fields #[.ref d] } } := by
    refine wpAny_pyIter_values_raw (d := d) ⟨_, Heap.get?_push_size _ rfl, rfl, rfl⟩ (raw.at fun o h => Heap.get?_push_of_some _ h) (pi_one (tk := s1.toks) I2 _ (turn_kvals _ hdt) ⟨_, Heap.get?_push_size _ rfl, rfl, ?_⟩ q)
    rw [hsz] <;> rfl
  show wpAny _ _ (callWith cpos (.builtin "dict.values") [.ref d] [] []) _ X.xe s1
  exact method_meetsIn F.slot_dict_values F.entry_dict_values rfl (PySem.evalArgs_none ⟨rfl, raw.typeIs, F.args_dict_values_1 _, _, meets_dict_values_raw d hs, ⟨es, ep, raw⟩, fin⟩)
theorem pi_kitems {elts : List Expr} {kk : Nat} {tpos : Pos} (he : PE X e td) (hbase : attributeBase e "items" X.env (eval e X.env) = eval e X.env := by rfl) (hline : (apos.endLine == cpos.line) = true := by rfl) :
    PI X (.Tuple elts kk tpos) (.Call (.Attribute e "items" apos) [] [] cpos) (iK X.kw .items td) := by
  refine ⟨fun pins s σ H R I h => ?_⟩
  refine wpAny_Call_method (T := "dict") (id := "dict.items") hbase rfl hline F.plainAttrs_dict F.slot_dict_items F.type_dict_items (thn (he.run pins s σ H _ I h) fun u s1 ⟨x, H1, I1, rx, d, o, xs, ex, hd, q⟩ => ?_)
  subst ex
  obtain rfl : u = Value.ref d := rx
  obtain ⟨hs, hgd, hx, es, ep, hdt, hsz, ent⟩ := VL.Inv.frzKd I1 hd
  have raw : s1.heap.DictRaw d es ep := ⟨o, hgd, hx, hdt⟩
  refine ⟨raw.typeIs, fun b q => by cases q; exact ⟨o, hgd, hx.2.1⟩, ?_⟩
  have I2 : Inv X pins σ H1 { s1 with heap := s1.heap.push { cls := .type "dict_items", data := .fields #[.ref d] } } := I1.kept (t' := s1.toks) fun b ob q => Heap.get?_push_of_some _ q
  have fin : wpAny (model X.prog X.w) X.A (pyIter (.ref s1.heap.objs.size)) (PIE X pins σ (.Tuple elts kk tpos) R) X.xe { s1 with heap := s1.heap.push { cls := .type "dict_items", data := .fields #[.ref d] } } := by
    refine wpAny_pyIter_items_raw (d := d) ⟨_, Heap.get?_push_size _ rfl, rfl, rfl⟩ (raw.at fun o h => Heap.get?_push_of_some _ h) (pi_one (tk := s1.toks) I2 _ (turn_kitems _ hdt) ⟨.none, .none, ?_⟩ q)
    rw [← hsz]
    exact Heap.get?_push_size _ rfl
  show wpAny _ _ (callWith cpos (.builtin "dict.items") [.ref d] [] []) _ X.xe s1
  exact method_meetsIn F.slot_dict_items F.entry_dict_items rfl (PySem.evalArgs_none ⟨rfl, raw.typeIs, F.args_dict_items_1 _, _, meets_dict_items_raw d hs, ⟨es, ep, raw⟩, fin⟩)
end
end VL

/-! VD6: walks over dicts as data. -/
namespace VL
open PySem PySem.Spec PyProof.Rows L2

def itemsK (m : KMode) (kvs : List (D × D)) : List D := match m with
  | .keys => kvs.map (·.1)
  | .vals => kvs.map (·.2)
  | .items => kvs.map fun p => .tup [p.1, p.2]
theorem itemsK_length (m : KMode) (kvs : List (D × D)) : (itemsK m kvs).length = kvs.length := by cases m <;> simp [itemsK]
theorem RepDs.get {K : KW} {H : Hp} : ∀ {kvs : List (D × D)} {xs : List Ent} {i : Nat} {p : D × D}, RepDs K H kvs xs → kvs[i]? = some p → ∃ en : Ent, xs[i]? = some en ∧ RepS K H p.1 (.ref en.2.1) ∧ RepS K H p.2 en.2.2
  | [], xs, i, p, h, q => by simp at q
  | (k, d) :: ds, xs, 0, p, h, q => by
    simp only [RepDs] at h
    obtain ⟨nk, b, v, r, rfl, h0, h1, h2, h3⟩ := h
    simp at q; subst q
    exact ⟨_, rfl, h1, h2⟩
  | (k, d) :: ds, xs, i + 1, p, h, q => by
    simp only [RepDs] at h
    obtain ⟨nk, b, v, r, rfl, h0, h1, h2, h3⟩ := h
    obtain ⟨en, e1, e2⟩ := RepDs.get h3 (i := i) (p := p) (by simpa using q)
    exact ⟨en, by simpa using e1, e2⟩
/-- the turns: the items stand in G, the dict in any heap that has d -/
theorem itK_ok {K : KW} {G : Hp} {m : KMode} {d : Addr} {o : Obj} {xs : List Ent} {kvs : List (D × D)} (r : RepDs K G kvs xs) {H : Hp} (hd : H d = some (.frz o (KdO K d xs))) :
    (∀ (i : Nat) (x : D), (itemsK m kvs)[i]? = some x → (ItK K m d o xs).go i H ∧ ∀ v H', (ItK K m d o xs).yld i H v H' → ItemOk K G H H' x v) ∧ ∀ i, (itemsK m kvs).length ≤ i → (ItK K m d o xs).stop i H := by
  have hl := r.length
  refine ⟨fun i x hx => ?_, fun i hi => ⟨hd, by rw [itemsK_length] at hi; omega⟩⟩
  have hlt : i < kvs.length := by
    have := (List.getElem?_eq_some_iff.mp hx).1
    rwa [itemsK_length] at this
  refine ⟨⟨hd, by omega⟩, fun v H' y => ?_⟩
  obtain ⟨en, e1, e2, e3⟩ := r.get (List.getElem?_eq_getElem hlt)
  cases m with
  | keys =>
    obtain ⟨rfl, en', f1, rfl⟩ := (show H' = H ∧ ∃ en, xs[i]? = some en ∧ v = .ref en.2.1 from y)
    rw [e1] at f1; cases f1
    simp [itemsK, hlt] at hx
    subst hx
    exact .inl ⟨rfl, e2⟩
  | vals =>
    obtain ⟨rfl, en', f1, rfl⟩ := (show H' = H ∧ ∃ en, xs[i]? = some en ∧ v = en.2.2 from y)
    rw [e1] at f1; cases f1
    simp [itemsK, hlt] at hx
    subst hx
    exact .inl ⟨rfl, e3⟩
  | items =>
    obtain ⟨T, en', f1, rfl, f2, rfl⟩ := (show ∃ T en, xs[i]? = some en ∧ v = .ref T ∧ H T = none ∧ H' = upd H T (.tup [.ref en.2.1, en.2.2]) from y)
    rw [e1] at f1; cases f1
    simp [itemsK, hlt] at hx
    subst hx
    exact .inr ⟨T, _, _, f2, rfl, rfl, rfl, by simp only [RepSs]; exact ⟨_, _, rfl, e2, _, _, rfl, e3, rfl⟩⟩
/-- a dict that stays -/
def sIterK (m : KMode) (t : SE) : SI := fun σ W R => t σ W fun g d W1 => match d with
  | .dct kvs => frozenTg g = true ∧ R (itemsK m kvs) W1
  | _ => False
theorem mono_sIterK {m : KMode} {t : SE} (h : MonoE t) : MonoI (sIterK m t) := fun σ W Q Q' hq w => h _ _ _ _ (fun g d W1 q => by
  cases d <;> first | exact ⟨q.1, hq _ _ q.2⟩ | exact q.elim) w
theorem rd_iterK {K : KW} {m : KMode} {t : SE} (mt : MonoE t) {s : L2.St} {H : Hp} {R : It → Hp → Prop} (h : rdI K (sIterK m t) s H R) : iK K m (rdE K t) s H R := by
  obtain ⟨F, σ, W, A, L, w⟩ := h
  refine L.one mt w fun g d W1 v H1 w1 L1 e1 p => ?_
  cases d with
  | dct kvs =>
    obtain ⟨fz, q⟩ := w1
    have r : RepS K (cut (Hm H1 W1) (A.flatten ++ F.X)) (.dct kvs) v := by
      cases g with
      | st => exact p
      | fr => exact p.keep L.own e1.same (show sto .fr _ from rfl)
      | fr2 => exact p.keep L.own e1.same (show sto .fr2 _ from rfl)
      | b1 => cases fz
      | b2 => cases fz
    simp only [RepS] at r
    obtain ⟨a, od, xs, rfl, h1, h2⟩ := r
    refine ⟨a, od, xs, rfl, Hm_of (cut_some.mp h1).1, q _ _ e1 fun H' sm => itK_ok h2 (sm _ _ h1)⟩
  | _ => exact w1.elim
section
variable {X : Cx} {tg e : Expr} {t : SE} {apos pos : Pos}
theorem vIterKeys (h : VE X e t) : VI X tg e (sIterK .keys t) := ⟨piI (pi_kkeys h.pe) fun s H Q q => rd_iterK h.mono q, mono_sIterK h.mono⟩
theorem vIterVals (h : VE X e t) (hbase : attributeBase e "values" X.env (eval e X.env) = eval e X.env := by rfl) (hline : (apos.endLine == pos.line) = true := by rfl) : VI X tg (.Call (.Attribute e "values" apos) [] [] pos) (sIterK .vals t) := ⟨piI (pi_kvals h.pe hbase hline) fun s H Q q => rd_iterK h.mono q, mono_sIterK h.mono⟩
theorem vIterItems {elts : List Expr} {kk : Nat} {tpos : Pos} (h : VE X e t) (hbase : attributeBase e "items" X.env (eval e X.env) = eval e X.env := by rfl) (hline : (apos.endLine == pos.line) = true := by rfl) : VI X (.Tuple elts kk tpos) (.Call (.Attribute e "items" apos) [] [] pos) (sIterK .items t) := ⟨piI (pi_kitems h.pe hbase hline) fun s H Q q => rd_iterK h.mono q, mono_sIterK h.mono⟩

/-! ### a for over one's own dict, locked -/
def forDK (j : Nat) (g : Addr × Obj × List Ent) (f : TgF) (body : SS) : List D → SEnds → SG → Wd → Prop
  | [], D, σ, W => (∃ ds, σ[j]? = some (some (.lk g ds))) ∧ D.nx σ W
  | x :: xs, D, σ, W => (∃ ds, σ[j]? = some (some (.lk g ds))) ∧ tgD f .st x σ fun σ' => body { nx := forDK j g f body xs D, ct := forDK j g f body xs D, bk := D.nx, rt := D.rt } σ' W
def sForK (j : Nat) (m : KMode) (f : TgF) (body : SS) : SS := fun D σ W => match σ[j]? with
  | some (some (.lk g kvs)) => forDK j g f body (itemsK m kvs) D σ W
  | _ => False
theorem mono_forDK {j : Nat} {g : Addr × Obj × List Ent} {f : TgF} {body : SS} (m : MonoS body) : ∀ {items : List D} {D D' : SEnds} {σ : SG} {W : Wd}, D.Le D' → forDK j g f body items D σ W → forDK j g f body items D' σ W
  | [], D, D', σ, W, l, w => ⟨w.1, l.nx _ _ w.2⟩
  | x :: xs, D, D', σ, W, l, w => ⟨w.1, mono_tgD (fun σ' q => m { nx := forDK j g f body xs D, ct := forDK j g f body xs D, bk := D.nx, rt := D.rt } { nx := forDK j g f body xs D', ct := forDK j g f body xs D', bk := D'.nx, rt := D'.rt } _ _ ⟨fun _ _ q => mono_forDK m l q, l.rt, l.nx, fun _ _ q => mono_forDK m l q⟩ q) w.2⟩
theorem forK_read {K : KW} {X : Cx} (hK : K = X.kw) {m : KMode} {j : Nat} {f : TgF} {tb : SS} (hb : MonoS tb) {Dn : Ends} {s : L2.St} {H : Hp} (h : rdS K (sForK j m f tb) Dn s H) :
    tFor (iK K m (tVar j)) (tgV K f) (rdS K tb) Dn s H := by
  subst hK
  obtain ⟨F, σ, W, A, L, w⟩ := h
  unfold sForK at w
  split at w
  · rename_i gg kvs hx
    obtain ⟨v, a, h1, h2, h3, h4, h5, h6⟩ := L.slot j _ hx
    subst h3
    refine ⟨_, h1, gg.1, gg.2.1, gg.2.2, rfl, Hm_of h5, ?_⟩
    -- all that is not one's own stays through the loop
    generalize hB : cut (Hm H W) A.flatten = B
    have hFB : Same F.B B := fun b o h => by
      rw [← hB]
      exact cut_some.mpr (L.base b o h)
    have hGB : Same (cut (Hm H W) (A.flatten ++ F.X)) B := by
      rw [← hB]
      exact Same.cutl fun b m => List.mem_append_left _ m
    have hXB : ∀ b ∈ F.X, (B b).isSome = true := fun b m => by
      obtain ⟨o, h⟩ := Option.isSome_iff_exists.mp (L.xb b m)
      rw [hFB b o h]; rfl
    have hG : ∀ {σ' : SG} {W' : Wd} {A' : List (List Addr)} {s' : List (Option V)} {H' : Hp}, Live X.kw {F with B := B} σ' W' A' s' H' → Same (cut (Hm H W) (A.flatten ++ F.X)) (cut (Hm H' W') (A'.flatten ++ F.X)) := fun {σ' W' A' s' H'} L' b o h => by
      obtain ⟨h1, h2⟩ := L'.base b o (hGB b o h)
      refine cut_some.mpr ⟨h1, fun m => (List.mem_append.mp m).elim h2 fun m => ?_⟩
      exact (cut_some.mp h).2 (List.mem_append_right _ m)
    have back : ∀ {σ' : SG} {W' : Wd} {A' : List (List Addr)} {s' : List (Option V)} {H' : Hp}, Live X.kw {F with B := B} σ' W' A' s' H' → Live X.kw F σ' W' A' s' H' := fun L' => Live.weak L' hFB L.xb
    have L1' : Live X.kw {F with B := B} σ W A s H := ⟨L.nd, L.al, L.sl, fun b o h => by rw [← hB] at h; exact cut_some.mp h, hXB, L.trk, L.cell, L.kc, L.slot⟩
    refine ⟨fun i m' s' H' => i + m' = (itemsK m kvs).length ∧ ∃ σ' W' A', Live X.kw {F with B := B} σ' W' A' s' H' ∧ forDK j gg f tb ((itemsK m kvs).drop i) (endsOf X.kw F Dn) σ' W', ⟨(itemsK m kvs).length, by omega, σ, W, A, L1', by simpa using w⟩, fun i m' s' H' ⟨hm, σ', W', A', L', w'⟩ => ?_⟩
    have hlk : ∃ ds, σ'[j]? = some (some (.lk gg ds)) := by
      by_cases hlt : i < (itemsK m kvs).length
      · rw [List.drop_eq_getElem_cons hlt] at w'; exact w'.1
      · rw [List.drop_eq_nil_of_le (by omega)] at w'; exact w'.1
    obtain ⟨ds, hds⟩ := hlk
    obtain ⟨v', a', k1, k2, k3, k4, k5, k6⟩ := L'.slot j _ hds
    have okH := itK_ok (m := m) h6 (Hm_of k5)
    by_cases hlt : i < (itemsK m kvs).length
    · have hd : (itemsK m kvs)[i]? = some (itemsK m kvs)[i] := List.getElem?_eq_getElem hlt
      rw [List.drop_eq_getElem_cons hlt] at w'
      obtain ⟨go, yl⟩ := okH.1 i _ hd
      refine .inr ⟨go, fun s2 H2 => ∃ σ2 W2 A2, Live X.kw {F with B := B} σ2 W2 A2 s2 H2 ∧ forDK j gg f tb ((itemsK m kvs).drop (i + 1)) (endsOf X.kw F Dn) σ2 W2, fun s2 H2 ⟨σ2, W2, A2, L2', w2⟩ => ⟨m' - 1, by omega, by omega, σ2, W2, A2, L2', w2⟩, fun x H2 y => ?_⟩
      obtain ⟨L3, e3, p3⟩ := L'.item (hG L') (yl x H2 y)
      refine L3.tgt (W0 := W') (H0 := H2) L3.own (.refl _) p3 w'.2 fun σ4 s4 L4 _ w4 => ?_
      refine ⟨{F with B := B}, σ4, W', A', L4, hb { nx := forDK j gg f tb ((itemsK m kvs).drop (i + 1)) (endsOf X.kw F Dn), ct := forDK j gg f tb ((itemsK m kvs).drop (i + 1)) (endsOf X.kw F Dn), bk := (endsOf X.kw F Dn).nx, rt := (endsOf X.kw F Dn).rt } _ _ _ ⟨fun σ5 W5 q5 A5 s5 H5 L5 => ⟨σ5, W5, A5, L5, q5⟩, fun tg d W5 q5 v H5 r => q5 v H5 ?_, fun σ5 W5 q5 A5 s5 H5 L5 => q5 A5 s5 H5 (back L5), fun σ5 W5 q5 A5 s5 H5 L5 => ⟨σ5, W5, A5, L5, q5⟩⟩ w4⟩
      refine ⟨hFB.trans r.same, r.cell, r.kc, ?_⟩
      have r4 := r.post
      cases tg with
      | fr =>
        obtain ⟨q, e2, hb', nd⟩ := r4
        exact ⟨q, e2, hFB.free hb', nd⟩
      | st => exact r4
      | fr2 => exact r4
      | b1 => exact r4
      | b2 => exact r4
    · rw [List.drop_eq_nil_of_le (by omega)] at w'
      exact .inl ⟨okH.2 i (by omega), w'.2 A' s' H' (back L')⟩
  · exact w.elim
theorem mono_sForK {j : Nat} {m : KMode} {f : TgF} {tb : SS} (h : MonoS tb) : MonoS (sForK j m f tb) := fun D D' σ W l w => by
  unfold sForK at w ⊢
  split at w
  · exact mono_forDK h l w
  · exact w.elim
theorem vForKeys {body : List Stmt} {f : TgF} {tb : SS} {j : Nat} {x : Str} {p : Pos} (hp : PassesOwn (model X.prog X.w) X.A X.env X.xe) (hc : X.calm = true) (hg : VG X tg f) (hb : VSs X body tb) (hN : X.N[j]? = some x := by rfl) (hvis : Vis X.env.scope x := by first | exact .inl rfl | exact .inr (.inl rfl) | exact .inr (.inr rfl))
    (hd : (x == ("__debug__" : Str)) = false := by decide) (hcd : (x == ("__classdict__" : Str)) = false := by decide) (hs : ∀ y, foldedSetIterable (.Name x p) X.env y = pure y := by intro _; rfl) : VS X (.For tg (.Name x p) body [] pos) (sForK j .keys f tb) :=
  ⟨psI (ps_for hp hc (pi_kkeys (pe_var hN hvis hd hcd)) hg hb.pe hs) fun Dn s H q => forK_read rfl hb.mono q, mono_sForK hb.mono⟩
theorem vForItems {body : List Stmt} {f : TgF} {tb : SS} {j : Nat} {x : Str} {p cpos tpos : Pos} {elts : List Expr} {kk : Nat} (hp : PassesOwn (model X.prog X.w) X.A X.env X.xe) (hc : X.calm = true) (hg : VG X (.Tuple elts kk tpos) f) (hb : VSs X body tb) (hN : X.N[j]? = some x := by rfl) (hvis : Vis X.env.scope x := by first | exact .inl rfl | exact .inr (.inl rfl) | exact .inr (.inr rfl))
    (hbase : attributeBase (.Name x p) "items" X.env (eval (.Name x p) X.env) = eval (.Name x p) X.env := by rfl) (hline : (apos.endLine == cpos.line) = true := by rfl)
    (hd : (x == ("__debug__" : Str)) = false := by decide) (hcd : (x == ("__classdict__" : Str)) = false := by decide) (hs : ∀ y, foldedSetIterable (.Call (.Attribute (.Name x p) "items" apos) [] [] cpos) X.env y = pure y := by intro _; rfl) : VS X (.For (.Tuple elts kk tpos) (.Call (.Attribute (.Name x p) "items" apos) [] [] cpos) body [] pos) (sForK j .items f tb) :=
  ⟨psI (ps_for hp hc (pi_kitems (pe_var hN hvis hd hcd) hbase hline) hg hb.pe hs) fun Dn s H q => forK_read rfl hb.mono q, mono_sForK hb.mono⟩
end
end VL

set_option maxHeartbeats 2000000
/-! VD7: dicts made by a comprehension or a display. -/
namespace VL
open PySem PySem.Spec PyProof.Rows L2
section
variable {X : Cx}
/-- {k: v for target in iter if ..}, keys tuples: D the new dict -/
def tKDc (K : KW) (wi : TI) (g : TG) (tt : TT) (tk tv : TE) (vs : List Nat) : TE := fun σ H Q => wi σ H fun J H1 => ∀ D, H1 D = none → ∃ W : Nat → Nat → Hp → Prop, (∃ m, W 0 m (upd H1 D (KdO K D []))) ∧ ∀ i m H, W i m H →
  (J.stop i H ∧ Q (.ref D) H) ∨ (J.go i H ∧ ∃ Nx : Hp → Prop, (∀ H', Nx H' → ∃ m', m' < m ∧ W (i + 1) m' H') ∧ ∀ x H', J.yld i H x H' → g x (wipe σ vs) H' fun σ2 H2 => wipe σ2 vs = wipe σ vs ∧ tt σ2 H2 fun b H3 =>
    if b = true then tk σ2 H3 fun y H4 => tv σ2 H4 fun z H5 => ∃ es k b, y = .ref b ∧ H5 D = some (KdO K D es) ∧ KeysIn K H5 es ∧ IsKey K H5 k b ∧ es.length < sizeLine ∧ Nx (upd H5 D (KdO K D (putE es k b z))) else Nx H3)
theorem kdc_core {pins : List (Addr × Obj)} {s : Shared} {σ : L2.St} {H : Hp} {Q : VK} {kx vx tg iter : Expr} {ifs : List Expr} {scope : Scope} {own : List (Str × Nat)} {pos pos' : Pos} {wi : TI} {g : TG} {tt : TT} {tk tv : TE} {use : Option (Value → Sem Unit)} {Qf : Value → Shared → Prop}
    (hu : X.A.units + 8 < cLine) (hc : X.calm = true) (hN : X.N.Nodup) (I : Inv X pins σ H s) (hi : PI X tg iter wi) (ok : BlkOk X.N X.env.scope scope own)
    (hg : ∀ (s : Shared) (H : Hp) (C : Addr) (cl : List (Str × Addr)) (fp : List Addr), PG (X.blk s H scope (compEnvC scope cl C X.env) fp) tg g) (ht : ∀ (s : Shared) (H : Hp) (C : Addr) (cl : List (Str × Addr)) (fp : List Addr), PTs (X.blk s H scope (compEnvC scope cl C X.env) fp) ifs tt)
    (hk : ∀ (s : Shared) (H : Hp) (C : Addr) (cl : List (Str × Addr)) (fp : List Addr), PE (X.blk s H scope (compEnvC scope cl C X.env) fp) kx tk)
    (he : ∀ (s : Shared) (H : Hp) (C : Addr) (cl : List (Str × Addr)) (fp : List Addr), PE (X.blk s H scope (compEnvC scope cl C X.env) fp) vx tv) (hs : ∀ x, foldedSetIterable iter X.env x = pure x)
    (h : tKDc X.kw wi g tt tk tv (own.map (·.2)) σ H Q)
    (hRR : ∀ D C s' m H', Inv X pins σ H' s' → Q (.ref D) H' → s'.heap.Ns C m → FpOk X pins H' C → compPost (model X.prog X.w) X.A X.xe use Qf (.ref D) C (.ok .next) s') :
    wpAny (model X.prog X.w) X.A (comprehension (.DictComp kx vx [⟨tg, iter, ifs, 0⟩] scope pos) scope X.env pos' newDict false (eval iter X.env) use) Qf X.xe s := by
  have hfree : ∀ y ∈ scope.names, y.2 = .free → ∃ c, X.env.cells.lookup y.1 = some c := fun y hy e => by
    rcases ok.free y hy e with k | k
    · exact I.ok.has _ (.inl k)
    · exact I.ok.has _ (.inr k)
  refine wpAny_comprehension_free (use := use) rfl hs (closure_ok hfree) ok.kind (fun y hy e => by rw [ok.uniq y hy, e])
    (thn (hi.run pins s σ H _ I h) fun xv s1 hx => thn hx fun itv s2 h2 => ?_)
  obtain ⟨it, fp, tn, J, H2, e, I2, T, st2, f2, q⟩ := h2
  subst e
  refine wpAny_newObj_type (newEnv_comp ?_)
  generalize hD : s2.heap.objs.size = D
  have hDn : H2 D = none := I2.hok.fresh (Nat.le_of_eq hD)
  obtain ⟨W, ⟨m0, w0⟩, turn⟩ := q D hDn
  -- the new list
  generalize hs3 : ({ s2 with heap := s2.heap.push { cls := .type "dict", data := .dict #[] } } : Shared) = s3
  have I3 : Inv X pins σ (upd H2 D (KdO X.kw D [])) s3 := by
    rw [← hs3]
    refine I2.laid (t' := s2.toks) (fun b o e => Heap.get?_push_of_some _ e) (Nat.le_of_eq hD) ?_
    rw [← hD]
    exact kd_empty s2.heap I2.big
  have hp3 : s3.heap = s2.heap.push { cls := .type "dict", data := .dict #[] } := by rw [← hs3]
  have szf : ∀ b ∈ fp, b < s2.heap.objs.size := fun b hb => by
    obtain ⟨o, e, _⟩ := T.obj _ _ st2 b hb
    exact Heap.lt_size e
  have fp3 : ∀ b ∈ fp, FpOk X pins (upd H2 D (KdO X.kw D [])) b ∧ b < s3.heap.objs.size := fun b hb => by
    have hlt := szf b hb
    refine ⟨⟨?_, (f2 b hb).2⟩, by rw [hp3, Heap.size_push]; exact Nat.lt_succ_of_lt hlt⟩
    rw [upd_ne (by rw [← hD]; exact Nat.ne_of_lt hlt)]
    exact (f2 b hb).1
  have tn3 : tn 0 s3.heap := T.keep _ _ _ st2 fun b _ o e => by rw [hp3]; exact Heap.get?_push_of_some _ e
  have I4 := block_start I3 ok hN fp3
  have pg := hg s3 (upd H2 D (KdO X.kw D [])) s3.heap.objs.size (cellsFrom (s3.heap.objs.size + 1) scope.names (cloFrom X.env.cells scope.names [])) fp
  have pt := ht s3 (upd H2 D (KdO X.kw D [])) s3.heap.objs.size (cellsFrom (s3.heap.objs.size + 1) scope.names (cloFrom X.env.cells scope.names [])) fp
  have pk := hk s3 (upd H2 D (KdO X.kw D [])) s3.heap.objs.size (cellsFrom (s3.heap.objs.size + 1) scope.names (cloFrom X.env.cells scope.names [])) fp
  have pe := he s3 (upd H2 D (KdO X.kw D [])) s3.heap.objs.size (cellsFrom (s3.heap.objs.size + 1) scope.names (cloFrom X.env.cells scope.names [])) fp
  show codeAny _ _ (.compStart (.DictComp kx vx [⟨tg, iter, ifs, 0⟩] scope pos) 0 (.ref it) (.ref D) (compEnvC scope (cellsFrom (s3.heap.objs.size + 1) scope.names (cloFrom X.env.cells scope.names [])) s3.heap.objs.size X.env)) (compPost (model X.prog X.w) X.A X.xe use Qf (.ref D) s3.heap.objs.size) { s3 with heap := pushCells (s3.heap.push { cls := .type "dict", data := .dict #[] }) scope.names }
  have nofp : ∀ b ∈ fp, (upd H2 D (KdO X.kw D [])) b = none := fun b hb => (fp3 b hb).1.1
  generalize hce : compEnvC scope (cellsFrom (s3.heap.objs.size + 1) scope.names (cloFrom X.env.cells scope.names [])) s3.heap.objs.size X.env = ce at I4 pg pt pk pe ⊢
  have cloc : ce.locals = s3.heap.objs.size := by subst hce; rfl
  generalize hH3 : upd H2 D (KdO X.kw D []) = H3 at I3 I4 pg pt pk pe w0 nofp fp3
  generalize hs4 : ({ s3 with heap := pushCells (s3.heap.push { cls := .type "dict", data := .dict #[] }) scope.names } : Shared) = s4 at I4 ⊢
  have tn4 : tn 0 s4.heap := T.keep _ _ _ tn3 fun b _ o e => by rw [← hs4]; exact pushCells_keeps _ _ _ _ (Heap.get?_push_of_some _ e)
  have still : ∀ {σ' : L2.St} {H' : Hp} {s' : Shared}, Inv (X.blk s3 H3 scope ce fp) [] σ' H' s' → (∀ b ∈ fp, H' b = none) → ∀ b ∈ fp, FpOk (X.blk s3 H3 scope ce fp) [] H' b := fun {σ' H' s'} I' hn b hb =>
    ⟨hn b hb, (I'.ok.exf b hb).1, I'.ok.exfs b hb, .inl hb, fun x c e => (I'.ok.exf b hb).2 x c e, fun p hp => absurd (show p ∈ ([] : List (Addr × Obj)) ++ [] from hp) (by simp)⟩
  have walkall : codeAny (model X.prog X.w) X.A (.compLoop (.DictComp kx vx [⟨tg, iter, ifs, 0⟩] scope pos) 0 (.ref it) (.ref D) ce) (compPost (model X.prog X.w) X.A X.xe use Qf (.ref D) s3.heap.objs.size) s4 := by
    refine compLoop_anyD (fun n s' => ∃ i H', Inv (X.blk s3 H3 scope ce fp) [] (wipe σ (own.map (·.2))) H' s' ∧ tn i s'.heap ∧ (∀ b ∈ fp, H' b = none) ∧ W i n H') ?_ m0 ⟨0, H3, I4, tn4, nofp, w0⟩
    rintro n s5 ⟨i, H5, I5, st5, n5, w5⟩
    rcases turn i n H5 w5 with ⟨stop, qq⟩ | ⟨go, Nx, hNx, step⟩
    · have td := T.done (X.blk s3 H3 scope ce fp) rfl rfl rfl hc i [] s5 _ H5 (fun _ _ => False) I5 (still I5 n5) st5 stop
      refine thnF td fun r s6 ⟨hr, I6⟩ => ?_
      subst hr
      -- back in the def's context
      have I7 : Inv X pins σ H5 s6 := I3.call' (ch := fp) I6.os I6.base I6.hok I6.bare fun b hb => ⟨(fp3 b hb).1.2.2.2.1, (fp3 b hb).1.2.1, (fp3 b hb).1.2.2.2.2.1, (fp3 b hb).1.2.2.2.2.2⟩
      have nC : H5 s3.heap.objs.size = none := by
        have z : H5 ce.locals = none := I6.free
        rw [cloc] at z
        exact z
      obtain ⟨m, hn, _⟩ := I6.loc
      have hn : s6.heap.Ns ce.locals m := hn
      rw [cloc] at hn
      exact hRR D s3.heap.objs.size s6 m H5 I7 qq hn (I3.fpOk (Nat.le_refl _) nC)
    · have ti := T.item (X.blk s3 H3 scope ce fp) rfl rfl rfl hc i [] s5 _ H5 (fun _ _ => False) I5 (still I5 n5) st5 go
      refine thnF ti fun r s6 ⟨u, hr, h6⟩ => ?_
      subst hr
      refine thnF h6 fun _ s7 ⟨x, H7, I7, r7, y7, st7, n7⟩ => ?_
      have I7' := I7.pinned (still I7 n7) (T.obj _ _ st7)
      refine thnF (pg.run _ s7 _ H7 x u _ I7' r7 (step x H7 y7)) fun _ s8 ⟨σ8, H8, I8, hw8, q8⟩ => ?_
      refine thnF (pt.run _ s8 σ8 H8 _ I8 q8) fun b s9 ⟨H9, I9, q9⟩ => ?_
      -- the turn's end
      have fin : ∀ {s' : Shared} {H' : Hp}, Inv (X.blk s3 H3 scope ce fp) ([] ++ pinsAt fp s7.heap) σ8 H' s' → Nx H' → ∃ m, m < n ∧ ∃ i H', Inv (X.blk s3 H3 scope ce fp) [] (wipe σ (own.map (·.2))) H' s' ∧ tn i s'.heap ∧ (∀ b ∈ fp, H' b = none) ∧ W i m H' := fun {s' H'} I' nx => by
        obtain ⟨m', hm, w'⟩ := hNx H' nx
        have pin' : ∀ b ∈ fp, ∀ o, s7.heap.get? b = some o → s'.heap.get? b = some o ∧ H' b = none := fun b hb o e =>
          let z := I'.pin (b, o) (List.mem_append_right _ (List.mem_append_right _ (mem_pinsAt hb e)))
          ⟨z.1, z.2.1⟩
        have hl : (wipe σ (own.map (·.2))).length = σ8.length := by rw [← hw8, wipe_length]
        refine ⟨m', hm, i + 1, H', (I'.unpinned (pins := [])).weak hl (fun j v e => ?_), T.keep _ _ _ st7 fun b hb o e => (pin' b hb o e).1, fun b hb => ?_, w'⟩
        · rw [← hw8] at e
          exact (wipe_some e).1
        · obtain ⟨o, e, _⟩ := T.obj _ _ st7 b hb
          exact (pin' b hb o e).2
      cases b with
      | false =>
        simp only [Bool.false_eq_true, if_false] at q9 ⊢
        exact fin I9 q9
      | true =>
        simp only [if_true] at q9 ⊢
        refine thnF (pk.run _ s9 σ8 H9 _ I9 q9) fun z s10 ⟨yk, H10, I10, r10, q10⟩ => ?_
        refine thnF (pe.run _ s10 σ8 H10 _ I10 q10) fun z2 s11 ⟨yv, H11, I11, r11, es, k, b, ek, hD11, hk11, ib11, hz11, nx⟩ => ?_
        subst ek
        obtain rfl : z = Value.ref b := r10
        exact k_dictSet (X := X.blk s3 H3 scope ce fp) hu I11 hD11 hk11 ib11 hz11 r11 fun s12 I12 => fin I12 nx
  exact codeAny_compStart_dict walkall (T.self X.A 0 _ _ _ tn4 walkall)
end
end VL

/-! VD8: dict comprehensions and displays as data. -/
namespace VL
open PySem PySem.Spec PyProof.Rows L2

def compKD (f : TgF) (tt : SB) (tk tv : SE) : List D → SG → List (D × D) → Wd → (List (D × D) → Wd → Prop) → Prop
  | [], _, acc, W, Q => Q acc W
  | x :: xs, σ, acc, W, Q => tgD f .st x σ fun σ2 => tt σ2 W fun b W1 => if b = true then tk σ2 W1 fun _ kd W2 => tv σ2 W2 fun g d W3 => ∃ k, KeyOk kd k ∧ sto g d ∧ acc.length < sizeLine ∧ compKD f tt tk tv xs σ (dPut acc kd k d) W3 Q
    else compKD f tt tk tv xs σ acc W1 Q
def sDc (it : SI) (f : TgF) (tt : SB) (tk tv : SE) (vs : List Nat) : SN := fun σ W Q => it σ W fun items W1 => compKD f tt tk tv items (wipeD σ vs) [] W1 Q
theorem mono_compKD {f : TgF} {tt : SB} {tk tv : SE} (mt : MonoB tt) (mk : MonoE tk) (mv : MonoE tv) : ∀ {items : List D} {σ : SG} {acc : List (D × D)} {W : Wd} {Q Q' : List (D × D) → Wd → Prop}, (∀ ds W', Q ds W' → Q' ds W') → compKD f tt tk tv items σ acc W Q → compKD f tt tk tv items σ acc W Q'
  | [], σ, acc, W, Q, Q', h, w => h _ _ w
  | x :: xs, σ, acc, W, Q, Q', h, w => mono_tgD (fun σ2 q => mt _ _ _ _ (fun b W1 q => by
      cases b with
      | true => exact mk _ _ _ _ (fun _ kd W2 q => mv _ _ _ _ (fun g d W3 ⟨k, a, b, c, q⟩ => ⟨k, a, b, c, mono_compKD mt mk mv h q⟩) q) q
      | false => exact mono_compKD mt mk mv h q) q) w
theorem mono_sDc {it : SI} {f : TgF} {tt : SB} {tk tv : SE} {vs : List Nat} (mi : MonoI it) (mt : MonoB tt) (mk : MonoE tk) (mv : MonoE tv) : MonoN (sDc it f tt tk tv vs) := fun σ W Q Q' h w => mi _ _ _ _ (fun items W1 q => mono_compKD mt mk mv h q) w
structure AccK (K : KW) (O : List Addr) (Dd : Addr) (W1 : Wd) (H1 : Hp) (W : Wd) (H : Hp) (acc : List (D × D)) : Prop where
  ex : ∃ es, Hm H W Dd = some (KdO K Dd es) ∧ RepDs K (cut (Hm H W) (Dd :: O)) acc es
  new : Hm H1 W1 Dd = none
  same : Same (Hm H1 W1) (Hm H W)
  kc : WdLe W1 W
  cv : CellV H W
section
variable {K : KW} {F : Frm} {σ : SG} {W1 W W2 : Wd} {A : List (List Addr)} {s : L2.St} {H1 H H2 : Hp} {Dd : Addr} {acc : List (D × D)}
theorem AccK.grow {O : List Addr} (a : AccK K O Dd W1 H1 W H acc) (sm : Same (Hm H W) (Hm H2 W2)) (kc : WdLe W W2) (cv : CellV H2 W2) : AccK K O Dd W1 H1 W2 H2 acc := by
  obtain ⟨es, h1, h2⟩ := a.ex
  exact ⟨⟨es, sm _ _ h1, RepDs.mono (Same.cut sm _) _ _ h2⟩, a.new, a.same.trans sm, a.kc.trans kc, cv⟩
theorem AccK.start (L1 : Live K F σ W1 A s H1) (hD : H1 Dd = none) : AccK K (A.flatten ++ F.X) Dd W1 H1 W1 (upd H1 Dd (KdO K Dd [])) [] :=
  ⟨⟨[], Hm_upd L1.ext0 hD _, by simp [RepDs]⟩, Hm_none hD, same_updN (.refl _) (Hm_none hD), .refl _, L1.cell.v.new hD⟩
theorem AccK.post (L1 : Live K F σ W1 A s H1) (a : AccK K (A.flatten ++ F.X) Dd W1 H1 W H acc) : Ext (A.flatten ++ F.X) W1 H1 W H ∧ NewD K (A.flatten ++ F.X) (Hm H1 W1) (Hm H W) acc Dd :=
  ⟨⟨a.same, L1.cell.carry a.same a.kc a.cv fun _ _ _ h => h, a.kc⟩, a.new, a.ex⟩
theorem cut_perm {H : Hp} {O O' : List Addr} (h : ∀ b, b ∈ O ↔ b ∈ O') : cut H O = cut H O' := by
  funext b
  unfold cut
  by_cases e : b ∈ O
  · rw [if_pos e, if_pos ((h b).mp e)]
  · rw [if_neg e, if_neg fun z => e ((h b).mpr z)]
/-- a turn's store -/
theorem AccK.store (Oi : Own A.flatten ([Dd] ++ F.X) (Hm H W)) (a : AccK K (A.flatten ++ F.X) Dd W1 H1 W H acc) {g : Tg} {kd d : D} {k : NK} {y z : V} {W3 : Wd} {H3 : Hp} (e1 : Ext (A.flatten ++ ([Dd] ++ F.X)) W H W2 H2) (e2 : Ext (A.flatten ++ ([Dd] ++ F.X)) W2 H2 W3 H3)
    (pk : ∃ gk, Post K A.flatten ([Dd] ++ F.X) (Hm H W) (Hm H2 W2) gk kd y) (pv : Post K A.flatten ([Dd] ++ F.X) (Hm H2 W2) (Hm H3 W3) g d z) (hk : KeyOk kd k) (st : sto g d) (L2 : Live K (F.plus [Dd] (Hm H W)) σ W2 A s H2) (hz : acc.length < sizeLine) :
    ∃ es b, y = .ref b ∧ H3 Dd = some (KdO K Dd es) ∧ KeysIn K H3 es ∧ IsKey K H3 k b ∧ es.length < sizeLine ∧ es.length = acc.length ∧ AccK K (A.flatten ++ F.X) Dd W1 H1 W3 (upd H3 Dd (KdO K Dd (putE es k b z))) (dPut acc kd k d) := by
  obtain ⟨gk, pk⟩ := pk
  obtain ⟨b, ey, rk⟩ := hk.ref Oi e1.same pk
  subst ey
  have sm := e1.same.trans e2.same
  have a3 := a.grow sm (e1.kc.trans e2.kc) e2.cell.v
  obtain ⟨es, h1, h2⟩ := a3.ex
  have perm : ∀ {H : Hp}, cut H (A.flatten ++ ([Dd] ++ F.X)) = cut H (Dd :: (A.flatten ++ F.X)) := cut_perm fun b => by
    simp only [List.mem_append, List.mem_cons, List.not_mem_nil, or_false]
    constructor <;> (intro h; rcases h with h | h | h <;> simp [h])
  have rk' : RepS K (cut (Hm H3 W3) (Dd :: (A.flatten ++ F.X))) kd (.ref b) := by
    rw [← perm]
    exact RepS.mono (Same.cut e2.same _) _ _ rk
  have rv' : RepS K (cut (Hm H3 W3) (Dd :: (A.flatten ++ F.X))) d z := by
    rw [← perm]
    exact pv.keep L2.own e2.same st
  refine ⟨es, b, rfl, Hm_of h1, KeysIn.mono (Same.uncut.trans Same.unHm) h2.keys, IsKey.mono (Same.uncut.trans Same.unHm) ⟨kd, hk, rk'⟩, by rw [h2.length]; exact hz, h2.length, ⟨_, Hm_upd_eq h1, ?_⟩, a.new, same_updN a3.same a.new, a3.kc, a3.cv.upd h1⟩
  rw [cut_upd (by simp)]
  exact h2.put hk rk' rv'
end
theorem dc_read {K : KW} {it : SI} {f : TgF} {tt : SB} {tk tv : SE} {vs : List Nat} (mi : MonoI it) (mt : MonoB tt) (mk : MonoE tk) (mv : MonoE tv) (hsl : ∀ i ∈ f.slots, i ∈ vs) {s : L2.St} {H : Hp} {Q : VK} (h : rdN K (sDc it f tt tk tv vs) s H Q) :
    tKDc K (rdI K it) (tgV K f) (rdB K tt) (rdE K tk) (rdE K tv) vs s H Q := by
  obtain ⟨F, σ, W, A, L, w⟩ := h
  refine ⟨F, σ, W, A, L, mi _ _ _ _ (fun items W1 q J H1 e okJ Dd hD => ?_) w⟩
  have L1 := L.step e
  refine ⟨fun i m H' => i + m = items.length ∧ ∃ W' acc, AccK K (A.flatten ++ F.X) Dd W1 H1 W' H' acc ∧ compKD f tt tk tv (items.drop i) (wipeD σ vs) acc W' fun kvs W2 => ∀ p H', Ext (A.flatten ++ F.X) W H W2 H' → NewD K (A.flatten ++ F.X) (Hm H W) (Hm H' W2) kvs p → Q (.ref p) H',
    ⟨items.length, by omega, W1, [], .start L1 hD, by simpa using q⟩, fun i m H' ⟨hm, W', acc, ai, w'⟩ => ?_⟩
  have fr1 : Same (cut (Hm H1 W1) (A.flatten ++ F.X)) H' := fun b o h => Same.unHm _ _ (ai.same _ _ (cut_some.mp h).1)
  have okH := okJ H' fr1
  by_cases hlt : i < items.length
  · rw [List.drop_eq_getElem_cons hlt] at w'
    obtain ⟨go, yl⟩ := okH.1 i _ (List.getElem?_eq_getElem hlt)
    refine .inr ⟨go, fun H3 => ∃ W3 acc3, AccK K (A.flatten ++ F.X) Dd W1 H1 W3 H3 acc3 ∧ compKD f tt tk tv (items.drop (i + 1)) (wipeD σ vs) acc3 W3 fun kvs W2 => ∀ p H', Ext (A.flatten ++ F.X) W H W2 H' → NewD K (A.flatten ++ F.X) (Hm H W) (Hm H' W2) kvs p → Q (.ref p) H',
      fun H3 ⟨W3, acc3, a3, w3⟩ => ⟨m - 1, by omega, by omega, W3, acc3, a3, w3⟩, fun x H2 y => ?_⟩
    have trD : ∀ p ∈ [Dd], ∃ o, Hm H' W' p = some o := fun p m => by
      have e : p = Dd := by simpa using m
      subst e
      obtain ⟨es, h1, _⟩ := ai.ex
      exact ⟨_, h1⟩
    have nwD : ∀ p ∈ [Dd], Hm H1 W1 p = none := fun p m => by
      have e : p = Dd := by simpa using m
      subst e
      exact ai.new
    have Li := L1.inside ai.same ai.kc ai.cv (ps := [Dd]) nwD trD
    have gG : Same (cut (Hm H1 W1) (A.flatten ++ F.X)) (cut (Hm H' W') (A.flatten ++ (F.plus [Dd] (Hm H' W')).X)) := fun b o h => by
      obtain ⟨k1, k2⟩ := cut_some.mp h
      refine cut_some.mpr ⟨ai.same _ _ k1, fun mm => ?_⟩
      rcases List.mem_append.mp mm with mm | mm
      · exact k2 (List.mem_append_left _ mm)
      · rcases List.mem_append.mp (show b ∈ [Dd] ++ F.X from mm) with mm | mm
        · rw [nwD b mm] at k1; cases k1
        · exact k2 (List.mem_append_right _ mm)
    have LiW := Li.wipe vs
    obtain ⟨L3, e3, p3⟩ := LiW.item gG (yl x H2 y)
    refine L3.tgt (W0 := W') (H0 := H2) L3.own (.refl _) p3 w' fun σ4 s4 L4 hw w4 => ⟨?_, ?_⟩
    · rw [hw _ hsl, wipe_wipe _ _ _ fun _ m => m]
    · refine L4.test mt w4 fun b W5 H5 w5 L5 e5 => ?_
      cases b with
      | false =>
        have e6 := e3.trans e5
        exact ⟨W5, acc, ai.grow e6.same e6.kc e6.cell.v, w5⟩
      | true =>
        refine L5.one mk w5 fun gk kd W6 y6 H6 w6 L6 e6 p6 => ?_
        refine L6.one mv w6 fun g d W7 z7 H7 w7 L7 e7 p7 => ?_
        obtain ⟨k, hk, st, hz, w8⟩ := w7
        have e5' := e3.trans e5
        obtain ⟨es, b, c1, c2, c3, c4, c5, _, c6⟩ := ai.store LiW.own (e5'.trans e6) e7 ⟨gk, p6.back e5'.same⟩ p7 hk st L6 hz
        exact ⟨es, k, b, c1, c2, c3, c4, c5, W7, _, c6, w8⟩
  · rw [List.drop_eq_nil_of_le (by omega)] at w'
    obtain ⟨e9, n1, n2⟩ := ai.post L1
    exact .inl ⟨okH.2 i (by omega), w' _ H' (e.trans e9) ⟨e.same.free n1, n2⟩⟩
/-- a dict comprehension: how it is read, as a value and given to a name on one line -/
structure VNC (X : Cx) (e : Expr) (t : SN) : Prop where
  ex : ∃ r : TE, PE X e r ∧ (∀ (i : Nat) (y : Str) (py spos : Pos), X.N[i]? = some y → X.env.scope.names.lookup y = some .local → swapsWith e (some (.Name y py)) spos.line X.env = pure true → PS X (.Assign [.Name y py] e spos) (tAsg r (gName i))) ∧ ∀ s H Q, rdN X.kw t s H Q → r s H Q
  mono : MonoN t
theorem VNC.vn {X : Cx} {e : Expr} {t : SN} (h : VNC X e t) : VN X e t :=
  let ⟨_, p, _, i⟩ := h.ex
  ⟨peI p i, h.mono⟩
section
variable {X : Cx} {kx vx tg iter : Expr} {ifs : List Expr} {scope : Scope} {own : List (Str × Nat)} {pos : Pos}
theorem pe_kdc {wi : TI} {g : TG} {tt : TT} {tk tv : TE} (hu : X.A.units + 8 < cLine) (hc : X.calm = true) (hN : X.N.Nodup) (hi : PI X tg iter wi) (ok : BlkOk X.N X.env.scope scope own)
    (hg : ∀ (s : Shared) (H : Hp) (C : Addr) (cl : List (Str × Addr)) (fp : List Addr), PG (X.blk s H scope (compEnvC scope cl C X.env) fp) tg g) (ht : ∀ (s : Shared) (H : Hp) (C : Addr) (cl : List (Str × Addr)) (fp : List Addr), PTs (X.blk s H scope (compEnvC scope cl C X.env) fp) ifs tt)
    (hk : ∀ (s : Shared) (H : Hp) (C : Addr) (cl : List (Str × Addr)) (fp : List Addr), PE (X.blk s H scope (compEnvC scope cl C X.env) fp) kx tk)
    (he : ∀ (s : Shared) (H : Hp) (C : Addr) (cl : List (Str × Addr)) (fp : List Addr), PE (X.blk s H scope (compEnvC scope cl C X.env) fp) vx tv) (hs : ∀ x, foldedSetIterable iter X.env x = pure x) :
    PE X (.DictComp kx vx [⟨tg, iter, ifs, 0⟩] scope pos) (tKDc X.kw wi g tt tk tv (own.map (·.2))) := by
  refine ⟨fun pins s σ H Q I h => ?_⟩
  rw [arm_eval_DictComp]
  refine kdc_core hu hc hN I hi ok hg ht hk he hs h fun D C s' m H' I' q hn f => ⟨m, hn, fun h'' sb => ?_⟩
  obtain ⟨g0, g1, g2, g3, g4, g5⟩ := f
  exact ⟨.ref D, H', I'.turned (t' := s'.toks) (fun b o hb e => (sb.2 b hb).trans e) g0 g1 g3 g4 g5, rfl, q⟩
theorem ps_setKdc {i : Nat} {y : Str} {py spos : Pos} {wi : TI} {g : TG} {tt : TT} {tk tv : TE} (hu : X.A.units + 8 < cLine) (hc : X.calm = true) (hN : X.N.Nodup) (hy : X.N[i]? = some y) (hyl : X.env.scope.names.lookup y = some .local)
    (hsw : swapsWith (.DictComp kx vx [⟨tg, iter, ifs, 0⟩] scope pos) (some (.Name y py)) spos.line X.env = pure true) (hi : PI X tg iter wi) (ok : BlkOk X.N X.env.scope scope own)
    (hg : ∀ (s : Shared) (H : Hp) (C : Addr) (cl : List (Str × Addr)) (fp : List Addr), PG (X.blk s H scope (compEnvC scope cl C X.env) fp) tg g) (ht : ∀ (s : Shared) (H : Hp) (C : Addr) (cl : List (Str × Addr)) (fp : List Addr), PTs (X.blk s H scope (compEnvC scope cl C X.env) fp) ifs tt)
    (hk : ∀ (s : Shared) (H : Hp) (C : Addr) (cl : List (Str × Addr)) (fp : List Addr), PE (X.blk s H scope (compEnvC scope cl C X.env) fp) kx tk)
    (he : ∀ (s : Shared) (H : Hp) (C : Addr) (cl : List (Str × Addr)) (fp : List Addr), PE (X.blk s H scope (compEnvC scope cl C X.env) fp) vx tv) (hs : ∀ x, foldedSetIterable iter X.env x = pure x) :
    PS X (.Assign [.Name y py] (.DictComp kx vx [⟨tg, iter, ifs, 0⟩] scope pos) spos) (tAsg (tKDc X.kw wi g tt tk tv (own.map (·.2))) (gName i)) := by
  refine ⟨fun pins s σ H D I h => ?_⟩
  rw [exec_Assign_Name_used _ _ _ _ hsw]
  refine wpAny_bind (wpAny_standAt (wpAny_bind ?_))
  show wpAny _ X.A (do let _ ← comprehension (.DictComp kx vx [⟨tg, iter, ifs, 0⟩] scope pos) scope X.env (firstIterPos [⟨tg, iter, ifs, 0⟩] pos) newDict false (eval iter X.env) (some (assign (.Name y py) X.env))) _ _ s
  have h : tKDc X.kw wi g tt tk tv (own.map (·.2)) σ H (fun x H1 => gName i x σ H1 D.nx) := h
  refine wpAny_bind (thn (kdc_core (Qf := fun _ s' => SP X pins D .next s') hu hc hN I hi ok hg ht hk he hs h fun L C s' m H' I' q hn f => ?_) fun _ s' hq => wpAny_pure (wpAny_pure hq))
  show wpAny _ _ (assign (.Name y py) X.env (.ref L)) _ _ _
  refine wpAny_assign_Name (store_ok2 (v := V.ref L) I' hN hy (.inl hyl) rfl (fun s2 I2 ⟨a, sb, ha⟩ => ?_) (.inr hyl))
  obtain ⟨g0, g1, g2, g3, g4, g5⟩ := f
  have haC : C ≠ a := by
    rcases ha with z | z
    · rw [z]; exact g1
    · exact fun e => g4 y a z e.symm
  refine ⟨m, hn.sameBut sb haC, fun h3 sb3 => ?_⟩
  exact ⟨_, H', I2.turned (t' := s2.toks) (fun b o hb e => (sb3.2 b hb).trans e) g0 g1 g3 g4 g5, q⟩
theorem vncDc {it : SI} {f : TgF} {tt : SB} {tk tv : SE} (hu : X.A.units + 8 < cLine) (hc : X.calm = true) (hN : X.N.Nodup) (hi : VI X tg iter it) (ok : BlkOk X.N X.env.scope scope own) (hsl : ∀ i ∈ f.slots, i ∈ own.map (·.2))
    (hg : ∀ (s : Shared) (H : Hp) (C : Addr) (cl : List (Str × Addr)) (fp : List Addr), VG (X.blk s H scope (compEnvC scope cl C X.env) fp) tg f) (ht : ∀ (s : Shared) (H : Hp) (C : Addr) (cl : List (Str × Addr)) (fp : List Addr), VTs (X.blk s H scope (compEnvC scope cl C X.env) fp) ifs tt)
    (hk : ∀ (s : Shared) (H : Hp) (C : Addr) (cl : List (Str × Addr)) (fp : List Addr), VE (X.blk s H scope (compEnvC scope cl C X.env) fp) kx tk)
    (he : ∀ (s : Shared) (H : Hp) (C : Addr) (cl : List (Str × Addr)) (fp : List Addr), VE (X.blk s H scope (compEnvC scope cl C X.env) fp) vx tv) (hs : ∀ x, foldedSetIterable iter X.env x = pure x := by intro _; rfl) :
    VNC X (.DictComp kx vx [⟨tg, iter, ifs, 0⟩] scope pos) (sDc it f tt tk tv (own.map (·.2))) := by
  have mt : MonoB tt := (ht ({} : Shared) (fun _ => none) 0 [] []).mono
  have mk : MonoE tk := (hk ({} : Shared) (fun _ => none) 0 [] []).mono
  have mv : MonoE tv := (he ({} : Shared) (fun _ => none) 0 [] []).mono
  exact ⟨⟨_, pe_kdc (g := tgV X.kw f) (tt := rdB X.kw tt) (tk := rdE X.kw tk) (tv := rdE X.kw tv) hu hc hN hi.pe ok (fun s H C cl fp => hg s H C cl fp) (fun s H C cl fp => (ht s H C cl fp).pe) (fun s H C cl fp => (hk s H C cl fp).pe) (fun s H C cl fp => (he s H C cl fp).pe) hs,
    fun i y py spos hy hl sw => ps_setKdc (g := tgV X.kw f) (tt := rdB X.kw tt) (tk := rdE X.kw tk) (tv := rdE X.kw tv) hu hc hN hy hl sw hi.pe ok (fun s H C cl fp => hg s H C cl fp) (fun s H C cl fp => (ht s H C cl fp).pe) (fun s H C cl fp => (hk s H C cl fp).pe) (fun s H C cl fp => (he s H C cl fp).pe) hs,
    fun s H Q h => dc_read hi.mono mt mk mv hsl h⟩, mono_sDc hi.mono mt mk mv⟩
theorem vNewOwnC {e : Expr} {t : SN} {j : Nat} {x : Str} {p : Pos} (hi : X.N[j]? = some x) (hx : X.env.scope.names.lookup x = some .local) (h : VNC X e t) (sw : swapsWith e (some (.Name x p)) pos.line X.env = pure true) : VS X (.Assign [.Name x p] e pos) (sNewOwn j t) :=
  let ⟨_, _, st, rd⟩ := h.ex
  ⟨psI (st j x p pos hi hx sw) fun Dn s H q => by
    obtain ⟨F, σ, W, A, L, w⟩ := q
    have := rd_newOwn h.mono ⟨F, σ, W, A, L, w⟩
    exact rd _ _ _ this, mono_sNewOwn h.mono⟩
theorem swd_true {kx vx : Expr} {gs : List Comprehension} {scope : Scope} {pos py : Pos} {y : Str} {l : Nat} {env : Env} (hk : env.scope.kind = .function) (hy : env.scope.names.lookup y = some .local) (hl : (py.line == pos.line) = true)
    (ha : (scope.names.any fun (n, k) => n == y && (k == .local || k == .cell)) = false) : swapsWith (.DictComp kx vx gs scope pos) (some (.Name y py)) l env = pure true := by
  have ky : env.kindOf y = some .local := hy
  have hb : env.blockKind = .function := by unfold Env.blockKind; rw [hk]; rfl
  unfold swapsWith
  simp only [hb, ky, ha, Expr.pos, hl]
  rfl
end
end VL

/-! VD9: {k: v}. -/
namespace VL
open PySem PySem.Spec PyProof.Rows L2
section
variable {X : Cx} {k v : Expr} {pos : Pos} {tk tv : SE}
def sDisp1 (tk tv : SE) : SN := fun σ W Q => tk σ W fun _ kd W2 => tv σ W2 fun g d W3 => ∃ nk, KeyOk kd nk ∧ sto g d ∧ Q (dPut [] kd nk d) W3
theorem vnDisp1 (hu : X.A.units + 9 < cLine) (hk : VE X k tk) (hv : VE X v tv) : VN X (.Dict [some k] [v] pos) (sDisp1 tk tv) := by
  refine ⟨⟨fun pins s σ0 H Q I h => ?_⟩, fun σ W Q Q' hq w => hk.mono _ _ _ _ (fun _ kd W2 q => hv.mono _ _ _ _ (fun g d W3 ⟨nk, a, b, c⟩ => ⟨nk, a, b, hq _ _ c⟩) q) w⟩
  obtain ⟨F, σ, W, A, L, w⟩ := h
  have hn := I.hok.fresh (Nat.le_refl s.heap.objs.size)
  have hl1 : ([some k] : List (Option Expr)).all (·.isSome) = true := rfl
  have hlen := pairTrees_length [some k] [v] X.env pos hl1 rfl
  rw [arm_eval_Dict, zip_pairTrees [some k] [v] X.env pos hl1 rfl, dictDisplay_pairs (pairTrees [some k] [v] X.env pos) (by intro e; rw [e] at hlen; cases hlen) (by rw [hlen]; show 1 < 17; omega)]
  have I1 := I.laid (a := s.heap.objs.size) (o := KdO X.kw s.heap.objs.size []) (h' := s.heap.push { cls := .type "dict", data := .dict #[] }) (t' := s.toks) (fun _ _ q => Heap.get?_push_of_some _ q) (Nat.le_refl _) (kd_empty s.heap I.big)
  generalize hp : s.heap.objs.size = p at hn I1
  have ai := AccK.start L hn
  have Li := L.inside ai.same ai.kc ai.cv (ps := [p]) (fun q m => by have e : q = p := by simpa using m
                                                                     subst e; exact ai.new) (fun q m => by
    have e : q = p := by simpa using m
    subst e
    obtain ⟨es, h1, _⟩ := ai.ex
    exact ⟨_, h1⟩)
  refine wpAny_bind (wpAny_standAt (wpAny_bind (wpAny_subDictH (knd := nestedKind X.prog X.w) (show X.A.units + 8 < cLine by omega) (by rw [hlen]; show 1 ≤ 15; omega) (pairTrees_cons_walk ?_))))
  rw [hp]
  refine thn (hk.pe.run pins _ σ0 _ (fun y H2 => rdE X.kw tv σ0 H2 fun z H3 => ∃ b nk, y = .ref b ∧ H3 p = some (KdO X.kw p []) ∧ IsKey X.kw H3 nk b ∧ Q (.ref p) (upd H3 p (KdO X.kw p [(nk, b, z)]))) I1 (Li.one hk.mono w fun gk kd W2 y H2 w2 L2 e2 p2 => L2.one hv.mono w2 fun g d W3 z H3 w3 L3 e3 p3 => ?_)) fun u s2 ⟨y, H2, I2, ry, q2⟩ => thn (hv.pe.run pins s2 σ0 H2 _ I2 q2) fun u3 s3 ⟨z, H3, I3, rz, b, nk, ey, hp3, ib, q3⟩ => pairTrees_nil_walk ?_
  · obtain ⟨nk, hkk, st, q⟩ := w3
    obtain ⟨es, b, c1, c2, c3, c4, c5, c0, c6⟩ := ai.store Li.own e2 e3 ⟨gk, p2⟩ p3 hkk st L2 (by rw [sizeLine_eq]; decide)
    have e0 : es = [] := List.eq_nil_of_length_eq_zero c0
    subst e0
    refine ⟨b, nk, c1, c2, c4, ?_⟩
    obtain ⟨e9, n9⟩ := c6.post L
    exact q _ _ e9 n9
  · subst ey
    obtain rfl : u = Value.ref b := ry
    obtain ⟨z0, hd, raw, rel, dd⟩ := kd_rd I3 (.inl hp3) (fun x m => (nomatch m))
    cases rel
    refine ⟨[(nk, b, u3)], ⟨rfl, rfl, ib.is I3, trivial⟩, dd, fun h' tk dd' hs => wpAny_pure ⟨.ref p, _, ?_, rfl, q3⟩⟩
    have he : ∃ q, h'.get? p = some q := let ⟨q, _, _, hq, _⟩ := dd'; ⟨q, hq⟩
    exact d_write I3 (by rw [hp3]; exact True.intro) hs he (kd_ok (by rw [sizeLine_eq]; show 1 ≤ 16777216; omega) hd (.cons ⟨rfl, rfl, rz⟩ .nil) dd')
end
end VL

/-! VE1: min of four, join, xs[::-1], x += e, sum of a tuple. -/
namespace VL
open PySem PySem.Spec PyProof.Rows L2
open Sem (wp)
section
variable {prog : Program} {w : World} {A : Around} {E : Value → Shared → Prop} {s : Shared}
theorem F.args_min4 (a b c d : Value) : argsOk "min" ⟨[a, b, c, d], []⟩ := by unfold argsOk; kernel_rfl
def least4 (a b c d : Int) : Int := let m := if b < a then b else a; let m := if c < m then c else m; if d < m then d else m
theorem min_four_ints {a b c d : Int} {t u x y : Tok} {Q : Value → Shared → Prop} (hh : A.handled = none)
    (h : ∀ h' tk tt, (∀ d o, s.heap.get? d = some o → h'.get? d = some o) → Q (.int (least4 a b c d) tt) { s with heap := h', toks := tk }) :
    wpAny (model prog w) A (call (.builtin "min") [.int a t, .int b u, .int c x, .int d y]) Q E s := by
  have hname : (toString "min" ++ toString ".loop" : String) = "min.loop" := by decide
  generalize hxs : (#[(a, t), (b, u), (c, x), (d, y)] : Array (Int × Tok)) = xs
  have hsz4 : xs.size = 4 := by rw [← hxs]; rfl
  have hitems : (intItems xs) = #[.int a t, .int b u, .int c x, .int d y] := by rw [← hxs]; simp [intItems]
  refine call_function_tree F.kind_min F.plain_min F.entry_min (F.args_min4 _ _ _ _) ?_
  show wpAny _ A.in1 (Builtin.Builtins.bindParams "min" ["key", "default"] 0 ⟨[], []⟩ >>= _) _ _ s
  refine wpAny_bind (wpAny_of_eq (show Builtin.Builtins.bindParams "min" ["key", "default"] 0 ⟨[], []⟩ = pure [none, none] from rfl) ?_)
  show wpAny _ A.in1 (newTuple [.int a t, .int b u, .int c x, .int d y] >>= _) _ _ s
  refine wpAny_bind (wpAny_newObj_type ?_)
  have hT : (s.heap.push { cls := .type "tuple", data := .seq #[.int a t, .int b u, .int c x, .int d y] }).IsTuple s.heap.objs.size (intItems xs) := ⟨_, Heap.get?_push_size _ rfl, rfl, 0, by rw [hitems]⟩
  refine wpAny_bind (wpAny_pyIter_tuple (s := { s with heap := s.heap.push { cls := .type "tuple", data := .seq #[.int a t, .int b u, .int c x, .int d y] } }) hT ?_)
  have hsz : (s.heap.push { cls := .type "tuple", data := .seq #[.int a t, .int b u, .int c x, .int d y] }).objs.size = s.heap.objs.size + 1 := Heap.size_push ..
  generalize hs1 : (s.heap.push { cls := .type "tuple", data := .seq #[.int a t, .int b u, .int c x, .int d y] }) = g1 at hT hsz
  have W := Walks.tuple (prog := prog) (w := w) (A := A.in1) hh g1.objs.size s.heap.objs.size (by rw [hsz]; exact Nat.ne_of_lt (Nat.lt_succ_self _)) (intItems xs)
  refine wpAny_bind (wpAny_newObj_type ?_)
  rw [hname]
  have hit : intItems xs = intItems xs := rfl
  have hn : (intItems xs).size = 4 := by simp [intItems, hsz4]
  rw [hn] at W
  generalize hs2 : (g1.push _ : Heap) = g2
  have hsz2 : g2.objs.size = s.heap.objs.size + 2 := by rw [← hs2, Heap.size_push, hsz]
  refine wpAny_pure ⟨plainId_quiet F.plain_min_loop _, codeAny_min_loop_first W (fun i j => decide (numAt xs i < numAt xs j)) (CmpOf.ints_lt (numAt xs) (fun _ _ => intItems_at)) g2.objs.size ?_ (by decide) (W.frame _ g2 _ ?_ fun b _ o e => Heap.get?_push_of_some _ e) (Heap.get?_push_size _ rfl) fun v h' tk hP hk => ?_⟩
  · intro hm
    have : g2.objs.size = g1.objs.size ∨ g2.objs.size = s.heap.objs.size := by simpa using hm
    rw [hsz2, hsz] at this
    have e2 : s.heap.objs.size + 2 = s.heap.objs.size + 1 ∨ s.heap.objs.size + 2 = s.heap.objs.size := this
    clear this hm hs2 hsz2 hs1 hT hsz W
    have key : ∀ n : Nat, ¬ (n + 2 = n + 1 ∨ n + 2 = n) := fun n => by omega
    exact key _ e2
  · rw [← hs2]
    exact ⟨⟨_, Heap.get?_push_size _ rfl, rfl, rfl⟩, hT.push _⟩
  · have hv : ∃ tt, v = .int (least4 a b c d) tt := by
      have hP' : (intItems xs)[argBest (fun i j => decide (numAt xs i < numAt xs j)) 3]? = some v := hP
      obtain ⟨tt, e⟩ := intItems_at hP'
      refine ⟨tt, ?_⟩
      rw [e]
      congr 1
      rw [← hxs]
      have n0 : numAt #[(a, t), (b, u), (c, x), (d, y)] 0 = a := rfl
      have n1 : numAt #[(a, t), (b, u), (c, x), (d, y)] 1 = b := rfl
      have n2 : numAt #[(a, t), (b, u), (c, x), (d, y)] 2 = c := rfl
      have n3 : numAt #[(a, t), (b, u), (c, x), (d, y)] 3 = d := rfl
      unfold least4
      by_cases h1 : b < a
      · by_cases h2 : c < b
        · by_cases h3 : d < c <;> simp [argBest, n0, n1, n2, n3, h1, h2, h3]
        · by_cases h3 : d < b <;> simp [argBest, n0, n1, n2, n3, h1, h2, h3]
      · by_cases h2 : c < a
        · by_cases h3 : d < c <;> simp [argBest, n0, n1, n2, n3, h1, h2, h3]
        · by_cases h3 : d < a <;> simp [argBest, n0, n1, n2, n3, h1, h2, h3]
    obtain ⟨tt, rfl⟩ := hv
    refine h h' tk tt fun b' o e => ?_
    have hb := Heap.lt_size e
    have g1e : g1.get? b' = some o := by rw [← hs1]; exact Heap.get?_push_of_some _ e
    have g2e : g2.get? b' = some o := by rw [← hs2]; exact Heap.get?_push_of_some _ g1e
    refine hk b' o (fun hm => ?_) (fun hm => ?_) (Heap.get?_push_of_some _ g2e)
    · have e1 : b' = g1.objs.size := by simpa using hm
      rw [e1, hsz] at hb
      exact absurd hb (Nat.not_lt_of_le (Nat.le_succ _))
    · rw [hm, hsz2] at hb
      exact absurd hb (Nat.not_lt_of_le (Nat.le_add_right _ 2))
end
section
variable {X : Cx} {e o i f : Expr} {pos : Pos} {te ti : SE}
theorem call_min4 (hc : X.calm = true) : CallR X (.builtin "min") (fun xs H Q => ∃ i j k l, xs = [.int i, .int j, .int k, .int l] ∧ Q (.int (least4 i j k l)) H) := by
  intro pins s σ H xs us Q I r h
  obtain ⟨i, j, k, l, rfl, q⟩ := h
  cases r with
  | cons r1 r =>
    cases r with
    | cons r2 r =>
      cases r with
      | cons r3 r =>
        cases r with
        | cons r4 r =>
          cases r
          obtain ⟨t1, rfl⟩ := r1
          obtain ⟨t2, rfl⟩ := r2
          obtain ⟨t3, rfl⟩ := r3
          obtain ⟨t4, rfl⟩ := r4
          exact min_four_ints (I.ok.hd hc) fun h' tk tt k' => ⟨.int (least4 i j k l), H, I.kept k', ⟨_, rfl⟩, q⟩
def dMin4 : FnD := fun ds R => match ds with
  | [(_, .int i), (_, .int j), (_, .int k), (_, .int l)] => R .st (.int (least4 i j k l))
  | _ => False
theorem mono_dMin4 : MonoF dMin4 := fun ds R R' h w => by
  unfold dMin4 at w ⊢
  split at w
  · exact h _ _ w
  · exact w.elim
theorem okMin4 {K : KW} : FnDOk K (fun xs H Q => ∃ i j k l, xs = [.int i, .int j, .int k, .int l] ∧ Q (.int (least4 i j k l)) H) dMin4 := by
  intro A Y W0 H0 W H at' ds vs R Q p w k
  unfold dMin4 at w
  split at w
  · obtain ⟨v1, us1, rfl, p1, v2, us2, rfl, p2, v3, us3, rfl, p3, v4, us4, rfl, p4, e⟩ := p
    cases (show us4 = [] from e)
    rw [p1.int, p2.int, p3.int, p4.int]
    exact ⟨_, _, _, _, rfl, k _ _ _ _ at'.refl Post.ofInt w⟩
  · exact w.elim

/-! ### sep.join(texts) -/
def strsOf : List D → Option (List Str)
  | [] => some []
  | .str x :: r => (strsOf r).map (x :: ·)
  | _ :: _ => none
theorem strsOf_map (l : List Str) : strsOf (l.map D.str) = some l := by
  induction l with
  | nil => rfl
  | cons x l ih => simp [strsOf, ih]
theorem strsOf_eq : ∀ {ds : List D} {l : List Str}, strsOf ds = some l → ds = l.map D.str
  | [], l, h => by cases h; rfl
  | .str x :: r, l, h => by
    unfold strsOf at h
    cases e : strsOf r with
    | none => rw [e] at h; cases h
    | some l2 => rw [e] at h; cases h; rw [strsOf_eq e]; rfl
  | .non :: _, _, h => by cases h
  | .bl _ :: _, _, h => by cases h
  | .int _ :: _, _, h => by cases h
  | .tup _ :: _, _, h => by cases h
  | .lst _ :: _, _, h => by cases h
  | .dct _ :: _, _, h => by cases h
  | .deal _ :: _, _, h => by cases h
  | .fn _ :: _, _, h => by cases h
  | .scr _ :: _, _, h => by cases h
def joinOk (a : Str) (ys : List Str) : Prop := (ys.map (·.length)).sum + ys.length * a.length ≤ 16777216
def textsOf : D → Option (List Str)
  | .lst ds => strsOf ds
  | .tup ds => strsOf ds
  | _ => none
def sJoin (to te : SE) : SE := fun σ W Q => to σ W fun _ x W1 => ∃ a, x = .str a ∧ te σ W1 fun _ y W2 => ∃ ys, textsOf y = some ys ∧ joinOk a ys ∧ Q .st (.str (Txt.join a ys)) W2
theorem vJoin {to : SE} {apos : Pos} (ho : VE X o to) (he : VE X e te) (hs : starEach [e] X.env = [(false, eval e X.env)] := by rfl) (hbase : attributeBase o "join" X.env (eval o X.env) = eval o X.env := by rfl) (hline : (apos.endLine == pos.line) = true := by rfl) :
    VE X (.Call (.Attribute o "join" apos) [e] [] pos) (sJoin to te) := by
  refine ⟨peI (pe_join ho.pe he.pe hs hbase hline) fun s H Q ⟨F, σ, W, A, L, w⟩ => ?_, fun σ W Q Q' h w => ho.mono _ _ _ _ (fun _ x W1 ⟨a, ea, q⟩ => ⟨a, ea, he.mono _ _ _ _ (fun _ y W2 ⟨ys, a, b, c⟩ => ⟨ys, a, b, h _ _ _ c⟩) q⟩) w⟩
  refine L.one ho.mono w fun t1 x W1 v H1 w1 L1 e1 p1 => ?_
  obtain ⟨a, rfl, w1⟩ := w1
  have ev := p1.str
  subst ev
  refine ⟨⟨a, rfl⟩, L1.one he.mono w1 fun t2 y W2 u H2 w2 L2 e2 p2 => ?_⟩
  obtain ⟨ys, ey, hz, q⟩ := w2
  have fin := q (.str (Txt.join a ys)) H2 (e1.trans e2) Post.ofStr
  have act : RepS X.kw H2 y u := RepS.mono (Same.uncut.trans Same.unHm) _ _ (p2.rep L1.own e2.same)
  cases y with
  | lst ds =>
    have eq := strsOf_eq (show strsOf ds = some ys from ey)
    subst eq
    simp only [RepS] at act
    obtain ⟨p, xs, rfl, h1, h2⟩ := act
    rw [RepSs.strs] at h2
    subst h2
    exact ⟨a, p, ys, rfl, rfl, .inl (SqL.of h1), hz, fin⟩
  | tup ds =>
    have eq := strsOf_eq (show strsOf ds = some ys from ey)
    subst eq
    simp only [RepS] at act
    obtain ⟨p, xs, rfl, h1, h2⟩ := act
    rw [RepSs.strs] at h2
    subst h2
    exact ⟨a, p, ys, rfl, rfl, .inr (SqT.of h1), hz, fin⟩
  | _ => cases ey

/-! ### xs[::-1] -/
def sRev (te : SE) : SE := fun σ W Q => te σ W fun t d W1 => match d with
  | .lst ds => est t ds ∧ Q .fr (.lst ds.reverse) W1
  | _ => False
theorem RepSs.rev {K : KW} {H : Hp} : ∀ {ds : List D} {vs : List V}, RepSs K H ds vs → RepSs K H ds.reverse vs.reverse
  | [], vs, h => by simp only [RepSs] at h; subst h; simp [RepSs]
  | d :: ds, vs, h => by
    simp only [RepSs] at h
    obtain ⟨x, r, rfl, h1, h2⟩ := h
    rw [List.reverse_cons, List.reverse_cons]
    exact (RepSs.rev h2).append (RepSs.one h1)
theorem paired_rev {α β : Type} {F : α → β → Prop} : ∀ {l₁ : List α} {l₂ : List β}, Paired F l₁ l₂ → Paired F l₁.reverse l₂.reverse
  | _, _, .nil => .nil
  | _, _, .cons h t => by
    rw [List.reverse_cons, List.reverse_cons]
    exact Paired.snoc (paired_rev t) h
theorem vRev {p2 p3 p4 : Pos} {j : Nat} (he : VE X e te) : VE X (.Subscript e (.Slice none none (some (.UnaryOp .USub (.Constant (.int 1) j p4) p3)) p2) pos) (sRev te) := by
  have hst : VO X (some (.UnaryOp .USub (.Constant (.int 1) j p4) p3)) (spS (sUn dNeg (sC (.int 1)))) := voS (vNeg vInt)
  refine ⟨⟨fun pins s σ0 H Q I h => ?_⟩, fun σ W Q Q' h w => he.mono _ _ _ _ (fun g d W1 q => by
    cases d <;> first | exact ⟨q.1, h _ _ _ q.2⟩ | exact q.elim) w⟩
  obtain ⟨F, σ, W, A, L, w⟩ := h
  have neg : VE X (.UnaryOp .USub (.Constant (.int 1) j p4) p3) (sUn dNeg (sC (.int 1))) := vNeg vInt
  refine Subscript_ (thn (he.pe.run pins s σ0 H (fun v H1 => rdE X.kw (sUn dNeg (sC (.int 1))) σ0 H1 fun k H2 => k = .int (-1) ∧ ∃ p xs, v = .ref p ∧ H2 p = some (.lst xs) ∧ ∀ q, H2 q = none → Q (.ref q) (upd H2 q (.lst xs.reverse))) I (L.one he.mono w fun g d W1 v H1 w1 L1 e1 p1 => ?_)) fun v s1 ⟨x, H1, I1, r1, q1⟩ => ?_)
  · refine L1.one neg.mono (show sUn dNeg (sC (.int 1)) σ W1 (fun _ d W2 => d = .int (-1) ∧ W2 = W1) from ⟨rfl, rfl⟩) fun g2 d2 W2 v2 H2 w2 L2 e2 p2 => ?_
    obtain ⟨rfl, rfl⟩ := w2
    refine ⟨p2.int, ?_⟩
    cases d with
    | lst ds =>
      obtain ⟨es, q⟩ := w1
      have p1' := p1.mono e2.same
      have e12 := e1.trans e2
      obtain ⟨p, xs, rfl, h1, _, h3⟩ := p1'.lst L.own e12.same
      exact ⟨p, xs, rfl, Hm_of h1, At.newL (W0 := W) (H0 := H) ⟨L.own, e12⟩ (h3 es).rev (R := fun g d => ∀ v H', Ext (A.flatten ++ F.X) W H W2 H' → Post X.kw A.flatten F.X (Hm H W) (Hm H' W2) g d v → Q v H') q fun g d z H' e3 pz r => r z H' (e12.trans e3) pz⟩
    | _ => exact w1.elim
  · refine wpAny_Slice ?_
    rw [evalPart_none, evalPart_some]
    refine wpAny_pure (wpAny_pure (thn (neg.pe.run pins s1 σ0 H1 _ I1 q1) fun st s3 ⟨k, H3, I3, rk, ek, p, xs, ex, hp, fin⟩ => ?_))
    subst ex ek
    obtain ⟨tt, rfl⟩ := rk
    obtain rfl : v = Value.ref p := r1
    have I4 : Inv X pins σ0 H3 { s3 with heap := s3.heap.push { cls := .type "slice", data := .fields #[.none, .none, .int (-1) tt] } } := I3.kept (t' := s3.toks) fun b ob q => Heap.get?_push_of_some _ q
    obtain ⟨its, r, ht, hz⟩ := I4.list (SqL.of hp)
    show wpAny (model X.prog X.w) X.A (subscriptTail e (.Slice none none (some (.UnaryOp .USub (.Constant (.int 1) j p4) p3)) p2) (.ref p) (.ref s3.heap.objs.size)) (EP X pins σ0 Q) X.xe { s3 with heap := s3.heap.push { cls := .type "slice", data := .fields #[.none, .none, .int (-1) tt] } }
    refine tail_any (ops := [.ref p, .ref s3.heap.objs.size]) ht.isList.typeIs slot_list_getitem.lookup ?_ (by with_unfolding_all rfl)
    refine wpAny_getItem_list_slice ht.isList (Heap.IsSliceOf.new ..) .none .none (.int ..) (by simp) ?_ (by rw [List.size_toArray] <;> (rw [← r.length]; exact hz))
    rw [PySem.W.krv_pick, List.toList_toArray]
    refine ⟨.ref _, _, I4.laid (t' := s3.toks) (o := .lst xs.reverse) (fun b ob q => Heap.get?_push_of_some _ q) (Nat.le_refl _) ?_, rfl, fin _ (I4.hok.fresh (Nat.le_refl _))⟩
    exact ⟨by rw [List.length_reverse]; exact hz, its.reverse, 0, paired_rev r, Heap.get?_push_size _ rfl⟩
end
end VL

/-! VE2: sorted, x += e, sum of a tuple. -/
namespace VL
open PySem PySem.Spec PySem.W PyProof.Rows L2

/-! ### sorted -/
def leD (a b : D) : Bool := dataLe false py a b
def sortD (ds : List D) : List D := ds.mergeSort leD
def SortOk (ds : List D) : Prop := pyOks ds = true ∧ AllAlike (ds.map py) ∧ Sortable (ds.map py) ∧ ∀ d ∈ ds, (py d).depth ≤ 8
section
variable {prog : Program} {w : World} {A : Around} {E : Value → Shared → Prop} {s : Shared}
/-- sorted of what is gathered -/
theorem sorted_col {l : Addr} {Q : Value → Shared → Prop} 
    (h : wpAny (model prog w) A.in1 (collect (.ref l)) (fun vs s1 => vs.length ≤ sizeLine ∧ ∀ E', wpAny (model prog w) A.in1.in1 (Builtin.«list.sort» ⟨[.ref s1.heap.objs.size], []⟩) (fun f s' => f = .done (.ret .none) ∧ Q (.ref s1.heap.objs.size) s') E' { s1 with heap := s1.heap.push (seqObj "list" vs.toArray 0) }) E s) :
    wpAny (model prog w) A (call (.builtin "sorted") [.ref l]) Q E s := by
  refine PySem.Calls.call_function_entry kind_sorted plain_sorted entry_sorted (args_sorted1 _) ?_
  unfold Builtin.«sorted»
  refine wpAny_bind (m := checkCount "sorted" 1 1 _) (wpAny_pure ?_)
  refine wpAny_bind (wpAny_mono h (fun vs s1 ⟨hz, body⟩ => ?_) fun _ _ e => e)
  refine wpAny_bind (wpAny_newList ?_ hz)
  have at1 : (s1.heap.push (seqObj "list" vs.toArray 0)).get? s1.heap.objs.size = some (seqObj "list" vs.toArray 0) := Heap.get?_push_size _ rfl
  refine wpAny_bind (wpAny_holding (wpAny_call_entry slot_list_sort ⟨_, at1, rfl⟩ entry_list_sort ?body (args_list_sort _)))
  case body =>
    refine wpAny_mono (body _) (fun f s' hf => ?_) fun _ _ e => e
    obtain ⟨rfl, hq⟩ := hf
    exact ⟨_, rfl, wpAny_pure ⟨_, rfl, hq⟩⟩
end

theorem repss_zip {K : KW} {G : Hp} : ∀ {ds : List D} {vs : List V}, RepSs K G ds vs → ds.length = vs.length ∧ ∀ p ∈ ds.zip vs, RepS K G p.1 p.2
  | [], vs, h => by simp only [RepSs] at h; subst h; exact ⟨rfl, fun p m => by simp at m⟩
  | d :: ds, vs, h => by
    simp only [RepSs] at h
    obtain ⟨x, r, rfl, h1, h2⟩ := h
    obtain ⟨a, b⟩ := repss_zip h2
    refine ⟨by simp [a], fun p m => ?_⟩
    rw [List.zip_cons_cons] at m
    rcases List.mem_cons.mp m with rfl | m
    · exact h1
    · exact b p m
theorem repss_of {K : KW} {G : Hp} : ∀ {ps : List (D × V)}, (∀ p ∈ ps, RepS K G p.1 p.2) → RepSs K G (ps.map (·.1)) (ps.map (·.2))
  | [], _ => by simp [RepSs]
  | p :: ps, h => by
    simp only [List.map_cons, RepSs]
    exact ⟨_, _, rfl, h p (by simp), repss_of fun q m => h q (by simp [m])⟩
theorem zip_fst {α β : Type} : ∀ {as : List α} {bs : List β}, as.length = bs.length → (as.zip bs).map Prod.fst = as
  | [], [], _ => rfl
  | a :: as, b :: bs, h => by simp [zip_fst (as := as) (bs := bs) (by simpa using h)]
  | [], _ :: _, h => by simp at h
  | _ :: _, [], h => by simp at h
theorem zip_snd {α β : Type} : ∀ {as : List α} {bs : List β}, as.length = bs.length → (as.zip bs).map Prod.snd = bs
  | [], [], _ => rfl
  | a :: as, b :: bs, h => by simp [zip_snd (as := as) (bs := bs) (by simpa using h)]
  | [], _ :: _, h => by simp at h
  | _ :: _, [], h => by simp at h
section
variable {X : Cx} {pins : List (Addr × Obj)} {σ : L2.St} {H : Hp} {s : Shared} {E : Value → Shared → Prop}
theorem each_zip {us : List Value} : ∀ {ds : List D} {vs : List V}, ds.length = vs.length → L2.Vals vs us → EachIs (fun u (b : D × V) => RelV b.2 u) us (ds.zip vs)
  | [], [], _, h => by cases h; exact .nil
  | d :: ds, v :: vs, hl, h => by
    cases h with
    | cons a b => exact .cons a (each_zip (by simpa using hl) b)
  | [], _ :: _, hl, _ => by simp at hl
  | _ :: _, [], hl, _ => by simp at hl
theorem sort_body (hu : X.A.units + 65 < cLine) (I : Inv X pins σ H s) {ds : List D} {vs : List V} {us : List Value} (r : RepSs X.kw H ds vs) (rv : L2.Vals vs us) (ok : SortOk ds) (hz : vs.length ≤ sizeLine) {Q : VK}
    (fin : ∀ p vs', H p = none → vs'.length = vs.length → (∀ G, RepSs X.kw G ds vs → RepSs X.kw G (sortD ds) vs') → Q (.ref p) (upd H p (.lst vs'))) :
    wpAny (model X.prog X.w) X.A.in1.in1 (Builtin.«list.sort» ⟨[.ref s.heap.objs.size], []⟩) (fun f s' => f = .done (.ret .none) ∧ EP X pins σ Q (.ref s.heap.objs.size) s') E { s with heap := s.heap.push (seqObj "list" us.toArray 0) } := by
  obtain ⟨hl, hzip⟩ := repss_zip r
  have hlu : us.length = vs.length := (Paired.length rv).symm
  have at1 : (s.heap.push (seqObj "list" us.toArray 0)).get? s.heap.objs.size = some (seqObj "list" us.toArray 0) := Heap.get?_push_size _ rfl
  have e := each_zip (us := us) hl rv
  have hmap : (ds.zip vs).map (fun b => py b.1) = ds.map py := by
    rw [show (fun b : D × V => py b.1) = py ∘ Prod.fst from rfl, ← List.map_map, zip_fst hl]
  have er : EachIs (fun u (b : D × V) => ∃ as, Reads (sortingHeap (s.heap.push (seqObj "list" us.toArray 0)) s.heap.objs.size us) u (py b.1) as) us (ds.zip vs) := by
    refine EachIs.of_zip (by rw [hlu, List.length_zip, hl]; simp) fun p m => ?_
    have h1 := e.zip p m
    have h2 := hzip p.2 (List.of_mem_zip m).2
    have ok1 : pyOk p.2.1 = true := by
      have mm : p.2.1 ∈ ds := (List.of_mem_zip (show (p.2.1, p.2.2) ∈ ds.zip vs from (List.of_mem_zip m).2)).1
      have all : ∀ {l : List D}, pyOks l = true → ∀ d ∈ l, pyOk d = true := by
        intro l
        induction l with
        | nil => intro _ d m; cases m
        | cons x l ih =>
          intro h d m
          simp only [pyOks, Bool.and_eq_true] at h
          cases m with
          | head => exact h.1
          | tail _ m => exact ih h.2 d m
      exact all ok.1 _ mm
    obtain ⟨as, rd⟩ := Dp.reads I _ _ _ (RepS.dp _ _ ok1 h2) h1
    exact ⟨as, Reads.keeps (fun b o q => sortingHeap_old (Nat.ne_of_lt (Heap.lt_size q)) (Heap.get?_push_of_some _ q)) rd⟩
  have al : AllAlike ((ds.zip vs).map fun b => py b.1) := by rw [hmap]; exact ok.2.1
  have so : Sortable ((ds.zip vs).map fun b => py b.1) := by rw [hmap]; exact ok.2.2.1
  have S : SortsAt X.prog X.w X.A.in1.in1 { s with heap := sortingHeap (s.heap.push (seqObj "list" us.toArray 0)) s.heap.objs.size us } (dataKind (sortingHeap (s.heap.push (seqObj "list" us.toArray 0)) s.heap.objs.size us) ((ds.zip vs).map fun b => py b.1)) us :=
    SortsAt.data (s := { s with heap := sortingHeap (s.heap.push (seqObj "list" us.toArray 0)) s.heap.objs.size us }) (each_map (R := fun v d => ∃ as, Reads (sortingHeap (s.heap.push (seqObj "list" us.toArray 0)) s.heap.objs.size us) v d as) (fun b : D × V => py b.1) er) al so fun d hd => by
      rw [hmap] at hd
      obtain ⟨d0, m, rfl⟩ := List.mem_map.mp hd
      have := ok.2.2.2 d0 m
      show X.A.units + 1 + 1 + _ < cLine
      omega
  refine list_sort_vals (s := { s with heap := s.heap.push (seqObj "list" us.toArray 0) }) at1 S (by rw [hlu]; exact hz) ⟨rfl, ?_⟩
  have out := sortVals_data (R := fun u (b : D × V) => RelV b.2 u) false e er al
  generalize sortVals _ false us us = os at out
  obtain ⟨ep, he⟩ := PyProof.Rows.sortedHeap_at (out := os.toArray) at1
  have perm := List.mergeSort_perm (ds.zip vs) (dataLe false fun b : D × V => py b.1)
  generalize hsp : (ds.zip vs).mergeSort (dataLe false fun b : D × V => py b.1) = sp at out perm
  have vals : L2.Vals (sp.map Prod.snd) os := by
    clear he perm hsp
    induction out with
    | nil => exact .nil
    | cons a b ih => exact .cons a ih
  have hlen : (sp.map Prod.snd).length = vs.length := by
    rw [List.length_map, perm.length_eq, List.length_zip, hl]; simp
  refine ⟨.ref s.heap.objs.size, upd H s.heap.objs.size (.lst (sp.map Prod.snd)), I.laid (t' := s.toks) (fun b o q => ?_) (Nat.le_refl _) ⟨by rw [hlen]; exact hz, os, ep, vals, he⟩, rfl, fin _ _ (I.hok.fresh (Nat.le_refl _)) hlen fun G hG => ?_⟩
  · have hlt := Heap.lt_size q
    rw [PyProof.Rows.sortedHeap_old (Nat.ne_of_lt hlt) (by rw [Heap.size_push]; exact Nat.lt_succ_of_lt hlt)]
    exact Heap.get?_push_of_some _ q
  · have e1 : sp.map Prod.fst = sortD ds := by
      unfold sortD
      have q := sort_maps (r := dataLe false fun b : D × V => py b.1) (s := leD) Prod.fst (l := ds.zip vs) (fun a _ b _ => rfl)
      rw [zip_fst hl] at q
      rw [← hsp]; exact q
    rw [← e1]
    refine repss_of fun p m => ?_
    exact (repss_zip hG).2 p (perm.mem_iff.mp m)
variable {e : Expr} {pos : Pos} {te : SE} {td : SDs}
def rSortL (K : KW) : List V → Hp → VK → Prop := fun xs H Q => ∃ a ds vs, xs = [.ref a] ∧ SqL K H a vs ∧ RepSs K H ds vs ∧ SortOk ds ∧ ∀ p vs', H p = none → vs'.length = vs.length → (∀ G, RepSs K G ds vs → RepSs K G (sortD ds) vs') → Q (.ref p) (upd H p (.lst vs'))
theorem call_sortL (hu : X.A.units + 65 < cLine) : CallR X (.builtin "sorted") (rSortL X.kw) := by
  intro pins s σ H xs us Q I r h
  obtain ⟨a, ds, vs, rfl, hs, rd, ok, fin⟩ := h
  obtain ⟨u, rfl, ru⟩ := vals1 r
  cases ru
  obtain ⟨its, rv, hl, hz⟩ := I.list hs
  have hzu : its.length ≤ sizeLine := by rw [← rv.length]; exact hz
  refine sorted_col (collect_list hl.isList ⟨hzu, fun E' => ?_⟩ hzu)
  have I1 : Inv X pins σ H { s with heap := (s.heap.push (seqObj "list" #[] 0)).update s.heap.objs.size (Obj.mapSeq (· ++ its.toArray)) } := I.kept (t' := s.toks) fun b o q =>
    (Heap.get?_update_other _ _ (Ne.symm (Nat.ne_of_lt (Heap.lt_size q)))).trans (Heap.get?_push_of_some _ q)
  exact sort_body hu I1 rd rv ok hz fin
def dSort : FnD := fun ds R => match ds with
  | [(t, .lst xs)] => est t xs ∧ SortOk xs ∧ R .fr (.lst (sortD xs))
  | _ => False
theorem mono_dSort : MonoF dSort := fun ds R R' h w => by
  unfold dSort at w ⊢
  split at w
  · exact ⟨w.1, w.2.1, h _ _ w.2.2⟩
  · exact w.elim
theorem okSort {K : KW} : FnDOk K (rSortL K) dSort := by
  intro A Y W0 H0 W H at' ds vs R Q p w k
  unfold dSort at w
  split at w
  · rename_i t xs
    obtain ⟨es, ok, q⟩ := w
    obtain ⟨v, rfl, p1⟩ := p.one
    obtain ⟨a, us, rfl, h1, _, h3⟩ := p1.lst at'.own at'.ext.same
    have r := h3 es
    refine ⟨a, xs, us, rfl, SqL.of (Hm_of h1), RepSs.mono (Same.uncut.trans Same.unHm) _ _ r, ok, fun p vs' hp _ hr => ?_⟩
    exact at'.newL (hr _ r) q k p hp
  · exact w.elim
/-! sorted(d), list(d), list(d.items()) -/
def sDSort (td : SDs) : SE := fun σ W Q => td σ W fun g kvs W1 => el g = .st ∧ SortOk (kvs.map (·.1)) ∧ Q .fr (.lst (sortD (kvs.map (·.1)))) W1
theorem RepDs.keysR {K : KW} {G : Hp} : ∀ {kvs : List (D × D)} {xs : List Ent}, RepDs K G kvs xs → RepSs K G (kvs.map (·.1)) (xs.map fun en => V.ref en.2.1)
  | [], xs, h => by simp only [RepDs] at h; subst h; simp [RepSs]
  | (k, d) :: ds, xs, h => by
    simp only [RepDs] at h
    obtain ⟨nk, b, v, r, rfl, h0, h1, h2, h3⟩ := h
    simp only [List.map_cons, RepSs]
    exact ⟨_, _, rfl, h1, RepDs.keysR h3⟩
theorem Inv.rdKd {d : Addr} {xs : List Ent} (I : Inv X pins σ H s) (h : Rd H d (KdO X.kw d xs)) :
    (d == sysModules) = false ∧ xs.length ≤ sizeLine ∧ ∃ (es : Array DictEntry) (ep : Nat), s.heap.DictRaw d es ep ∧ es.size = xs.length ∧ ∀ (i : Nat) (en : Ent), xs[i]? = some en → ∃ hi : i < es.size, es[i].key = .ref en.2.1 ∧ RelV en.2.2 es[i].val := by
  obtain ⟨⟨z, hs, raw, r, o, es, ep, ho, hx, hdt, he, _⟩, _⟩ := (show ObjOk X.prog X.w H s.heap d (KdO X.kw d xs) from h.ok I.hok)
  obtain ⟨e1, e2⟩ := kd_entries r he
  exact ⟨hs, z, es, ep, ⟨o, ho, hx, hdt⟩, e1, e2⟩
theorem vals_keys {xs : List Ent} {es : Array DictEntry} {us : List Value} (hl : us.length = xs.length) (ent : ∀ (i : Nat) (en : Ent), xs[i]? = some en → ∃ hi : i < es.size, es[i].key = .ref en.2.1 ∧ RelV en.2.2 es[i].val) (h : ∀ (i : Nat) (u : Value), us[i]? = some u → ∃ hi : i < es.size, u = es[i].key) :
    L2.Vals (xs.map fun en => V.ref en.2.1) us := by
  have key : ∀ (n : Nat) (l : List Ent) (m : List Value), m.length = l.length → (∀ (i : Nat) (en : Ent), l[i]? = some en → ∃ u, m[i]? = some u ∧ u = Value.ref en.2.1) → L2.Vals (l.map fun en => V.ref en.2.1) m := by
    intro n l
    induction l with
    | nil => intro m hm _; cases List.eq_nil_of_length_eq_zero hm; exact .nil
    | cons en l ih =>
      intro m hm hh
      cases m with
      | nil => simp at hm
      | cons u m =>
        obtain ⟨u', h1, h2⟩ := hh 0 en rfl
        simp at h1; subst h1
        refine .cons h2 (ih m (by simpa using hm) fun i en' e => ?_)
        exact hh (i + 1) en' (by simpa using e)
  refine key 0 xs us hl fun i en e => ?_
  have hi : i < us.length := by rw [hl]; exact (List.getElem?_eq_some_iff.mp e).1
  refine ⟨us[i], List.getElem?_eq_getElem hi, ?_⟩
  obtain ⟨h1, h2⟩ := h i us[i] (List.getElem?_eq_getElem hi)
  obtain ⟨_, h3, _⟩ := ent i en e
  rw [h2, h3]
theorem call_sortK (hu : X.A.units + 65 < cLine) (hc : X.calm = true) : CallR X (.builtin "sorted") (fun xs H Q => ∃ a es ds, xs = [.ref a] ∧ Rd H a (KdO X.kw a es) ∧ RepSs X.kw H ds (es.map fun en => V.ref en.2.1) ∧ SortOk ds ∧ ∀ p vs', H p = none → (∀ G, RepSs X.kw G ds (es.map fun en => V.ref en.2.1) → RepSs X.kw G (sortD ds) vs') → Q (.ref p) (upd H p (.lst vs'))) := by
  intro pins s σ H xs us Q I r h
  obtain ⟨a, ens, ds, rfl, hs, rd, ok, fin⟩ := h
  obtain ⟨u, rfl, ru⟩ := vals1 r
  cases ru
  obtain ⟨lo, hz, es, ep, raw, hsz, ent⟩ := VL.Inv.rdKd I hs
  refine sorted_col (kdu_collect (KdlSrc.rawDict (es := es) (ep := ep) lo) (I.ok.hd hc) raw (by rw [hsz]; exact hz) fun h' tk acc keep hacc => ?_)
  have hl : acc.toList.length = ens.length := by rw [Array.length_toList, hacc.1, hsz]
  have rv : L2.Vals (ens.map fun en => V.ref en.2.1) acc.toList := vals_keys hl ent fun i u e => hacc.2 i u (by rw [← Array.getElem?_toList]; exact e)
  refine ⟨by rw [hl]; exact hz, fun E' => ?_⟩
  have I1 : Inv X pins σ H { s with heap := h', toks := tk } := I.kept (t' := tk) keep
  exact sort_body hu I1 rd rv ok (by rw [List.length_map]; exact hz) fun p vs' hp _ hr => fin p vs' hp hr
theorem vDSort {p : Pos} (hu : X.A.units + 65 < cLine) (hc : X.calm = true) (ho : VDs X e td) (hg : Gl X "sorted") (hm : X.mg "sorted" = none) (hv : bootBuiltins "sorted" = some (.builtin "sorted")) (hst : starEach [e] X.env = (false, eval e X.env) :: starEach [] X.env := by rfl) : VE X (.Call (.Name "sorted" p) [e] [] pos) (sDSort td) := by
  refine ⟨peI (pe_callB (call_sortK hu hc) hg hm hv (pa_cons ho.pe pa_nil hst) (he := hst)) fun s H Q ⟨F, σ, W, A, L, w⟩ => ?_, fun σ W Q Q' h w => ho.mono _ _ _ _ (fun g kvs W1 q => ⟨q.1, q.2.1, h _ _ _ q.2.2⟩) w⟩
  refine L.dk ho.mono w fun g kvs W1 v H1 w1 L1 e1 p1 => ?_
  obtain ⟨eg, ok, q⟩ := w1
  obtain ⟨a, xs, rfl, h1, _, h3⟩ := p1
  have r := (h3 eg).keysR
  refine ⟨a, xs, _, rfl, rdH h1, RepSs.mono (Same.uncut.trans Same.unHm) _ _ r, ok, fun p vs' hp hr => ?_⟩
  exact At.newL (W0 := W) (H0 := H) ⟨L.own, e1⟩ (hr _ r) (R := fun g d => ∀ v H', Ext (A.flatten ++ F.X) W H W1 H' → Post X.kw A.flatten F.X (Hm H W) (Hm H' W1) g d v → Q v H') q (fun g d z H' e3 pz r => r z H' (e1.trans e3) pz) p hp
end
end VL

/-! VE3: list(d.items()), min(d), x += e, xs.extend, sum of a tuple. -/
namespace VL
open PySem PySem.Spec PySem.W PyProof.Rows L2 L2.DX
section
variable {X : Cx} {e : Expr} {pos apos cpos : Pos} {te : SE} {td : SDs}
theorem pe_kitems {td : TE} (he : PE X e td) (hbase : attributeBase e "items" X.env (eval e X.env) = eval e X.env := by rfl) (hline : (apos.endLine == cpos.line) = true := by rfl) :
    PE X (.Call (.Attribute e "items" apos) [] [] cpos) (fun σ H Q => td σ H fun x H1 => ∃ a es, x = .ref a ∧ Rd H1 a (KdO X.kw a es) ∧ ∀ p, H1 p = none → Q (.ref p) (upd H1 p (itemsO p a))) := by
  refine ⟨fun pins s σ H Q I h => ?_⟩
  refine wpAny_Call_method (T := "dict") (id := "dict.items") hbase rfl hline F.plainAttrs_dict F.slot_dict_items F.type_dict_items (thn (he.run pins s σ H _ I h) fun u s1 ⟨x, H1, I1, rx, d, ens, ex, hd, q⟩ => ?_)
  subst ex
  obtain rfl : u = Value.ref d := rx
  obtain ⟨lo, hz, es, ep, raw, hsz, ent⟩ := VL.Inv.rdKd I1 hd
  refine ⟨raw.typeIs, fun b q => by cases q; obtain ⟨o, ho, hx, _⟩ := raw; exact ⟨o, ho, hx.2.1⟩, ?_⟩
  have hf : H1 s1.heap.objs.size = none := I1.hok.fresh (Nat.le_refl _)
  have fin : EP X pins σ Q (.ref s1.heap.objs.size) { s1 with heap := s1.heap.push { cls := .type "dict_items", data := .fields #[.ref d] } } :=
    ⟨.ref s1.heap.objs.size, upd H1 s1.heap.objs.size (itemsO s1.heap.objs.size d), I1.laid (t' := s1.toks) (fun b u e => Heap.get?_push_of_some _ e) (Nat.le_refl _) (itemsO_ok (Heap.get?_push_size _ rfl)), rfl, q _ hf⟩
  show wpAny _ _ (callWith cpos (.builtin "dict.items") [.ref d] [] []) _ X.xe s1
  exact method_meetsIn F.slot_dict_items F.entry_dict_items rfl (PySem.evalArgs_none ⟨rfl, raw.typeIs, F.args_dict_items_1 _, _, meets_dict_items_raw d lo, ⟨es, ep, raw⟩, fin⟩)
theorem call_listItems (hc : X.calm = true) : CallR X (.type "list") (fun xs H Q => ∃ p a ens, xs = [.ref p] ∧ H p = some (itemsO p a) ∧ Rd H a (KdO X.kw a ens) ∧
    ∀ (H' : Hp) (l : Addr) (ts : List Addr), Same H H' → ts.length = ens.length → H l = none → H' l = some (.lst (ts.map V.ref)) →
      (∀ (i : Nat) (t : Addr) (en : Ent), ts[i]? = some t → ens[i]? = some en → H t = none ∧ H' t = some (.tup [.ref en.2.1, en.2.2])) → Q (.ref l) H') := by
  intro pins s σ H xs us Q I r h
  obtain ⟨p, a, ens, rfl, hp, hs, fin⟩ := h
  obtain ⟨u, rfl, ru⟩ := vals1 r
  cases ru
  obtain ⟨lo, hz, es, ep, raw, hsz, ent⟩ := VL.Inv.rdKd I hs
  have view : s.heap.IsItemsView p a := (show ObjOk X.prog X.w H s.heap p (itemsO p a) from I.hok p _ hp).1
  refine dil_call (I.ok.hd hc) view raw (by rw [hsz]; exact hz) fun h' tk acc c ts keep hl hts G hacc => ?_
  have I1 : Inv X pins σ H { s with heap := h', toks := tk } := I.kept (t' := tk) keep
  have nL : H s.heap.objs.size = none := I.hok.fresh (Nat.le_refl _)
  have nod : ts.Nodup := G.rise.imp fun hab e => by rw [e] at hab; exact absurd hab (Nat.lt_irrefl _)
  have val : ∀ t ∈ ts, ∃ (i : Nat) (en : Ent), ts[i]? = some t ∧ ens[i]? = some en ∧ ∃ hi : i < es.size, h'.get? t = some { cls := .type "tuple", data := .seq #[es[i].key, es[i].val] } := fun t m => by
    obtain ⟨i, hi⟩ := List.mem_iff_getElem?.mp m
    obtain ⟨hie, e⟩ := G.pairs i t hi
    exact ⟨i, ens[i]'(by omega), hi, List.getElem?_eq_getElem (by omega), hie, e⟩
  -- the list first
  have lenL : (ts.map V.ref).length ≤ sizeLine := by rw [List.length_map, hts, hsz]; exact hz
  have refs : ∀ l : List Addr, L2.Vals (l.map V.ref) (l.map Value.ref) := fun l => by
    induction l with
    | nil => exact .nil
    | cons x l ih => exact .cons rfl ih
  have I2 : Inv X pins σ (upd H s.heap.objs.size (.lst (ts.map V.ref))) { s with heap := h', toks := tk } := I1.take (h' := h') (t' := tk) (fun b ob _ e => e) (I.fpOk (Nat.le_refl _) nL) ⟨lenL, acc.toList, c, by rw [hacc]; exact refs ts, by simpa using hl⟩
  obtain ⟨H2, I3, g2, q2⟩ := takeT (P := fun t vs => ∃ (i : Nat) (en : Ent), ts[i]? = some t ∧ ens[i]? = some en ∧ vs = [.ref en.2.1, en.2.2]) I ts _ I2 nod fun t m => by
    have hab := G.above t m
    refine ⟨Nat.le_of_lt hab, by rw [upd_ne (Nat.ne_of_gt hab)]; exact I.hok.fresh (Nat.le_of_lt hab), ?_⟩
    obtain ⟨i, en, h1, h2, hi, h3⟩ := val t m
    obtain ⟨_, k1, k2⟩ := ent i en h2
    exact ⟨_, ⟨i, en, h1, h2, rfl⟩, fun H2 => ⟨by show 2 ≤ sizeLine; decide, [es[i].key, es[i].val], .cons k1 (.cons k2 .nil), _, h3, rfl, _, rfl⟩⟩
  refine ⟨.ref s.heap.objs.size, H2, I3, rfl, fin H2 s.heap.objs.size ts (fun b o hb => g2 b o (by rw [upd_ne (ne_of_none hb nL)]; exact hb)) (by rw [hts, hsz]) nL (g2 _ _ upd_same) fun i t en h1 h2 => ?_⟩
  have m : t ∈ ts := List.mem_of_getElem? h1
  refine ⟨I.hok.fresh (Nat.le_of_lt (G.above t m)), ?_⟩
  obtain ⟨vs, ⟨j, en', k1, k2, rfl⟩, k3⟩ := q2 t m
  have ej : j = i := by
    have hj := (List.getElem?_eq_some_iff.mp k1)
    have hi := (List.getElem?_eq_some_iff.mp h1)
    obtain ⟨hj1, hj2⟩ := hj
    obtain ⟨hi1, hi2⟩ := hi
    have pw := List.pairwise_iff_getElem.mp G.rise
    rcases Nat.lt_trichotomy j i with z | z | z
    · have := pw j i hj1 hi1 z
      rw [hj2, hi2] at this
      exact absurd this (Nat.lt_irrefl _)
    · exact z
    · have := pw i j hi1 hj1 z
      rw [hj2, hi2] at this
      exact absurd this (Nat.lt_irrefl _)
  subst ej
  rw [h2] at k2; cases k2
  exact k3
def sDItems (td : SDs) : SE := fun σ W Q => td σ W fun g kvs W1 => el g = .st ∧ Q .fr (.lst (itemsK .items kvs)) W1
theorem vListItems {p : Pos} (hc : X.calm = true) (ho : VDs X e td) (hg : Gl X "list") (hm : X.mg "list" = none) (hv : bootBuiltins "list" = some (.type "list"))
    (hbase : attributeBase e "items" X.env (eval e X.env) = eval e X.env := by rfl) (hline : (apos.endLine == cpos.line) = true := by rfl)
    (hst : starEach [.Call (.Attribute e "items" apos) [] [] cpos] X.env = (false, eval (.Call (.Attribute e "items" apos) [] [] cpos) X.env) :: starEach [] X.env := by rfl) :
    VE X (.Call (.Name "list" p) [.Call (.Attribute e "items" apos) [] [] cpos] [] pos) (sDItems td) := by
  refine ⟨peI (pe_callTy (call_listItems hc) hg hm hv (pa_cons (pe_kitems ho.pe hbase hline) pa_nil hst) (he := hst)) fun s H Q ⟨F, σ, W, A, L, w⟩ => ?_, fun σ W Q Q' h w => ho.mono _ _ _ _ (fun g kvs W1 q => ⟨q.1, h _ _ _ q.2⟩) w⟩
  refine L.dk ho.mono w fun g kvs W1 v H1 w1 L1 e1 p1 => ?_
  obtain ⟨eg, q⟩ := w1
  obtain ⟨a, xs, rfl, h1, _, h3⟩ := p1
  have r := h3 eg
  refine ⟨a, xs, rfl, rdH h1, fun p hp => ?_⟩
  have e2 := e1.laid hp (itemsO p a)
  have sm2 : Same (Hm H1 W1) (Hm (upd H1 p (itemsO p a)) W1) := fun b o hb => by
    have ne : b ≠ p := fun z => by rw [z, Hm_none hp] at hb; cases hb
    rw [Hm_upd_ne ne]; exact hb
  refine ⟨p, a, xs, rfl, upd_same, rdH (Rd.mono sm2 h1), fun H' l ts sm hl nl hlst htup => ?_⟩
  have smW : Same (Hm (upd H1 p (itemsO p a)) W1) (Hm H' W1) := fun b o hb => by
    cases W1 with
    | none => exact sm _ _ hb
    | some t =>
      obtain ⟨z1, z2⟩ := Hm_some.mp hb
      exact Hm_some.mpr ⟨sm _ _ z1, z2⟩
  have all := (e1.same.trans sm2).trans smW
  have cv : CellV H' W1 := by
    have := e2.cell.v
    cases W1 with
    | none => trivial
    | some t => exact sm _ _ this
  have nl0 : Hm H W l = none := e2.same.free (Hm_none nl)
  have hmk : ∀ {b : Addr} {o : HO}, H' b = some o → Hm H W b = none → upd H1 p (itemsO p a) b = none → Hm H' W1 b = some o := fun {b o} hb _ hn => by
    cases W1 with
    | none => exact hb
    | some t =>
      refine Hm_some.mpr ⟨hb, fun z => ?_⟩
      have z0 : (upd H1 p (itemsO p a)) t.c = some (.lst [.int t.pos]) := e2.cell.v
      have z1 : b = t.c := z
      rw [← z1, hn] at z0
      cases z0
  refine q (.ref l) H' ⟨all, L.cell.carry all e1.kc cv fun _ _ _ h => h, e1.kc⟩ ⟨l, rfl, nl0, ts.map V.ref, hmk hlst nl0 nl, ?_⟩
  -- the items
  have hlen := r.length
  have fz : Same (cut (Hm H1 W1) (A.flatten ++ F.X)) (cut (Hm H' W1) (l :: (A.flatten ++ F.X))) := fun b o hb => by
    obtain ⟨k1, k2⟩ := cut_some.mp hb
    refine cut_some.mpr ⟨smW _ _ (sm2 _ _ k1), fun m => ?_⟩
    rcases List.mem_cons.mp m with rfl | m
    · have := sm2 _ _ k1
      rw [Hm_none nl] at this; cases this
    · exact k2 m
  have r' : RepDs X.kw (cut (Hm H' W1) (l :: (A.flatten ++ F.X))) kvs xs := RepDs.mono fz _ _ r
  have tl : ∀ (i : Nat) (t : Addr) (en : Ent), ts[i]? = some t → xs[i]? = some en → cut (Hm H' W1) (l :: (A.flatten ++ F.X)) t = some (.tup [.ref en.2.1, en.2.2]) := fun i t en k1 k2 => by
    obtain ⟨n1, n2⟩ := htup i t en k1 k2
    have n0 : Hm H W t = none := e2.same.free (Hm_none n1)
    refine cut_some.mpr ⟨hmk n2 n0 n1, fun m => ?_⟩
    rcases List.mem_cons.mp m with rfl | m
    · rw [hlst] at n2; cases n2
    · exact L.new n0 m
  clear q hlst htup h3 r hmk
  have go : ∀ (kvs : List (D × D)) (xs : List Ent) (ts : List Addr), ts.length = xs.length → RepDs X.kw (cut (Hm H' W1) (l :: (A.flatten ++ F.X))) kvs xs → (∀ (i : Nat) (t : Addr) (en : Ent), ts[i]? = some t → xs[i]? = some en → cut (Hm H' W1) (l :: (A.flatten ++ F.X)) t = some (.tup [.ref en.2.1, en.2.2])) →
      RepSs X.kw (cut (Hm H' W1) (l :: (A.flatten ++ F.X))) (itemsK .items kvs) (ts.map V.ref) := by
    intro kvs
    induction kvs with
    | nil =>
      intro xs ts hl h _
      simp only [RepDs] at h
      subst h
      cases List.eq_nil_of_length_eq_zero hl
      simp [itemsK, RepSs]
    | cons p kvs ih =>
      intro xs ts hl h ht
      obtain ⟨k, d⟩ := p
      simp only [RepDs] at h
      obtain ⟨nk, b, v, r, rfl, h0, h1, h2, h3⟩ := h
      cases ts with
      | nil => simp at hl
      | cons t ts =>
        have t0 := ht 0 t _ rfl rfl
        simp only [itemsK, List.map_cons, RepSs]
        refine ⟨_, _, rfl, ?_, ih r ts (by simpa using hl) h3 fun i t en e1 e2 => ht (i + 1) t en (by simpa using e1) (by simpa using e2)⟩
        simp only [RepS, RepSs]
        exact ⟨t, _, rfl, t0, _, _, rfl, h1, _, _, rfl, h2, rfl⟩
  exact go kvs xs ts hl r' tl
end
end VL

/-! VE4: min(d), x += e, xs.extend, sum of a tuple. -/
namespace VL
open PySem PySem.Spec PySem.W PyProof.Rows L2
def ltD (a b : D) : Bool := dataLt (py a) (py b)
/-- the first of the least -/
def minKs : List D → Option D
  | [] => none
  | k :: ks => some (ks.foldl (fun a y => if ltD y a = true then y else a) k)
section
variable {X : Cx} {e : Expr} {pos apos cpos : Pos} {te : SE} {td : SDs}
theorem call_minK (hu : X.A.units + 65 < cLine) (hc : X.calm = true) : CallR X (.builtin "min") (fun xs H Q => ∃ a es ds m, xs = [.ref a] ∧ Rd H a (KdO X.kw a es) ∧ RepSs X.kw H ds (es.map fun en => V.ref en.2.1) ∧ SortOk ds ∧ minKs ds = some m ∧
    ∀ (i : Nat) (en : Ent), es[i]? = some en → ds[i]? = some m → Q (.ref en.2.1) H) := by
  intro pins s σ H xs us Q I r h
  obtain ⟨a, ens, ds, m, rfl, hs, rd, ok, hm, fin⟩ := h
  obtain ⟨u, rfl, ru⟩ := vals1 r
  cases ru
  obtain ⟨lo, hz, es, ep, raw, hsz, ent⟩ := VL.Inv.rdKd I hs
  have hlt : a < s.heap.objs.size := raw.lt_size
  have hne : a ≠ s.heap.objs.size := Nat.ne_of_lt hlt
  have hh : X.A.in1.handled = none := I.ok.hd hc
  obtain ⟨hl, hzip⟩ := repss_zip rd
  rw [List.length_map] at hl
  cases ds with
  | nil => cases hm
  | cons k0 kr =>
    injection hm with hm
    generalize hoI : ({ cls := .type "dict_keyiterator", data := .fields #[.ref a, .int 0 0, .int es.size 0, .int ep 0] } : Obj) = oI
    refine call_min_walkH (wpAny_pyIter_dict_raw lo raw ?_)
    rw [hoI]
    have key : ∀ (i : Nat) (v : Value), (∃ hi : i < es.size, v = es[i].key) → ∃ (as : List Addr), Reads s.heap v (py ((k0 :: kr).getD i .non)) as ∧ (k0 :: kr).getD i .non ∈ (k0 :: kr) := by
      rintro i v ⟨hi, rfl⟩
      have hi2 : i < ens.length := by omega
      have hi3 : i < (k0 :: kr).length := by omega
      obtain ⟨_, k1, _⟩ := ent i ens[i] (List.getElem?_eq_getElem hi2)
      have e1 : (k0 :: kr).getD i .non = (k0 :: kr)[i] := by simp [List.getD, List.getElem?_eq_getElem hi3]
      have mm : ((k0 :: kr)[i], V.ref ens[i].2.1) ∈ (k0 :: kr).zip (ens.map fun en => V.ref en.2.1) := by
        refine List.mem_iff_getElem.mpr ⟨i, by rw [List.length_zip, List.length_map, hl]; omega, by simp⟩
      have r0 := hzip _ mm
      have okp : pyOk ((k0 :: kr)[i]) = true := by
        have all : ∀ {l : List D}, pyOks l = true → ∀ d ∈ l, pyOk d = true := by
          intro l
          induction l with
          | nil => intro _ d m; cases m
          | cons x l ih =>
            intro h d m
            simp only [pyOks, Bool.and_eq_true] at h
            cases m with
            | head => exact h.1
            | tail _ m => exact ih h.2 d m
        exact all ok.1 _ (List.getElem_mem _)
      obtain ⟨as, rds⟩ := Dp.reads I _ _ (.ref ens[i].2.1) (RepS.dp _ _ okp r0) rfl
      refine ⟨as, by rw [k1, e1]; exact rds, by rw [e1]; exact List.getElem_mem _⟩
    have non : ∀ d ∈ (k0 :: kr), py d ≠ .none := by
      intro d hd
      rcases ok.2.2.1 with q | q
      · obtain ⟨x, r, e⟩ := q (py d) (List.mem_map.mpr ⟨d, hd, rfl⟩)
        rw [e]; exact fun z => nomatch z
      · exact (q (py d) (List.mem_map.mpr ⟨d, hd, rfl⟩)).1
    refine ⟨s.heap.objs.size, _, _, _, _, _, _, s.heap, (fun i j => ltD ((k0 :: kr).getD i .non) ((k0 :: kr).getD j .non)), rfl, (Walks.rawKeys hh s.heap.objs.size a hne es ep).toS, ?_, fun b hb => ?_, ?_, fun b o eb hb => ?_, fun b o eb => Heap.get?_push_of_some _ eb, ?_, fun v s' hP mv => ?_⟩
    · rw [← hoI]
      exact ⟨⟨_, Heap.get?_push_size _ rfl, rfl, rfl⟩, raw.at fun o e => Heap.get?_push_of_some _ e⟩
    · show b < (s.heap.push oI).objs.size
      rw [Heap.size_push]
      rcases List.mem_cons.mp hb with rfl | hb
      · exact Nat.lt_succ_self _
      · rcases List.mem_cons.mp hb with rfl | hb
        · exact Nat.lt_succ_of_lt hlt
        · cases hb
    · rw [hsz, ← hl]; simp
    · have hb' := List.mem_singleton.mp hb
      rw [hb'] at eb
      exact absurd (Heap.lt_size eb) (Nat.lt_irrefl _)
    · intro i j vi vj s2 Q2 E2 hk hi hj hq
      obtain ⟨as1, r1, m1⟩ := key i vi hi
      obtain ⟨as2, r2, m2⟩ := key j vj hj
      refine rcLt_alike _ _ X.A.in1 s2 vi vj _ _ (Reads.keeps hk r1) (Reads.keeps hk r2) (ok.2.1 _ (List.mem_map.mpr ⟨_, m1, rfl⟩) _ (List.mem_map.mpr ⟨_, m2, rfl⟩)) (non _ m1) ?_ X.prog X.w E2 Q2 hq
      have d1 := ok.2.2.2 _ m1
      have := Nat.min_le_left (py ((k0 :: kr).getD i .non)).depth (py ((k0 :: kr).getD j .non)).depth
      show X.A.units + 1 + _ < cLine
      omega
    · obtain ⟨h', tk, rfl, hk'⟩ := moved_old (o := oI) rfl rfl mv
      obtain ⟨hi, rfl⟩ := hP
      have hi2 : argBest (fun i j => ltD ((k0 :: kr).getD i .non) ((k0 :: kr).getD j .non)) (es.size - 1) < ens.length := by omega
      obtain ⟨_, k1, _⟩ := ent _ _ (List.getElem?_eq_getElem hi2)
      have I1 : Inv X pins σ H { s with heap := h', toks := tk } := I.kept (t' := tk) hk'
      refine ⟨.ref ens[argBest (fun i j => ltD ((k0 :: kr).getD i .non) ((k0 :: kr).getD j .non)) (es.size - 1)].2.1, H, I1, k1, fin _ _ (List.getElem?_eq_getElem hi2) ?_⟩
      have e1 : es.size - 1 = kr.length := by rw [hsz, ← hl]; simp
      have e2 := (argBest_fold ltD D.non k0 kr kr.length (Nat.le_refl _)).2
      rw [List.take_length] at e2
      rw [← hm, ← e2, e1]
      have hb := (argBest_fold ltD D.non k0 kr kr.length (Nat.le_refl _)).1
      generalize argBest (fun i j => ltD ((k0 :: kr).getD i .non) ((k0 :: kr).getD j .non)) kr.length = n at hb
      rw [List.getD_eq_getElem?_getD, List.getElem?_eq_getElem (show n < (k0 :: kr).length by simp; omega)]
      rfl
def sDMin (td : SDs) : SE := fun σ W Q => td σ W fun g kvs W1 => ∃ m, SortOk (kvs.map (·.1)) ∧ minKs (kvs.map (·.1)) = some m ∧ Q (el g) m W1
theorem vDMin {p : Pos} (hu : X.A.units + 65 < cLine) (hc : X.calm = true) (ho : VDs X e td) (hg : Gl X "min") (hm : X.mg "min" = none) (hv : bootBuiltins "min" = some (.builtin "min")) (hst : starEach [e] X.env = (false, eval e X.env) :: starEach [] X.env := by rfl) : VE X (.Call (.Name "min" p) [e] [] pos) (sDMin td) := by
  refine ⟨peI (pe_callB (call_minK hu hc) hg hm hv (pa_cons ho.pe pa_nil hst) (he := hst)) fun s H Q ⟨F, σ, W, A, L, w⟩ => ?_, fun σ W Q Q' h w => ho.mono _ _ _ _ (fun g kvs W1 ⟨m, a, b, c⟩ => ⟨m, a, b, h _ _ _ c⟩) w⟩
  refine L.dk ho.mono w fun g kvs W1 v H1 w1 L1 e1 p1 => ?_
  obtain ⟨m, ok, hm', q⟩ := w1
  obtain ⟨a, xs, rfl, h1, h2, h3⟩ := p1
  refine ⟨a, xs, _, m, rfl, rdH h1, RepSs.mono (Same.uncut.trans Same.unHm) _ _ h2.keysR, ok, hm', fun i en k1 k2 => ?_⟩
  refine q _ H1 e1 ?_
  rcases el_or g with z | z
  · rw [z]
    obtain ⟨x, hx, rx⟩ := RepSs.get (h3 z).keysR k2
    rw [List.getElem?_map, k1] at hx
    cases hx
    exact rx
  · rw [z]
    obtain ⟨x, hx, rx⟩ := RepSs.get h2.keysR k2
    rw [List.getElem?_map, k1] at hx
    cases hx
    exact rx
end
end VL

/-! VE5: x += e, xs.extend, sum of a tuple. -/
namespace VL
open PySem PySem.Spec PySem.W PyProof.Rows L2
section
variable {X : Cx} {e : Expr} {pos apos cpos : Pos} {te : SE}
/-- x += e, whole numbers -/
def sAug (i : Nat) (te : SE) : SS := fun D σ W => match σ[i]? with
  | some (some (.val (.int a))) => te σ W fun _ d W1 => ∃ b, d = .int b ∧ D.nx (σ.set i (some (.val (.int (a + b))))) W1
  | _ => False
theorem vAug {i : Nat} {x : Str} {p : Pos} (hN : X.N.Nodup) (hi : X.N[i]? = some x) (hx : Loc X.env.scope x) (h : VE X e te) (hf : X.fn x = true ∨ X.env.scope.names.lookup x = some .local := by first | exact .inl rfl | exact .inr rfl | assumption) :
    VS X (.AugAssign (.Name x p) .Add e pos) (sAug i te) := by
  refine ⟨psI (ps_aug hN hi hx h.pe ip_add hf) fun Dn s H ⟨F, σ, W, A, L, w⟩ => ?_, fun D D' σ W l w => ?_⟩
  · unfold sAug at w
    split at w
    · rename_i a hx'
      obtain ⟨v, A1, h1, h2, h3⟩ := L.slot i _ hx'
      have ev : v = .int a := by simpa [RepO, RepS] using h3
      subst ev
      refine ⟨.int a, h1, L.one h.mono w fun g d W1 y H1 w1 L1 e1 p1 => ?_⟩
      obtain ⟨b, rfl, q⟩ := w1
      have ey := p1.int
      subst ey
      exact ⟨a, b, rfl, rfl, q _ _ _ (L1.setVal i (by simp [RepS]))⟩
    · exact w.elim
  · unfold sAug at w ⊢
    split at w
    · exact h.mono _ _ _ _ (fun g d W1 ⟨b, e1, q⟩ => ⟨b, e1, l.nx _ _ q⟩) w
    · exact w.elim
/-- sum of a tuple of whole numbers -/
def rSumT (K : PySem.W.Frag) : List V → Hp → VK → Prop := fun vs H Q => ∃ (a : Addr) (ns : List Int), vs = [V.ref a] ∧ SqT K H a (ns.map V.int) ∧ Q (.int ns.sum) H
theorem call_sumT (hc : X.calm = true) : CallR X (.builtin "sum") (rSumT X.K) := by
  intro pins s σ H xs us Q I r h
  obtain ⟨a, ns, rfl, hs, q⟩ := h
  obtain ⟨u, rfl, ru⟩ := vals1 r
  cases ru
  obtain ⟨its, rv, ht, hz⟩ := I.tuple hs
  have hi := rv.ints
  obtain ⟨zs, hzs⟩ := hi.allInts.items
  have hn : numsOf its = ns := hi.numsOf
  have ht' : s.heap.IsTuple a (intItems zs) := by rw [← hzs]; exact ht
  have hn' : numsOf (intItems zs).toList = ns := by rw [← hzs]; simpa using hn
  rw [nums_intItems] at hn'
  refine ktm_sumG (I.ok.hd hc) ht' fun h' tk t' hk => ⟨.int ns.sum, H, I.kept (t' := tk) hk, ?_, q⟩
  rw [preSum_eq, List.take_of_length_le (by simp), hn']
  exact ⟨_, rfl⟩
def dSumT : FnD := fun ds R => match ds with
  | [(_, .tup xs)] => ∃ ns : List Int, xs = ns.map D.int ∧ R .st (.int ns.sum)
  | _ => False
theorem mono_dSumT : MonoF dSumT := fun ds R R' h w => by
  unfold dSumT at w ⊢
  split at w
  · obtain ⟨ns, a, b⟩ := w; exact ⟨ns, a, h _ _ b⟩
  · exact w.elim
theorem okSumT {K : KW} : FnDOk K (rSumT K) dSumT := by
  intro A Y W0 H0 W H at' ds vs R Q p w k
  unfold dSumT at w
  split at w
  · obtain ⟨ns, rfl, q⟩ := w
    obtain ⟨v, rfl, p1⟩ := p.one
    obtain ⟨a, us, rfl, h1, h2, _⟩ := p1.tupH at'.own at'.ext.same
    rw [RepSs.ints] at h2
    subst h2
    exact ⟨a, ns, rfl, SqT.of (Hm_of h1), k _ _ _ _ at'.refl Post.ofInt q⟩
  · exact w.elim
/-- xs.extend(ys): xs one's own, ys a list -/
def sExt (i : Nat) (te : SE) : SS := fun D σ W => match σ[i]? with
  | some (some (.ml ds)) => te σ W fun g d W1 => ∃ es, d = .lst es ∧ est g es ∧ ds.length + es.length ≤ sizeLine ∧ D.nx (σ.set i (some (.ml (ds ++ es)))) W1
  | _ => False
theorem vExt {i : Nat} {x : Str} {p : Pos} (hN : X.N[i]? = some x) (hv : Vis X.env.scope x) (h : VE X e te) (hd : (x == ("__debug__" : Str)) = false := by decide) (hcd : (x == ("__classdict__" : Str)) = false := by decide)
    (hbase : attributeBase (.Name x p) "extend" X.env (eval (.Name x p) X.env) = eval (.Name x p) X.env := by rfl)
    (hfew : ((backTo cpos (starEach (e :: []) X.env)).all (fun x => !x.1) && (backToKw cpos (keywordEach [] X.env)).all (fun x => x.1.isSome) && decide ((e :: ([] : List Expr)).length + ([] : List Keyword).length + (if ([] : List Keyword).isEmpty then 0 else 1) < 30)) = true := by rfl)
    (hline : (apos.endLine == cpos.line) = true := by rfl) (hs : starEach (e :: []) X.env = (false, eval e X.env) :: starEach [] X.env := by rfl) (hplain : (backTo cpos (starEach [] X.env)).any (·.1) = false := by rfl) :
    VS X (.Expr (.Call (.Attribute (.Name x p) "extend" apos) [e] [] cpos) pos) (sExt i te) := by
  refine ⟨psI (ps_expr (pe_bm PySem.F.plainAttrs_list PySem.F.slot_list_extend PySem.F.type_list_extend mt_extend (pe_var hN hv hd hcd) (pa_cons h.pe pa_nil hs) hbase hfew hline hs hplain)) fun Dn s H ⟨F, σ, W, A, L, w⟩ => ?_, fun D D' σ W l w => ?_⟩
  · unfold sExt at w
    split at w
    · rename_i ds hx
      obtain ⟨v, A1, h1, h2, p0, h3, h4, xs, h5, h6⟩ := L.slot i _ hx
      subst h3
      refine ⟨.ref p0, h1, .inl ⟨rfl, xs, SqL.of (Hm_of h5)⟩, L.one h.mono w fun g d W1 y H1 w1 L1 e1 p1 => ?_⟩
      obtain ⟨es, rfl, he, hz, q⟩ := w1
      obtain ⟨v', A1', h1', h2', p0', h3', h4', xs', h5', h6'⟩ := L1.slot i _ hx
      have z1 : v' = .ref p0 := by rw [h1] at h1'; injection h1' with z; injection z with z; exact z.symm
      rw [z1] at h3'; cases h3'
      obtain ⟨b, ys, rfl, k1, _, k3⟩ := p1.lst L.own e1.same
      have ry := k3 he
      refine ⟨p0, b, xs', ys, rfl, rfl, Hm_of h5', Hm_of k1, by rw [← h6'.length, ← ry.length]; exact hz, ?_⟩
      subst z1
      exact q _ _ _ (L1.wr h1' h2' (by rw [h4']; simp) (show OwnO (.lst (xs' ++ ys)) from trivial) ⟨p0, rfl, h4', xs' ++ ys, Hm_upd_eq h5', h6'.append ry⟩)
    · exact w.elim
  · unfold sExt at w ⊢
    split at w
    · exact h.mono _ _ _ _ (fun g d W1 ⟨es, a, b, c, q⟩ => ⟨es, a, b, c, l.nx _ _ q⟩) w
    · exact w.elim
end
end VL

/-! VE6: list(text), text * k, tests of keys. -/
namespace VL
open PySem PySem.Spec PyProof.Rows L2
section
variable {X : Cx} {pos : Pos} {a b : Expr} {ta tb : SE}
def rMulS : R2 := fun x y H Q => ∃ z k, x = .str z ∧ y = .int k ∧ -(2 ^ 63 : Int) ≤ k ∧ k ≤ 16777216 ∧ z.length * k.toNat ≤ 16777216 ∧ Q (.str (Txt.mul z k)) H
theorem op_mulStr : OpR X (binaryOp .Mult) rMulS := by
  intro pins s σ H x y v u Q I rx ry h
  obtain ⟨z, k, rfl, rfl, h1, h2, h3, q⟩ := h
  obtain ⟨t, rfl⟩ := rx
  obtain ⟨t', rfl⟩ := ry
  exact SB.mul (mulOk_of z.length k.toNat (Nat.le_refl _) (by omega) h1 (by omega) h3) fun t2 tk => ⟨.str (Txt.mul z k), H, I.tok _, ⟨_, rfl⟩, q⟩
def dMulS : OpD := fun _ x _ y R => match x, y with
  | .str z, .int k => -(2 ^ 63 : Int) ≤ k ∧ k ≤ 16777216 ∧ z.length * k.toNat ≤ 16777216 ∧ R .st (.str (Txt.mul z k))
  | _, _ => False
theorem mono_dMulS : MonoO dMulS := by
  intro t x u y R R' h w
  unfold dMulS at w ⊢
  split at w
  · exact ⟨w.1, w.2.1, w.2.2.1, h _ _ w.2.2.2⟩
  · exact w.elim
theorem okMulS {K : KW} : OpOk K rMulS dMulS := by
  intro A X W0 H0 W H a t x u y v w R Q p1 p2 hw k
  unfold dMulS at hw
  split at hw
  · obtain ⟨h1, h2, h3, q⟩ := hw
    exact ⟨_, _, p1.str, p2.int, h1, h2, h3, a.now Post.ofStr q k⟩
  · exact hw.elim
theorem vMulS (ha : VE X a ta) (hb : VE X b tb) : VE X (.BinOp a .Mult b pos) (sBin dMulS ta tb) := vBin op_mulStr okMulS mono_dMulS ha hb
/-! ### list(text) -/
def signsV (z : Str) : List V := z.cps.toList.map fun c => V.str ⟨#[c]⟩
theorem signs_vals : ∀ (l : List Nat) (us : List Value), us.length = l.length → (∀ (i : Nat) (u : Value), us[i]? = some u → ∃ c t, l[i]? = some c ∧ u = .str ⟨#[c]⟩ t) → L2.Vals (l.map fun c => V.str ⟨#[c]⟩) us
  | [], [], _, _ => .nil
  | [], _ :: _, h, _ => by simp at h
  | _ :: _, [], h, _ => by simp at h
  | c :: l, u :: us, h, hs => by
    obtain ⟨c', t, e1, e2⟩ := hs 0 u rfl
    have e1 : c = c' := by simpa using e1
    subst e1
    exact .cons ⟨t, e2⟩ (signs_vals l us (by simpa using h) fun i w hw => hs (i + 1) w hw)
theorem call_list_text (hc : X.calm = true) : CallR X (.type "list") (fun xs H Q => ∃ z, xs = [.str z] ∧ z.length ≤ sizeLine ∧ ∀ p, H p = none → Q (.ref p) (upd H p (.lst (signsV z)))) := by
  intro pins s σ H xs us Q I r h
  obtain ⟨z, rfl, hz, q⟩ := h
  obtain ⟨u, rfl, ru⟩ := vals1 r
  obtain ⟨t, rfl⟩ := ru
  refine call_list_str (I.ok.hd hc) z t (fun h' tk acc' c' kp hS it => ?_) hz
  have hl : acc'.toList.length = z.cps.toList.length := by rw [Array.length_toList, it.1, Array.length_toList]
  have vals : L2.Vals (signsV z) acc'.toList := signs_vals _ _ hl fun i u hu => by
    obtain ⟨c, t2, e1, e2⟩ := it.2 i u (by rw [← Array.getElem?_toList]; exact hu)
    exact ⟨c, t2, by rw [Array.getElem?_toList]; exact e1, e2⟩
  refine ⟨.ref s.heap.objs.size, _, I.laid (t' := tk) kp (Nat.le_refl _) (show ObjOk X.prog X.w _ h' _ (.lst (signsV z)) from ⟨?_, acc'.toList, c', vals, ?_⟩), rfl, q _ (I.hok.fresh (Nat.le_refl _))⟩
  · show (signsV z).length ≤ sizeLine
    unfold signsV
    rw [List.length_map, Array.length_toList]
    exact hz
  · rw [hS]
def dListS : FnD := fun ds R => match ds with
  | [(_, .str z)] => z.length ≤ sizeLine ∧ R .fr (.lst (signsD z))
  | _ => False
theorem mono_dListS : MonoF dListS := fun ds R R' h w => by
  unfold dListS at w ⊢
  split at w
  · exact ⟨w.1, h _ _ w.2⟩
  · exact w.elim
theorem reps_signs {K : KW} {G : Hp} : ∀ l : List Nat, RepSs K G (l.map fun c => D.str ⟨#[c]⟩) (l.map fun c => V.str ⟨#[c]⟩)
  | [] => by simp [RepSs]
  | c :: l => by
    simp only [List.map_cons, RepSs]
    exact ⟨_, _, rfl, by simp [RepS], reps_signs l⟩
theorem okListS {K : KW} : FnDOk K (fun xs H Q => ∃ z, xs = [.str z] ∧ z.length ≤ sizeLine ∧ ∀ p, H p = none → Q (.ref p) (upd H p (.lst (signsV z)))) dListS := by
  intro A Y W0 H0 W H at' ds vs R Q p w k
  unfold dListS at w
  split at w
  · obtain ⟨v, rfl, p1⟩ := p.one
    exact ⟨_, by rw [p1.str], w.1, at'.newL (reps_signs _) w.2 k⟩
  · exact w.elim
/-! ### tests -/
theorem u9 {k : Nat} {A : Around} (r : Room k A) : A.units + 9 < cLine := by have := Room.units65 r; omega
theorem u8 {k : Nat} {A : Around} (r : Room k A) : A.units + 8 < cLine := by have := Room.units65 r; omega
theorem vtDIn {td : SDs} {i o : Expr} {tk : SE} (hu : X.A.units + 9 < cLine) (hi : VE X i tk) (ho : VDs X o td) (hm : behindInMarks .In o = false := by rfl) : VT X (.Compare i [.In] [o] pos) (sTest (sDIn false tk td)) :=
  ⟨ptI (pt_cmp (pc_kin hu (neg := false) hi ho) hm) fun s H Q h => rdTest (mono_sDIn hi.mono ho.mono) h, mono_sTest (mono_sDIn hi.mono ho.mono)⟩
theorem vtDNotIn {td : SDs} {i o : Expr} {tk : SE} (hu : X.A.units + 9 < cLine) (hi : VE X i tk) (ho : VDs X o td) (hm : behindInMarks .NotIn o = false := by rfl) : VT X (.Compare i [.NotIn] [o] pos) (sTest (sDIn true tk td)) :=
  ⟨ptI (pt_cmp (pc_kin hu (neg := true) hi ho) hm) fun s H Q h => rdTest (mono_sDIn hi.mono ho.mono) h, mono_sTest (mono_sDIn hi.mono ho.mono)⟩
end
end VL

set_option maxHeartbeats 4000000
namespace L79
open PySem PySem.Spec PyProof.Rows L2 VL
def topS (i : Nat) : Stmt := PySem.Challenge.pw_landandwater_k79_whole_pressed_or_odd.main.body.getD i (.Pass ⟨0, 0, 0, 0⟩)
abbrev d_LAND : D := .str "x"
abbrev v_LAND : V := .str "x"
theorem r_LAND {K : KW} : ∀ H, RepS K H d_LAND v_LAND := fun _ => by simp [RepS]
abbrev d_WATER : D := .str "."
abbrev v_WATER : V := .str "."
theorem r_WATER {K : KW} : ∀ H, RepS K H d_WATER v_WATER := fun _ => by simp [RepS]
abbrev st__law_deal : Stmt := topS 21
abbrev n__law_deal : List Str := ["script", "row", "k", "cell", "turn", "total"]
abbrev p__law_deal : List Str := ["script"]
theorem sc__law_deal : FnScope n__law_deal p__law_deal (defScope st__law_deal) := ⟨rfl, rfl, rfl, by decide +kernel, rfl, by decide +kernel, by decide +kernel⟩
abbrev st__law_take : Stmt := topS 22
abbrev n__law_take : List Str := ["deal", "many", "at"]
abbrev p__law_take : List Str := ["deal", "many"]
theorem sc__law_take : FnScope n__law_take p__law_take (defScope st__law_take) := ⟨rfl, rfl, rfl, by decide +kernel, rfl, by decide +kernel, by decide +kernel⟩
abbrev sp__law_take : DSp := takeSp
abbrev st__law_grid : Stmt := topS 25
abbrev n__law_grid : List Str := ["deal", "rows", "columns", "style", "chance", "grid", "r", "row", "c", "land", "k"]
abbrev p__law_grid : List Str := ["deal", "rows", "columns"]
theorem sc__law_grid : FnScope n__law_grid p__law_grid (defScope st__law_grid) := ⟨rfl, rfl, rfl, by decide +kernel, rfl, by decide +kernel, by decide +kernel⟩
def b__law_grid : SS := sSeq (sSet 3 (sCall 2 sp__law_take (aCons (sVar 0) (aCons (sC (.int 6)) (aNil))))) (sSeq (sSet 4 (sBin dIx (sFn dLst (aCons (sC (.int 2)) (aCons (sC (.int 3)) (aCons (sC (.int 4)) (aCons (sC (.int 5)) (aNil)))))) (sCall 2 sp__law_take (aCons (sVar 0) (aCons (sC (.int 4)) (aNil)))))) (sSeq (sOwn 5 (sFn dLst (aNil))) (sSeq (sFor (sRng1 (aCons (sVar 1) (aNil))) (.name 6) (sSeq (sOwn 7 (sFn dLst (aNil))) (sSeq (sFor (sRng1 (aCons (sVar 2) (aNil))) (.name 8) (sSeq (sSet 9 (sBin dGt (sCall 2 sp__law_take (aCons (sVar 0) (aCons (sVar 4) (aNil)))) (sC (.int 0)))) (sSeq (sIfS (sTest (sBin dEq (sVar 3) (sC (.int 1)))) (sSet 9 (sBin dEq (sCall 2 sp__law_take (aCons (sVar 0) (aCons (sVar 4) (aNil)))) (sC (.int 0)))) (sNil)) (sSeq (sIfS (sTest (sBin dEq (sVar 3) (sC (.int 2)))) (sSet 9 (sBin dEq (sBin dMod (sFn dMin4 (aCons (sVar 6) (aCons (sVar 8) (aCons (sBin dSub (sBin dSub (sVar 1) (sC (.int 1))) (sVar 6)) (aCons (sBin dSub (sBin dSub (sVar 2) (sC (.int 1))) (sVar 8)) (aNil)))))) (sC (.int 2))) (sC (.int 0)))) (sNil)) (sSeq (sIfS (sTest (sBin dEq (sVar 3) (sC (.int 3)))) (sSet 9 (sBin dEq (sBin dMod (sBin dAdd (sVar 6) (sVar 8)) (sC (.int 2))) (sC (.int 0)))) (sNil)) (sSeq (sIfS (sTest (sBin dEq (sVar 3) (sC (.int 4)))) (sSet 9 (sOr (sBin dEq (sBin dMod (sVar 6) (sC (.int 2))) (sC (.int 0))) (sBin dEq (sVar 8) (sBin dIx (sFn dLst (aCons (sC (.int 0)) (aCons (sBin dSub (sVar 2) (sC (.int 1))) (aNil)))) (sBin dMod (sBin dFdiv (sVar 6) (sC (.int 2))) (sC (.int 2))))))) (sNil)) (sApp 7 (sIf (sTest (sVar 9)) (sC (.str "x")) (sC (.str ".")))))))))) (sAppMv 5 7)))) (sSeq (sFor (sRng1 (aCons (sCall 2 sp__law_take (aCons (sVar 0) (aCons (sC (.int 4)) (aNil)))) (aNil))) (.name 10) (sSeq (sSet 6 (sCall 2 sp__law_take (aCons (sVar 0) (aCons (sVar 1) (aNil))))) (sSeq (sSet 8 (sCall 2 sp__law_take (aCons (sVar 0) (aCons (sVar 2) (aNil))))) (sPut2 5 (sVar 6) (sVar 8) (sIf (sTest (sBin dEq (sBin dIx (sBin dIx (sVar 5) (sVar 6)) (sVar 8)) (sC (.str "x")))) (sC (.str ".")) (sC (.str "x"))))))) (sRet (sFn dTuple (aCons (sBor (sLc false (sIter (sVar 5)) (.name 7) (bYes) (sJoin (sC (.str "")) (sVar 7)) [7])) (aNil))))))))
def sp__law_grid : DSp := mkSp 11 b__law_grid
abbrev st__law_cross : Stmt := topS 30
abbrev n__law_cross : List Str := ["chart", "square", "r", "c", "around", "x", "y"]
abbrev p__law_cross : List Str := ["chart", "square"]
theorem sc__law_cross : FnScope n__law_cross p__law_cross (defScope st__law_cross) := ⟨rfl, rfl, rfl, by decide +kernel, rfl, by decide +kernel, by decide +kernel⟩
def b__law_cross : SS := sSeq (sAsg (.tup [2, 3]) (sVar 1)) (sSeq (sSet 4 (sFn dLst (aCons (sFn dTup (aCons (sVar 2) (aCons (sVar 3) (aNil)))) (aCons (sFn dTup (aCons (sBin dSub (sVar 2) (sC (.int 1))) (aCons (sVar 3) (aNil)))) (aCons (sFn dTup (aCons (sVar 2) (aCons (sBin dSub (sVar 3) (sC (.int 1))) (aNil)))) (aCons (sFn dTup (aCons (sVar 2) (aCons (sBin dAdd (sVar 3) (sC (.int 1))) (aNil)))) (aCons (sFn dTup (aCons (sBin dAdd (sVar 2) (sC (.int 1))) (aCons (sVar 3) (aNil)))) (aNil)))))))) (sRet (sLc false (sIter (sVar 4)) (.tup [5, 6]) (bAnd (sTest (sChain dLe dLt (sC (.int 0)) (sVar 5) (sFn dLen (aCons (sVar 0) (aNil))))) (sTest (sChain dLe dLt (sC (.int 0)) (sVar 6) (sFn dLen (aCons (sBin dIx (sVar 0) (sC (.int 0))) (aNil)))))) (sFn dTup (aCons (sVar 5) (aCons (sVar 6) (aNil)))) [5, 6])))
def sp__law_cross : DSp := mkSp 7 b__law_cross
abbrev st__law_press : Stmt := topS 31
abbrev n__law_press : List Str := ["chart", "squares", "grid", "square", "r", "c", "row"]
abbrev p__law_press : List Str := ["chart", "squares"]
theorem sc__law_press : FnScope n__law_press p__law_press (defScope st__law_press) := ⟨rfl, rfl, rfl, by decide +kernel, rfl, by decide +kernel, by decide +kernel⟩
def b__law_press : SS := sSeq (sOwn 2 (sLc true (sIter (sVar 0)) (.name 6) (bYes) (sFn dListS (aCons (sVar 6) (aNil))) [6])) (sSeq (sFor (sIter (sVar 1)) (.name 3) (sFor (sIter (sCall 2 sp__law_cross (aCons (sVar 0) (aCons (sVar 3) (aNil))))) (.tup [4, 5]) (sPut2 2 (sVar 4) (sVar 5) (sIf (sTest (sBin dEq (sBin dIx (sBin dIx (sVar 2) (sVar 4)) (sVar 5)) (sC (.str "x")))) (sC (.str ".")) (sC (.str "x")))))) (sRet (sFn dTuple (aCons (sBor (sLc false (sIter (sVar 2)) (.name 6) (bYes) (sJoin (sC (.str "")) (sVar 6)) [6])) (aNil)))))
def sp__law_press : DSp := mkSp 7 b__law_press
abbrev st__law_same : Stmt := topS 23
abbrev n__law_same : List Str := ["a", "b", "k"]
abbrev p__law_same : List Str := ["a", "b"]
theorem sc__law_same : FnScope n__law_same p__law_same (defScope st__law_same) := ⟨rfl, rfl, rfl, by decide +kernel, rfl, by decide +kernel, by decide +kernel⟩
def b__law_same (again : DSp) : SS := sSeq (sIfS (bOr (sTest (sUn (dIsi "tuple") (sVar 1))) (sTest (sUn (dIsi "list") (sVar 1)))) (sSeq (sIfS (bOr (bAnd (sTest (sUn (dIsi "tuple") (sVar 1))) (bNot (sTest (sUn (dIsi "tuple") (sVar 0))))) (bAnd (sTest (sUn (dIsi "list") (sVar 1))) (bNot (sTest (sUn (dIsi "list") (sVar 0)))))) (sRet (sC (.bl false))) (sNil)) (sSeq (sIfS (sTest (sBin dNe (sFn dLen (aCons (sVar 0) (aNil))) (sFn dLen (aCons (sVar 1) (aNil))))) (sRet (sC (.bl false))) (sNil)) (sSeq (sFor (sRng1 (aCons (sFn dLen (aCons (sVar 1) (aNil))) (aNil))) (.name 2) (sIfS (bNot (sTest (sCall 2 again (aCons (sBin dIx (sVar 0) (sVar 2)) (aCons (sBin dIx (sVar 1) (sVar 2)) (aNil)))))) (sRet (sC (.bl false))) (sNil))) (sRet (sC (.bl true)))))) (sNil)) (sSeq (sIfS (bOr (sTest (sUn (dIsi "bool") (sVar 0))) (sTest (sUn (dIsi "bool") (sVar 1)))) (sRet (sAnd (sUn (dIsi "bool") (sVar 0)) (sAnd (sUn (dIsi "bool") (sVar 1)) (sBin dEq (sVar 0) (sVar 1))))) (sNil)) (sSeq (sIfS (sTest (sUn (dIsi "int") (sVar 1))) (sRet (sAnd (sUn (dIsi "int") (sVar 0)) (sBin dEq (sVar 0) (sVar 1)))) (sNil)) (sSeq (sIfS (sTest (sUn (dIsi "str") (sVar 1))) (sRet (sAnd (sUn (dIsi "str") (sVar 0)) (sBin dEq (sVar 0) (sVar 1)))) (sNil)) (sRet (sAnd (sBin dIs (sVar 0) (sC .non)) (sBin dIs (sVar 1) (sC .non)))))))
def sp__law_same : Nat → DSp
  | 0 => fun _ _ _ => False
  | n + 1 => mkSp 3 (b__law_same (sp__law_same n))
abbrev st_squares_of : Stmt := topS 5
abbrev n_squares_of : List Str := ["chart", "row", "column"]
abbrev p_squares_of : List Str := ["chart"]
theorem sc_squares_of : FnScope n_squares_of p_squares_of (defScope st_squares_of) := ⟨rfl, rfl, rfl, by decide +kernel, rfl, by decide +kernel, by decide +kernel⟩
def b_squares_of : SS := sRet (sLc2 (sRng1 (aCons (sFn dLen (aCons (sVar 0) (aNil))) (aNil))) (.name 1) (bYes) (sRng1 (aCons (sFn dLen (aCons (sBin dIx (sVar 0) (sC (.int 0))) (aNil))) (aNil))) (.name 2) (bYes) (sFn dTup (aCons (sVar 1) (aCons (sVar 2) (aNil)))) [1, 2] [2])
def sp_squares_of : DSp := mkSp 3 b_squares_of
abbrev st_is_square : Stmt := topS 3
abbrev n_is_square : List Str := ["chart", "square", "row", "column"]
abbrev p_is_square : List Str := ["chart", "square"]
theorem sc_is_square : FnScope n_is_square p_is_square (defScope st_is_square) := ⟨rfl, rfl, rfl, by decide +kernel, rfl, by decide +kernel, by decide +kernel⟩
def b_is_square : SS := sSeq (sAsg (.tup [2, 3]) (sVar 1)) (sRet (sAnd (sChain dLe dLt (sC (.int 0)) (sVar 2) (sFn dLen (aCons (sVar 0) (aNil)))) (sChain dLe dLt (sC (.int 0)) (sVar 3) (sFn dLen (aCons (sBin dIx (sVar 0) (sC (.int 0))) (aNil))))))
def sp_is_square : DSp := mkSp 4 b_is_square
abbrev st_is_land : Stmt := topS 4
abbrev n_is_land : List Str := ["chart", "square"]
abbrev p_is_land : List Str := ["chart", "square"]
theorem sc_is_land : FnScope n_is_land p_is_land (defScope st_is_land) := ⟨rfl, rfl, rfl, by decide +kernel, rfl, by decide +kernel, by decide +kernel⟩
def b_is_land : SS := sRet (sAnd (sCall 2 sp_is_square (aCons (sVar 0) (aCons (sVar 1) (aNil)))) (sBin dEq (sBin dIx (sBin dIx (sVar 0) (sBin dIx (sVar 1) (sC (.int 0)))) (sBin dIx (sVar 1) (sC (.int 1)))) (sC d_LAND)))
def sp_is_land : DSp := mkSp 2 b_is_land
abbrev st_is_odd : Stmt := topS 17
abbrev n_is_odd : List Str := ["chart", "squares", "square"]
abbrev p_is_odd : List Str := ["chart", "squares"]
theorem sc_is_odd : FnScope n_is_odd p_is_odd (defScope st_is_odd) := ⟨rfl, rfl, rfl, by decide +kernel, rfl, by decide +kernel, by decide +kernel⟩
def b_is_odd : SS := sRet (sBin dEq (sBin dMod (sFn dLen (aCons (sLc false (sIterK .keys (sVar 1)) (.name 2) (sTest (sCall 2 sp_is_land (aCons (sVar 0) (aCons (sVar 2) (aNil))))) (sC (.int 1)) [2]) (aNil))) (sC (.int 2))) (sC (.int 1)))
def sp_is_odd : DSp := mkSp 3 b_is_odd
abbrev st_side_neighbours : Stmt := topS 7
abbrev n_side_neighbours : List Str := ["square", "row", "column"]
abbrev p_side_neighbours : List Str := ["square"]
theorem sc_side_neighbours : FnScope n_side_neighbours p_side_neighbours (defScope st_side_neighbours) := ⟨rfl, rfl, rfl, by decide +kernel, rfl, by decide +kernel, by decide +kernel⟩
def b_side_neighbours : SS := sSeq (sAsg (.tup [1, 2]) (sVar 0)) (sRet (sFn dLst (aCons (sFn dTup (aCons (sBin dSub (sVar 1) (sC (.int 1))) (aCons (sVar 2) (aNil)))) (aCons (sFn dTup (aCons (sVar 1) (aCons (sBin dSub (sVar 2) (sC (.int 1))) (aNil)))) (aCons (sFn dTup (aCons (sVar 1) (aCons (sBin dAdd (sVar 2) (sC (.int 1))) (aNil)))) (aCons (sFn dTup (aCons (sBin dAdd (sVar 1) (sC (.int 1))) (aCons (sVar 2) (aNil)))) (aNil)))))))
def sp_side_neighbours : DSp := mkSp 3 b_side_neighbours
abbrev st_cross : Stmt := topS 10
abbrev n_cross : List Str := ["chart", "square", "other"]
abbrev p_cross : List Str := ["chart", "square"]
theorem sc_cross : FnScope n_cross p_cross (defScope st_cross) := ⟨rfl, rfl, rfl, by decide +kernel, rfl, by decide +kernel, by decide +kernel⟩
def b_cross : SS := sRet (sBin dAdd (sFn dLst (aCons (sVar 1) (aNil))) (sLc false (sIter (sCall 1 sp_side_neighbours (aCons (sVar 1) (aNil)))) (.name 2) (sTest (sCall 2 sp_is_square (aCons (sVar 0) (aCons (sVar 2) (aNil))))) (sVar 2) [2]))
def sp_cross : DSp := mkSp 3 b_cross
abbrev st_without : Stmt := topS 15
abbrev n_without : List Str := ["one", "other", "found", "square"]
abbrev p_without : List Str := ["one", "other"]
theorem sc_without : FnScope n_without p_without (defScope st_without) := ⟨rfl, rfl, rfl, by decide +kernel, rfl, by decide +kernel, by decide +kernel⟩
def b_without : SS := sSeq (sNewOwn 2 (sDc (sIterK .keys (sVar 0)) (.name 3) (sTest (sDIn true (sVar 3) (sDv (sVar 1)))) (sVar 3) (sC (.bl true)) [3])) (sSeq (sFor (sIterK .keys (sVar 1)) (.name 3) (sIfS (sTest (sDIn true (sVar 3) (sDv (sVar 0)))) (sDPut 2 (sVar 3) (sC (.bl true))) (sNil))) (sGhost (frzM 2) (sRet (sVar 2))))
def sp_without : DSp := mkSp 4 b_without
abbrev st_solved : Stmt := topS 16
abbrev n_solved : List Str := ["chart", "leading", "square", "sums", "of", "lead", "pair", "other"]
abbrev p_solved : List Str := ["chart"]
theorem sc_solved : FnScope n_solved p_solved (defScope st_solved) := ⟨rfl, rfl, rfl, by decide +kernel, rfl, by decide +kernel, by decide +kernel⟩
def b_solved : SS := sSeq (sNewOwn 1 (sDNil)) (sSeq (sFor (sIter (sCall 1 sp_squares_of (aCons (sVar 0) (aNil)))) (.name 2) (sSeq (sNewOwn 3 (sDc (sIter (sCall 2 sp_cross (aCons (sVar 0) (aCons (sVar 2) (aNil))))) (.name 7) (bYes) (sVar 7) (sC (.bl true)) [7])) (sGhost (frzM 3) (sSeq (sSet 4 (sNewV (sDisp1 (sVar 2) (sC (.bl true))))) (sSeq (sLocked 1 (sForK 1 .items (.tup [5, 6]) (sIfS (sTest (sDIn false (sVar 5) (sDv (sVar 3)))) (sSeq (sSet 3 (sCall 2 sp_without (aCons (sVar 3) (aCons (sBin dIx (sVar 6) (sC (.int 0))) (aNil))))) (sSet 4 (sCall 2 sp_without (aCons (sVar 4) (aCons (sBin dIx (sVar 6) (sC (.int 1))) (aNil)))))) (sNil)))) (sIfS (sTest (sBin dGt (sDLen (sDv (sVar 3))) (sC (.int 0)))) (sSeq (sSet 5 (sDMin (sDv (sVar 3)))) (sSeq (sFor (sIter (sDItems (sDm 1))) (.tup [7, 6]) (sIfS (sTest (sDIn false (sVar 5) (sDv (sBin dIx (sVar 6) (sC (.int 0)))))) (sDPut 1 (sVar 7) (sFn dTup (aCons (sCall 2 sp_without (aCons (sBin dIx (sVar 6) (sC (.int 0))) (aCons (sVar 3) (aNil)))) (aCons (sCall 2 sp_without (aCons (sBin dIx (sVar 6) (sC (.int 1))) (aCons (sVar 4) (aNil)))) (aNil))))) (sNil))) (sDPut 1 (sVar 5) (sFn dTup (aCons (sVar 3) (aCons (sVar 4) (aNil))))))) (sIfS (sTest (sCall 2 sp_is_odd (aCons (sVar 0) (aCons (sVar 4) (aNil))))) (sRet (sFn dTup (aCons (sC .non) (aCons (sDSort (sDv (sVar 4))) (aNil))))) (sNil)))))))) (sGhost (frzM 1) (sRet (sFn dTup (aCons (sFn dSort (aCons (sLc false (sIterK .items (sVar 1)) (.tup [5, 6]) (sTest (sCall 2 sp_is_odd (aCons (sVar 0) (aCons (sBin dIx (sVar 6) (sC (.int 1))) (aNil))))) (sVar 5) [5, 6]) (aNil))) (aCons (sC .non) (aNil)))))))
def sp_solved : DSp := mkSp 8 b_solved
abbrev st_pressing_paper : Stmt := topS 18
abbrev n_pressing_paper : List Str := ["chart"]
abbrev p_pressing_paper : List Str := ["chart"]
theorem sc_pressing_paper : FnScope n_pressing_paper p_pressing_paper (defScope st_pressing_paper) := ⟨rfl, rfl, rfl, by decide +kernel, rfl, by decide +kernel, by decide +kernel⟩
def b_pressing_paper : SS := sRet (sBin dIx (sCall 1 sp_solved (aCons (sVar 0) (aNil))) (sC (.int 0)))
def sp_pressing_paper : DSp := mkSp 1 b_pressing_paper
abbrev st_odd_paper : Stmt := topS 19
abbrev n_odd_paper : List Str := ["chart"]
abbrev p_odd_paper : List Str := ["chart"]
theorem sc_odd_paper : FnScope n_odd_paper p_odd_paper (defScope st_odd_paper) := ⟨rfl, rfl, rfl, by decide +kernel, rfl, by decide +kernel, by decide +kernel⟩
def b_odd_paper : SS := sRet (sBin dIx (sCall 1 sp_solved (aCons (sVar 0) (aNil))) (sC (.int 1)))
def sp_odd_paper : DSp := mkSp 1 b_odd_paper
abbrev st__law_all : Stmt := topS 29
abbrev n__law_all : List Str := ["chart", "found", "r", "c"]
abbrev p__law_all : List Str := ["chart"]
theorem sc__law_all : FnScope n__law_all p__law_all (defScope st__law_all) := ⟨rfl, rfl, rfl, by decide +kernel, rfl, by decide +kernel, by decide +kernel⟩
def b__law_all : SS := sSeq (sOwn 1 (sFn dLst (aNil))) (sSeq (sFor (sRng1 (aCons (sFn dLen (aCons (sVar 0) (aNil))) (aNil))) (.name 2) (sFor (sRng1 (aCons (sFn dLen (aCons (sBin dIx (sVar 0) (sC (.int 0))) (aNil))) (aNil))) (.name 3) (sApp 1 (sFn dTup (aCons (sVar 2) (aCons (sVar 3) (aNil))))))) (sRet (sVar 1)))
def sp__law_all : DSp := mkSp 4 b__law_all
abbrev st_with_squares : Stmt := topS 8
abbrev n_with_squares : List Str := ["chart", "squares", "land", "grid", "square", "row"]
abbrev p_with_squares : List Str := ["chart", "squares", "land"]
theorem sc_with_squares : FnScope n_with_squares p_with_squares (defScope st_with_squares) := ⟨rfl, rfl, rfl, by decide +kernel, rfl, by decide +kernel, by decide +kernel⟩
def b_with_squares : SS := sSeq (sOwn 3 (sLc true (sIter (sVar 0)) (.name 5) (bYes) (sFn dListS (aCons (sVar 5) (aNil))) [5])) (sSeq (sFor (sIter (sVar 1)) (.name 4) (sIfS (sTest (sCall 2 sp_is_square (aCons (sVar 0) (aCons (sVar 4) (aNil))))) (sPut2 3 (sBin dIx (sVar 4) (sC (.int 0))) (sBin dIx (sVar 4) (sC (.int 1))) (sIf (sTest (sVar 2)) (sC d_LAND) (sC d_WATER))) (sNil))) (sRet (sFn dTuple (aCons (sBor (sLc false (sIter (sVar 3)) (.name 5) (bYes) (sJoin (sC (.str "")) (sVar 5)) [5])) (aNil)))))
def sp_with_squares : DSp := mkSp 6 b_with_squares
abbrev st_pressed : Stmt := topS 11
abbrev n_pressed : List Str := ["chart", "squares", "square", "around", "dry", "wet", "other"]
abbrev p_pressed : List Str := ["chart", "squares"]
theorem sc_pressed : FnScope n_pressed p_pressed (defScope st_pressed) := ⟨rfl, rfl, rfl, by decide +kernel, rfl, by decide +kernel, by decide +kernel⟩
def b_pressed : SS := sSeq (sFor (sIter (sVar 1)) (.name 2) (sSeq (sSet 3 (sCall 2 sp_cross (aCons (sVar 0) (aCons (sVar 2) (aNil))))) (sSeq (sSet 4 (sLc false (sIter (sVar 3)) (.name 6) (bNot (sTest (sCall 2 sp_is_land (aCons (sVar 0) (aCons (sVar 6) (aNil)))))) (sVar 6) [6])) (sSeq (sSet 5 (sLc false (sIter (sVar 3)) (.name 6) (sTest (sCall 2 sp_is_land (aCons (sVar 0) (aCons (sVar 6) (aNil))))) (sVar 6) [6])) (sSet 0 (sCall 3 sp_with_squares (aCons (sCall 3 sp_with_squares (aCons (sVar 0) (aCons (sVar 4) (aCons (sC (.bl true)) (aNil))))) (aCons (sVar 5) (aCons (sC (.bl false)) (aNil)))))))))) (sRet (sVar 0))
def sp_pressed : DSp := mkSp 7 b_pressed
abbrev st__law_bent : Stmt := topS 38
abbrev n__law_bent : List Str := ["deal", "chart", "paper", "bent", "at"]
abbrev p__law_bent : List Str := ["deal", "chart", "paper"]
theorem sc__law_bent : FnScope n__law_bent p__law_bent (defScope st__law_bent) := ⟨rfl, rfl, rfl, by decide +kernel, rfl, by decide +kernel, by decide +kernel⟩
def b__law_bent : SS := sSeq (sSet 3 (sFn dLst (aCons (sBin dAdd (sVar 2) (sFn dLst (aCons (sFn dTup (aCons (sC (.int 0)) (aCons (sC (.int 0)) (aNil)))) (aNil)))) (aCons (sBin dAdd (sVar 2) (sFn dLst (aCons (sFn dTup (aCons (sFn dLen (aCons (sVar 1) (aNil))) (aCons (sC (.int 0)) (aNil)))) (aNil)))) (aCons (sBin dAdd (sVar 2) (sFn dLst (aCons (sFn dTup (aCons (sUn dNeg (sC (.int 1))) (aCons (sC (.int 0)) (aNil)))) (aNil)))) (aCons (sFn dLst (aNil)) (aNil))))))) (sSeq (sIfS (sTest (sBin dGt (sFn dLen (aCons (sVar 2) (aNil))) (sC (.int 0)))) (sSeq (sSet 4 (sCall 2 sp__law_take (aCons (sVar 0) (aCons (sFn dLen (aCons (sVar 2) (aNil))) (aNil))))) (sSet 3 (sBin dAdd (sVar 3) (sFn dLst (aCons (sBin dAdd (sSl (sVar 2) (spN) (spS (sVar 4))) (sSl (sVar 2) (spS (sBin dAdd (sVar 4) (sC (.int 1)))) (spN))) (aCons (sBin dAdd (sVar 2) (sFn dLst (aCons (sBin dIx (sVar 2) (sVar 4)) (aNil)))) (aCons (sRev (sVar 2)) (aNil)))))))) (sNil)) (sRet (sVar 3)))
def sp__law_bent : DSp := mkSp 5 b__law_bent
abbrev st__law_doubled : Stmt := topS 35
abbrev n__law_doubled : List Str := ["many", "number", "k"]
abbrev p__law_doubled : List Str := ["many"]
theorem sc__law_doubled : FnScope n__law_doubled p__law_doubled (defScope st__law_doubled) := ⟨rfl, rfl, rfl, by decide +kernel, rfl, by decide +kernel, by decide +kernel⟩
def b__law_doubled : SS := sSeq (sSet 1 (sC (.int 1))) (sSeq (sFor (sRng1 (aCons (sVar 0) (aNil))) (.name 2) (sSet 1 (sBin dMul (sVar 1) (sC (.int 2))))) (sRet (sVar 1)))
def sp__law_doubled : DSp := mkSp 3 b__law_doubled
abbrev st__law_bits : Stmt := topS 36
abbrev n__law_bits : List Str := ["code", "many", "bits", "k"]
abbrev p__law_bits : List Str := ["code", "many"]
theorem sc__law_bits : FnScope n__law_bits p__law_bits (defScope st__law_bits) := ⟨rfl, rfl, rfl, by decide +kernel, rfl, by decide +kernel, by decide +kernel⟩
def b__law_bits : SS := sSeq (sOwn 2 (sFn dLst (aNil))) (sSeq (sFor (sRng1 (aCons (sVar 1) (aNil))) (.name 3) (sSeq (sApp 2 (sBin dMod (sVar 0) (sC (.int 2)))) (sSet 0 (sBin dFdiv (sVar 0) (sC (.int 2)))))) (sRet (sVar 2)))
def sp__law_bits : DSp := mkSp 4 b__law_bits
abbrev st__law_different : Stmt := topS 32
abbrev n__law_different : List Str := ["chart", "squares", "k"]
abbrev p__law_different : List Str := ["chart", "squares"]
theorem sc__law_different : FnScope n__law_different p__law_different (defScope st__law_different) := ⟨rfl, rfl, rfl, by decide +kernel, rfl, by decide +kernel, by decide +kernel⟩
def b__law_different : SS := sSeq (sFor (sRng1 (aCons (sFn dLen (aCons (sVar 1) (aNil))) (aNil))) (.name 2) (sIfS (bOr (sTest (sBin dIn (sBin dIx (sVar 1) (sVar 2)) (sSl (sVar 1) (spN) (spS (sVar 2))))) (sTest (sBin dNotIn (sBin dIx (sVar 1) (sVar 2)) (sCall 1 sp__law_all (aCons (sVar 0) (aNil)))))) (sRet (sC (.bl false))) (sNil))) (sRet (sC (.bl true)))
def sp__law_different : DSp := mkSp 3 b__law_different
abbrev st__law_dry : Stmt := topS 28
abbrev n__law_dry : List Str := ["chart", "r", "c"]
abbrev p__law_dry : List Str := ["chart"]
theorem sc__law_dry : FnScope n__law_dry p__law_dry (defScope st__law_dry) := ⟨rfl, rfl, rfl, by decide +kernel, rfl, by decide +kernel, by decide +kernel⟩
def b__law_dry : SS := sRet (sLc false (sIter (sCall 1 sp__law_all (aCons (sVar 0) (aNil)))) (.tup [1, 2]) (sTest (sBin dEq (sBin dIx (sBin dIx (sVar 0) (sVar 1)) (sVar 2)) (sC (.str "x")))) (sFn dTup (aCons (sVar 1) (aCons (sVar 2) (aNil)))) [1, 2])
def sp__law_dry : DSp := mkSp 3 b__law_dry
abbrev st__law_presses : Stmt := topS 33
abbrev n__law_presses : List Str := ["chart", "squares"]
abbrev p__law_presses : List Str := ["chart", "squares"]
theorem sc__law_presses : FnScope n__law_presses p__law_presses (defScope st__law_presses) := ⟨rfl, rfl, rfl, by decide +kernel, rfl, by decide +kernel, by decide +kernel⟩
def b__law_presses : SS := sRet (sAnd (sCall 2 sp__law_different (aCons (sVar 0) (aCons (sVar 1) (aNil)))) (sBin dEq (sFn dLen (aCons (sCall 1 sp__law_dry (aCons (sCall 2 sp__law_press (aCons (sVar 0) (aCons (sVar 1) (aNil)))) (aNil))) (aNil))) (sC (.int 0))))
def sp__law_presses : DSp := mkSp 2 b__law_presses
abbrev st__law_some : Stmt := topS 37
abbrev n__law_some : List Str := ["chart", "squares", "code", "bits", "k"]
abbrev p__law_some : List Str := ["chart"]
theorem sc__law_some : FnScope n__law_some p__law_some (defScope st__law_some) := ⟨rfl, rfl, rfl, by decide +kernel, rfl, by decide +kernel, by decide +kernel⟩
def b__law_some : SS := sSeq (sSet 1 (sCall 1 sp__law_all (aCons (sVar 0) (aNil)))) (sSeq (sFor (sRng1 (aCons (sCall 1 sp__law_doubled (aCons (sFn dLen (aCons (sVar 1) (aNil))) (aNil))) (aNil))) (.name 2) (sSeq (sSet 3 (sCall 2 sp__law_bits (aCons (sVar 2) (aCons (sFn dLen (aCons (sVar 1) (aNil))) (aNil))))) (sIfS (sTest (sCall 2 sp__law_presses (aCons (sVar 0) (aCons (sLc false (sRng1 (aCons (sFn dLen (aCons (sVar 1) (aNil))) (aNil))) (.name 4) (sTest (sBin dEq (sBin dIx (sVar 3) (sVar 4)) (sC (.int 1)))) (sBin dIx (sVar 1) (sVar 4)) [4]) (aNil))))) (sRet (sC (.bl true))) (sNil)))) (sRet (sC (.bl false))))
def sp__law_some : DSp := mkSp 5 b__law_some
abbrev st__law_bool : Stmt := topS 24
abbrev n__law_bool : List Str := ["answer", "due"]
abbrev p__law_bool : List Str := ["answer", "due"]
theorem sc__law_bool : FnScope n__law_bool p__law_bool (defScope st__law_bool) := ⟨rfl, rfl, rfl, by decide +kernel, rfl, by decide +kernel, by decide +kernel⟩
def b__law_bool : SS := sRet (sAnd (sUn (dIsi "bool") (sVar 0)) (sBin dEq (sVar 0) (sVar 1)))
def sp__law_bool : DSp := mkSp 2 b__law_bool
abbrev st__law_odd : Stmt := topS 34
abbrev n__law_odd : List Str := ["chart", "squares", "square", "r", "c", "other"]
abbrev p__law_odd : List Str := ["chart", "squares"]
theorem sc__law_odd : FnScope n__law_odd p__law_odd (defScope st__law_odd) := ⟨rfl, rfl, rfl, by decide +kernel, rfl, by decide +kernel, by decide +kernel⟩
def b__law_odd : SS := sSeq (sIfS (bOr (bNot (sTest (sCall 2 sp__law_different (aCons (sVar 0) (aCons (sVar 1) (aNil)))))) (sTest (sBin dEq (sBin dMod (sFn dLen (aCons (sLc false (sIter (sVar 1)) (.tup [3, 4]) (sTest (sBin dEq (sBin dIx (sBin dIx (sVar 0) (sVar 3)) (sVar 4)) (sC (.str "x")))) (sC (.int 1)) [3, 4]) (aNil))) (sC (.int 2))) (sC (.int 0))))) (sRet (sC (.bl false))) (sNil)) (sSeq (sFor (sIter (sCall 1 sp__law_all (aCons (sVar 0) (aNil)))) (.name 2) (sIfS (sTest (sBin dEq (sBin dMod (sFn dLen (aCons (sLc false (sIter (sCall 2 sp__law_cross (aCons (sVar 0) (aCons (sVar 2) (aNil))))) (.name 5) (sTest (sBin dIn (sVar 5) (sVar 1))) (sC (.int 1)) [5]) (aNil))) (sC (.int 2))) (sC (.int 1)))) (sRet (sC (.bl false))) (sNil))) (sRet (sC (.bl true))))
def sp__law_odd : DSp := mkSp 6 b__law_odd
abbrev st_are_different_squares : Stmt := topS 12
abbrev n_are_different_squares : List Str := ["chart", "squares", "k"]
abbrev p_are_different_squares : List Str := ["chart", "squares"]
theorem sc_are_different_squares : FnScope n_are_different_squares p_are_different_squares (defScope st_are_different_squares) := ⟨rfl, rfl, rfl, by decide +kernel, rfl, by decide +kernel, by decide +kernel⟩
def b_are_different_squares : SS := sSeq (sFor (sRng1 (aCons (sFn dLen (aCons (sVar 1) (aNil))) (aNil))) (.name 2) (sIfS (bOr (bNot (sTest (sCall 2 sp_is_square (aCons (sVar 0) (aCons (sBin dIx (sVar 1) (sVar 2)) (aNil)))))) (sTest (sBin dIn (sBin dIx (sVar 1) (sVar 2)) (sSl (sVar 1) (spN) (spS (sVar 2)))))) (sRet (sC (.bl false))) (sNil))) (sRet (sC (.bl true)))
def sp_are_different_squares : DSp := mkSp 3 b_are_different_squares
abbrev st_land_squares : Stmt := topS 6
abbrev n_land_squares : List Str := ["chart", "square"]
abbrev p_land_squares : List Str := ["chart"]
theorem sc_land_squares : FnScope n_land_squares p_land_squares (defScope st_land_squares) := ⟨rfl, rfl, rfl, by decide +kernel, rfl, by decide +kernel, by decide +kernel⟩
def b_land_squares : SS := sRet (sLc false (sIter (sCall 1 sp_squares_of (aCons (sVar 0) (aNil)))) (.name 1) (sTest (sCall 2 sp_is_land (aCons (sVar 0) (aCons (sVar 1) (aNil))))) (sVar 1) [1])
def sp_land_squares : DSp := mkSp 2 b_land_squares
abbrev st_shows_pressing : Stmt := topS 13
abbrev n_shows_pressing : List Str := ["chart", "squares"]
abbrev p_shows_pressing : List Str := ["chart", "squares"]
theorem sc_shows_pressing : FnScope n_shows_pressing p_shows_pressing (defScope st_shows_pressing) := ⟨rfl, rfl, rfl, by decide +kernel, rfl, by decide +kernel, by decide +kernel⟩
def b_shows_pressing : SS := sRet (sAnd (sCall 2 sp_are_different_squares (aCons (sVar 0) (aCons (sVar 1) (aNil)))) (sBin dEq (sFn dLen (aCons (sCall 1 sp_land_squares (aCons (sCall 2 sp_pressed (aCons (sVar 0) (aCons (sVar 1) (aNil)))) (aNil))) (aNil))) (sC (.int 0))))
def sp_shows_pressing : DSp := mkSp 2 b_shows_pressing
abbrev st_shows_odd : Stmt := topS 14
abbrev n_shows_odd : List Str := ["chart", "squares", "square", "other"]
abbrev p_shows_odd : List Str := ["chart", "squares"]
theorem sc_shows_odd : FnScope n_shows_odd p_shows_odd (defScope st_shows_odd) := ⟨rfl, rfl, rfl, by decide +kernel, rfl, by decide +kernel, by decide +kernel⟩
def b_shows_odd : SS := sSeq (sIfS (bOr (bNot (sTest (sCall 2 sp_are_different_squares (aCons (sVar 0) (aCons (sVar 1) (aNil)))))) (sTest (sBin dEq (sBin dMod (sFn dLen (aCons (sLc false (sIter (sVar 1)) (.name 2) (sTest (sCall 2 sp_is_land (aCons (sVar 0) (aCons (sVar 2) (aNil))))) (sC (.int 1)) [2]) (aNil))) (sC (.int 2))) (sC (.int 0))))) (sRet (sC (.bl false))) (sNil)) (sSeq (sFor (sIter (sCall 1 sp_squares_of (aCons (sVar 0) (aNil)))) (.name 2) (sIfS (sTest (sBin dEq (sBin dMod (sFn dLen (aCons (sLc false (sIter (sCall 2 sp_cross (aCons (sVar 0) (aCons (sVar 2) (aNil))))) (.name 3) (sTest (sBin dIn (sVar 3) (sVar 1))) (sVar 3) [3]) (aNil))) (sC (.int 2))) (sC (.int 1)))) (sRet (sC (.bl false))) (sNil))) (sRet (sC (.bl true))))
def sp_shows_odd : DSp := mkSp 4 b_shows_odd
abbrev st_law : Stmt := topS 39
abbrev n_law : List Str := ["script", "deal", "chart", "squares", "made", "one", "paper", "odd", "given", "bent", "square", "row"]
abbrev p_law : List Str := ["script"]
theorem sc_law : FnScope n_law p_law (defScope st_law) := ⟨rfl, rfl, rfl, by decide +kernel, rfl, by decide +kernel, by decide +kernel⟩
def b_law : SS := sSeq (sSet 2 (sCall 3 sp__law_grid (aCons (sVar 1) (aCons (sBin dAdd (sC (.int 1)) (sCall 2 sp__law_take (aCons (sVar 1) (aCons (sC (.int 6)) (aNil))))) (aCons (sBin dAdd (sC (.int 1)) (sCall 2 sp__law_take (aCons (sVar 1) (aCons (sC (.int 6)) (aNil))))) (aNil)))))) (sSeq (sIfS (sTest (sBin dEq (sCall 2 sp__law_take (aCons (sVar 1) (aCons (sC (.int 3)) (aNil)))) (sC (.int 0)))) (sSet 2 (sCall 3 sp__law_grid (aCons (sVar 1) (aCons (sBin dAdd (sC (.int 1)) (sCall 2 sp__law_take (aCons (sVar 1) (aCons (sC (.int 2)) (aNil))))) (aCons (sBin dAdd (sC (.int 1)) (sCall 2 sp__law_take (aCons (sVar 1) (aCons (sC (.int 4)) (aNil))))) (aNil)))))) (sNil)) (sSeq (sSet 3 (sLc false (sIter (sCall 1 sp__law_all (aCons (sVar 2) (aNil)))) (.name 10) (sTest (sBin dEq (sCall 2 sp__law_take (aCons (sVar 1) (aCons (sC (.int 2)) (aNil)))) (sC (.int 0)))) (sVar 10) [10])) (sSeq (sIfS (bNot (sTest (sCall 2 (sp__law_same 6) (aCons (sCall 2 sp_pressed (aCons (sVar 2) (aCons (sBin dAdd (sVar 3) (sSl (sVar 3) (spN) (spS (sC (.int 2))))) (aNil)))) (aCons (sCall 2 sp__law_press (aCons (sVar 2) (aCons (sBin dAdd (sVar 3) (sSl (sVar 3) (spN) (spS (sC (.int 2))))) (aNil)))) (aNil)))))) (sRet (sC (.bl false))) (sNil)) (sSeq (sSet 4 (sCall 2 sp__law_press (aCons (sFn dTuple (aCons (sLc false (sIter (sVar 2)) (.name 11) (bYes) (sBin dMulS (sC (.str ".")) (sFn dLen (aCons (sVar 11) (aNil)))) [11]) (aNil))) (aCons (sVar 3) (aNil))))) (sSeq (sIfS (bOr (sTest (sBin dIsNot (sCall 1 sp_odd_paper (aCons (sVar 4) (aNil))) (sC .non))) (sTest (sBin dIs (sCall 1 sp_pressing_paper (aCons (sVar 4) (aNil))) (sC .non)))) (sRet (sC (.bl false))) (sNil)) (sSeq (sFor (sIter (sFn dLst (aCons (sVar 2) (aCons (sVar 4) (aNil))))) (.name 5) (sSeq (sSet 6 (sCall 1 sp_pressing_paper (aCons (sVar 5) (aNil)))) (sSeq (sSet 7 (sCall 1 sp_odd_paper (aCons (sVar 5) (aNil)))) (sSeq (sIfS (sTest (sBin dEq (sBin dIs (sVar 6) (sC .non)) (sBin dIs (sVar 7) (sC .non)))) (sRet (sC (.bl false))) (sNil)) (sSeq (sIfS (bAnd (sTest (sBin dIsNot (sVar 6) (sC .non))) (bOr (bNot (sTest (sUn (dIsi "list") (sVar 6)))) (bNot (sTest (sCall 2 sp__law_presses (aCons (sVar 5) (aCons (sVar 6) (aNil)))))))) (sRet (sC (.bl false))) (sNil)) (sSeq (sIfS (bAnd (sTest (sBin dIsNot (sVar 7) (sC .non))) (bOr (bNot (sTest (sUn (dIsi "list") (sVar 7)))) (bNot (sTest (sCall 2 sp__law_odd (aCons (sVar 5) (aCons (sVar 7) (aNil)))))))) (sRet (sC (.bl false))) (sNil)) (sSeq (sIfS (bAnd (sTest (sBin dLt (sFn dLen (aCons (sCall 1 sp__law_all (aCons (sVar 5) (aNil))) (aNil))) (sC (.int 9)))) (sTest (sBin dNe (sBin dIsNot (sVar 6) (sC .non)) (sCall 1 sp__law_some (aCons (sVar 5) (aNil)))))) (sRet (sC (.bl false))) (sNil)) (sSeq (sSet 8 (sIf (sTest (sBin dIs (sVar 7) (sC .non))) (sVar 6) (sVar 7))) (sFor (sIter (sBin dAdd (sFn dLst (aCons (sVar 8) (aNil))) (sCall 3 sp__law_bent (aCons (sVar 1) (aCons (sVar 5) (aCons (sVar 8) (aNil))))))) (.name 9) (sSeq (sIfS (bNot (sTest (sCall 2 sp__law_bool (aCons (sCall 2 sp_shows_pressing (aCons (sVar 5) (aCons (sVar 9) (aNil)))) (aCons (sCall 2 sp__law_presses (aCons (sVar 5) (aCons (sVar 9) (aNil)))) (aNil)))))) (sRet (sC (.bl false))) (sNil)) (sIfS (bNot (sTest (sCall 2 sp__law_bool (aCons (sCall 2 sp_shows_odd (aCons (sVar 5) (aCons (sVar 9) (aNil)))) (aCons (sCall 2 sp__law_odd (aCons (sVar 5) (aCons (sVar 9) (aNil)))) (aNil)))))) (sRet (sC (.bl false))) (sNil)))))))))))) (sRet (sC (.bl true)))))))))
structure Txt (K : PySem.W.Frag) (mg : Str → Option Value) : Prop where
  f__law_deal : DefAt K mg "_law_deal" st__law_deal
  f__law_take : DefAt K mg "_law_take" st__law_take
  f__law_grid : DefAt K mg "_law_grid" st__law_grid
  f__law_cross : DefAt K mg "_law_cross" st__law_cross
  f__law_press : DefAt K mg "_law_press" st__law_press
  f__law_same : DefAt K mg "_law_same" st__law_same
  f_squares_of : DefAt K mg "squares_of" st_squares_of
  f_is_square : DefAt K mg "is_square" st_is_square
  f_is_land : DefAt K mg "is_land" st_is_land
  f_is_odd : DefAt K mg "is_odd" st_is_odd
  f_side_neighbours : DefAt K mg "side_neighbours" st_side_neighbours
  f_cross : DefAt K mg "cross" st_cross
  f_without : DefAt K mg "without" st_without
  f_solved : DefAt K mg "solved" st_solved
  f_pressing_paper : DefAt K mg "pressing_paper" st_pressing_paper
  f_odd_paper : DefAt K mg "odd_paper" st_odd_paper
  f__law_all : DefAt K mg "_law_all" st__law_all
  f_with_squares : DefAt K mg "with_squares" st_with_squares
  f_pressed : DefAt K mg "pressed" st_pressed
  f__law_bent : DefAt K mg "_law_bent" st__law_bent
  f__law_doubled : DefAt K mg "_law_doubled" st__law_doubled
  f__law_bits : DefAt K mg "_law_bits" st__law_bits
  f__law_different : DefAt K mg "_law_different" st__law_different
  f__law_dry : DefAt K mg "_law_dry" st__law_dry
  f__law_presses : DefAt K mg "_law_presses" st__law_presses
  f__law_some : DefAt K mg "_law_some" st__law_some
  f__law_bool : DefAt K mg "_law_bool" st__law_bool
  f__law_odd : DefAt K mg "_law_odd" st__law_odd
  f_are_different_squares : DefAt K mg "are_different_squares" st_are_different_squares
  f_land_squares : DefAt K mg "land_squares" st_land_squares
  f_shows_pressing : DefAt K mg "shows_pressing" st_shows_pressing
  f_shows_odd : DefAt K mg "shows_odd" st_shows_odd
  f_law : DefAt K mg "law" st_law
  n_abs : mg "abs" = none
  n_bool : mg "bool" = none
  n_int : mg "int" = none
  n_isinstance : mg "isinstance" = none
  n_len : mg "len" = none
  n_list : mg "list" = none
  n_min : mg "min" = none
  n_range : mg "range" = none
  n_sorted : mg "sorted" = none
  n_str : mg "str" = none
  n_sum : mg "sum" = none
  n_tuple : mg "tuple" = none
  c_LAND : ∃ u, mg "LAND" = some u ∧ RelV v_LAND u
  c_WATER : ∃ u, mg "WATER" = some u ∧ RelV v_WATER u
section
variable {P : Program} {w : World} {K : PySem.W.Frag} {mg : Str → Option Value} {base : Heap}
theorem ok__law_deal (T : Txt K mg) : ∃ f fd, FnOk P w K mg base CX0 1 f fd ["script"] (spDeal K) ∧ mg "_law_deal" = some (.ref f) ∧ PySem.W.keepIn K (.ref f) = true ∧ (BindN "_law_deal" st__law_deal ["script"] → Binds K fd ["script"] []) := by
  have h1 : ∀ (f : Addr) (cdv : Value) (A : Around) (outer : List Env) (s : Shared) (H : Hp) (E : XK), Room 0 (A.deeper (envOfC "_law_deal" (defScope st__law_deal) s.heap.objs.size f cdv)) → VS (cxOf CX0 P w K mg base n__law_deal "_law_deal" (defScope st__law_deal) f cdv A outer s H E).nox ((defBody st__law_deal).getD 0 (.Pass ⟨0, 0, 0, 0⟩)) (sOwn 1 (sFn dLst (aNil))) := fun f cdv A outer s H E hr => vOwn (i := 1) sc__law_deal.nd (by rfl) (by first | exact .inl rfl | exact .inr rfl) (vLst (vaNil))
  have h2 : ∀ (f : Addr) (cdv : Value) (A : Around) (outer : List Env) (s : Shared) (H : Hp) (E : XK), Room 0 (A.deeper (envOfC "_law_deal" (defScope st__law_deal) s.heap.objs.size f cdv)) → VS (cxOf CX0 P w K mg base n__law_deal "_law_deal" (defScope st__law_deal) f cdv A outer s H E).nox ((defBody st__law_deal).getD 1 (.Pass ⟨0, 0, 0, 0⟩)) (sFor (sRng1 (aCons (sFn dMin2 (aCons (sFn dLen (aCons (sVar 0) (aNil))) (aCons (sC (.int 63)) (aNil)))) (aNil))) (.name 2) (sSeq (sSet 3 (sFn dAbs (aCons (sFn dInt (aCons (sBin dIx (sVar 0) (sVar 2)) (aNil))) (aNil)))) (sIfS (sTest (sBin dGe (sVar 3) (sBin dPow (sC (.int 10)) (sC (.int 18))))) (sFor (sRng1 (aCons (sC (.int 40)) (aNil))) (.name 4) (sIfS (sTest (sBin dGt (sVar 3) (sC (.int 0)))) (sSeq (sApp 1 (sBin dMod (sVar 3) (sC (.int 1009)))) (sSet 3 (sBin dFdiv (sVar 3) (sC (.int 1009))))) (sNil))) (sSeq (sSet 3 (sBin dAdd (sBin dAdd (sBin dMul (sBin dMod (sVar 3) (sC (.int 2147483629))) (sC (.int 48271))) (sBin dMul (sVar 2) (sC (.int 69621)))) (sC (.int 11)))) (sFor (sRng1 (aCons (sC (.int 5)) (aNil))) (.name 4) (sSeq (sSet 3 (sBin dMod (sBin dAdd (sBin dAdd (sBin dMul (sVar 3) (sC (.int 16807))) (sC (.int 12345))) (sVar 4)) (sC (.int 2147483647)))) (sApp 1 (sBin dMod (sBin dFdiv (sVar 3) (sC (.int 7))) (sC (.int 1009)))))))))) := fun f cdv A outer s H E hr => vFor PassesOwn.never rfl (vRng1 (by rfl) T.n_range (vaCons (vCB (call_min2 rfl) okMin2 mono_dF2 (by rfl) T.n_min (by decide +kernel) (vaCons (vCB call_len okLen mono_dLen (by rfl) T.n_len (by decide +kernel) (vaCons (vVar 0) (vaNil))) (vaCons (vInt) (vaNil)))) (vaNil))) (vgName (i := 2) sc__law_deal.nd (by rfl) (by first | exact .inl rfl | exact .inr rfl)) (vsCons (vSet (i := 3) sc__law_deal.nd (by rfl) (by first | exact .inl rfl | exact .inr rfl) (vCB call_abs okAbs mono_dF1 (by rfl) T.n_abs (by decide +kernel) (vaCons (vCT call_int1 okInt mono_dF1 (by rfl) T.n_int (by decide +kernel) (vaCons (vIx (vVar 0) (vVar 2)) (vaNil))) (vaNil)))) (vsOne (vIfS (vtCmp op_ge okGe mono_dI0 (vVar 3) (vPow (vInt) (vInt))) (vsOne (vFor PassesOwn.never rfl (vRng1 (by rfl) T.n_range (vaCons (vInt) (vaNil))) (vgName (i := 4) sc__law_deal.nd (by rfl) (by first | exact .inl rfl | exact .inr rfl)) (vsOne (vIfS (vtCmp op_gt okGt mono_dI0 (vVar 3) (vInt)) (vsCons (vApp (i := 1) (by rfl) (by first | exact .inl rfl | exact .inr (.inl rfl) | exact .inr (.inr rfl)) (vMod (vVar 3) (vInt))) (vsOne (vSet (i := 3) sc__law_deal.nd (by rfl) (by first | exact .inl rfl | exact .inr rfl) (vFdiv (vVar 3) (vInt))))) (vsNil))))) (vsCons (vSet (i := 3) sc__law_deal.nd (by rfl) (by first | exact .inl rfl | exact .inr rfl) (vAdd (vAdd (vMul (vMod (vVar 3) (vInt)) (vInt)) (vMul (vVar 2) (vInt))) (vInt))) (vsOne (vFor PassesOwn.never rfl (vRng1 (by rfl) T.n_range (vaCons (vInt) (vaNil))) (vgName (i := 4) sc__law_deal.nd (by rfl) (by first | exact .inl rfl | exact .inr rfl)) (vsCons (vSet (i := 3) sc__law_deal.nd (by rfl) (by first | exact .inl rfl | exact .inr rfl) (vMod (vAdd (vAdd (vMul (vVar 3) (vInt)) (vInt)) (vVar 4)) (vInt))) (vsOne (vApp (i := 1) (by rfl) (by first | exact .inl rfl | exact .inr (.inl rfl) | exact .inr (.inr rfl)) (vMod (vFdiv (vVar 3) (vInt)) (vInt)))))))))))
  have h3 : ∀ (f : Addr) (cdv : Value) (A : Around) (outer : List Env) (s : Shared) (H : Hp) (E : XK), Room 0 (A.deeper (envOfC "_law_deal" (defScope st__law_deal) s.heap.objs.size f cdv)) → VS (cxOf CX0 P w K mg base n__law_deal "_law_deal" (defScope st__law_deal) f cdv A outer s H E).nox ((defBody st__law_deal).getD 2 (.Pass ⟨0, 0, 0, 0⟩)) (sSet 5 (sBin dAdd (sFn dSum (aCons (sVar 1) (aNil))) (sFn dLen (aCons (sVar 0) (aNil))))) := fun f cdv A outer s H E hr => vSet (i := 5) sc__law_deal.nd (by rfl) (by first | exact .inl rfl | exact .inr rfl) (vAdd (vCB (cr_sum rfl) okSum mono_dSum (by rfl) T.n_sum (by decide +kernel) (vaCons (vVar 1) (vaNil))) (vCB call_len okLen mono_dLen (by rfl) T.n_len (by decide +kernel) (vaCons (vVar 0) (vaNil))))
  have r0 : Room 0 (roomA.deeper (envOfC "_law_deal" (defScope st__law_deal) ({} : Shared).heap.objs.size 0 .none)) := Room.deeper (roomA_ok (by decide)) _
  exact deal_mk T.f__law_deal sc__law_deal rfl (h1 0 .none roomA [] {} (fun _ => none) (fun _ _ _ => False) r0).mono (h2 0 .none roomA [] {} (fun _ => none) (fun _ _ _ => False) r0).mono fun f cdv A outer s H E hr =>
    show PSs _ (defBody st__law_deal) _ from
    pss_cons (h1 f cdv A outer s H E hr).pe (pss_cons (h2 f cdv A outer s H E hr).pe (pss_cons (h3 f cdv A outer s H E hr).pe (pss_one (ps_ret (pe_lst (pa_cons (pv 1) (pa_cons (pe_lst (pa_cons pe_int pa_nil)) (pa_cons (pv 5) pa_nil)))))))) 
theorem ok__law_take (T : Txt K mg) : Callee P w K mg base "_law_take" 1 2 takeSp :=
  take_mk T.f__law_take sc__law_take (fun _ _ _ _ _ _ us hl => match us, hl with | [_, _], _ => rfl) fun f cdv A outer s H E =>
    show PSs _ (defBody st__law_take) (takeRd K) from
    pss_cons (ps_set (i := 2) sc__law_take.nd (by rfl) (.inl rfl) (pe_ix ix_list (pe_ix ix_list (pv 0) pe_int (fun _ _ => rfl)) pe_int (fun _ _ => rfl)))
    (pss_cons (ps_asg (pe_op op_add (pv 2) pe_int) (pg_sub (pe_ix ix_list (pv 0) pe_int (fun _ _ => rfl)) pe_int set_list))
    (pss_cons (ps_if (pt_cmpR op_lt (pv 2) (pe_callB call_len_seq (by rfl) T.n_len PySem.boot_len (pa_cons (pe_ix ix_list (pv 0) pe_int (fun _ _ => rfl)) pa_nil)) (nomark _))
      (pss_one (ps_ret (pe_op op_mod (pe_ix ix_list (pe_ix ix_list (pv 0) pe_int (fun _ _ => rfl)) (pv 2) (fun _ _ => rfl)) (pv 1)))) pss_nil)
    (pss_one (ps_ret (pe_op op_mod (pe_op op_fdiv (pe_op op_add (pe_op op_add (pe_op op_mul (pv 2) pe_int) (pe_op op_mul (pe_ix ix_list (pv 0) pe_int (fun _ _ => rfl)) pe_int)) (pe_op op_mul (pe_op op_mul (pv 2) (pv 2)) pe_int)) pe_int) (pv 1))))))
theorem ok__law_grid (T : Txt K mg) (C__law_take : Callee P w K mg base "_law_take" 1 2 sp__law_take) : Callee P w K mg base "_law_grid" 2 3 sp__law_grid :=
  def_ok (A0 := roomA) (roomA_ok (by decide)) T.f__law_grid sc__law_grid rfl (fun _ _ _ _ _ _ us hl => match us, hl with | [_, _, _], _ => rfl) fun f cdv A outer s H E hr =>
    show VSs _ (defBody st__law_grid) b__law_grid from
    vsCons (vSet (i := 3) sc__law_grid.nd (by rfl) (by first | exact .inl rfl | exact .inr rfl) (vCall (C__law_take.up (by decide)) hr (by rfl) (vaCons (vVar 0) (vaCons (vInt) (vaNil))))) (vsCons (vSet (i := 4) sc__law_grid.nd (by rfl) (by first | exact .inl rfl | exact .inr rfl) (vIx (vLst (vaCons (vInt) (vaCons (vInt) (vaCons (vInt) (vaCons (vInt) (vaNil)))))) (vCall (C__law_take.up (by decide)) hr (by rfl) (vaCons (vVar 0) (vaCons (vInt) (vaNil)))))) (vsCons (vOwn (i := 5) sc__law_grid.nd (by rfl) (by first | exact .inl rfl | exact .inr rfl) (vLst (vaNil))) (vsCons (vFor PassesOwn.never rfl (vRng1 (by rfl) T.n_range (vaCons (vVar 1) (vaNil))) (vgName (i := 6) sc__law_grid.nd (by rfl) (by first | exact .inl rfl | exact .inr rfl)) (vsCons (vOwn (i := 7) sc__law_grid.nd (by rfl) (by first | exact .inl rfl | exact .inr rfl) (vLst (vaNil))) (vsCons (vFor PassesOwn.never rfl (vRng1 (by rfl) T.n_range (vaCons (vVar 2) (vaNil))) (vgName (i := 8) sc__law_grid.nd (by rfl) (by first | exact .inl rfl | exact .inr rfl)) (vsCons (vSet (i := 9) sc__law_grid.nd (by rfl) (by first | exact .inl rfl | exact .inr rfl) (vCmp op_gt okGt mono_dI0 (vCall (C__law_take.up (by decide)) hr (by rfl) (vaCons (vVar 0) (vaCons (vVar 4) (vaNil)))) (vInt))) (vsCons (vIfS (vtCmp (opEq hr.units) okEq mono_dEqG (vVar 3) (vInt)) (vsOne (vSet (i := 9) sc__law_grid.nd (by rfl) (by first | exact .inl rfl | exact .inr rfl) (vCmp (opEq hr.units) okEq mono_dEqG (vCall (C__law_take.up (by decide)) hr (by rfl) (vaCons (vVar 0) (vaCons (vVar 4) (vaNil)))) (vInt)))) (vsNil)) (vsCons (vIfS (vtCmp (opEq hr.units) okEq mono_dEqG (vVar 3) (vInt)) (vsOne (vSet (i := 9) sc__law_grid.nd (by rfl) (by first | exact .inl rfl | exact .inr rfl) (vCmp (opEq hr.units) okEq mono_dEqG (vMod (vCB (call_min4 rfl) okMin4 mono_dMin4 (by rfl) T.n_min (by decide +kernel) (vaCons (vVar 6) (vaCons (vVar 8) (vaCons (vSub (vSub (vVar 1) (vInt)) (vVar 6)) (vaCons (vSub (vSub (vVar 2) (vInt)) (vVar 8)) (vaNil)))))) (vInt)) (vInt)))) (vsNil)) (vsCons (vIfS (vtCmp (opEq hr.units) okEq mono_dEqG (vVar 3) (vInt)) (vsOne (vSet (i := 9) sc__law_grid.nd (by rfl) (by first | exact .inl rfl | exact .inr rfl) (vCmp (opEq hr.units) okEq mono_dEqG (vMod (vAdd (vVar 6) (vVar 8)) (vInt)) (vInt)))) (vsNil)) (vsCons (vIfS (vtCmp (opEq hr.units) okEq mono_dEqG (vVar 3) (vInt)) (vsOne (vSet (i := 9) sc__law_grid.nd (by rfl) (by first | exact .inl rfl | exact .inr rfl) (vOr (vCmp (opEq hr.units) okEq mono_dEqG (vMod (vVar 6) (vInt)) (vInt)) (vOne (vCmp (opEq hr.units) okEq mono_dEqG (vVar 8) (vIx (vLst (vaCons (vInt) (vaCons (vSub (vVar 2) (vInt)) (vaNil)))) (vMod (vFdiv (vVar 6) (vInt)) (vInt)))))))) (vsNil)) (vsOne (vApp (i := 7) (by rfl) (by first | exact .inl rfl | exact .inr (.inl rfl) | exact .inr (.inr rfl)) (vIf (vtVal (vVar 9)) (vStr) (vStr)))))))))) (vsOne (vAppMv (i := 5) (j := 7) (by rfl) (by first | exact .inl rfl | exact .inr (.inl rfl) | exact .inr (.inr rfl)) (by rfl) (by first | exact .inl rfl | exact .inr (.inl rfl) | exact .inr (.inr rfl))))))) (vsCons (vFor PassesOwn.never rfl (vRng1 (by rfl) T.n_range (vaCons (vCall (C__law_take.up (by decide)) hr (by rfl) (vaCons (vVar 0) (vaCons (vInt) (vaNil)))) (vaNil))) (vgName (i := 10) sc__law_grid.nd (by rfl) (by first | exact .inl rfl | exact .inr rfl)) (vsCons (vSet (i := 6) sc__law_grid.nd (by rfl) (by first | exact .inl rfl | exact .inr rfl) (vCall (C__law_take.up (by decide)) hr (by rfl) (vaCons (vVar 0) (vaCons (vVar 1) (vaNil))))) (vsCons (vSet (i := 8) sc__law_grid.nd (by rfl) (by first | exact .inl rfl | exact .inr rfl) (vCall (C__law_take.up (by decide)) hr (by rfl) (vaCons (vVar 0) (vaCons (vVar 2) (vaNil))))) (vsOne (vPut2 (i := 5) (by rfl) (by first | exact .inl rfl | exact .inr (.inl rfl) | exact .inr (.inr rfl)) (vVar 6) (vVar 8) (vIf (vtCmp (opEq hr.units) okEq mono_dEqG (vIx (vIx (vVar 5) (vVar 6)) (vVar 8)) (vStr)) (vStr) (vStr))))))) (vsOne (vRet (vCT call_tuple_of okTuple mono_dTuple (by rfl) T.n_tuple (by decide +kernel) (vaCons ((vcBor (vcLc (own := [("row", 7)]) false rfl sc__law_grid.nd (vIter (vVar 5)) (blkOk_by (N := n__law_grid) (sc := (defScope st__law_grid)) (by decide +kernel)) (by decide) (fun _ _ _ _ _ => vgName (i := 7) sc__law_grid.nd (by rfl) (by first | exact .inl rfl | exact .inr rfl)) (fun _ _ _ _ _ => vtsNil) (fun _ _ _ _ _ => vJoin (vStr) (vVar 7)))).ve) (vaNil)))))))))
theorem ok__law_cross (T : Txt K mg)  : Callee P w K mg base "_law_cross" 1 2 sp__law_cross :=
  def_ok (A0 := roomA) (roomA_ok (by decide)) T.f__law_cross sc__law_cross rfl (fun _ _ _ _ _ _ us hl => match us, hl with | [_, _], _ => rfl) fun f cdv A outer s H E hr =>
    show VSs _ (defBody st__law_cross) b__law_cross from
    vsCons (vAsg (vgTup rfl (vgCons (vgName (i := 2) sc__law_cross.nd (by rfl) (by first | exact .inl rfl | exact .inr rfl)) (vgCons (vgName (i := 3) sc__law_cross.nd (by rfl) (by first | exact .inl rfl | exact .inr rfl)) (vgNil)))) (vVar 1)) (vsCons (vSet (i := 4) sc__law_cross.nd (by rfl) (by first | exact .inl rfl | exact .inr rfl) (vLst (vaCons (vTup (vaCons (vVar 2) (vaCons (vVar 3) (vaNil)))) (vaCons (vTup (vaCons (vSub (vVar 2) (vInt)) (vaCons (vVar 3) (vaNil)))) (vaCons (vTup (vaCons (vVar 2) (vaCons (vSub (vVar 3) (vInt)) (vaNil)))) (vaCons (vTup (vaCons (vVar 2) (vaCons (vAdd (vVar 3) (vInt)) (vaNil)))) (vaCons (vTup (vaCons (vAdd (vVar 2) (vInt)) (vaCons (vVar 3) (vaNil)))) (vaNil)))))))) (vsOne (vRet ((vcLc (own := [("x", 5), ("y", 6)]) false rfl sc__law_cross.nd (vIter (vVar 4)) (blkOk_by (N := n__law_cross) (sc := (defScope st__law_cross)) (by decide +kernel)) (by decide) (fun _ _ _ _ _ => vgTup rfl (vgCons (vgName (i := 5) sc__law_cross.nd (by rfl) (by first | exact .inl rfl | exact .inr rfl)) (vgCons (vgName (i := 6) sc__law_cross.nd (by rfl) (by first | exact .inl rfl | exact .inr rfl)) (vgNil)))) (fun _ _ _ _ _ => vtsOne ((vwAnd (vtChain op_le op_lt okLe okLt mono_dI0 mono_dI0 (vInt) (vVar 5) (vCB call_len okLen mono_dLen (by rfl) T.n_len (by decide +kernel) (vaCons (vVar 0) (vaNil)))) (vwAnd1 (vtChain op_le op_lt okLe okLt mono_dI0 mono_dI0 (vInt) (vVar 6) (vCB call_len okLen mono_dLen (by rfl) T.n_len (by decide +kernel) (vaCons (vIx (vVar 0) (vInt)) (vaNil)))))).vt)) (fun _ _ _ _ _ => vTup (vaCons (vVar 5) (vaCons (vVar 6) (vaNil))))).ve))))
theorem ok__law_press (T : Txt K mg) (C__law_cross : Callee P w K mg base "_law_cross" 1 2 sp__law_cross) : Callee P w K mg base "_law_press" 2 2 sp__law_press :=
  def_ok (A0 := roomA) (roomA_ok (by decide)) T.f__law_press sc__law_press rfl (fun _ _ _ _ _ _ us hl => match us, hl with | [_, _], _ => rfl) fun f cdv A outer s H E hr =>
    show VSs _ (defBody st__law_press) b__law_press from
    vsCons (vOwnC (i := 2) (by rfl) (by rfl) (vcLc (own := [("row", 6)]) true rfl sc__law_press.nd (vIter (vVar 0)) (blkOk_by (N := n__law_press) (sc := (defScope st__law_press)) (by decide +kernel)) (by decide) (fun _ _ _ _ _ => vgName (i := 6) sc__law_press.nd (by rfl) (by first | exact .inl rfl | exact .inr rfl)) (fun _ _ _ _ _ => vtsNil) (fun _ _ _ _ _ => vCT (call_list_text rfl) okListS mono_dListS (by rfl) T.n_list (by decide +kernel) (vaCons (vVar 6) (vaNil)))) (sw_true rfl rfl rfl (by decide +kernel))) (vsCons (vFor PassesOwn.never rfl (vIter (vVar 1)) (vgName (i := 3) sc__law_press.nd (by rfl) (by first | exact .inl rfl | exact .inr rfl)) (vsOne (vFor PassesOwn.never rfl (vIter (vCall (C__law_cross.up (by decide)) hr (by rfl) (vaCons (vVar 0) (vaCons (vVar 3) (vaNil))))) (vgTup rfl (vgCons (vgName (i := 4) sc__law_press.nd (by rfl) (by first | exact .inl rfl | exact .inr rfl)) (vgCons (vgName (i := 5) sc__law_press.nd (by rfl) (by first | exact .inl rfl | exact .inr rfl)) (vgNil)))) (vsOne (vPut2 (i := 2) (by rfl) (by first | exact .inl rfl | exact .inr (.inl rfl) | exact .inr (.inr rfl)) (vVar 4) (vVar 5) (vIf (vtCmp (opEq hr.units) okEq mono_dEqG (vIx (vIx (vVar 2) (vVar 4)) (vVar 5)) (vStr)) (vStr) (vStr))))))) (vsOne (vRet (vCT call_tuple_of okTuple mono_dTuple (by rfl) T.n_tuple (by decide +kernel) (vaCons ((vcBor (vcLc (own := [("row", 6)]) false rfl sc__law_press.nd (vIter (vVar 2)) (blkOk_by (N := n__law_press) (sc := (defScope st__law_press)) (by decide +kernel)) (by decide) (fun _ _ _ _ _ => vgName (i := 6) sc__law_press.nd (by rfl) (by first | exact .inl rfl | exact .inr rfl)) (fun _ _ _ _ _ => vtsNil) (fun _ _ _ _ _ => vJoin (vStr) (vVar 6)))).ve) (vaNil))))))
theorem ok__law_same (T : Txt K mg)  : ∀ n, n ≤ 50 → Callee P w K mg base "_law_same" (0 + n) 2 (sp__law_same n)
  | 0, _ => callee_false T.f__law_same (ps := p__law_same) (fun _ _ _ _ _ _ us hl => match us, hl with | [_, _], _ => rfl)
  | n + 1, hn => by
    have C__law_same := ok__law_same T  n (by omega)
    exact def_ok (k := 0 + n) (A0 := roomA) (roomA_ok (by omega)) T.f__law_same sc__law_same rfl (fun _ _ _ _ _ _ us hl => match us, hl with | [_, _], _ => rfl) fun f cdv A outer s H E hr =>
      show VSs _ (defBody st__law_same) (b__law_same (sp__law_same n)) from
      vsCons (vIfS ((vwOr (vtVal (vIsi "tuple" (by rfl) T.n_isinstance (by rfl) T.n_tuple (by decide +kernel) (vVar 1))) (vwOr1 (vtVal (vIsi "list" (by rfl) T.n_isinstance (by rfl) T.n_list (by decide +kernel) (vVar 1))))).vt) (vsCons (vIfS ((vwOr ((vwAnd (vtVal (vIsi "tuple" (by rfl) T.n_isinstance (by rfl) T.n_tuple (by decide +kernel) (vVar 1))) (vwAnd1 (vtNot (vtVal (vIsi "tuple" (by rfl) T.n_isinstance (by rfl) T.n_tuple (by decide +kernel) (vVar 0)))))).vt) (vwOr1 ((vwAnd (vtVal (vIsi "list" (by rfl) T.n_isinstance (by rfl) T.n_list (by decide +kernel) (vVar 1))) (vwAnd1 (vtNot (vtVal (vIsi "list" (by rfl) T.n_isinstance (by rfl) T.n_list (by decide +kernel) (vVar 0)))))).vt))).vt) (vsOne (vRet (vBl))) (vsNil)) (vsCons (vIfS (vtCmp (opNe hr.units) okNe mono_dEqG (vCB call_len okLen mono_dLen (by rfl) T.n_len (by decide +kernel) (vaCons (vVar 0) (vaNil))) (vCB call_len okLen mono_dLen (by rfl) T.n_len (by decide +kernel) (vaCons (vVar 1) (vaNil)))) (vsOne (vRet (vBl))) (vsNil)) (vsCons (vFor PassesOwn.never rfl (vRng1 (by rfl) T.n_range (vaCons (vCB call_len okLen mono_dLen (by rfl) T.n_len (by decide +kernel) (vaCons (vVar 1) (vaNil))) (vaNil))) (vgName (i := 2) sc__law_same.nd (by rfl) (by first | exact .inl rfl | exact .inr rfl)) (vsOne (vIfS (vtNot (vtVal (vCall (C__law_same.up (by omega)) hr (by rfl) (vaCons (vIx (vVar 0) (vVar 2)) (vaCons (vIx (vVar 1) (vVar 2)) (vaNil)))))) (vsOne (vRet (vBl))) (vsNil)))) (vsOne (vRet (vBl)))))) (vsNil)) (vsCons (vIfS ((vwOr (vtVal (vIsi "bool" (by rfl) T.n_isinstance (by rfl) T.n_bool (by decide +kernel) (vVar 0))) (vwOr1 (vtVal (vIsi "bool" (by rfl) T.n_isinstance (by rfl) T.n_bool (by decide +kernel) (vVar 1))))).vt) (vsOne (vRet (vAnd (vIsi "bool" (by rfl) T.n_isinstance (by rfl) T.n_bool (by decide +kernel) (vVar 0)) (vAnd (vIsi "bool" (by rfl) T.n_isinstance (by rfl) T.n_bool (by decide +kernel) (vVar 1)) (vOne (vCmp (opEq hr.units) okEq mono_dEqG (vVar 0) (vVar 1))))))) (vsNil)) (vsCons (vIfS (vtVal (vIsi "int" (by rfl) T.n_isinstance (by rfl) T.n_int (by decide +kernel) (vVar 1))) (vsOne (vRet (vAnd (vIsi "int" (by rfl) T.n_isinstance (by rfl) T.n_int (by decide +kernel) (vVar 0)) (vOne (vCmp (opEq hr.units) okEq mono_dEqG (vVar 0) (vVar 1)))))) (vsNil)) (vsCons (vIfS (vtVal (vIsi "str" (by rfl) T.n_isinstance (by rfl) T.n_str (by decide +kernel) (vVar 1))) (vsOne (vRet (vAnd (vIsi "str" (by rfl) T.n_isinstance (by rfl) T.n_str (by decide +kernel) (vVar 0)) (vOne (vCmp (opEq hr.units) okEq mono_dEqG (vVar 0) (vVar 1)))))) (vsNil)) (vsOne (vRet (vAnd (vCmp opIs okIs mono_dIsG (vVar 0) (vNon)) (vOne (vCmp opIs okIs mono_dIsG (vVar 1) (vNon)))))))))
theorem ok_squares_of (T : Txt K mg)  : Callee P w K mg base "squares_of" 1 1 sp_squares_of :=
  def_ok (A0 := roomA) (roomA_ok (by decide)) T.f_squares_of sc_squares_of rfl (fun _ _ _ _ _ _ us hl => match us, hl with | [_], _ => rfl) fun f cdv A outer s H E hr =>
    show VSs _ (defBody st_squares_of) b_squares_of from
    vsOne (vRet ((vcLc2 (own := [("row", 1), ("column", 2)]) (vs1 := [2]) rfl sc_squares_of.nd (vRng1 (by rfl) T.n_range (vaCons (vCB call_len okLen mono_dLen (by rfl) T.n_len (by decide +kernel) (vaCons (vVar 0) (vaNil))) (vaNil))) (blkOk_by (N := n_squares_of) (sc := (defScope st_squares_of)) (by decide +kernel)) (by decide) (by decide) (by decide) (fun _ _ _ _ _ => vgName (i := 1) sc_squares_of.nd (by rfl) (by first | exact .inl rfl | exact .inr rfl)) (fun _ _ _ _ _ => vtsNil) (fun _ _ _ _ _ => vRng1 (by rfl) T.n_range (vaCons (vCB call_len okLen mono_dLen (by rfl) T.n_len (by decide +kernel) (vaCons (vIx (vVar 0) (vInt)) (vaNil))) (vaNil))) (fun _ _ _ _ _ => vgName (i := 2) sc_squares_of.nd (by rfl) (by first | exact .inl rfl | exact .inr rfl)) (fun _ _ _ _ _ => vtsNil) (fun _ _ _ _ _ => vTup (vaCons (vVar 1) (vaCons (vVar 2) (vaNil))))).ve))
theorem ok_is_square (T : Txt K mg)  : Callee P w K mg base "is_square" 1 2 sp_is_square :=
  def_ok (A0 := roomA) (roomA_ok (by decide)) T.f_is_square sc_is_square rfl (fun _ _ _ _ _ _ us hl => match us, hl with | [_, _], _ => rfl) fun f cdv A outer s H E hr =>
    show VSs _ (defBody st_is_square) b_is_square from
    vsCons (vAsg (vgTup rfl (vgCons (vgName (i := 2) sc_is_square.nd (by rfl) (by first | exact .inl rfl | exact .inr rfl)) (vgCons (vgName (i := 3) sc_is_square.nd (by rfl) (by first | exact .inl rfl | exact .inr rfl)) (vgNil)))) (vVar 1)) (vsOne (vRet (vAnd (vChain op_le op_lt okLe okLt mono_dI0 mono_dI0 (vInt) (vVar 2) (vCB call_len okLen mono_dLen (by rfl) T.n_len (by decide +kernel) (vaCons (vVar 0) (vaNil)))) (vOne (vChain op_le op_lt okLe okLt mono_dI0 mono_dI0 (vInt) (vVar 3) (vCB call_len okLen mono_dLen (by rfl) T.n_len (by decide +kernel) (vaCons (vIx (vVar 0) (vInt)) (vaNil))))))))
theorem ok_is_land (T : Txt K mg) (C_is_square : Callee P w K mg base "is_square" 1 2 sp_is_square) : Callee P w K mg base "is_land" 2 2 sp_is_land :=
  def_ok (A0 := roomA) (roomA_ok (by decide)) T.f_is_land sc_is_land rfl (fun _ _ _ _ _ _ us hl => match us, hl with | [_, _], _ => rfl) fun f cdv A outer s H E hr =>
    show VSs _ (defBody st_is_land) b_is_land from
    vsOne (vRet (vAnd (vCall (C_is_square.up (by decide)) hr (by rfl) (vaCons (vVar 0) (vaCons (vVar 1) (vaNil)))) (vOne (vCmp (opEq hr.units) okEq mono_dEqG (vIx (vIx (vVar 0) (vIx (vVar 1) (vInt))) (vIx (vVar 1) (vInt))) (vGl (by rfl) T.c_LAND r_LAND)))))
theorem ok_is_odd (T : Txt K mg) (C_is_land : Callee P w K mg base "is_land" 2 2 sp_is_land) : Callee P w K mg base "is_odd" 3 2 sp_is_odd :=
  def_ok (A0 := roomA) (roomA_ok (by decide)) T.f_is_odd sc_is_odd rfl (fun _ _ _ _ _ _ us hl => match us, hl with | [_, _], _ => rfl) fun f cdv A outer s H E hr =>
    show VSs _ (defBody st_is_odd) b_is_odd from
    vsOne (vRet (vCmp (opEq hr.units) okEq mono_dEqG (vMod (vCB call_len okLen mono_dLen (by rfl) T.n_len (by decide +kernel) (vaCons ((vcLc (own := [("square", 2)]) false rfl sc_is_odd.nd (vIterKeys (vVar 1)) (blkOk_by (N := n_is_odd) (sc := (defScope st_is_odd)) (by decide +kernel)) (by decide) (fun _ _ _ _ _ => vgName (i := 2) sc_is_odd.nd (by rfl) (by first | exact .inl rfl | exact .inr rfl)) (fun _ _ _ _ _ => vtsOne (vtVal (vCall (C_is_land.up (by decide)) hr (by rfl) (vaCons (vVar 0) (vaCons (vVar 2) (vaNil)))))) (fun _ _ _ _ _ => vInt)).ve) (vaNil))) (vInt)) (vInt)))
theorem ok_side_neighbours (T : Txt K mg)  : Callee P w K mg base "side_neighbours" 1 1 sp_side_neighbours :=
  def_ok (A0 := roomA) (roomA_ok (by decide)) T.f_side_neighbours sc_side_neighbours rfl (fun _ _ _ _ _ _ us hl => match us, hl with | [_], _ => rfl) fun f cdv A outer s H E hr =>
    show VSs _ (defBody st_side_neighbours) b_side_neighbours from
    vsCons (vAsg (vgTup rfl (vgCons (vgName (i := 1) sc_side_neighbours.nd (by rfl) (by first | exact .inl rfl | exact .inr rfl)) (vgCons (vgName (i := 2) sc_side_neighbours.nd (by rfl) (by first | exact .inl rfl | exact .inr rfl)) (vgNil)))) (vVar 0)) (vsOne (vRet (vLst (vaCons (vTup (vaCons (vSub (vVar 1) (vInt)) (vaCons (vVar 2) (vaNil)))) (vaCons (vTup (vaCons (vVar 1) (vaCons (vSub (vVar 2) (vInt)) (vaNil)))) (vaCons (vTup (vaCons (vVar 1) (vaCons (vAdd (vVar 2) (vInt)) (vaNil)))) (vaCons (vTup (vaCons (vAdd (vVar 1) (vInt)) (vaCons (vVar 2) (vaNil)))) (vaNil))))))))
theorem ok_cross (T : Txt K mg) (C_is_square : Callee P w K mg base "is_square" 1 2 sp_is_square) (C_side_neighbours : Callee P w K mg base "side_neighbours" 1 1 sp_side_neighbours) : Callee P w K mg base "cross" 2 2 sp_cross :=
  def_ok (A0 := roomA) (roomA_ok (by decide)) T.f_cross sc_cross rfl (fun _ _ _ _ _ _ us hl => match us, hl with | [_, _], _ => rfl) fun f cdv A outer s H E hr =>
    show VSs _ (defBody st_cross) b_cross from
    vsOne (vRet (vAdd (vLst (vaCons (vVar 1) (vaNil))) ((vcLc (own := [("other", 2)]) false rfl sc_cross.nd (vIter (vCall (C_side_neighbours.up (by decide)) hr (by rfl) (vaCons (vVar 1) (vaNil)))) (blkOk_by (N := n_cross) (sc := (defScope st_cross)) (by decide +kernel)) (by decide) (fun _ _ _ _ _ => vgName (i := 2) sc_cross.nd (by rfl) (by first | exact .inl rfl | exact .inr rfl)) (fun _ _ _ _ _ => vtsOne (vtVal (vCall (C_is_square.up (by decide)) hr (by rfl) (vaCons (vVar 0) (vaCons (vVar 2) (vaNil)))))) (fun _ _ _ _ _ => vVar 2)).ve)))
theorem ok_without (T : Txt K mg)  : Callee P w K mg base "without" 1 2 sp_without :=
  def_ok (A0 := roomA) (roomA_ok (by decide)) T.f_without sc_without rfl (fun _ _ _ _ _ _ us hl => match us, hl with | [_, _], _ => rfl) fun f cdv A outer s H E hr =>
    show VSs _ (defBody st_without) b_without from
    vsCons (vNewOwnC (j := 2) (by rfl) (by rfl) (vncDc (own := [("square", 3)]) (VL.u8 hr) rfl sc_without.nd (vIterKeys (vVar 0)) (blkOk_by (N := n_without) (sc := (defScope st_without)) (by decide +kernel)) (by decide) (fun _ _ _ _ _ => vgName (i := 3) sc_without.nd (by rfl) (by first | exact .inl rfl | exact .inr rfl)) (fun _ _ _ _ _ => vtsOne (vtDNotIn (VL.u9 hr) (vVar 3) (vdV (vVar 1)))) (fun _ _ _ _ _ => vVar 3) (fun _ _ _ _ _ => vBl)) (swd_true rfl rfl rfl (by decide +kernel))) (vsCons (vFor PassesOwn.never rfl (vIterKeys (vVar 1)) (vgName (i := 3) sc_without.nd (by rfl) (by first | exact .inl rfl | exact .inr rfl)) (vsOne (vIfS (vtDNotIn (VL.u9 hr) (vVar 3) (vdV (vVar 0))) (vsOne (vDPut (j := 2) (VL.u9 hr) (vVar 3) (vBl))) (vsNil)))) (vsFrzM 2 (vsOne (vRet (vVar 2)))))
theorem ok_solved (T : Txt K mg) (C_cross : Callee P w K mg base "cross" 2 2 sp_cross) (C_is_odd : Callee P w K mg base "is_odd" 3 2 sp_is_odd) (C_squares_of : Callee P w K mg base "squares_of" 1 1 sp_squares_of) (C_without : Callee P w K mg base "without" 1 2 sp_without) : Callee P w K mg base "solved" 4 1 sp_solved :=
  def_ok (A0 := roomA) (roomA_ok (by decide)) T.f_solved sc_solved rfl (fun _ _ _ _ _ _ us hl => match us, hl with | [_], _ => rfl) fun f cdv A outer s H E hr =>
    show VSs _ (defBody st_solved) b_solved from
    vsCons (vNewOwn (j := 1) sc_solved.nd (by rfl) (by first | exact .inl rfl | exact .inr rfl) (vnNil)) (vsCons (vFor PassesOwn.never rfl (vIter (vCall (C_squares_of.up (by decide)) hr (by rfl) (vaCons (vVar 0) (vaNil)))) (vgName (i := 2) sc_solved.nd (by rfl) (by first | exact .inl rfl | exact .inr rfl)) (vsCons (vNewOwnC (j := 3) (by rfl) (by rfl) (vncDc (own := [("other", 7)]) (VL.u8 hr) rfl sc_solved.nd (vIter (vCall (C_cross.up (by decide)) hr (by rfl) (vaCons (vVar 0) (vaCons (vVar 2) (vaNil))))) (blkOk_by (N := n_solved) (sc := (defScope st_solved)) (by decide +kernel)) (by decide) (fun _ _ _ _ _ => vgName (i := 7) sc_solved.nd (by rfl) (by first | exact .inl rfl | exact .inr rfl)) (fun _ _ _ _ _ => vtsNil) (fun _ _ _ _ _ => vVar 7) (fun _ _ _ _ _ => vBl)) (swd_true rfl rfl rfl (by decide +kernel))) (vsFrzM 3 (vsCons (vSet (i := 4) sc_solved.nd (by rfl) (by first | exact .inl rfl | exact .inr rfl) (vNewV (vnDisp1 (VL.u9 hr) (vVar 2) (vBl)))) (vsCons (vLocked 1 (vForItems (j := 1) PassesOwn.never rfl (vgTup rfl (vgCons (vgName (i := 5) sc_solved.nd (by rfl) (by first | exact .inl rfl | exact .inr rfl)) (vgCons (vgName (i := 6) sc_solved.nd (by rfl) (by first | exact .inl rfl | exact .inr rfl)) (vgNil)))) (vsOne (vIfS (vtDIn (VL.u9 hr) (vVar 5) (vdV (vVar 3))) (vsCons (vSet (i := 3) sc_solved.nd (by rfl) (by first | exact .inl rfl | exact .inr rfl) (vCall (C_without.up (by decide)) hr (by rfl) (vaCons (vVar 3) (vaCons (vIx (vVar 6) (vInt)) (vaNil))))) (vsOne (vSet (i := 4) sc_solved.nd (by rfl) (by first | exact .inl rfl | exact .inr rfl) (vCall (C_without.up (by decide)) hr (by rfl) (vaCons (vVar 4) (vaCons (vIx (vVar 6) (vInt)) (vaNil))))))) (vsNil))))) (vsOne (vIfS (vtCmp op_gt okGt mono_dI0 (vDLen (vdV (vVar 3)) (by rfl) T.n_len) (vInt)) (vsCons (vSet (i := 5) sc_solved.nd (by rfl) (by first | exact .inl rfl | exact .inr rfl) (vDMin (VL.Room.units65 hr) rfl (vdV (vVar 3)) (by rfl) T.n_min (by decide +kernel))) (vsCons (vFor PassesOwn.never rfl (vIter (vListItems rfl (vdM 1) (by rfl) T.n_list (by decide +kernel))) (vgTup rfl (vgCons (vgName (i := 7) sc_solved.nd (by rfl) (by first | exact .inl rfl | exact .inr rfl)) (vgCons (vgName (i := 6) sc_solved.nd (by rfl) (by first | exact .inl rfl | exact .inr rfl)) (vgNil)))) (vsOne (vIfS (vtDIn (VL.u9 hr) (vVar 5) (vdV (vIx (vVar 6) (vInt)))) (vsOne (vDPut (j := 1) (VL.u9 hr) (vVar 7) (vTup (vaCons (vCall (C_without.up (by decide)) hr (by rfl) (vaCons (vIx (vVar 6) (vInt)) (vaCons (vVar 3) (vaNil)))) (vaCons (vCall (C_without.up (by decide)) hr (by rfl) (vaCons (vIx (vVar 6) (vInt)) (vaCons (vVar 4) (vaNil)))) (vaNil)))))) (vsNil)))) (vsOne (vDPut (j := 1) (VL.u9 hr) (vVar 5) (vTup (vaCons (vVar 3) (vaCons (vVar 4) (vaNil)))))))) (vsOne (vIfS (vtVal (vCall (C_is_odd.up (by decide)) hr (by rfl) (vaCons (vVar 0) (vaCons (vVar 4) (vaNil))))) (vsOne (vRet (vTup (vaCons (vNon) (vaCons (vDSort (VL.Room.units65 hr) rfl (vdV (vVar 4)) (by rfl) T.n_sorted (by decide +kernel)) (vaNil)))))) (vsNil)))))))))) (vsFrzM 1 (vsOne (vRet (vTup (vaCons (vCB (call_sortL (VL.Room.units65 hr)) okSort mono_dSort (by rfl) T.n_sorted (by decide +kernel) (vaCons ((vcLc (own := [("lead", 5), ("pair", 6)]) false rfl sc_solved.nd (vIterItems (vVar 1)) (blkOk_by (N := n_solved) (sc := (defScope st_solved)) (by decide +kernel)) (by decide) (fun _ _ _ _ _ => vgTup rfl (vgCons (vgName (i := 5) sc_solved.nd (by rfl) (by first | exact .inl rfl | exact .inr rfl)) (vgCons (vgName (i := 6) sc_solved.nd (by rfl) (by first | exact .inl rfl | exact .inr rfl)) (vgNil)))) (fun _ _ _ _ _ => vtsOne (vtVal (vCall (C_is_odd.up (by decide)) hr (by rfl) (vaCons (vVar 0) (vaCons (vIx (vVar 6) (vInt)) (vaNil)))))) (fun _ _ _ _ _ => vVar 5)).ve) (vaNil))) (vaCons (vNon) (vaNil))))))))
theorem ok_pressing_paper (T : Txt K mg) (C_solved : Callee P w K mg base "solved" 4 1 sp_solved) : Callee P w K mg base "pressing_paper" 5 1 sp_pressing_paper :=
  def_ok (A0 := roomA) (roomA_ok (by decide)) T.f_pressing_paper sc_pressing_paper rfl (fun _ _ _ _ _ _ us hl => match us, hl with | [_], _ => rfl) fun f cdv A outer s H E hr =>
    show VSs _ (defBody st_pressing_paper) b_pressing_paper from
    vsOne (vRet (vIx (vCall (C_solved.up (by decide)) hr (by rfl) (vaCons (vVar 0) (vaNil))) (vInt)))
theorem ok_odd_paper (T : Txt K mg) (C_solved : Callee P w K mg base "solved" 4 1 sp_solved) : Callee P w K mg base "odd_paper" 5 1 sp_odd_paper :=
  def_ok (A0 := roomA) (roomA_ok (by decide)) T.f_odd_paper sc_odd_paper rfl (fun _ _ _ _ _ _ us hl => match us, hl with | [_], _ => rfl) fun f cdv A outer s H E hr =>
    show VSs _ (defBody st_odd_paper) b_odd_paper from
    vsOne (vRet (vIx (vCall (C_solved.up (by decide)) hr (by rfl) (vaCons (vVar 0) (vaNil))) (vInt)))
theorem ok__law_all (T : Txt K mg)  : Callee P w K mg base "_law_all" 1 1 sp__law_all :=
  def_ok (A0 := roomA) (roomA_ok (by decide)) T.f__law_all sc__law_all rfl (fun _ _ _ _ _ _ us hl => match us, hl with | [_], _ => rfl) fun f cdv A outer s H E hr =>
    show VSs _ (defBody st__law_all) b__law_all from
    vsCons (vOwn (i := 1) sc__law_all.nd (by rfl) (by first | exact .inl rfl | exact .inr rfl) (vLst (vaNil))) (vsCons (vFor PassesOwn.never rfl (vRng1 (by rfl) T.n_range (vaCons (vCB call_len okLen mono_dLen (by rfl) T.n_len (by decide +kernel) (vaCons (vVar 0) (vaNil))) (vaNil))) (vgName (i := 2) sc__law_all.nd (by rfl) (by first | exact .inl rfl | exact .inr rfl)) (vsOne (vFor PassesOwn.never rfl (vRng1 (by rfl) T.n_range (vaCons (vCB call_len okLen mono_dLen (by rfl) T.n_len (by decide +kernel) (vaCons (vIx (vVar 0) (vInt)) (vaNil))) (vaNil))) (vgName (i := 3) sc__law_all.nd (by rfl) (by first | exact .inl rfl | exact .inr rfl)) (vsOne (vApp (i := 1) (by rfl) (by first | exact .inl rfl | exact .inr (.inl rfl) | exact .inr (.inr rfl)) (vTup (vaCons (vVar 2) (vaCons (vVar 3) (vaNil))))))))) (vsOne (vRet (vVar 1))))
theorem ok_with_squares (T : Txt K mg) (C_is_square : Callee P w K mg base "is_square" 1 2 sp_is_square) : Callee P w K mg base "with_squares" 2 3 sp_with_squares :=
  def_ok (A0 := roomA) (roomA_ok (by decide)) T.f_with_squares sc_with_squares rfl (fun _ _ _ _ _ _ us hl => match us, hl with | [_, _, _], _ => rfl) fun f cdv A outer s H E hr =>
    show VSs _ (defBody st_with_squares) b_with_squares from
    vsCons (vOwnC (i := 3) (by rfl) (by rfl) (vcLc (own := [("row", 5)]) true rfl sc_with_squares.nd (vIter (vVar 0)) (blkOk_by (N := n_with_squares) (sc := (defScope st_with_squares)) (by decide +kernel)) (by decide) (fun _ _ _ _ _ => vgName (i := 5) sc_with_squares.nd (by rfl) (by first | exact .inl rfl | exact .inr rfl)) (fun _ _ _ _ _ => vtsNil) (fun _ _ _ _ _ => vCT (call_list_text rfl) okListS mono_dListS (by rfl) T.n_list (by decide +kernel) (vaCons (vVar 5) (vaNil)))) (sw_true rfl rfl rfl (by decide +kernel))) (vsCons (vFor PassesOwn.never rfl (vIter (vVar 1)) (vgName (i := 4) sc_with_squares.nd (by rfl) (by first | exact .inl rfl | exact .inr rfl)) (vsOne (vIfS (vtVal (vCall (C_is_square.up (by decide)) hr (by rfl) (vaCons (vVar 0) (vaCons (vVar 4) (vaNil))))) (vsOne (vPut2 (i := 3) (by rfl) (by first | exact .inl rfl | exact .inr (.inl rfl) | exact .inr (.inr rfl)) (vIx (vVar 4) (vInt)) (vIx (vVar 4) (vInt)) (vIf (vtVal (vVar 2)) (vGl (by rfl) T.c_LAND r_LAND) (vGl (by rfl) T.c_WATER r_WATER)))) (vsNil)))) (vsOne (vRet (vCT call_tuple_of okTuple mono_dTuple (by rfl) T.n_tuple (by decide +kernel) (vaCons ((vcBor (vcLc (own := [("row", 5)]) false rfl sc_with_squares.nd (vIter (vVar 3)) (blkOk_by (N := n_with_squares) (sc := (defScope st_with_squares)) (by decide +kernel)) (by decide) (fun _ _ _ _ _ => vgName (i := 5) sc_with_squares.nd (by rfl) (by first | exact .inl rfl | exact .inr rfl)) (fun _ _ _ _ _ => vtsNil) (fun _ _ _ _ _ => vJoin (vStr) (vVar 5)))).ve) (vaNil))))))
theorem ok_pressed (T : Txt K mg) (C_cross : Callee P w K mg base "cross" 2 2 sp_cross) (C_is_land : Callee P w K mg base "is_land" 2 2 sp_is_land) (C_with_squares : Callee P w K mg base "with_squares" 2 3 sp_with_squares) : Callee P w K mg base "pressed" 3 2 sp_pressed :=
  def_ok (A0 := roomA) (roomA_ok (by decide)) T.f_pressed sc_pressed rfl (fun _ _ _ _ _ _ us hl => match us, hl with | [_, _], _ => rfl) fun f cdv A outer s H E hr =>
    show VSs _ (defBody st_pressed) b_pressed from
    vsCons (vFor PassesOwn.never rfl (vIter (vVar 1)) (vgName (i := 2) sc_pressed.nd (by rfl) (by first | exact .inl rfl | exact .inr rfl)) (vsCons (vSet (i := 3) sc_pressed.nd (by rfl) (by first | exact .inl rfl | exact .inr rfl) (vCall (C_cross.up (by decide)) hr (by rfl) (vaCons (vVar 0) (vaCons (vVar 2) (vaNil))))) (vsCons (vSetC (i := 4) (by rfl) (by rfl) (vcLc (own := [("other", 6)]) false rfl sc_pressed.nd (vIter (vVar 3)) (blkOk_by (N := n_pressed) (sc := (defScope st_pressed)) (by decide +kernel)) (by decide) (fun _ _ _ _ _ => vgName (i := 6) sc_pressed.nd (by rfl) (by first | exact .inl rfl | exact .inr rfl)) (fun _ _ _ _ _ => vtsOne (vtNot (vtVal (vCall (C_is_land.up (by decide)) hr (by rfl) (vaCons (vVar 0) (vaCons (vVar 6) (vaNil))))))) (fun _ _ _ _ _ => vVar 6)) (sw_true rfl rfl rfl (by decide +kernel))) (vsCons (vSetC (i := 5) (by rfl) (by rfl) (vcLc (own := [("other", 6)]) false rfl sc_pressed.nd (vIter (vVar 3)) (blkOk_by (N := n_pressed) (sc := (defScope st_pressed)) (by decide +kernel)) (by decide) (fun _ _ _ _ _ => vgName (i := 6) sc_pressed.nd (by rfl) (by first | exact .inl rfl | exact .inr rfl)) (fun _ _ _ _ _ => vtsOne (vtVal (vCall (C_is_land.up (by decide)) hr (by rfl) (vaCons (vVar 0) (vaCons (vVar 6) (vaNil)))))) (fun _ _ _ _ _ => vVar 6)) (sw_true rfl rfl rfl (by decide +kernel))) (vsOne (vSet (i := 0) sc_pressed.nd (by rfl) (by first | exact .inl rfl | exact .inr rfl) (vCall (C_with_squares.up (by decide)) hr (by rfl) (vaCons (vCall (C_with_squares.up (by decide)) hr (by rfl) (vaCons (vVar 0) (vaCons (vVar 4) (vaCons (vBl) (vaNil))))) (vaCons (vVar 5) (vaCons (vBl) (vaNil))))))))))) (vsOne (vRet (vVar 0)))
theorem ok__law_bent (T : Txt K mg) (C__law_take : Callee P w K mg base "_law_take" 1 2 sp__law_take) : Callee P w K mg base "_law_bent" 2 3 sp__law_bent :=
  def_ok (A0 := roomA) (roomA_ok (by decide)) T.f__law_bent sc__law_bent rfl (fun _ _ _ _ _ _ us hl => match us, hl with | [_, _, _], _ => rfl) fun f cdv A outer s H E hr =>
    show VSs _ (defBody st__law_bent) b__law_bent from
    vsCons (vSet (i := 3) sc__law_bent.nd (by rfl) (by first | exact .inl rfl | exact .inr rfl) (vLst (vaCons (vAdd (vVar 2) (vLst (vaCons (vTup (vaCons (vInt) (vaCons (vInt) (vaNil)))) (vaNil)))) (vaCons (vAdd (vVar 2) (vLst (vaCons (vTup (vaCons (vCB call_len okLen mono_dLen (by rfl) T.n_len (by decide +kernel) (vaCons (vVar 1) (vaNil))) (vaCons (vInt) (vaNil)))) (vaNil)))) (vaCons (vAdd (vVar 2) (vLst (vaCons (vTup (vaCons (vNeg (vInt)) (vaCons (vInt) (vaNil)))) (vaNil)))) (vaCons (vLst (vaNil)) (vaNil))))))) (vsCons (vIfS (vtCmp op_gt okGt mono_dI0 (vCB call_len okLen mono_dLen (by rfl) T.n_len (by decide +kernel) (vaCons (vVar 2) (vaNil))) (vInt)) (vsCons (vSet (i := 4) sc__law_bent.nd (by rfl) (by first | exact .inl rfl | exact .inr rfl) (vCall (C__law_take.up (by decide)) hr (by rfl) (vaCons (vVar 0) (vaCons (vCB call_len okLen mono_dLen (by rfl) T.n_len (by decide +kernel) (vaCons (vVar 2) (vaNil))) (vaNil))))) (vsOne (vSet (i := 3) sc__law_bent.nd (by rfl) (by first | exact .inl rfl | exact .inr rfl) (vAdd (vVar 3) (vLst (vaCons (vAdd (vSl (vVar 2) (voN) (voS (vVar 4))) (vSl (vVar 2) (voS (vAdd (vVar 4) (vInt))) (voN))) (vaCons (vAdd (vVar 2) (vLst (vaCons (vIx (vVar 2) (vVar 4)) (vaNil)))) (vaCons (vRev (vVar 2)) (vaNil))))))))) (vsNil)) (vsOne (vRet (vVar 3))))
theorem ok__law_doubled (T : Txt K mg)  : Callee P w K mg base "_law_doubled" 1 1 sp__law_doubled :=
  def_ok (A0 := roomA) (roomA_ok (by decide)) T.f__law_doubled sc__law_doubled rfl (fun _ _ _ _ _ _ us hl => match us, hl with | [_], _ => rfl) fun f cdv A outer s H E hr =>
    show VSs _ (defBody st__law_doubled) b__law_doubled from
    vsCons (vSet (i := 1) sc__law_doubled.nd (by rfl) (by first | exact .inl rfl | exact .inr rfl) (vInt)) (vsCons (vFor PassesOwn.never rfl (vRng1 (by rfl) T.n_range (vaCons (vVar 0) (vaNil))) (vgName (i := 2) sc__law_doubled.nd (by rfl) (by first | exact .inl rfl | exact .inr rfl)) (vsOne (vSet (i := 1) sc__law_doubled.nd (by rfl) (by first | exact .inl rfl | exact .inr rfl) (vMul (vVar 1) (vInt))))) (vsOne (vRet (vVar 1))))
theorem ok__law_bits (T : Txt K mg)  : Callee P w K mg base "_law_bits" 1 2 sp__law_bits :=
  def_ok (A0 := roomA) (roomA_ok (by decide)) T.f__law_bits sc__law_bits rfl (fun _ _ _ _ _ _ us hl => match us, hl with | [_, _], _ => rfl) fun f cdv A outer s H E hr =>
    show VSs _ (defBody st__law_bits) b__law_bits from
    vsCons (vOwn (i := 2) sc__law_bits.nd (by rfl) (by first | exact .inl rfl | exact .inr rfl) (vLst (vaNil))) (vsCons (vFor PassesOwn.never rfl (vRng1 (by rfl) T.n_range (vaCons (vVar 1) (vaNil))) (vgName (i := 3) sc__law_bits.nd (by rfl) (by first | exact .inl rfl | exact .inr rfl)) (vsCons (vApp (i := 2) (by rfl) (by first | exact .inl rfl | exact .inr (.inl rfl) | exact .inr (.inr rfl)) (vMod (vVar 0) (vInt))) (vsOne (vSet (i := 0) sc__law_bits.nd (by rfl) (by first | exact .inl rfl | exact .inr rfl) (vFdiv (vVar 0) (vInt)))))) (vsOne (vRet (vVar 2))))
theorem ok__law_different (T : Txt K mg) (C__law_all : Callee P w K mg base "_law_all" 1 1 sp__law_all) : Callee P w K mg base "_law_different" 2 2 sp__law_different :=
  def_ok (A0 := roomA) (roomA_ok (by decide)) T.f__law_different sc__law_different rfl (fun _ _ _ _ _ _ us hl => match us, hl with | [_, _], _ => rfl) fun f cdv A outer s H E hr =>
    show VSs _ (defBody st__law_different) b__law_different from
    vsCons (vFor PassesOwn.never rfl (vRng1 (by rfl) T.n_range (vaCons (vCB call_len okLen mono_dLen (by rfl) T.n_len (by decide +kernel) (vaCons (vVar 1) (vaNil))) (vaNil))) (vgName (i := 2) sc__law_different.nd (by rfl) (by first | exact .inl rfl | exact .inr rfl)) (vsOne (vIfS ((vwOr (vtCmp (opIn (VL.Room.units65 hr)) okIn mono_dInG (vIx (vVar 1) (vVar 2)) (vSl (vVar 1) (voN) (voS (vVar 2)))) (vwOr1 (vtCmp (opNotIn (VL.Room.units65 hr)) okIn mono_dInG (vIx (vVar 1) (vVar 2)) (vCall (C__law_all.up (by decide)) hr (by rfl) (vaCons (vVar 0) (vaNil)))))).vt) (vsOne (vRet (vBl))) (vsNil)))) (vsOne (vRet (vBl)))
theorem ok__law_dry (T : Txt K mg) (C__law_all : Callee P w K mg base "_law_all" 1 1 sp__law_all) : Callee P w K mg base "_law_dry" 2 1 sp__law_dry :=
  def_ok (A0 := roomA) (roomA_ok (by decide)) T.f__law_dry sc__law_dry rfl (fun _ _ _ _ _ _ us hl => match us, hl with | [_], _ => rfl) fun f cdv A outer s H E hr =>
    show VSs _ (defBody st__law_dry) b__law_dry from
    vsOne (vRet ((vcLc (own := [("r", 1), ("c", 2)]) false rfl sc__law_dry.nd (vIter (vCall (C__law_all.up (by decide)) hr (by rfl) (vaCons (vVar 0) (vaNil)))) (blkOk_by (N := n__law_dry) (sc := (defScope st__law_dry)) (by decide +kernel)) (by decide) (fun _ _ _ _ _ => vgTup rfl (vgCons (vgName (i := 1) sc__law_dry.nd (by rfl) (by first | exact .inl rfl | exact .inr rfl)) (vgCons (vgName (i := 2) sc__law_dry.nd (by rfl) (by first | exact .inl rfl | exact .inr rfl)) (vgNil)))) (fun _ _ _ _ _ => vtsOne (vtCmp (opEq hr.units) okEq mono_dEqG (vIx (vIx (vVar 0) (vVar 1)) (vVar 2)) (vStr))) (fun _ _ _ _ _ => vTup (vaCons (vVar 1) (vaCons (vVar 2) (vaNil))))).ve))
theorem ok__law_presses (T : Txt K mg) (C__law_different : Callee P w K mg base "_law_different" 2 2 sp__law_different) (C__law_dry : Callee P w K mg base "_law_dry" 2 1 sp__law_dry) (C__law_press : Callee P w K mg base "_law_press" 2 2 sp__law_press) : Callee P w K mg base "_law_presses" 3 2 sp__law_presses :=
  def_ok (A0 := roomA) (roomA_ok (by decide)) T.f__law_presses sc__law_presses rfl (fun _ _ _ _ _ _ us hl => match us, hl with | [_, _], _ => rfl) fun f cdv A outer s H E hr =>
    show VSs _ (defBody st__law_presses) b__law_presses from
    vsOne (vRet (vAnd (vCall (C__law_different.up (by decide)) hr (by rfl) (vaCons (vVar 0) (vaCons (vVar 1) (vaNil)))) (vOne (vCmp (opEq hr.units) okEq mono_dEqG (vCB call_len okLen mono_dLen (by rfl) T.n_len (by decide +kernel) (vaCons (vCall (C__law_dry.up (by decide)) hr (by rfl) (vaCons (vCall (C__law_press.up (by decide)) hr (by rfl) (vaCons (vVar 0) (vaCons (vVar 1) (vaNil)))) (vaNil))) (vaNil))) (vInt)))))
theorem ok__law_some (T : Txt K mg) (C__law_all : Callee P w K mg base "_law_all" 1 1 sp__law_all) (C__law_bits : Callee P w K mg base "_law_bits" 1 2 sp__law_bits) (C__law_doubled : Callee P w K mg base "_law_doubled" 1 1 sp__law_doubled) (C__law_presses : Callee P w K mg base "_law_presses" 3 2 sp__law_presses) : Callee P w K mg base "_law_some" 4 1 sp__law_some :=
  def_ok (A0 := roomA) (roomA_ok (by decide)) T.f__law_some sc__law_some rfl (fun _ _ _ _ _ _ us hl => match us, hl with | [_], _ => rfl) fun f cdv A outer s H E hr =>
    show VSs _ (defBody st__law_some) b__law_some from
    vsCons (vSet (i := 1) sc__law_some.nd (by rfl) (by first | exact .inl rfl | exact .inr rfl) (vCall (C__law_all.up (by decide)) hr (by rfl) (vaCons (vVar 0) (vaNil)))) (vsCons (vFor PassesOwn.never rfl (vRng1 (by rfl) T.n_range (vaCons (vCall (C__law_doubled.up (by decide)) hr (by rfl) (vaCons (vCB call_len okLen mono_dLen (by rfl) T.n_len (by decide +kernel) (vaCons (vVar 1) (vaNil))) (vaNil))) (vaNil))) (vgName (i := 2) sc__law_some.nd (by rfl) (by first | exact .inl rfl | exact .inr rfl)) (vsCons (vSet (i := 3) sc__law_some.nd (by rfl) (by first | exact .inl rfl | exact .inr rfl) (vCall (C__law_bits.up (by decide)) hr (by rfl) (vaCons (vVar 2) (vaCons (vCB call_len okLen mono_dLen (by rfl) T.n_len (by decide +kernel) (vaCons (vVar 1) (vaNil))) (vaNil))))) (vsOne (vIfS (vtVal (vCall (C__law_presses.up (by decide)) hr (by rfl) (vaCons (vVar 0) (vaCons ((vcLc (own := [("k", 4)]) false rfl sc__law_some.nd (vRng1 (by rfl) T.n_range (vaCons (vCB call_len okLen mono_dLen (by rfl) T.n_len (by decide +kernel) (vaCons (vVar 1) (vaNil))) (vaNil))) (blkOk_by (N := n__law_some) (sc := (defScope st__law_some)) (by decide +kernel)) (by decide) (fun _ _ _ _ _ => vgName (i := 4) sc__law_some.nd (by rfl) (by first | exact .inl rfl | exact .inr rfl)) (fun _ _ _ _ _ => vtsOne (vtCmp (opEq hr.units) okEq mono_dEqG (vIx (vVar 3) (vVar 4)) (vInt))) (fun _ _ _ _ _ => vIx (vVar 1) (vVar 4))).ve) (vaNil))))) (vsOne (vRet (vBl))) (vsNil))))) (vsOne (vRet (vBl))))
theorem ok__law_bool (T : Txt K mg)  : Callee P w K mg base "_law_bool" 1 2 sp__law_bool :=
  def_ok (A0 := roomA) (roomA_ok (by decide)) T.f__law_bool sc__law_bool rfl (fun _ _ _ _ _ _ us hl => match us, hl with | [_, _], _ => rfl) fun f cdv A outer s H E hr =>
    show VSs _ (defBody st__law_bool) b__law_bool from
    vsOne (vRet (vAnd (vIsi "bool" (by rfl) T.n_isinstance (by rfl) T.n_bool (by decide +kernel) (vVar 0)) (vOne (vCmp (opEq hr.units) okEq mono_dEqG (vVar 0) (vVar 1)))))
theorem ok__law_odd (T : Txt K mg) (C__law_all : Callee P w K mg base "_law_all" 1 1 sp__law_all) (C__law_cross : Callee P w K mg base "_law_cross" 1 2 sp__law_cross) (C__law_different : Callee P w K mg base "_law_different" 2 2 sp__law_different) : Callee P w K mg base "_law_odd" 3 2 sp__law_odd :=
  def_ok (A0 := roomA) (roomA_ok (by decide)) T.f__law_odd sc__law_odd rfl (fun _ _ _ _ _ _ us hl => match us, hl with | [_, _], _ => rfl) fun f cdv A outer s H E hr =>
    show VSs _ (defBody st__law_odd) b__law_odd from
    vsCons (vIfS ((vwOr (vtNot (vtVal (vCall (C__law_different.up (by decide)) hr (by rfl) (vaCons (vVar 0) (vaCons (vVar 1) (vaNil)))))) (vwOr1 (vtCmp (opEq hr.units) okEq mono_dEqG (vMod (vCB call_len okLen mono_dLen (by rfl) T.n_len (by decide +kernel) (vaCons ((vcLc (own := [("r", 3), ("c", 4)]) false rfl sc__law_odd.nd (vIter (vVar 1)) (blkOk_by (N := n__law_odd) (sc := (defScope st__law_odd)) (by decide +kernel)) (by decide) (fun _ _ _ _ _ => vgTup rfl (vgCons (vgName (i := 3) sc__law_odd.nd (by rfl) (by first | exact .inl rfl | exact .inr rfl)) (vgCons (vgName (i := 4) sc__law_odd.nd (by rfl) (by first | exact .inl rfl | exact .inr rfl)) (vgNil)))) (fun _ _ _ _ _ => vtsOne (vtCmp (opEq hr.units) okEq mono_dEqG (vIx (vIx (vVar 0) (vVar 3)) (vVar 4)) (vStr))) (fun _ _ _ _ _ => vInt)).ve) (vaNil))) (vInt)) (vInt)))).vt) (vsOne (vRet (vBl))) (vsNil)) (vsCons (vFor PassesOwn.never rfl (vIter (vCall (C__law_all.up (by decide)) hr (by rfl) (vaCons (vVar 0) (vaNil)))) (vgName (i := 2) sc__law_odd.nd (by rfl) (by first | exact .inl rfl | exact .inr rfl)) (vsOne (vIfS (vtCmp (opEq hr.units) okEq mono_dEqG (vMod (vCB call_len okLen mono_dLen (by rfl) T.n_len (by decide +kernel) (vaCons ((vcLc (own := [("other", 5)]) false rfl sc__law_odd.nd (vIter (vCall (C__law_cross.up (by decide)) hr (by rfl) (vaCons (vVar 0) (vaCons (vVar 2) (vaNil))))) (blkOk_by (N := n__law_odd) (sc := (defScope st__law_odd)) (by decide +kernel)) (by decide) (fun _ _ _ _ _ => vgName (i := 5) sc__law_odd.nd (by rfl) (by first | exact .inl rfl | exact .inr rfl)) (fun _ _ _ _ _ => vtsOne (vtCmp (opIn (VL.Room.units65 hr)) okIn mono_dInG (vVar 5) (vVar 1))) (fun _ _ _ _ _ => vInt)).ve) (vaNil))) (vInt)) (vInt)) (vsOne (vRet (vBl))) (vsNil)))) (vsOne (vRet (vBl))))
theorem ok_are_different_squares (T : Txt K mg) (C_is_square : Callee P w K mg base "is_square" 1 2 sp_is_square) : Callee P w K mg base "are_different_squares" 2 2 sp_are_different_squares :=
  def_ok (A0 := roomA) (roomA_ok (by decide)) T.f_are_different_squares sc_are_different_squares rfl (fun _ _ _ _ _ _ us hl => match us, hl with | [_, _], _ => rfl) fun f cdv A outer s H E hr =>
    show VSs _ (defBody st_are_different_squares) b_are_different_squares from
    vsCons (vFor PassesOwn.never rfl (vRng1 (by rfl) T.n_range (vaCons (vCB call_len okLen mono_dLen (by rfl) T.n_len (by decide +kernel) (vaCons (vVar 1) (vaNil))) (vaNil))) (vgName (i := 2) sc_are_different_squares.nd (by rfl) (by first | exact .inl rfl | exact .inr rfl)) (vsOne (vIfS ((vwOr (vtNot (vtVal (vCall (C_is_square.up (by decide)) hr (by rfl) (vaCons (vVar 0) (vaCons (vIx (vVar 1) (vVar 2)) (vaNil)))))) (vwOr1 (vtCmp (opIn (VL.Room.units65 hr)) okIn mono_dInG (vIx (vVar 1) (vVar 2)) (vSl (vVar 1) (voN) (voS (vVar 2)))))).vt) (vsOne (vRet (vBl))) (vsNil)))) (vsOne (vRet (vBl)))
theorem ok_land_squares (T : Txt K mg) (C_is_land : Callee P w K mg base "is_land" 2 2 sp_is_land) (C_squares_of : Callee P w K mg base "squares_of" 1 1 sp_squares_of) : Callee P w K mg base "land_squares" 3 1 sp_land_squares :=
  def_ok (A0 := roomA) (roomA_ok (by decide)) T.f_land_squares sc_land_squares rfl (fun _ _ _ _ _ _ us hl => match us, hl with | [_], _ => rfl) fun f cdv A outer s H E hr =>
    show VSs _ (defBody st_land_squares) b_land_squares from
    vsOne (vRet ((vcLc (own := [("square", 1)]) false rfl sc_land_squares.nd (vIter (vCall (C_squares_of.up (by decide)) hr (by rfl) (vaCons (vVar 0) (vaNil)))) (blkOk_by (N := n_land_squares) (sc := (defScope st_land_squares)) (by decide +kernel)) (by decide) (fun _ _ _ _ _ => vgName (i := 1) sc_land_squares.nd (by rfl) (by first | exact .inl rfl | exact .inr rfl)) (fun _ _ _ _ _ => vtsOne (vtVal (vCall (C_is_land.up (by decide)) hr (by rfl) (vaCons (vVar 0) (vaCons (vVar 1) (vaNil)))))) (fun _ _ _ _ _ => vVar 1)).ve))
theorem ok_shows_pressing (T : Txt K mg) (C_are_different_squares : Callee P w K mg base "are_different_squares" 2 2 sp_are_different_squares) (C_land_squares : Callee P w K mg base "land_squares" 3 1 sp_land_squares) (C_pressed : Callee P w K mg base "pressed" 3 2 sp_pressed) : Callee P w K mg base "shows_pressing" 4 2 sp_shows_pressing :=
  def_ok (A0 := roomA) (roomA_ok (by decide)) T.f_shows_pressing sc_shows_pressing rfl (fun _ _ _ _ _ _ us hl => match us, hl with | [_, _], _ => rfl) fun f cdv A outer s H E hr =>
    show VSs _ (defBody st_shows_pressing) b_shows_pressing from
    vsOne (vRet (vAnd (vCall (C_are_different_squares.up (by decide)) hr (by rfl) (vaCons (vVar 0) (vaCons (vVar 1) (vaNil)))) (vOne (vCmp (opEq hr.units) okEq mono_dEqG (vCB call_len okLen mono_dLen (by rfl) T.n_len (by decide +kernel) (vaCons (vCall (C_land_squares.up (by decide)) hr (by rfl) (vaCons (vCall (C_pressed.up (by decide)) hr (by rfl) (vaCons (vVar 0) (vaCons (vVar 1) (vaNil)))) (vaNil))) (vaNil))) (vInt)))))
theorem ok_shows_odd (T : Txt K mg) (C_are_different_squares : Callee P w K mg base "are_different_squares" 2 2 sp_are_different_squares) (C_cross : Callee P w K mg base "cross" 2 2 sp_cross) (C_is_land : Callee P w K mg base "is_land" 2 2 sp_is_land) (C_squares_of : Callee P w K mg base "squares_of" 1 1 sp_squares_of) : Callee P w K mg base "shows_odd" 3 2 sp_shows_odd :=
  def_ok (A0 := roomA) (roomA_ok (by decide)) T.f_shows_odd sc_shows_odd rfl (fun _ _ _ _ _ _ us hl => match us, hl with | [_, _], _ => rfl) fun f cdv A outer s H E hr =>
    show VSs _ (defBody st_shows_odd) b_shows_odd from
    vsCons (vIfS ((vwOr (vtNot (vtVal (vCall (C_are_different_squares.up (by decide)) hr (by rfl) (vaCons (vVar 0) (vaCons (vVar 1) (vaNil)))))) (vwOr1 (vtCmp (opEq hr.units) okEq mono_dEqG (vMod (vCB call_len okLen mono_dLen (by rfl) T.n_len (by decide +kernel) (vaCons ((vcLc (own := [("square", 2)]) false rfl sc_shows_odd.nd (vIter (vVar 1)) (blkOk_by (N := n_shows_odd) (sc := (defScope st_shows_odd)) (by decide +kernel)) (by decide) (fun _ _ _ _ _ => vgName (i := 2) sc_shows_odd.nd (by rfl) (by first | exact .inl rfl | exact .inr rfl)) (fun _ _ _ _ _ => vtsOne (vtVal (vCall (C_is_land.up (by decide)) hr (by rfl) (vaCons (vVar 0) (vaCons (vVar 2) (vaNil)))))) (fun _ _ _ _ _ => vInt)).ve) (vaNil))) (vInt)) (vInt)))).vt) (vsOne (vRet (vBl))) (vsNil)) (vsCons (vFor PassesOwn.never rfl (vIter (vCall (C_squares_of.up (by decide)) hr (by rfl) (vaCons (vVar 0) (vaNil)))) (vgName (i := 2) sc_shows_odd.nd (by rfl) (by first | exact .inl rfl | exact .inr rfl)) (vsOne (vIfS (vtCmp (opEq hr.units) okEq mono_dEqG (vMod (vCB call_len okLen mono_dLen (by rfl) T.n_len (by decide +kernel) (vaCons ((vcLc (own := [("other", 3)]) false rfl sc_shows_odd.nd (vIter (vCall (C_cross.up (by decide)) hr (by rfl) (vaCons (vVar 0) (vaCons (vVar 2) (vaNil))))) (blkOk_by (N := n_shows_odd) (sc := (defScope st_shows_odd)) (by decide +kernel)) (by decide) (fun _ _ _ _ _ => vgName (i := 3) sc_shows_odd.nd (by rfl) (by first | exact .inl rfl | exact .inr rfl)) (fun _ _ _ _ _ => vtsOne (vtCmp (opIn (VL.Room.units65 hr)) okIn mono_dInG (vVar 3) (vVar 1))) (fun _ _ _ _ _ => vVar 3)).ve) (vaNil))) (vInt)) (vInt)) (vsOne (vRet (vBl))) (vsNil)))) (vsOne (vRet (vBl))))
theorem ok_law {l : PySem.W.OpenLaw} {fa : Addr} (T : Txt K mg) (hfa : mg "law" = some (.ref fa)) (hL : LawOk 10 b_law)
    : ∃ fd : FuncData, (∀ (s : Shared) (v : Value), BindsTo s fd ⟨[v], []⟩ [("script", v)]) ∧ ∀ base : Heap, K.In base → base.Ns mainGlobals mg → FnOk l.prog w K mg base CX0 7 fa fd ["script"] (spLaw K) := by
  have hb : ∀ (base : Heap) (f : Addr) (cdv : Value) (A : Around) (outer : List Env) (s : Shared) (H : Hp) (E : XK), Room 6 (A.deeper (envOfC "law" (defScope st_law) s.heap.objs.size f cdv)) → VSs (cxOf CX0 l.prog w K mg base n_law "law" (defScope st_law) f cdv A outer s H E).nox ((defBody st_law).drop 1) b_law := fun base f cdv A outer s H E hr => by
    have C__law_all := ok__law_all (P := l.prog) (w := w) (base := base) T 
    have C__law_take := ok__law_take (P := l.prog) (w := w) (base := base) T 
    have C__law_bent := ok__law_bent (P := l.prog) (w := w) (base := base) T C__law_take
    have C__law_bool := ok__law_bool (P := l.prog) (w := w) (base := base) T 
    have C__law_grid := ok__law_grid (P := l.prog) (w := w) (base := base) T C__law_take
    have C__law_cross := ok__law_cross (P := l.prog) (w := w) (base := base) T 
    have C__law_different := ok__law_different (P := l.prog) (w := w) (base := base) T C__law_all
    have C__law_odd := ok__law_odd (P := l.prog) (w := w) (base := base) T C__law_all C__law_cross C__law_different
    have C__law_press := ok__law_press (P := l.prog) (w := w) (base := base) T C__law_cross
    have C__law_dry := ok__law_dry (P := l.prog) (w := w) (base := base) T C__law_all
    have C__law_presses := ok__law_presses (P := l.prog) (w := w) (base := base) T C__law_different C__law_dry C__law_press
    have C__law_same := ok__law_same (P := l.prog) (w := w) (base := base) T  6 (by decide)
    have C__law_bits := ok__law_bits (P := l.prog) (w := w) (base := base) T 
    have C__law_doubled := ok__law_doubled (P := l.prog) (w := w) (base := base) T 
    have C__law_some := ok__law_some (P := l.prog) (w := w) (base := base) T C__law_all C__law_bits C__law_doubled C__law_presses
    have C_is_square := ok_is_square (P := l.prog) (w := w) (base := base) T 
    have C_side_neighbours := ok_side_neighbours (P := l.prog) (w := w) (base := base) T 
    have C_cross := ok_cross (P := l.prog) (w := w) (base := base) T C_is_square C_side_neighbours
    have C_is_land := ok_is_land (P := l.prog) (w := w) (base := base) T C_is_square
    have C_is_odd := ok_is_odd (P := l.prog) (w := w) (base := base) T C_is_land
    have C_squares_of := ok_squares_of (P := l.prog) (w := w) (base := base) T 
    have C_without := ok_without (P := l.prog) (w := w) (base := base) T 
    have C_solved := ok_solved (P := l.prog) (w := w) (base := base) T C_cross C_is_odd C_squares_of C_without
    have C_odd_paper := ok_odd_paper (P := l.prog) (w := w) (base := base) T C_solved
    have C_with_squares := ok_with_squares (P := l.prog) (w := w) (base := base) T C_is_square
    have C_pressed := ok_pressed (P := l.prog) (w := w) (base := base) T C_cross C_is_land C_with_squares
    have C_pressing_paper := ok_pressing_paper (P := l.prog) (w := w) (base := base) T C_solved
    have C_are_different_squares := ok_are_different_squares (P := l.prog) (w := w) (base := base) T C_is_square
    have C_shows_odd := ok_shows_odd (P := l.prog) (w := w) (base := base) T C_are_different_squares C_cross C_is_land C_squares_of
    have C_land_squares := ok_land_squares (P := l.prog) (w := w) (base := base) T C_is_land C_squares_of
    have C_shows_pressing := ok_shows_pressing (P := l.prog) (w := w) (base := base) T C_are_different_squares C_land_squares C_pressed
    exact vsCons (vSet (i := 2) sc_law.nd (by rfl) (by first | exact .inl rfl | exact .inr rfl) (vCall (C__law_grid.up (by decide)) hr (by rfl) (vaCons (vVar 1) (vaCons (vAdd (vInt) (vCall (C__law_take.up (by decide)) hr (by rfl) (vaCons (vVar 1) (vaCons (vInt) (vaNil))))) (vaCons (vAdd (vInt) (vCall (C__law_take.up (by decide)) hr (by rfl) (vaCons (vVar 1) (vaCons (vInt) (vaNil))))) (vaNil)))))) (vsCons (vIfS (vtCmp (opEq hr.units) okEq mono_dEqG (vCall (C__law_take.up (by decide)) hr (by rfl) (vaCons (vVar 1) (vaCons (vInt) (vaNil)))) (vInt)) (vsOne (vSet (i := 2) sc_law.nd (by rfl) (by first | exact .inl rfl | exact .inr rfl) (vCall (C__law_grid.up (by decide)) hr (by rfl) (vaCons (vVar 1) (vaCons (vAdd (vInt) (vCall (C__law_take.up (by decide)) hr (by rfl) (vaCons (vVar 1) (vaCons (vInt) (vaNil))))) (vaCons (vAdd (vInt) (vCall (C__law_take.up (by decide)) hr (by rfl) (vaCons (vVar 1) (vaCons (vInt) (vaNil))))) (vaNil))))))) (vsNil)) (vsCons (vSetC (i := 3) (by rfl) (by rfl) (vcLc (own := [("square", 10)]) false rfl sc_law.nd (vIter (vCall (C__law_all.up (by decide)) hr (by rfl) (vaCons (vVar 2) (vaNil)))) (blkOk_by (N := n_law) (sc := (defScope st_law)) (by decide +kernel)) (by decide) (fun _ _ _ _ _ => vgName (i := 10) sc_law.nd (by rfl) (by first | exact .inl rfl | exact .inr rfl)) (fun _ _ _ _ _ => vtsOne (vtCmp (opEq hr.units) okEq mono_dEqG (vCall (C__law_take.up (by decide)) hr (by rfl) (vaCons (vVar 1) (vaCons (vInt) (vaNil)))) (vInt))) (fun _ _ _ _ _ => vVar 10)) (sw_true rfl rfl rfl (by decide +kernel))) (vsCons (vIfS (vtNot (vtVal (vCall (C__law_same.up (by decide)) hr (by rfl) (vaCons (vCall (C_pressed.up (by decide)) hr (by rfl) (vaCons (vVar 2) (vaCons (vAdd (vVar 3) (vSl (vVar 3) (voN) (voS (vInt)))) (vaNil)))) (vaCons (vCall (C__law_press.up (by decide)) hr (by rfl) (vaCons (vVar 2) (vaCons (vAdd (vVar 3) (vSl (vVar 3) (voN) (voS (vInt)))) (vaNil)))) (vaNil)))))) (vsOne (vRet (vBl))) (vsNil)) (vsCons (vSet (i := 4) sc_law.nd (by rfl) (by first | exact .inl rfl | exact .inr rfl) (vCall (C__law_press.up (by decide)) hr (by rfl) (vaCons (vCT call_tuple_of okTuple mono_dTuple (by rfl) T.n_tuple (by decide +kernel) (vaCons ((vcLc (own := [("row", 11)]) false rfl sc_law.nd (vIter (vVar 2)) (blkOk_by (N := n_law) (sc := (defScope st_law)) (by decide +kernel)) (by decide) (fun _ _ _ _ _ => vgName (i := 11) sc_law.nd (by rfl) (by first | exact .inl rfl | exact .inr rfl)) (fun _ _ _ _ _ => vtsNil) (fun _ _ _ _ _ => vMulS (vStr) (vCB call_len okLen mono_dLen (by rfl) T.n_len (by decide +kernel) (vaCons (vVar 11) (vaNil))))).ve) (vaNil))) (vaCons (vVar 3) (vaNil))))) (vsCons (vIfS ((vwOr (vtCmp opIsNot okIsNot mono_dIsG (vCall (C_odd_paper.up (by decide)) hr (by rfl) (vaCons (vVar 4) (vaNil))) (vNon)) (vwOr1 (vtCmp opIs okIs mono_dIsG (vCall (C_pressing_paper.up (by decide)) hr (by rfl) (vaCons (vVar 4) (vaNil))) (vNon)))).vt) (vsOne (vRet (vBl))) (vsNil)) (vsCons (vFor PassesOwn.never rfl (vIter (vLst (vaCons (vVar 2) (vaCons (vVar 4) (vaNil))))) (vgName (i := 5) sc_law.nd (by rfl) (by first | exact .inl rfl | exact .inr rfl)) (vsCons (vSet (i := 6) sc_law.nd (by rfl) (by first | exact .inl rfl | exact .inr rfl) (vCall (C_pressing_paper.up (by decide)) hr (by rfl) (vaCons (vVar 5) (vaNil)))) (vsCons (vSet (i := 7) sc_law.nd (by rfl) (by first | exact .inl rfl | exact .inr rfl) (vCall (C_odd_paper.up (by decide)) hr (by rfl) (vaCons (vVar 5) (vaNil)))) (vsCons (vIfS (vtCmp (opEq hr.units) okEq mono_dEqG (vCmp opIs okIs mono_dIsG (vVar 6) (vNon)) (vCmp opIs okIs mono_dIsG (vVar 7) (vNon))) (vsOne (vRet (vBl))) (vsNil)) (vsCons (vIfS ((vwAnd (vtCmp opIsNot okIsNot mono_dIsG (vVar 6) (vNon)) (vwAnd1 ((vwOr (vtNot (vtVal (vIsi "list" (by rfl) T.n_isinstance (by rfl) T.n_list (by decide +kernel) (vVar 6)))) (vwOr1 (vtNot (vtVal (vCall (C__law_presses.up (by decide)) hr (by rfl) (vaCons (vVar 5) (vaCons (vVar 6) (vaNil)))))))).vt))).vt) (vsOne (vRet (vBl))) (vsNil)) (vsCons (vIfS ((vwAnd (vtCmp opIsNot okIsNot mono_dIsG (vVar 7) (vNon)) (vwAnd1 ((vwOr (vtNot (vtVal (vIsi "list" (by rfl) T.n_isinstance (by rfl) T.n_list (by decide +kernel) (vVar 7)))) (vwOr1 (vtNot (vtVal (vCall (C__law_odd.up (by decide)) hr (by rfl) (vaCons (vVar 5) (vaCons (vVar 7) (vaNil)))))))).vt))).vt) (vsOne (vRet (vBl))) (vsNil)) (vsCons (vIfS ((vwAnd (vtCmp op_lt okLt mono_dI0 (vCB call_len okLen mono_dLen (by rfl) T.n_len (by decide +kernel) (vaCons (vCall (C__law_all.up (by decide)) hr (by rfl) (vaCons (vVar 5) (vaNil))) (vaNil))) (vInt)) (vwAnd1 (vtCmp (opNe hr.units) okNe mono_dEqG (vCmp opIsNot okIsNot mono_dIsG (vVar 6) (vNon)) (vCall (C__law_some.up (by decide)) hr (by rfl) (vaCons (vVar 5) (vaNil)))))).vt) (vsOne (vRet (vBl))) (vsNil)) (vsCons (vSet (i := 8) sc_law.nd (by rfl) (by first | exact .inl rfl | exact .inr rfl) (vIf (vtCmp opIs okIs mono_dIsG (vVar 7) (vNon)) (vVar 6) (vVar 7))) (vsOne (vFor PassesOwn.never rfl (vIter (vAdd (vLst (vaCons (vVar 8) (vaNil))) (vCall (C__law_bent.up (by decide)) hr (by rfl) (vaCons (vVar 1) (vaCons (vVar 5) (vaCons (vVar 8) (vaNil))))))) (vgName (i := 9) sc_law.nd (by rfl) (by first | exact .inl rfl | exact .inr rfl)) (vsCons (vIfS (vtNot (vtVal (vCall (C__law_bool.up (by decide)) hr (by rfl) (vaCons (vCall (C_shows_pressing.up (by decide)) hr (by rfl) (vaCons (vVar 5) (vaCons (vVar 9) (vaNil)))) (vaCons (vCall (C__law_presses.up (by decide)) hr (by rfl) (vaCons (vVar 5) (vaCons (vVar 9) (vaNil)))) (vaNil)))))) (vsOne (vRet (vBl))) (vsNil)) (vsOne (vIfS (vtNot (vtVal (vCall (C__law_bool.up (by decide)) hr (by rfl) (vaCons (vCall (C_shows_odd.up (by decide)) hr (by rfl) (vaCons (vVar 5) (vaCons (vVar 9) (vaNil)))) (vaCons (vCall (C__law_odd.up (by decide)) hr (by rfl) (vaCons (vVar 5) (vaCons (vVar 9) (vaNil)))) (vaNil)))))) (vsOne (vRet (vBl))) (vsNil)))))))))))))) (vsOne (vRet (vBl)))))))))
  refine law_fin T.f_law hfa sc_law (fun _ _ _ _ _ _ us hl => match us, hl with | [_], _ => rfl) rfl (hb ({} : Heap) 0 .none roomA [] {} (fun _ => none) (fun _ _ _ => False) (Room.deeper (roomA_ok (by decide)) _)).mono hL fun base f cdv A outer s H E hr => ?_
  obtain ⟨fd, dd, FD, gd, kd, bd⟩ := ok__law_deal (P := l.prog) (w := w) (base := base) T
  have h := (hb base f cdv A outer s H E hr).pe
  exact show PSs _ (defBody st_law) _ from pss_cons (ps_set (i := 1) sc_law.nd (by rfl) (by first | exact .inl rfl | exact .inr rfl) (pe_call FD (hr.mono (by decide)) (by rfl) gd kd (bd fun _ _ _ _ _ _ us hl => match us, hl with | [_], _ => rfl) .nil pass0 (pa_cons (pv 0) pa_nil))) h
theorem txt_mk {h : Heap} (X : K.In h) (G : h.Ns mainGlobals mg) {f0 f1 f2 f3 f4 f5 f6 f7 f8 f9 f10 f11 f12 f13 f14 f15 f16 f17 f18 f19 f20 f21 f22 f23 f24 f25 f26 f27 f28 f29 f30 f31 f32 : Addr} {od0 an0 od1 an1 od2 an2 od3 an3 od4 an4 od5 an5 od6 an6 od7 an7 od8 an8 od9 an9 od10 an10 od11 an11 od12 an12 od13 an13 od14 an14 od15 an15 od16 an16 od17 an17 od18 an18 od19 an19 od20 an20 od21 an21 od22 an22 od23 an23 od24 an24 od25 an25 od26 an26 od27 an27 od28 an28 od29 an29 od30 an30 od31 an31 od32 an32 : Option Addr} {sl0 sl1 sl2 sl3 sl4 sl5 sl6 sl7 sl8 sl9 sl10 sl11 sl12 sl13 sl14 sl15 sl16 sl17 sl18 sl19 sl20 sl21 sl22 sl23 sl24 sl25 sl26 sl27 sl28 sl29 sl30 sl31 sl32 : Array (Option Value)} {oc0 kV0 dc0 pm0 cd0 ct0 oc1 kV1 dc1 pm1 cd1 ct1 oc2 kV2 dc2 pm2 cd2 ct2 oc3 kV3 dc3 pm3 cd3 ct3 oc4 kV4 dc4 pm4 cd4 ct4 oc5 kV5 dc5 pm5 cd5 ct5 oc6 kV6 dc6 pm6 cd6 ct6 oc7 kV7 dc7 pm7 cd7 ct7 oc8 kV8 dc8 pm8 cd8 ct8 oc9 kV9 dc9 pm9 cd9 ct9 oc10 kV10 dc10 pm10 cd10 ct10 oc11 kV11 dc11 pm11 cd11 ct11 oc12 kV12 dc12 pm12 cd12 ct12 oc13 kV13 dc13 pm13 cd13 ct13 oc14 kV14 dc14 pm14 cd14 ct14 oc15 kV15 dc15 pm15 cd15 ct15 oc16 kV16 dc16 pm16 cd16 ct16 oc17 kV17 dc17 pm17 cd17 ct17 oc18 kV18 dc18 pm18 cd18 ct18 oc19 kV19 dc19 pm19 cd19 ct19 oc20 kV20 dc20 pm20 cd20 ct20 oc21 kV21 dc21 pm21 cd21 ct21 oc22 kV22 dc22 pm22 cd22 ct22 oc23 kV23 dc23 pm23 cd23 ct23 oc24 kV24 dc24 pm24 cd24 ct24 oc25 kV25 dc25 pm25 cd25 ct25 oc26 kV26 dc26 pm26 cd26 ct26 oc27 kV27 dc27 pm27 cd27 ct27 oc28 kV28 dc28 pm28 cd28 ct28 oc29 kV29 dc29 pm29 cd29 ct29 oc30 kV30 dc30 pm30 cd30 ct30 oc31 kV31 dc31 pm31 cd31 ct31 oc32 kV32 dc32 pm32 cd32 ct32 : Value}
    (a0 : PySem.W.nsIn K mainGlobals "_law_deal" = some (some (.ref f0))) (l0 : K.lookup f0 = some ⟨oc0, od0, .func (PySem.W.fnOf "_law_deal" "_law_deal" (defArgs st__law_deal) (defBody st__law_deal) (defScope st__law_deal) .none kV0 dc0 pm0 an0 cd0 ct0), sl0⟩) (c0 : PySem.W.codeIn K cd0 "_law_deal" = true) (k0 : PySem.W.keepIn K (.ref f0) = true)
    (a1 : PySem.W.nsIn K mainGlobals "_law_take" = some (some (.ref f1))) (l1 : K.lookup f1 = some ⟨oc1, od1, .func (PySem.W.fnOf "_law_take" "_law_take" (defArgs st__law_take) (defBody st__law_take) (defScope st__law_take) .none kV1 dc1 pm1 an1 cd1 ct1), sl1⟩) (c1 : PySem.W.codeIn K cd1 "_law_take" = true) (k1 : PySem.W.keepIn K (.ref f1) = true)
    (a2 : PySem.W.nsIn K mainGlobals "_law_grid" = some (some (.ref f2))) (l2 : K.lookup f2 = some ⟨oc2, od2, .func (PySem.W.fnOf "_law_grid" "_law_grid" (defArgs st__law_grid) (defBody st__law_grid) (defScope st__law_grid) .none kV2 dc2 pm2 an2 cd2 ct2), sl2⟩) (c2 : PySem.W.codeIn K cd2 "_law_grid" = true) (k2 : PySem.W.keepIn K (.ref f2) = true)
    (a3 : PySem.W.nsIn K mainGlobals "_law_cross" = some (some (.ref f3))) (l3 : K.lookup f3 = some ⟨oc3, od3, .func (PySem.W.fnOf "_law_cross" "_law_cross" (defArgs st__law_cross) (defBody st__law_cross) (defScope st__law_cross) .none kV3 dc3 pm3 an3 cd3 ct3), sl3⟩) (c3 : PySem.W.codeIn K cd3 "_law_cross" = true) (k3 : PySem.W.keepIn K (.ref f3) = true)
    (a4 : PySem.W.nsIn K mainGlobals "_law_press" = some (some (.ref f4))) (l4 : K.lookup f4 = some ⟨oc4, od4, .func (PySem.W.fnOf "_law_press" "_law_press" (defArgs st__law_press) (defBody st__law_press) (defScope st__law_press) .none kV4 dc4 pm4 an4 cd4 ct4), sl4⟩) (c4 : PySem.W.codeIn K cd4 "_law_press" = true) (k4 : PySem.W.keepIn K (.ref f4) = true)
    (a5 : PySem.W.nsIn K mainGlobals "_law_same" = some (some (.ref f5))) (l5 : K.lookup f5 = some ⟨oc5, od5, .func (PySem.W.fnOf "_law_same" "_law_same" (defArgs st__law_same) (defBody st__law_same) (defScope st__law_same) .none kV5 dc5 pm5 an5 cd5 ct5), sl5⟩) (c5 : PySem.W.codeIn K cd5 "_law_same" = true) (k5 : PySem.W.keepIn K (.ref f5) = true)
    (a6 : PySem.W.nsIn K mainGlobals "squares_of" = some (some (.ref f6))) (l6 : K.lookup f6 = some ⟨oc6, od6, .func (PySem.W.fnOf "squares_of" "squares_of" (defArgs st_squares_of) (defBody st_squares_of) (defScope st_squares_of) .none kV6 dc6 pm6 an6 cd6 ct6), sl6⟩) (c6 : PySem.W.codeIn K cd6 "squares_of" = true) (k6 : PySem.W.keepIn K (.ref f6) = true)
    (a7 : PySem.W.nsIn K mainGlobals "is_square" = some (some (.ref f7))) (l7 : K.lookup f7 = some ⟨oc7, od7, .func (PySem.W.fnOf "is_square" "is_square" (defArgs st_is_square) (defBody st_is_square) (defScope st_is_square) .none kV7 dc7 pm7 an7 cd7 ct7), sl7⟩) (c7 : PySem.W.codeIn K cd7 "is_square" = true) (k7 : PySem.W.keepIn K (.ref f7) = true)
    (a8 : PySem.W.nsIn K mainGlobals "is_land" = some (some (.ref f8))) (l8 : K.lookup f8 = some ⟨oc8, od8, .func (PySem.W.fnOf "is_land" "is_land" (defArgs st_is_land) (defBody st_is_land) (defScope st_is_land) .none kV8 dc8 pm8 an8 cd8 ct8), sl8⟩) (c8 : PySem.W.codeIn K cd8 "is_land" = true) (k8 : PySem.W.keepIn K (.ref f8) = true)
    (a9 : PySem.W.nsIn K mainGlobals "is_odd" = some (some (.ref f9))) (l9 : K.lookup f9 = some ⟨oc9, od9, .func (PySem.W.fnOf "is_odd" "is_odd" (defArgs st_is_odd) (defBody st_is_odd) (defScope st_is_odd) .none kV9 dc9 pm9 an9 cd9 ct9), sl9⟩) (c9 : PySem.W.codeIn K cd9 "is_odd" = true) (k9 : PySem.W.keepIn K (.ref f9) = true)
    (a10 : PySem.W.nsIn K mainGlobals "side_neighbours" = some (some (.ref f10))) (l10 : K.lookup f10 = some ⟨oc10, od10, .func (PySem.W.fnOf "side_neighbours" "side_neighbours" (defArgs st_side_neighbours) (defBody st_side_neighbours) (defScope st_side_neighbours) .none kV10 dc10 pm10 an10 cd10 ct10), sl10⟩) (c10 : PySem.W.codeIn K cd10 "side_neighbours" = true) (k10 : PySem.W.keepIn K (.ref f10) = true)
    (a11 : PySem.W.nsIn K mainGlobals "cross" = some (some (.ref f11))) (l11 : K.lookup f11 = some ⟨oc11, od11, .func (PySem.W.fnOf "cross" "cross" (defArgs st_cross) (defBody st_cross) (defScope st_cross) .none kV11 dc11 pm11 an11 cd11 ct11), sl11⟩) (c11 : PySem.W.codeIn K cd11 "cross" = true) (k11 : PySem.W.keepIn K (.ref f11) = true)
    (a12 : PySem.W.nsIn K mainGlobals "without" = some (some (.ref f12))) (l12 : K.lookup f12 = some ⟨oc12, od12, .func (PySem.W.fnOf "without" "without" (defArgs st_without) (defBody st_without) (defScope st_without) .none kV12 dc12 pm12 an12 cd12 ct12), sl12⟩) (c12 : PySem.W.codeIn K cd12 "without" = true) (k12 : PySem.W.keepIn K (.ref f12) = true)
    (a13 : PySem.W.nsIn K mainGlobals "solved" = some (some (.ref f13))) (l13 : K.lookup f13 = some ⟨oc13, od13, .func (PySem.W.fnOf "solved" "solved" (defArgs st_solved) (defBody st_solved) (defScope st_solved) .none kV13 dc13 pm13 an13 cd13 ct13), sl13⟩) (c13 : PySem.W.codeIn K cd13 "solved" = true) (k13 : PySem.W.keepIn K (.ref f13) = true)
    (a14 : PySem.W.nsIn K mainGlobals "pressing_paper" = some (some (.ref f14))) (l14 : K.lookup f14 = some ⟨oc14, od14, .func (PySem.W.fnOf "pressing_paper" "pressing_paper" (defArgs st_pressing_paper) (defBody st_pressing_paper) (defScope st_pressing_paper) .none kV14 dc14 pm14 an14 cd14 ct14), sl14⟩) (c14 : PySem.W.codeIn K cd14 "pressing_paper" = true) (k14 : PySem.W.keepIn K (.ref f14) = true)
    (a15 : PySem.W.nsIn K mainGlobals "odd_paper" = some (some (.ref f15))) (l15 : K.lookup f15 = some ⟨oc15, od15, .func (PySem.W.fnOf "odd_paper" "odd_paper" (defArgs st_odd_paper) (defBody st_odd_paper) (defScope st_odd_paper) .none kV15 dc15 pm15 an15 cd15 ct15), sl15⟩) (c15 : PySem.W.codeIn K cd15 "odd_paper" = true) (k15 : PySem.W.keepIn K (.ref f15) = true)
    (a16 : PySem.W.nsIn K mainGlobals "_law_all" = some (some (.ref f16))) (l16 : K.lookup f16 = some ⟨oc16, od16, .func (PySem.W.fnOf "_law_all" "_law_all" (defArgs st__law_all) (defBody st__law_all) (defScope st__law_all) .none kV16 dc16 pm16 an16 cd16 ct16), sl16⟩) (c16 : PySem.W.codeIn K cd16 "_law_all" = true) (k16 : PySem.W.keepIn K (.ref f16) = true)
    (a17 : PySem.W.nsIn K mainGlobals "with_squares" = some (some (.ref f17))) (l17 : K.lookup f17 = some ⟨oc17, od17, .func (PySem.W.fnOf "with_squares" "with_squares" (defArgs st_with_squares) (defBody st_with_squares) (defScope st_with_squares) .none kV17 dc17 pm17 an17 cd17 ct17), sl17⟩) (c17 : PySem.W.codeIn K cd17 "with_squares" = true) (k17 : PySem.W.keepIn K (.ref f17) = true)
    (a18 : PySem.W.nsIn K mainGlobals "pressed" = some (some (.ref f18))) (l18 : K.lookup f18 = some ⟨oc18, od18, .func (PySem.W.fnOf "pressed" "pressed" (defArgs st_pressed) (defBody st_pressed) (defScope st_pressed) .none kV18 dc18 pm18 an18 cd18 ct18), sl18⟩) (c18 : PySem.W.codeIn K cd18 "pressed" = true) (k18 : PySem.W.keepIn K (.ref f18) = true)
    (a19 : PySem.W.nsIn K mainGlobals "_law_bent" = some (some (.ref f19))) (l19 : K.lookup f19 = some ⟨oc19, od19, .func (PySem.W.fnOf "_law_bent" "_law_bent" (defArgs st__law_bent) (defBody st__law_bent) (defScope st__law_bent) .none kV19 dc19 pm19 an19 cd19 ct19), sl19⟩) (c19 : PySem.W.codeIn K cd19 "_law_bent" = true) (k19 : PySem.W.keepIn K (.ref f19) = true)
    (a20 : PySem.W.nsIn K mainGlobals "_law_doubled" = some (some (.ref f20))) (l20 : K.lookup f20 = some ⟨oc20, od20, .func (PySem.W.fnOf "_law_doubled" "_law_doubled" (defArgs st__law_doubled) (defBody st__law_doubled) (defScope st__law_doubled) .none kV20 dc20 pm20 an20 cd20 ct20), sl20⟩) (c20 : PySem.W.codeIn K cd20 "_law_doubled" = true) (k20 : PySem.W.keepIn K (.ref f20) = true)
    (a21 : PySem.W.nsIn K mainGlobals "_law_bits" = some (some (.ref f21))) (l21 : K.lookup f21 = some ⟨oc21, od21, .func (PySem.W.fnOf "_law_bits" "_law_bits" (defArgs st__law_bits) (defBody st__law_bits) (defScope st__law_bits) .none kV21 dc21 pm21 an21 cd21 ct21), sl21⟩) (c21 : PySem.W.codeIn K cd21 "_law_bits" = true) (k21 : PySem.W.keepIn K (.ref f21) = true)
    (a22 : PySem.W.nsIn K mainGlobals "_law_different" = some (some (.ref f22))) (l22 : K.lookup f22 = some ⟨oc22, od22, .func (PySem.W.fnOf "_law_different" "_law_different" (defArgs st__law_different) (defBody st__law_different) (defScope st__law_different) .none kV22 dc22 pm22 an22 cd22 ct22), sl22⟩) (c22 : PySem.W.codeIn K cd22 "_law_different" = true) (k22 : PySem.W.keepIn K (.ref f22) = true)
    (a23 : PySem.W.nsIn K mainGlobals "_law_dry" = some (some (.ref f23))) (l23 : K.lookup f23 = some ⟨oc23, od23, .func (PySem.W.fnOf "_law_dry" "_law_dry" (defArgs st__law_dry) (defBody st__law_dry) (defScope st__law_dry) .none kV23 dc23 pm23 an23 cd23 ct23), sl23⟩) (c23 : PySem.W.codeIn K cd23 "_law_dry" = true) (k23 : PySem.W.keepIn K (.ref f23) = true)
    (a24 : PySem.W.nsIn K mainGlobals "_law_presses" = some (some (.ref f24))) (l24 : K.lookup f24 = some ⟨oc24, od24, .func (PySem.W.fnOf "_law_presses" "_law_presses" (defArgs st__law_presses) (defBody st__law_presses) (defScope st__law_presses) .none kV24 dc24 pm24 an24 cd24 ct24), sl24⟩) (c24 : PySem.W.codeIn K cd24 "_law_presses" = true) (k24 : PySem.W.keepIn K (.ref f24) = true)
    (a25 : PySem.W.nsIn K mainGlobals "_law_some" = some (some (.ref f25))) (l25 : K.lookup f25 = some ⟨oc25, od25, .func (PySem.W.fnOf "_law_some" "_law_some" (defArgs st__law_some) (defBody st__law_some) (defScope st__law_some) .none kV25 dc25 pm25 an25 cd25 ct25), sl25⟩) (c25 : PySem.W.codeIn K cd25 "_law_some" = true) (k25 : PySem.W.keepIn K (.ref f25) = true)
    (a26 : PySem.W.nsIn K mainGlobals "_law_bool" = some (some (.ref f26))) (l26 : K.lookup f26 = some ⟨oc26, od26, .func (PySem.W.fnOf "_law_bool" "_law_bool" (defArgs st__law_bool) (defBody st__law_bool) (defScope st__law_bool) .none kV26 dc26 pm26 an26 cd26 ct26), sl26⟩) (c26 : PySem.W.codeIn K cd26 "_law_bool" = true) (k26 : PySem.W.keepIn K (.ref f26) = true)
    (a27 : PySem.W.nsIn K mainGlobals "_law_odd" = some (some (.ref f27))) (l27 : K.lookup f27 = some ⟨oc27, od27, .func (PySem.W.fnOf "_law_odd" "_law_odd" (defArgs st__law_odd) (defBody st__law_odd) (defScope st__law_odd) .none kV27 dc27 pm27 an27 cd27 ct27), sl27⟩) (c27 : PySem.W.codeIn K cd27 "_law_odd" = true) (k27 : PySem.W.keepIn K (.ref f27) = true)
    (a28 : PySem.W.nsIn K mainGlobals "are_different_squares" = some (some (.ref f28))) (l28 : K.lookup f28 = some ⟨oc28, od28, .func (PySem.W.fnOf "are_different_squares" "are_different_squares" (defArgs st_are_different_squares) (defBody st_are_different_squares) (defScope st_are_different_squares) .none kV28 dc28 pm28 an28 cd28 ct28), sl28⟩) (c28 : PySem.W.codeIn K cd28 "are_different_squares" = true) (k28 : PySem.W.keepIn K (.ref f28) = true)
    (a29 : PySem.W.nsIn K mainGlobals "land_squares" = some (some (.ref f29))) (l29 : K.lookup f29 = some ⟨oc29, od29, .func (PySem.W.fnOf "land_squares" "land_squares" (defArgs st_land_squares) (defBody st_land_squares) (defScope st_land_squares) .none kV29 dc29 pm29 an29 cd29 ct29), sl29⟩) (c29 : PySem.W.codeIn K cd29 "land_squares" = true) (k29 : PySem.W.keepIn K (.ref f29) = true)
    (a30 : PySem.W.nsIn K mainGlobals "shows_pressing" = some (some (.ref f30))) (l30 : K.lookup f30 = some ⟨oc30, od30, .func (PySem.W.fnOf "shows_pressing" "shows_pressing" (defArgs st_shows_pressing) (defBody st_shows_pressing) (defScope st_shows_pressing) .none kV30 dc30 pm30 an30 cd30 ct30), sl30⟩) (c30 : PySem.W.codeIn K cd30 "shows_pressing" = true) (k30 : PySem.W.keepIn K (.ref f30) = true)
    (a31 : PySem.W.nsIn K mainGlobals "shows_odd" = some (some (.ref f31))) (l31 : K.lookup f31 = some ⟨oc31, od31, .func (PySem.W.fnOf "shows_odd" "shows_odd" (defArgs st_shows_odd) (defBody st_shows_odd) (defScope st_shows_odd) .none kV31 dc31 pm31 an31 cd31 ct31), sl31⟩) (c31 : PySem.W.codeIn K cd31 "shows_odd" = true) (k31 : PySem.W.keepIn K (.ref f31) = true)
    (a32 : PySem.W.nsIn K mainGlobals "law" = some (some (.ref f32))) (l32 : K.lookup f32 = some ⟨oc32, od32, .func (PySem.W.fnOf "law" "law" (defArgs st_law) (defBody st_law) (defScope st_law) .none kV32 dc32 pm32 an32 cd32 ct32), sl32⟩) (c32 : PySem.W.codeIn K cd32 "law" = true) (k32 : PySem.W.keepIn K (.ref f32) = true)
    (z_abs : PySem.W.nsIn K mainGlobals "abs" = some none)
    (z_bool : PySem.W.nsIn K mainGlobals "bool" = some none)
    (z_int : PySem.W.nsIn K mainGlobals "int" = some none)
    (z_isinstance : PySem.W.nsIn K mainGlobals "isinstance" = some none)
    (z_len : PySem.W.nsIn K mainGlobals "len" = some none)
    (z_list : PySem.W.nsIn K mainGlobals "list" = some none)
    (z_min : PySem.W.nsIn K mainGlobals "min" = some none)
    (z_range : PySem.W.nsIn K mainGlobals "range" = some none)
    (z_sorted : PySem.W.nsIn K mainGlobals "sorted" = some none)
    (z_str : PySem.W.nsIn K mainGlobals "str" = some none)
    (z_sum : PySem.W.nsIn K mainGlobals "sum" = some none)
    (z_tuple : PySem.W.nsIn K mainGlobals "tuple" = some none)
    {t_LAND : Tok} (g_LAND : PySem.W.nsIn K mainGlobals "LAND" = some (some (.str "x" t_LAND)))
    {t_WATER : Tok} (g_WATER : PySem.W.nsIn K mainGlobals "WATER" = some (some (.str "." t_WATER))) : Txt K mg :=
  ⟨def_at X G a0 l0 c0 k0, def_at X G a1 l1 c1 k1, def_at X G a2 l2 c2 k2, def_at X G a3 l3 c3 k3, def_at X G a4 l4 c4 k4, def_at X G a5 l5 c5 k5, def_at X G a6 l6 c6 k6, def_at X G a7 l7 c7 k7, def_at X G a8 l8 c8 k8, def_at X G a9 l9 c9 k9, def_at X G a10 l10 c10 k10, def_at X G a11 l11 c11 k11, def_at X G a12 l12 c12 k12, def_at X G a13 l13 c13 k13, def_at X G a14 l14 c14 k14, def_at X G a15 l15 c15 k15, def_at X G a16 l16 c16 k16, def_at X G a17 l17 c17 k17, def_at X G a18 l18 c18 k18, def_at X G a19 l19 c19 k19, def_at X G a20 l20 c20 k20, def_at X G a21 l21 c21 k21, def_at X G a22 l22 c22 k22, def_at X G a23 l23 c23 k23, def_at X G a24 l24 c24 k24, def_at X G a25 l25 c25 k25, def_at X G a26 l26 c26 k26, def_at X G a27 l27 c27 k27, def_at X G a28 l28 c28 k28, def_at X G a29 l29 c29 k29, def_at X G a30 l30 c30 k30, def_at X G a31 l31 c31 k31, def_at X G a32 l32 c32 k32, PySem.W.mg_none_of X G z_abs, PySem.W.mg_none_of X G z_bool, PySem.W.mg_none_of X G z_int, PySem.W.mg_none_of X G z_isinstance, PySem.W.mg_none_of X G z_len, PySem.W.mg_none_of X G z_list, PySem.W.mg_none_of X G z_min, PySem.W.mg_none_of X G z_range, PySem.W.mg_none_of X G z_sorted, PySem.W.mg_none_of X G z_str, PySem.W.mg_none_of X G z_sum, PySem.W.mg_none_of X G z_tuple, con_at X G g_LAND ⟨_, rfl⟩, con_at X G g_WATER ⟨_, rfl⟩⟩
end
end L79

set_option maxHeartbeats 4000000
/-! VL15: more for reckoning. -/
namespace VL
open PySem PySem.Spec PyProof.Rows L2
/-- a loop that ends early where p fails -/
theorem forD_all {α : Type} {f : TgF} {body : SS} {Dn : SEnds} (enc : α → D) (p : α → Bool) (I : SG → Wd → Prop) : ∀ {items : List α} {σ : SG} {W : Wd}, I σ W →
    (∀ x σ W (k : SG → Wd → Prop), x ∈ items → I σ W → (p x = true → ∀ σ W, I σ W → k σ W) → (p x = false → items.all p = false) → tgD f .st (enc x) σ fun σ' => body { nx := k, ct := k, bk := Dn.nx, rt := Dn.rt } σ' W) →
    (items.all p = true → ∀ σ W, I σ W → Dn.nx σ W) → forD f body (items.map enc) Dn σ W
  | [], σ, W, h0, hs, hd => hd rfl _ _ h0
  | x :: xs, σ, W, h0, hs, hd => hs x σ W _ (by simp) h0 (fun e σ' W' h => forD_all enc p I h (fun y σ W k m hi hk hf => hs y σ W k (by simp [m]) hi hk fun e2 => by rw [List.all_cons, hf e2, Bool.and_false]) fun e2 => hd (by rw [List.all_cons, e, e2]; rfl)) fun e => by rw [List.all_cons, e]; rfl
/-- a loop over encoded items, one after another -/
theorem forD_enc {α : Type} {f : TgF} {body : SS} {Dn : SEnds} (enc : α → D) (I : List α → SG → Wd → Prop) : ∀ {items : List α} {σ : SG} {W : Wd}, I items σ W →
    (∀ x xs σ W (k : SG → Wd → Prop), I (x :: xs) σ W → (∀ σ W, I xs σ W → k σ W) → tgD f .st (enc x) σ fun σ' => body { nx := k, ct := k, bk := Dn.nx, rt := Dn.rt } σ' W) →
    (∀ σ W, I [] σ W → Dn.nx σ W) → forD f body (items.map enc) Dn σ W
  | [], σ, W, h0, hs, hd => hd _ _ h0
  | x :: xs, σ, W, h0, hs, hd => hs x xs σ W _ h0 fun σ' W' h => forD_enc enc I h hs hd
theorem compD_enc {α : Type} {f : TgF} {te : SE} {ok : Tg → D → Prop} (enc : α → D) (g : α → D) : ∀ {items : List α} {σ : SG} {acc : List D} {W : Wd} {Q : List D → Wd → Prop}, acc.length + items.length ≤ sizeLine →
    (∀ x ∈ items, ∀ (k : D → Wd → Prop), k (g x) W → tgD f .st (enc x) σ fun σ2 => te σ2 W fun t d W2 => ok t d ∧ k d W2) → Q (acc ++ items.map g) W → compD f bYes te ok (items.map enc) σ acc W Q
  | [], σ, acc, W, Q, hz, hs, hq => by simpa [compD] using hq
  | x :: xs, σ, acc, W, Q, hz, hs, hq => by
    have h := hs x (by simp) (fun d W2 => acc.length < sizeLine ∧ compD f bYes te ok (xs.map enc) σ (acc ++ [d]) W2 Q) ⟨by simp at hz; omega, compD_enc enc g (by simp at hz ⊢; omega) (fun y m => hs y (by simp [m])) (by simpa using hq)⟩
    exact h
/-- .. the draws may go on: the world counts, too -/
theorem compD_W {α : Type} {f : TgF} {te : SE} {ok : Tg → D → Prop} (enc : α → D) (I : List D → List α → Wd → Prop) {σ : SG} {Q : List D → Wd → Prop} : ∀ {items : List α} {acc : List D} {W : Wd}, acc.length + items.length ≤ sizeLine → I acc items W →
    (∀ x xs acc W, I acc (x :: xs) W → ∀ (k : D → Wd → Prop), (∀ d W', I (acc ++ [d]) xs W' → k d W') → tgD f .st (enc x) σ fun σ2 => te σ2 W fun t d W2 => ok t d ∧ k d W2) → (∀ acc W, I acc [] W → Q acc W) → compD f bYes te ok (items.map enc) σ acc W Q
  | [], acc, W, hz, h0, hs, hq => hq _ _ h0
  | x :: xs, acc, W, hz, h0, hs, hq => by
    have h := hs x xs acc W h0 (fun d W2 => acc.length < sizeLine ∧ compD f bYes te ok (xs.map enc) σ (acc ++ [d]) W2 Q) fun d W' h2 => ⟨by simp at hz; omega, compD_W enc I (by simp at hz ⊢; omega) h2 hs hq⟩
    exact h
theorem upTo_map (lo : Int) (n : Nat) : upTo lo n = (List.range n).map fun i : Nat => D.int (lo + i) := rfl
theorem downTo_map (hi : Int) (n : Nat) : downTo hi n = (List.range n).map fun i : Nat => D.int (hi - i) := rfl
theorem atI_rng {α : Type} {n : Nat} {f : Nat → α} {i : Nat} (h : i < n) : atI ((List.range n).map f) (i : Int) = some (f i) :=
  atI_nat (by rw [List.getElem?_map, List.getElem?_range h]; rfl)
theorem atI_rngZ {α : Type} {n : Nat} {f : Nat → α} (h : 0 < n) : atI ((List.range n).map f) 0 = some (f 0) := atI_rng (i := 0) h
theorem ixN_nat {n i : Nat} (h : i < n) : ixN n (i : Int) = some i := by
  unfold ixN
  split
  · split
    · simp
    · omega
  · omega
theorem set_rng {α : Type} {n : Nat} {f : Nat → α} {i : Nat} {v : α} : ((List.range n).map f).set i v = (List.range n).map fun j => if j = i then v else f j := by
  apply List.ext_getElem
  · simp
  · intro j h1 h2
    simp only [List.length_set, List.length_map, List.length_range] at h1
    rw [List.getElem_set]
    simp only [List.getElem_map, List.getElem_range]
    by_cases e : i = j
    · simp [e]
    · simp [e, Ne.symm e]
theorem cutD_init {xs : List D} : cutD xs none (some (-1)) = xs.dropLast := by
  unfold cutD HT.sIx
  rw [List.dropLast_eq_take]
  simp
  congr 1
  omega
theorem cutD_tail {xs : List D} : cutD xs (some 1) none = xs.drop 1 := by
  unfold cutD HT.sIx
  simp
  cases xs with
  | nil => simp
  | cons x xs => simp
end VL

set_option maxHeartbeats 4000000
/-! VL16: what each operator is at each kind of value: for reckoning by simp. -/
namespace VL
open PySem PySem.Spec PyProof.Rows L2
def isI (d : D) (P : Int → Prop) : Prop := match d with
  | .int j => P j
  | _ => False
def isB (d : D) (P : Bool → Prop) : Prop := match d with
  | .bl j => P j
  | _ => False
theorem isI_int {j : Int} {P : Int → Prop} : isI (.int j) P = P j := Eq.trans rfl rfl
theorem isB_bl {j : Bool} {P : Bool → Prop} : isB (.bl j) P = P j := Eq.trans rfl rfl
section
variable {t u : Tg} {R : Tg → D → Prop} {i j : Int} {a b : List D} {x y d : D} {σ : SG} {W : Wd} {Q : Tg → D → Wd → Prop} {QB : Bool → Wd → Prop} {QI : List D → Wd → Prop} {ta tb tc : SE} {p q : Bool} {z z2 : Str} {g : List (List D)}
theorem sv_val {R : Tg → D → Prop} : sv (.val d) R = R .st d := Eq.trans rfl rfl
theorem sv_ml : sv (.ml a) R = R .b1 (.lst a) := Eq.trans rfl rfl
theorem sv_mg : sv (.mg g) R = R .b2 (.lst (g.map D.lst)) := Eq.trans rfl rfl
theorem sv_lk {g : Addr × Obj × List Ent} {kvs : List (D × D)} : sv (.lk g kvs) R = R .b1 (.dct kvs) := Eq.trans rfl rfl
theorem dAdd_int : dAdd t (.int i) u (.int j) R = R .st (.int (i + j)) := Eq.trans rfl rfl
theorem dAdd_str : dAdd t (.str z) u (.str z2) R = (z.length + z2.length ≤ sizeLine ∧ R .st (.str (z ++ z2))) := Eq.trans rfl rfl
theorem dAdd_lst : dAdd t (.lst a) u (.lst b) R = (a.length + b.length ≤ sizeLine ∧ est t a ∧ est u b ∧ R .fr (.lst (a ++ b))) := Eq.trans rfl rfl
theorem dAdd_tup : dAdd t (.tup a) u (.tup b) R = (a.length + b.length ≤ sizeLine ∧ est t a ∧ est u b ∧ R .st (.tup (a ++ b))) := Eq.trans rfl rfl
theorem dI0_int {f : Int → Int → D} : dI0 f t (.int i) u (.int j) R = R .st (f i j) := Eq.trans rfl rfl
theorem dII_int {C : Int → Int → Prop} {f : Int → Int → D} : dII C f t (.int i) u (.int j) R = (C i j ∧ R .st (f i j)) := Eq.trans rfl rfl
theorem dMul_int : dMul t (.int i) u (.int j) R = (CMul i j ∧ R .st (.int (i * j))) := Eq.trans rfl rfl
theorem dMul_lst : dMul t (.lst a) u (.int j) R = (-(2 ^ 63) ≤ j ∧ j < 2 ^ 63 ∧ a.length * j.toNat ≤ sizeLine ∧ est t a ∧ R .fr (.lst (List.replicate j.toNat a).flatten)) := Eq.trans rfl rfl
theorem dMul_tup : dMul t (.tup a) u (.int j) R = (a ≠ [] ∧ 2 ≤ j ∧ j ≤ 1000 ∧ a.length ≤ 1000 ∧ est t a ∧ R .st (.tup (List.replicate j.toNat a).flatten)) := Eq.trans rfl rfl
theorem dEq_int : dEqG false t (.int i) u (.int j) R = R .st (.bl (decide (i = j))) := Eq.trans rfl rfl
theorem dNe_int : dEqG true t (.int i) u (.int j) R = R .st (.bl (!decide (i = j))) := Eq.trans rfl rfl
theorem dEq_str : dEqG false t (.str z) u (.str z2) R = R .st (.bl (decide (z = z2))) := Eq.trans rfl rfl
theorem dNe_str : dEqG true t (.str z) u (.str z2) R = R .st (.bl (!decide (z = z2))) := Eq.trans rfl rfl
theorem dEq_bl : dEqG false t (.bl p) u (.bl q) R = R .st (.bl (decide (p = q))) := Eq.trans rfl rfl
theorem dNe_bl : dEqG true t (.bl p) u (.bl q) R = R .st (.bl (!decide (p = q))) := Eq.trans rfl rfl
theorem dEq_tup : dEqG false t (.tup a) u y R = (eqOk (.tup a) ∧ eqOk y ∧ R .st (.bl (deq (.tup a) y))) := by cases y <;> rfl
theorem dNe_tup : dEqG true t (.tup a) u y R = (eqOk (.tup a) ∧ eqOk y ∧ R .st (.bl (!deq (.tup a) y))) := by cases y <;> rfl
theorem dEq_lst : dEqG false t (.lst a) u y R = (eqOk (.lst a) ∧ eqOk y ∧ R .st (.bl (deq (.lst a) y))) := by cases y <;> rfl
theorem dNe_lst : dEqG true t (.lst a) u y R = (eqOk (.lst a) ∧ eqOk y ∧ R .st (.bl (!deq (.lst a) y))) := by cases y <;> rfl
theorem dIs_non : dIsG false t x u .non R = R .st (.bl (isNon x)) := by cases x <;> rfl
theorem dIsNot_non : dIsG true t x u .non R = R .st (.bl (!isNon x)) := by cases x <;> rfl
theorem dIs_bl : dIsG false t (.bl p) u (.bl q) R = R .st (.bl (decide (p = q))) := Eq.trans rfl rfl
theorem dIn_lst : dInG false t x u (.lst a) R = (eqOk x ∧ eqOk (.lst a) ∧ R .st (.bl (a.any fun z => deq z x))) := Eq.trans rfl rfl
theorem dIn_tup : dInG false t x u (.tup a) R = (eqOk x ∧ eqOk (.tup a) ∧ R .st (.bl (a.any fun z => deq z x))) := Eq.trans rfl rfl
theorem dNotIn_lst : dInG true t x u (.lst a) R = (eqOk x ∧ eqOk (.lst a) ∧ R .st (.bl (!a.any fun z => deq z x))) := Eq.trans rfl rfl
theorem dNotIn_tup : dInG true t x u (.tup a) R = (eqOk x ∧ eqOk (.tup a) ∧ R .st (.bl (!a.any fun z => deq z x))) := Eq.trans rfl rfl
theorem dIx_lst : dIx t (.lst a) u (.int i) R = ∃ d, atI a i = some d ∧ R (el t) d := Eq.trans rfl rfl
theorem dIx_tup : dIx t (.tup a) u (.int i) R = ∃ d, atI a i = some d ∧ R (el t) d := Eq.trans rfl rfl
theorem ex_some {α : Type} {o : Option α} {v : α} {P : α → Prop} (h : o = some v) : (∃ d, o = some d ∧ P d) = P v := by
  subst h
  exact propext ⟨fun ⟨d, e, h⟩ => by cases e; exact h, fun h => ⟨_, rfl, h⟩⟩
theorem dIx_lst_rng {n k : Nat} {f : Nat → D} (h : k < n) : dIx t (.lst ((List.range n).map f)) u (.int (k : Nat)) R = R (el t) (f k) := ex_some (atI_rng h)
theorem dIx_tup_rng {n k : Nat} {f : Nat → D} (h : k < n) : dIx t (.tup ((List.range n).map f)) u (.int (k : Nat)) R = R (el t) (f k) := ex_some (atI_rng h)
theorem dIx_lst_rng0 {n : Nat} {f : Nat → D} (h : 0 < n) : dIx t (.lst ((List.range n).map f)) u (.int 0) R = R (el t) (f 0) := ex_some (atI_rngZ h)
theorem dIx_tup_rng0 {n : Nat} {f : Nat → D} (h : 0 < n) : dIx t (.tup ((List.range n).map f)) u (.int 0) R = R (el t) (f 0) := ex_some (atI_rngZ h)
theorem atI_cons0 {α : Type} {x : α} {l : List α} : atI (x :: l) 0 = some x := atI_nat (j := 0) rfl
theorem atI_cons1 {α : Type} {x y : α} {l : List α} : atI (x :: y :: l) 1 = some y := atI_nat (j := 1) rfl
theorem atI_cons2 {α : Type} {x y w : α} {l : List α} : atI (x :: y :: w :: l) 2 = some w := atI_nat (j := 2) rfl
theorem atI_last {α : Type} {l : List α} {v : α} (h : l.getLast? = some v) : atI l (-1) = some v := by
  have hl : 0 < l.length := by cases l with | nil => cases h | cons => simp
  unfold atI ixN
  rw [if_neg (by decide), if_pos (by omega)]
  show l[((-1 : Int) + l.length).toNat]? = some v
  rw [List.getLast?_eq_getElem?] at h
  rw [← h]
  congr 1
  omega
theorem dIx_tup_rngL {n : Nat} {f : Nat → D} (h : 0 < n) : dIx t (.tup ((List.range n).map f)) u (.int (-1)) R = R (el t) (f (n - 1)) := ex_some (atI_last (by obtain ⟨k, rfl⟩ : ∃ k, n = k + 1 := ⟨n - 1, by omega⟩; rw [List.range_succ, List.map_append]; simp))
theorem dIx_lst_0 : dIx t (.lst (x :: a)) u (.int 0) R = R (el t) x := ex_some atI_cons0
theorem dIx_tup_0 : dIx t (.tup (x :: a)) u (.int 0) R = R (el t) x := ex_some atI_cons0
theorem dIx_lst_1 : dIx t (.lst (x :: y :: a)) u (.int 1) R = R (el t) y := ex_some atI_cons1
theorem dIx_tup_1 : dIx t (.tup (x :: y :: a)) u (.int 1) R = R (el t) y := ex_some atI_cons1
theorem dIx_lst_2 : dIx t (.lst (x :: y :: d :: a)) u (.int 2) R = R (el t) d := ex_some atI_cons2
theorem dIx_tup_2 : dIx t (.tup (x :: y :: d :: a)) u (.int 2) R = R (el t) d := ex_some atI_cons2
theorem dSl_lst {lo hi : Option Int} : dSl t (.lst a) lo hi R = (est t a ∧ R .fr (.lst (cutD a lo hi))) := Eq.trans rfl rfl
theorem dSl_tup {lo hi : Option Int} : dSl t (.tup a) lo hi R = (est t a ∧ R .st (.tup (cutD a lo hi))) := Eq.trans rfl rfl
theorem dLen_lst : dLen [(t, .lst a)] R = R .st (.int a.length) := Eq.trans rfl rfl
theorem dLen_tup : dLen [(t, .tup a)] R = R .st (.int a.length) := Eq.trans rfl rfl
theorem dLen_str : dLen [(t, .str z)] R = (z.length ≤ sizeLine ∧ R .st (.int z.length)) := Eq.trans rfl rfl
theorem dLen_scr {ns : List Int} : dLen [(t, .scr ns)] R = R .st (.int ns.length) := Eq.trans rfl rfl
theorem dList_lst : dList [(t, .lst a)] R = (est t a ∧ R .fr (.lst a)) := Eq.trans rfl rfl
theorem dList_tup : dList [(t, .tup a)] R = (est t a ∧ R .fr (.lst a)) := Eq.trans rfl rfl
theorem dTuple_lst : dTuple [(t, .lst a)] R = (est t a ∧ R .st (.tup a)) := Eq.trans rfl rfl
theorem dTuple_tup : dTuple [(t, .tup a)] R = (est t a ∧ R .st (.tup a)) := Eq.trans rfl rfl
theorem dF1_int {f : Int → Int} : dF1 f [(t, .int i)] R = R .st (.int (f i)) := Eq.trans rfl rfl
theorem dF2_int {f : Int → Int → Int} : dF2 f [(t, .int i), (u, .int j)] R = R .st (.int (f i j)) := Eq.trans rfl rfl
theorem dNeg_int : dNeg t (.int i) R = R .st (.int (-i)) := Eq.trans rfl rfl
theorem dIsi_non {T : String} : dIsi T t .non R = R .st (.bl (isTy "NoneType" T)) := Eq.trans rfl rfl
theorem dIsi_bl {T : String} : dIsi T t (.bl p) R = R .st (.bl (isTy "bool" T)) := Eq.trans rfl rfl
theorem dIsi_int {T : String} : dIsi T t (.int i) R = R .st (.bl (isTy "int" T)) := Eq.trans rfl rfl
theorem dIsi_str {T : String} : dIsi T t (.str z) R = R .st (.bl (isTy "str" T)) := Eq.trans rfl rfl
theorem dIsi_tup {T : String} : dIsi T t (.tup a) R = R .st (.bl (isTy "tuple" T)) := Eq.trans rfl rfl
theorem dIsi_lst {T : String} : dIsi T t (.lst a) R = R .st (.bl (isTy "list" T)) := Eq.trans rfl rfl
theorem itemsOf_lst {P : List D → Prop} : itemsOf t (.lst a) P = (frozenTg t = true ∧ P a) := Eq.trans rfl rfl
theorem itemsOf_tup {P : List D → Prop} : itemsOf t (.tup a) P = (est t a ∧ P a) := Eq.trans rfl rfl
theorem sTest_eq : sTest ta σ W QB = ta σ W fun _ d W1 => isB d fun b => QB b W1 := Eq.trans rfl rfl
theorem sChain_eq {f f' : OpD} : sChain f f' ta tb tc σ W Q = ta σ W fun t x W1 => tb σ W1 fun u y W2 => f t x u y fun _ d => isB d fun b => if b = true then tc σ W2 fun v z W3 => f' u y v z fun g e => Q g e W3 else Q .st (.bl false) W2 := by
  unfold sChain
  congr 1; funext t x W1; congr 1; funext u y W2; congr 1; funext g d
  cases d with
  | bl b => cases b <;> rfl
  | _ => rfl
theorem sAnd_eq : sAnd ta tb σ W Q = ta σ W fun _ x W1 => isB x fun b => if b = true then tb σ W1 Q else Q .st (.bl false) W1 := by
  unfold sAnd
  congr 1; funext t x W1
  cases x with
  | bl b => cases b <;> rfl
  | _ => rfl
theorem sOr_eq : sOr ta tb σ W Q = ta σ W fun _ x W1 => isB x fun b => if b = true then Q .st (.bl true) W1 else tb σ W1 Q := by
  unfold sOr
  congr 1; funext t x W1
  cases x with
  | bl b => cases b <;> rfl
  | _ => rfl
theorem sNot_eq : sNot ta σ W Q = ta σ W fun _ x W1 => isB x fun b => Q .st (.bl (!b)) W1 := by
  unfold sNot
  rfl
theorem spS_eq {P : Option Int → Wd → Prop} : spS ta σ W P = ta σ W fun _ d W1 => isI d fun i => P (some i) W1 := Eq.trans rfl rfl
theorem sRng1_eq : sRng1 (aCons ta aNil) σ W QI = ta σ W fun _ d W1 => isI d fun j => -(2 ^ 62) ≤ j ∧ j < 2 ^ 62 ∧ QI (upTo 0 j.toNat) W1 := by
  unfold sRng1 aCons aNil
  congr 1; funext t x W1
  cases x <;> rfl
theorem sRng2_eq : sRng2 (aCons ta (aCons tb aNil)) σ W QI = ta σ W fun _ d W1 => tb σ W1 fun _ e W2 => isI d fun i => isI e fun j => (-(2 ^ 62) ≤ i ∧ i < 2 ^ 62 ∧ -(2 ^ 62) ≤ j ∧ j < 2 ^ 62) ∧ QI (upTo i (j - i).toNat) W2 := by
  unfold sRng2 aCons aNil
  congr 1; funext t x W1
  congr 1; funext t2 y W2
  cases x <;> cases y <;> rfl
theorem sRngD_eq : sRngD (aCons ta (aCons tb (aCons tc aNil))) σ W QI = ta σ W fun _ d W1 => tb σ W1 fun _ e W2 => tc σ W2 fun _ f W3 => isI d fun i => isI e fun j => isI f fun k => k = -1 ∧ (-(2 ^ 62) ≤ i ∧ i < 2 ^ 62 ∧ -(2 ^ 62) ≤ j ∧ j < 2 ^ 62) ∧ QI (downTo i (i - j).toNat) W3 := by
  unfold sRngD aCons aNil
  congr 1; funext t x W1
  congr 1; funext t2 y W2
  congr 1; funext t3 w W3
  cases x with
  | int i =>
    cases y with
    | int j =>
      cases w with
      | int k =>
        by_cases e : k = -1
        · subst e
          simp only [isI, true_and]
        · simp only [isI, e, false_and]
          split
          · rename_i h; simp only [List.cons.injEq, Prod.mk.injEq, D.int.injEq] at h; exact absurd h.2.2.1.2 e
          · rfl
      | _ => rfl
    | _ => cases w <;> rfl
  | _ => cases y <;> cases w <;> rfl
theorem tgD_name {k : Nat} {P : SG → Prop} : tgD (.name k) t d σ P = (sto t d ∧ P (σ.set k (some (.val d)))) := Eq.trans rfl rfl
theorem tgD_tup {is : List Nat} {P : SG → Prop} : tgD (.tup is) t (.tup a) σ P = (a.length = is.length ∧ est t a ∧ P (setsD σ is a)) := Eq.trans rfl rfl
theorem tgD_lst {is : List Nat} {P : SG → Prop} : tgD (.tup is) t (.lst a) σ P = (a.length = is.length ∧ est t a ∧ P (setsD σ is a)) := Eq.trans rfl rfl
theorem setsD_cons {k : Nat} {is : List Nat} : setsD σ (k :: is) (d :: a) = setsD (σ.set k (some (.val d))) is a := Eq.trans rfl rfl
theorem setsD_nil : setsD σ [] a = σ := by cases a <;> rfl
theorem ownOf_ml {P : SV → Prop} : ownOf .fr (.lst a) P = P (.ml a) := Eq.trans rfl rfl
theorem ownOf_mg {P : SV → Prop} : ownOf .fr2 (.lst a) P = ∃ rows : List (List D), a = rows.map D.lst ∧ P (.mg rows) := Eq.trans rfl rfl
theorem frzV_val : frzO (some (.val d)) = some (.val d) := Eq.trans rfl rfl
theorem frzV_ml : frzO (some (.ml a)) = some (.val (.lst a)) := Eq.trans rfl rfl
theorem frzV_mg : frzO (some (.mg g)) = some (.val (.lst (g.map D.lst))) := Eq.trans rfl rfl
theorem frzV_md {kvs : List (D × D)} : frzO (some (.md kvs)) = none := Eq.trans rfl rfl
theorem frzV_lk {g : Addr × Obj × List Ent} {kvs : List (D × D)} : frzO (some (.lk g kvs)) = some (.val (.dct kvs)) := Eq.trans rfl rfl
theorem frzV_no : frzO none = none := Eq.trans rfl rfl
theorem sApp_ml {k : Nat} {E : SEnds} (h : σ[k]? = some (some (.ml a))) : sApp k ta E σ W = ta σ W fun g d W1 => sto g d ∧ a.length < sizeLine ∧ E.nx (σ.set k (some (.ml (a ++ [d])))) W1 := by
  unfold sApp
  rw [h]
theorem sPut2_mg {k : Nat} {E : SEnds} (h : σ[k]? = some (some (.mg g))) : sPut2 k ta tb tc E σ W = tc σ W fun t d W1 => ta σ W1 fun _ r W2 => atRow g r fun j row => tb σ W2 fun _ c W3 => sto t d ∧ putML row c d fun row' => E.nx (σ.set k (some (.mg (g.set j row')))) W3 := by
  unfold sPut2
  rw [h]
theorem sPut_ml {k : Nat} {E : SEnds} (h : σ[k]? = some (some (.ml a))) : sPut k ta tb E σ W = tb σ W fun g d W1 => ta σ W1 fun _ k2 W2 => sto g d ∧ putML a k2 d fun ds' => E.nx (σ.set k (some (.ml ds'))) W2 := by
  unfold sPut
  rw [h]
theorem sVar_hit {k : Nat} {x : SV} (h : σ[k]? = some (some x)) : sVar k σ W Q = sv x fun t d => Q t d W := by
  unfold sVar
  rw [h]
theorem frz_ml {k : Nat} {P : SG → Prop} (h : σ[k]? = some (some (.ml a))) : frz k σ P = P (σ.set k (some (.val (.lst a)))) := by
  unfold frz
  rw [h]
theorem frz_mg {k : Nat} {P : SG → Prop} (h : σ[k]? = some (some (.mg g))) : frz k σ P = P (σ.set k (some (.val (.lst (g.map D.lst))))) := by
  unfold frz
  rw [h]
theorem ixN_0 {n : Nat} (h : 0 < n) : ixN n 0 = some 0 := ixN_nat (i := 0) h
theorem putML_rng {n k : Nat} {f : Nat → D} {P : List D → Prop} (h : k < n) : putML ((List.range n).map f) (.int (k : Nat)) d P = P ((List.range n).map fun j => if j = k then d else f j) := by
  unfold putML
  simp only [List.length_map, List.length_range]
  rw [ex_some (ixN_nat h), set_rng]
theorem atRow_rng {n k : Nat} {f : Nat → List D} {P : Nat → List D → Prop} (h : k < n) : atRow ((List.range n).map f) (.int (k : Nat)) P = P k (f k) := by
  unfold atRow
  simp only [List.length_map, List.length_range]
  refine propext ⟨fun ⟨j, row, e1, e2, e3⟩ => ?_, fun h3 => ⟨k, f k, ixN_nat h, by rw [List.getElem?_map, List.getElem?_range h]; rfl, h3⟩⟩
  rw [ixN_nat h] at e1
  cases e1
  rw [List.getElem?_map, List.getElem?_range h] at e2
  cases e2
  exact e3
end
/-- one statement, the rest out of sight -/
theorem stp {t u : SS} {E : SEnds} {σ : SG} {W : Wd} (h : ∀ K : SG → Wd → Prop, (∀ σ W, u E σ W → K σ W) → t { E with nx := K } σ W) : sSeq t u E σ W := h _ fun _ _ q => q
/-- a test, the branches out of sight -/
theorem ifs {c : SB} {t u : SS} {E : SEnds} {σ : SG} {W : Wd} (h : ∀ Q : Bool → Wd → Prop, (∀ W, t E σ W → Q true W) → (∀ W, u E σ W → Q false W) → c σ W Q) : sIfS c t u E σ W :=
  h _ (fun _ q => by rw [if_pos rfl]; exact q) fun _ q => by rw [if_neg (by decide)]; exact q
theorem br {P : Prop} [Decidable P] {Q : Bool → Wd → Prop} {W : Wd} (h1 : P → Q true W) (h2 : ¬P → Q false W) : Q (decide P) W := by
  by_cases h : P
  · rw [decide_eq_true h]; exact h1 h
  · rw [decide_eq_false h]; exact h2 h
theorem brn {P : Prop} [Decidable P] {Q : Bool → Wd → Prop} {W : Wd} (h1 : ¬P → Q true W) (h2 : P → Q false W) : Q (!decide P) W := by
  by_cases h : P
  · rw [decide_eq_true h]; exact h2 h
  · rw [decide_eq_false h]; exact h1 h
theorem brb {b : Bool} {Q : Bool → Wd → Prop} {W : Wd} (h1 : b = true → Q true W) (h2 : b = false → Q false W) : Q b W := by
  cases b
  · exact h2 rfl
  · exact h1 rfl
theorem isTy_same {n : String} : isTy n n = true := by unfold isTy; simp
theorem ty_NoneType_bool : isTy "NoneType" "bool" = false := by decide
theorem ty_NoneType_int : isTy "NoneType" "int" = false := by decide
theorem ty_NoneType_str : isTy "NoneType" "str" = false := by decide
theorem ty_NoneType_tuple : isTy "NoneType" "tuple" = false := by decide
theorem ty_NoneType_list : isTy "NoneType" "list" = false := by decide
theorem ty_NoneType_dict : isTy "NoneType" "dict" = false := by decide
theorem ty_bool_bool : isTy "bool" "bool" = true := by decide
theorem ty_bool_int : isTy "bool" "int" = true := by decide
theorem ty_bool_str : isTy "bool" "str" = false := by decide
theorem ty_bool_tuple : isTy "bool" "tuple" = false := by decide
theorem ty_bool_list : isTy "bool" "list" = false := by decide
theorem ty_bool_dict : isTy "bool" "dict" = false := by decide
theorem ty_int_bool : isTy "int" "bool" = false := by decide
theorem ty_int_int : isTy "int" "int" = true := by decide
theorem ty_int_str : isTy "int" "str" = false := by decide
theorem ty_int_tuple : isTy "int" "tuple" = false := by decide
theorem ty_int_list : isTy "int" "list" = false := by decide
theorem ty_int_dict : isTy "int" "dict" = false := by decide
theorem ty_str_bool : isTy "str" "bool" = false := by decide
theorem ty_str_int : isTy "str" "int" = false := by decide
theorem ty_str_str : isTy "str" "str" = true := by decide
theorem ty_str_tuple : isTy "str" "tuple" = false := by decide
theorem ty_str_list : isTy "str" "list" = false := by decide
theorem ty_str_dict : isTy "str" "dict" = false := by decide
theorem ty_tuple_bool : isTy "tuple" "bool" = false := by decide
theorem ty_tuple_int : isTy "tuple" "int" = false := by decide
theorem ty_tuple_str : isTy "tuple" "str" = false := by decide
theorem ty_tuple_tuple : isTy "tuple" "tuple" = true := by decide
theorem ty_tuple_list : isTy "tuple" "list" = false := by decide
theorem ty_tuple_dict : isTy "tuple" "dict" = false := by decide
theorem ty_list_bool : isTy "list" "bool" = false := by decide
theorem ty_list_int : isTy "list" "int" = false := by decide
theorem ty_list_str : isTy "list" "str" = false := by decide
theorem ty_list_tuple : isTy "list" "tuple" = false := by decide
theorem ty_list_list : isTy "list" "list" = true := by decide
theorem ty_list_dict : isTy "list" "dict" = false := by decide
theorem ty_dict_bool : isTy "dict" "bool" = false := by decide
theorem ty_dict_int : isTy "dict" "int" = false := by decide
theorem ty_dict_str : isTy "dict" "str" = false := by decide
theorem ty_dict_tuple : isTy "dict" "tuple" = false := by decide
theorem ty_dict_list : isTy "dict" "list" = false := by decide
theorem ty_dict_dict : isTy "dict" "dict" = true := by decide
theorem flats_ints (l : List Int) : flats (l.map D.int) = true := by
  induction l with
  | nil => rfl
  | cons x l ih => simp [flats, flat, ih]
theorem flats_of {l : List D} (h : ∀ d ∈ l, flat d = true) : flats l = true := by
  induction l with
  | nil => rfl
  | cons x l ih =>
    simp only [flats, Bool.and_eq_true]
    exact ⟨h x (by simp), ih fun d m => h d (by simp [m])⟩
theorem flats_iff {l : List D} : flats l = true ↔ ∀ d ∈ l, flat d = true := by
  refine ⟨?_, flats_of⟩
  induction l with
  | nil => simp
  | cons x l ih =>
    simp only [flats, Bool.and_eq_true]
    intro h d m
    cases m with
    | head => exact h.1
    | tail _ m => exact ih h.2 d m
theorem flats_map {α : Type} {l : List α} {f : α → D} (h : ∀ x, flat (f x) = true) : flats (l.map f) = true := flats_of fun d m => by
  obtain ⟨x, _, rfl⟩ := List.mem_map.mp m
  exact h x

/-! ### each combinator, with all it takes -/
section
variable {d : D} {σ : SG} {W : Wd} {Q : Tg → D → Wd → Prop} {QB : Bool → Wd → Prop} {QI : List D → Wd → Prop} {QA : List (Tg × D) → Wd → Prop} {QP : Option Int → Wd → Prop} {ta tb tc : SE} {u v : SB} {sa : SA} {it it1 : SI} {f : OpD} {fu : UnD} {fn : FnD} {i n : Nat} {sp : DSp} {lo hi : SPt} {E : SEnds} {s t : SS} {tg tg1 : TgF} {vs vs1 : List Nat} {two : Bool} {R : Tg → D → Prop} {ds : List (Tg × D)}
theorem x_C : sC d σ W Q = Q .st d W := Eq.trans rfl rfl
theorem x_Bin : sBin f ta tb σ W Q = ta σ W fun t x W1 => tb σ W1 fun u y W2 => f t x u y fun g d => Q g d W2 := Eq.trans rfl rfl
theorem x_Un : sUn fu ta σ W Q = ta σ W fun t x W1 => fu t x fun g d => Q g d W1 := Eq.trans rfl rfl
theorem x_Fn : sFn fn sa σ W Q = sa σ W fun ds W1 => fn ds fun g d => Q g d W1 := Eq.trans rfl rfl
theorem x_aNil : aNil σ W QA = QA [] W := Eq.trans rfl rfl
theorem x_aCons : aCons ta sa σ W QA = ta σ W fun g d W1 => sa σ W1 fun ds W2 => QA ((g, d) :: ds) W2 := Eq.trans rfl rfl
theorem x_Var : sVar i σ W Q = match σ[i]? with | some (some x) => sv x fun t d => Q t d W | _ => False := Eq.trans rfl rfl
theorem x_Call : sCall n sp sa σ W Q = sa σ W fun ds W1 => ds.length = n ∧ sp (ds.map (·.2)) W1 fun tg d W2 => Q (callTag (allSto ds) d tg) d W2 := Eq.trans rfl rfl
theorem x_Lc : sLc two it tg u ta vs σ W Q = it σ W fun items W1 => compD tg u ta (okC two) items (wipeD σ vs) [] W1 fun ds W2 => Q (if two = true then .fr2 else .fr) (.lst ds) W2 := Eq.trans rfl rfl
theorem x_Lc2 : sLc2 it tg u it1 tg1 v ta vs vs1 σ W Q = it σ W fun items W1 => comp2D tg u it1 tg1 v ta vs1 items (wipeD σ vs) [] W1 fun ds W2 => Q .fr (.lst ds) W2 := Eq.trans rfl rfl
theorem x_If : sIf u ta tb σ W Q = u σ W fun c W1 => if c = true then ta σ W1 Q else tb σ W1 Q := Eq.trans rfl rfl
theorem x_Sl : sSl ta lo hi σ W Q = ta σ W fun t x W1 => lo σ W1 fun l W2 => hi σ W2 fun u W3 => dSl t x l u fun g d => Q g d W3 := Eq.trans rfl rfl
theorem x_pN : spN σ W QP = QP none W := Eq.trans rfl rfl
theorem x_Bor : sBor ta σ W Q = ta (frzAll σ) W fun g d W1 => Q (borTag g d) d W1 := Eq.trans rfl rfl
theorem x_Iter : sIter ta σ W QI = ta σ W fun g d W1 => itemsOf g d fun ds => QI ds W1 := Eq.trans rfl rfl
theorem x_And : bAnd u v σ W QB = u σ W fun c W1 => if c = true then v σ W1 QB else QB false W1 := Eq.trans rfl rfl
theorem x_Or : bOr u v σ W QB = u σ W fun c W1 => if c = true then QB true W1 else v σ W1 QB := Eq.trans rfl rfl
theorem x_Not : bNot u σ W QB = u σ W fun c W1 => QB (!c) W1 := Eq.trans rfl rfl
theorem x_Yes : bYes σ W QB = QB true W := Eq.trans rfl rfl
theorem x_Nil : sNil E σ W = E.nx σ W := Eq.trans rfl rfl
theorem x_Pass : sPass E σ W = E.nx σ W := Eq.trans rfl rfl
theorem x_Own : sOwn i ta E σ W = ta σ W fun g d W1 => ownOf g d fun sv => E.nx (σ.set i (some sv)) W1 := Eq.trans rfl rfl
theorem x_Set : sSet i ta E σ W = ta σ W fun g d W1 => sto g d ∧ E.nx (σ.set i (some (.val d))) W1 := Eq.trans rfl rfl
theorem x_For : sFor it tg s E σ W = it σ W fun items W1 => forD tg s items E σ W1 := Eq.trans rfl rfl
theorem x_Ret : sRet ta E σ W = ta σ W fun g d W1 => E.rt (retTag g) d W1 := Eq.trans rfl rfl
theorem x_Asg : sAsg tg ta E σ W = ta σ W fun g d W1 => tgD tg g d σ fun σ' => E.nx σ' W1 := Eq.trans rfl rfl
theorem x_App : sApp i ta E σ W = match σ[i]? with
  | some (some (.ml ds)) => ta σ W fun g d W1 => sto g d ∧ ds.length < sizeLine ∧ E.nx (σ.set i (some (.ml (ds ++ [d])))) W1
  | _ => False := Eq.trans rfl rfl
theorem x_Put : sPut i ta tb E σ W = match σ[i]? with
  | some (some (.ml ds)) => tb σ W fun g d W1 => ta σ W1 fun _ k W2 => sto g d ∧ putML ds k d fun ds' => E.nx (σ.set i (some (.ml ds'))) W2
  | _ => False := Eq.trans rfl rfl
theorem x_Put2 : sPut2 i ta tb tc E σ W = match σ[i]? with
  | some (some (.mg g)) => tc σ W fun t d W1 => ta σ W1 fun _ r W2 => atRow g r fun j row => tb σ W2 fun _ c W3 => sto t d ∧ putML row c d fun row' => E.nx (σ.set i (some (.mg (g.set j row')))) W3
  | _ => False := Eq.trans rfl rfl
theorem x_Drop : sDrop ta E σ W = ta σ W fun _ _ W1 => E.nx σ W1 := Eq.trans rfl rfl
theorem x_Break : sBreak E σ W = E.bk σ W := Eq.trans rfl rfl
theorem x_Cont : sCont E σ W = E.ct σ W := Eq.trans rfl rfl
theorem x_RetN : sRetN E σ W = E.rt .st .non W := Eq.trans rfl rfl
theorem x_Seq : sSeq s t E σ W = s { E with nx := t E } σ W := Eq.trans rfl rfl
theorem x_IfS : sIfS u s t E σ W = u σ W fun b W1 => if b = true then s E σ W1 else t E σ W1 := Eq.trans rfl rfl
theorem x_Tup : dTup ds R = (ds.length ≤ sizeLine ∧ R (if allSto ds = true then .st else .b2) (.tup (ds.map (·.2)))) := Eq.trans rfl rfl
theorem x_Lst : dLst ds R = (ds.length ≤ sizeLine ∧ R (if allSto ds = true then .fr else .b2) (.lst (ds.map (·.2)))) := Eq.trans rfl rfl
theorem x_frz {P : SG → Prop} : frz i σ P = match σ[i]? with
  | some (some (.ml ds)) => P (σ.set i (some (.val (.lst ds))))
  | some (some (.mg g)) => P (σ.set i (some (.val (.lst (g.map D.lst)))))
  | some (some (.val d)) => P (σ.set i (some (.val d)))
  | _ => False := Eq.trans rfl rfl
theorem x_Ghost {g : SG → (SG → Prop) → Prop} : sGhost g s E σ W = g σ fun σ' => s E σ' W := Eq.trans rfl rfl
theorem flat_lst {a : List D} : flat (.lst a) = false := Eq.trans rfl rfl
theorem whl {E : SEnds} {c : SB} {body : SS} {σ : SG} {W : Wd} (I : Nat → SG → Wd → Prop) (m : Nat) (h0 : I m σ W) (hs : ∀ m σ W (k : SG → Wd → Prop), I m σ W → (∀ m' σ W, m' < m → I m' σ W → k σ W) → c σ W fun b W1 => if b = true then body { E with nx := k, ct := k, bk := E.nx } σ W1 else E.nx σ W1) : sWhile c body E σ W :=
  ⟨I, ⟨m, h0⟩, fun m σ W h => hs m σ W _ h fun m' σ' W' l h' => ⟨m', l, h'⟩⟩
theorem x_Best_lst {le : Int → Int → Prop} {g : Tg} {xs : List D} : dBest le [(g, .lst xs)] R = ∃ ns : List Int, xs = ns.map D.int ∧ 0 < ns.length ∧ ∀ m, m ∈ ns → (∀ y, y ∈ ns → le y m) → R .st (.int m) := Eq.trans rfl rfl
theorem x_Best_tup {le : Int → Int → Prop} {g : Tg} {xs : List D} : dBest le [(g, .tup xs)] R = ∃ ns : List Int, xs = ns.map D.int ∧ 0 < ns.length ∧ ∀ m, m ∈ ns → (∀ y, y ∈ ns → le y m) → R .st (.int m) := Eq.trans rfl rfl
theorem x_ok1 {g : Tg} {d : D} : okC true g d = (g = .fr ∧ ∃ row, d = .lst row) := Eq.trans rfl rfl
theorem x_ok2 {g : Tg} {d : D} : okC false g d = sto g d := Eq.trans rfl rfl
end
end VL

set_option maxHeartbeats 4000000
/-! VL17: data that may be compared; what the laws share; charts of ints; squares. -/
namespace VL
open PySem PySem.Spec PyProof.Rows L2
def b_same (again : DSp) : SS := sSeq (sIfS (bOr (sTest (sUn (dIsi "tuple") (sVar 1))) (sTest (sUn (dIsi "list") (sVar 1)))) (sSeq (sIfS (bOr (bAnd (sTest (sUn (dIsi "tuple") (sVar 1))) (bNot (sTest (sUn (dIsi "tuple") (sVar 0))))) (bAnd (sTest (sUn (dIsi "list") (sVar 1))) (bNot (sTest (sUn (dIsi "list") (sVar 0)))))) (sRet (sC (.bl false))) (sNil)) (sSeq (sIfS (sTest (sBin dNe (sFn dLen (aCons (sVar 0) (aNil))) (sFn dLen (aCons (sVar 1) (aNil))))) (sRet (sC (.bl false))) (sNil)) (sSeq (sFor (sRng1 (aCons (sFn dLen (aCons (sVar 1) (aNil))) (aNil))) (.name 2) (sIfS (bNot (sTest (sCall 2 again (aCons (sBin dIx (sVar 0) (sVar 2)) (aCons (sBin dIx (sVar 1) (sVar 2)) (aNil)))))) (sRet (sC (.bl false))) (sNil))) (sRet (sC (.bl true)))))) (sNil)) (sSeq (sIfS (bOr (sTest (sUn (dIsi "bool") (sVar 0))) (sTest (sUn (dIsi "bool") (sVar 1)))) (sRet (sAnd (sUn (dIsi "bool") (sVar 0)) (sAnd (sUn (dIsi "bool") (sVar 1)) (sBin dEq (sVar 0) (sVar 1))))) (sNil)) (sSeq (sIfS (sTest (sUn (dIsi "int") (sVar 1))) (sRet (sAnd (sUn (dIsi "int") (sVar 0)) (sBin dEq (sVar 0) (sVar 1)))) (sNil)) (sSeq (sIfS (sTest (sUn (dIsi "str") (sVar 1))) (sRet (sAnd (sUn (dIsi "str") (sVar 0)) (sBin dEq (sVar 0) (sVar 1)))) (sNil)) (sRet (sAnd (sBin dIs (sVar 0) (sC .non)) (sBin dIs (sVar 1) (sC .non)))))))
def spSame : Nat → DSp
  | 0 => fun _ _ _ => False
  | n + 1 => mkSp 3 (b_same (spSame n))
def b_bool : SS := sRet (sAnd (sUn (dIsi "bool") (sVar 0)) (sBin dEq (sVar 0) (sVar 1)))
def spBool : DSp := mkSp 2 b_bool
/-- data of ints, texts and None (b: bools, too), no deeper than n -/
def fits (b : Bool) : Nat → D → Prop
  | _, .non => True
  | _, .bl _ => b = true
  | _, .int _ => True
  | _, .str z => PyData.strOk z = true
  | n + 1, .tup ds => ds.length < 2 ^ 62 ∧ ∀ d ∈ ds, fits b n d
  | n + 1, .lst ds => ds.length < 2 ^ 62 ∧ ∀ d ∈ ds, fits b n d
  | _, _ => False
theorem fits_int {b : Bool} {n : Nat} {i : Int} : fits b n (.int i) := by unfold fits; cases n <;> trivial
theorem fits_non {b : Bool} {n : Nat} : fits b n .non := by unfold fits; cases n <;> trivial
theorem fits_bl {n : Nat} {i : Bool} : fits true n (.bl i) := by unfold fits; cases n <;> rfl
theorem fits_str {b : Bool} {n : Nat} {z : Str} (h : PyData.strOk z = true) : fits b n (.str z) := by unfold fits; cases n <;> exact h
theorem fits_tup {b : Bool} {n : Nat} {ds : List D} (h1 : ds.length < 2 ^ 62) (h : ∀ d ∈ ds, fits b n d) : fits b (n + 1) (.tup ds) := by unfold fits; exact ⟨h1, h⟩
theorem fits_lst {b : Bool} {n : Nat} {ds : List D} (h1 : ds.length < 2 ^ 62) (h : ∀ d ∈ ds, fits b n d) : fits b (n + 1) (.lst ds) := by unfold fits; exact ⟨h1, h⟩
theorem fits_tupM {α : Type} {b : Bool} {n : Nat} {l : List α} {f : α → D} (h1 : l.length < 2 ^ 62) (h : ∀ x ∈ l, fits b n (f x)) : fits b (n + 1) (.tup (l.map f)) :=
  fits_tup (by simpa using h1) fun d m => by obtain ⟨x, hx, rfl⟩ := List.mem_map.mp m; exact h x hx
theorem fits_lstM {α : Type} {b : Bool} {n : Nat} {l : List α} {f : α → D} (h1 : l.length < 2 ^ 62) (h : ∀ x ∈ l, fits b n (f x)) : fits b (n + 1) (.lst (l.map f)) :=
  fits_lst (by simpa using h1) fun d m => by obtain ⟨x, hx, rfl⟩ := List.mem_map.mp m; exact h x hx
theorem fits_up {b : Bool} : ∀ {n : Nat} {d : D}, fits b n d → fits b (n + 1) d
  | n, .non, _ => fits_non
  | n, .bl _, h => by unfold fits at h ⊢; cases n <;> exact h
  | n, .int _, _ => fits_int
  | n, .str _, h => by unfold fits at h ⊢; cases n <;> exact h
  | 0, .tup ds, h => by unfold fits at h; exact h.elim
  | 0, .lst ds, h => by unfold fits at h; exact h.elim
  | n + 1, .tup ds, h => by
    unfold fits at h
    exact fits_tup h.1 fun d m => fits_up (h.2 d m)
  | n + 1, .lst ds, h => by
    unfold fits at h
    exact fits_lst h.1 fun d m => fits_up (h.2 d m)
  | n, .dct _, h => by cases n <;> (unfold fits at h; exact h.elim)
  | n, .deal _, h => by cases n <;> (unfold fits at h; exact h.elim)
  | n, .fn _, h => by cases n <;> (unfold fits at h; exact h.elim)
  | n, .scr _, h => by cases n <;> (unfold fits at h; exact h.elim)
theorem fits_le {b : Bool} {n m : Nat} {d : D} (h : fits b n d) (l : n ≤ m) : fits b m d := by
  obtain ⟨k, rfl⟩ := Nat.le.dest l
  induction k with
  | zero => exact h
  | succ k ih => exact fits_up (ih (Nat.le_add_right _ _))
theorem fits_b {b : Bool} : ∀ {n : Nat} {d : D}, fits false n d → fits b n d
  | n, .non, _ => fits_non
  | n, .bl _, h => by cases n <;> (unfold fits at h; exact nomatch h)
  | n, .int _, _ => fits_int
  | n, .str _, h => by unfold fits at h ⊢; cases n <;> exact h
  | 0, .tup ds, h => by unfold fits at h; exact h.elim
  | 0, .lst ds, h => by unfold fits at h; exact h.elim
  | n + 1, .tup ds, h => by
    unfold fits at h
    exact fits_tup h.1 fun d m => fits_b (h.2 d m)
  | n + 1, .lst ds, h => by
    unfold fits at h
    exact fits_lst h.1 fun d m => fits_b (h.2 d m)
  | n, .dct _, h => by cases n <;> (unfold fits at h; exact h.elim)
  | n, .deal _, h => by cases n <;> (unfold fits at h; exact h.elim)
  | n, .fn _, h => by cases n <;> (unfold fits at h; exact h.elim)
  | n, .scr _, h => by cases n <;> (unfold fits at h; exact h.elim)
theorem pyOks_of {l : List D} (h : ∀ d ∈ l, pyOk d = true) : pyOks l = true := by
  induction l with
  | nil => rfl
  | cons x l ih =>
    simp only [pyOks, Bool.and_eq_true]
    exact ⟨h x (by simp), ih fun d m => h d (by simp [m])⟩
theorem lay_of {l : List D} (h : ∀ d ∈ l, (py d).canLay0 = true) : PyData.canLayAll0 (pys l) = true := by
  induction l with
  | nil => rfl
  | cons x l ih =>
    simp only [pys, PyData.canLayAll0, Bool.and_eq_true]
    exact ⟨h x (by simp), ih fun d m => h d (by simp [m])⟩
theorem depth_of {n : Nat} {l : List D} (h : ∀ d ∈ l, (py d).depth ≤ n) : PyData.depthAll (pys l) ≤ n := by
  induction l with
  | nil => simp [pys, PyData.depthAll]
  | cons x l ih =>
    simp only [pys, PyData.depthAll]
    have h1 := h x (by simp)
    have h2 := ih fun d m => h d (by simp [m])
    omega
theorem fits_shape {b : Bool} : ∀ {n : Nat} {d : D}, fits b n d → pyOk d = true ∧ (py d).canLay0 = true ∧ (py d).depth ≤ n
  | n, .non, _ => ⟨rfl, rfl, by simp [py, PyData.depth]⟩
  | n, .bl _, h => ⟨rfl, rfl, by simp [py, PyData.depth]⟩
  | n, .int _, _ => ⟨rfl, rfl, by simp [py, PyData.depth]⟩
  | n, .str _, h => ⟨rfl, by cases n <;> (unfold fits at h; exact h), by simp [py, PyData.depth]⟩
  | 0, .tup ds, h => by unfold fits at h; exact h.elim
  | 0, .lst ds, h => by unfold fits at h; exact h.elim
  | n + 1, .tup ds, h => by
    unfold fits at h
    have hh := fun d m => fits_shape (h.2 d m)
    refine ⟨pyOks_of fun d m => (hh d m).1, lay_of fun d m => (hh d m).2.1, ?_⟩
    have := depth_of fun d m => (hh d m).2.2
    simp only [py, PyData.depth]
    omega
  | n + 1, .lst ds, h => by
    unfold fits at h
    have hh := fun d m => fits_shape (h.2 d m)
    refine ⟨pyOks_of fun d m => (hh d m).1, lay_of fun d m => (hh d m).2.1, ?_⟩
    have := depth_of fun d m => (hh d m).2.2
    simp only [py, PyData.depth]
    omega
  | n, .dct _, h => by cases n <;> (unfold fits at h; exact h.elim)
  | n, .deal _, h => by cases n <;> (unfold fits at h; exact h.elim)
  | n, .fn _, h => by cases n <;> (unfold fits at h; exact h.elim)
  | n, .scr _, h => by cases n <;> (unfold fits at h; exact h.elim)
theorem fits_eqOk {b : Bool} {n : Nat} {d : D} (h : fits b n d) (hn : n ≤ 64 := by decide) : eqOk d := by
  obtain ⟨a, l, e⟩ := fits_shape h
  refine ⟨a, ?_⟩
  unfold SeqAt.shaped
  rw [l, decide_eq_true (by omega)]
  rfl
theorem deqs_of {n m : Nat} (ih : ∀ {x y : D}, fits false n x → fits false m y → (deq x y = true ↔ x = y)) : ∀ {a b : List D}, (∀ d ∈ a, fits false n d) → (∀ d ∈ b, fits false m d) → (PyData.eqvAll (pys a) (pys b) = true ↔ a = b)
  | [], [], _, _ => by simp [pys, PyData.eqvAll]
  | [], _ :: _, _, _ => by simp [pys, PyData.eqvAll]
  | _ :: _, [], _, _ => by simp [pys, PyData.eqvAll]
  | x :: a, y :: b, ha, hb => by
    simp only [pys, PyData.eqvAll, Bool.and_eq_true, List.cons.injEq]
    have h1 : PyData.eqv (py x) (py y) = true ↔ x = y := ih (ha x (by simp)) (hb y (by simp))
    rw [h1, deqs_of ih (fun d m => ha d (by simp [m])) fun d m => hb d (by simp [m])]
theorem deq_iff : ∀ {n m : Nat} {x y : D}, fits false n x → fits false m y → (deq x y = true ↔ x = y)
  | n, m, x, y, hx, hy => by
    have hs : ∀ {z : D} {k : Nat}, fits false k z → (z = .non ∨ (∃ i, z = .int i) ∨ (∃ w, z = .str w) ∨ (∃ k' a, k = k' + 1 ∧ z = .tup a ∧ ∀ d ∈ a, fits false k' d) ∨ ∃ k' a, k = k' + 1 ∧ z = .lst a ∧ ∀ d ∈ a, fits false k' d) := fun {z k} h => by
      cases z with
      | non => exact .inl rfl
      | int i => exact .inr (.inl ⟨i, rfl⟩)
      | str w => exact .inr (.inr (.inl ⟨w, rfl⟩))
      | tup a =>
        cases k with
        | zero => unfold fits at h; exact h.elim
        | succ k => unfold fits at h; exact .inr (.inr (.inr (.inl ⟨k, a, rfl, rfl, h.2⟩)))
      | lst a =>
        cases k with
        | zero => unfold fits at h; exact h.elim
        | succ k => unfold fits at h; exact .inr (.inr (.inr (.inr ⟨k, a, rfl, rfl, h.2⟩)))
      | bl b => cases k <;> (unfold fits at h; cases h)
      | dct a => cases k <;> (unfold fits at h; exact h.elim)
      | deal a => cases k <;> (unfold fits at h; exact h.elim)
      | fn a => cases k <;> (unfold fits at h; exact h.elim)
      | scr a => cases k <;> (unfold fits at h; exact h.elim)
    rcases hs hx with rfl | ⟨i, rfl⟩ | ⟨w, rfl⟩ | ⟨n', a, rfl, rfl, ha⟩ | ⟨n', a, rfl, rfl, ha⟩ <;> rcases hs hy with rfl | ⟨j, rfl⟩ | ⟨w', rfl⟩ | ⟨m', b, rfl, rfl, hb⟩ | ⟨m', b, rfl, rfl, hb⟩ <;> first
      | (unfold deq; simp [py, PyData.eqv]; done)
      | (unfold deq
         simp only [py, PyData.eqv, D.tup.injEq, D.lst.injEq]
         exact deqs_of (fun hx hy => deq_iff hx hy) ha hb)
termination_by n => n
theorem deq_eq {n m : Nat} {x y : D} (hx : fits false n x) (hy : fits false m y) [Decidable (x = y)] : deq x y = decide (x = y) := by
  by_cases h : x = y
  · rw [decide_eq_true h]; exact (deq_iff hx hy).mpr h
  · rw [decide_eq_false h]
    cases e : deq x y with
    | false => rfl
    | true => exact absurd ((deq_iff hx hy).mp e) h
end VL

/-! ML1: defs as plain functions: what may fail and may draw; data and their encodings. -/
namespace VL
open PySem PySem.Spec PyProof.Rows L2

/-! ### what may fail, and may draw -/
def M (α : Type) : Type := Wd → Option (α × Wd)
namespace M
variable {α β γ : Type}
def run (m : M α) (W : Wd) : Option (α × Wd) := m W
def ret (a : α) : M α := fun W => some (a, W)
def bnd (m : M α) (k : α → M β) : M β := fun W => match m W with
  | some (a, W1) => k a W1
  | none => none
def fail : M α := fun _ => none
instance : Monad M where
  pure := ret
  bind := bnd
theorem bnd_run {m : M α} {k : α → M β} {W : Wd} : (m >>= k).run W = match m.run W with
  | some (a, W1) => (k a).run W1
  | none => none := rfl
theorem pure_run {a : α} {W : Wd} : (pure a : M α).run W = some (a, W) := rfl
theorem fail_run {W : Wd} : (fail : M α).run W = none := rfl
theorem ext {m n : M α} (h : ∀ W, m.run W = n.run W) : m = n := funext h
instance : LawfulMonad M := LawfulMonad.mk' M
  (id_map := fun m => by
    apply ext; intro W
    show (m >>= fun a => pure (id a)).run W = _
    rw [bnd_run]
    cases m.run W with
    | none => rfl
    | some p => rfl)
  (pure_bind := fun a k => rfl)
  (bind_assoc := fun m k l => by
    apply ext; intro W
    rw [bnd_run, bnd_run, bnd_run]
    cases m.run W with
    | none => rfl
    | some p => rfl)
theorem bnd_some {m : M α} {k : α → M β} {W W2 : Wd} {b : β} (h : (m >>= k).run W = some (b, W2)) : ∃ a W1, m.run W = some (a, W1) ∧ (k a).run W1 = some (b, W2) := by
  rw [bnd_run] at h
  cases e : m.run W with
  | none => rw [e] at h; cases h
  | some p => rw [e] at h; exact ⟨p.1, p.2, rfl, h⟩
theorem pure_some {a b : α} {W W2 : Wd} (h : (pure a : M α).run W = some (b, W2)) : b = a ∧ W2 = W := by
  rw [pure_run] at h
  cases h
  exact ⟨rfl, rfl⟩
theorem fail_bind {k : α → M β} : (fail : M α) >>= k = fail := rfl
/-- what must hold, or it fails -/
def chk (p : Prop) [Decidable p] : M Unit := if p then pure () else fail
def ofO : Option α → M α
  | some a => pure a
  | none => fail
theorem chk_pos {p : Prop} [Decidable p] (h : p) : chk p = pure () := if_pos h
theorem ofO_some {a : α} : ofO (some a) = pure a := rfl
theorem chk_some {p : Prop} [Decidable p] {k : M α} {W W2 : Wd} {a : α} (h : (chk p >>= fun _ => k).run W = some (a, W2)) : p ∧ k.run W = some (a, W2) := by
  unfold chk at h
  by_cases q : p
  · rw [if_pos q] at h; exact ⟨q, h⟩
  · rw [if_neg q] at h; cases h
theorem ofO_someE {o : Option α} {W W2 : Wd} {a : α} (h : (ofO o).run W = some (a, W2)) : o = some a ∧ W2 = W := by
  cases o with
  | none => cases h
  | some b => cases h; exact ⟨rfl, rfl⟩
end M

/-! ### the law's draws -/
def take (m : Int) : M Int := fun W => match W with
  | some t => if 0 < m ∧ t.pos < 2 ^ 60 then some (takeV t m, some { t with pos := t.pos + 1 }) else none
  | none => none

/-! ### encodings -/
section
variable {α β γ δ κ : Type}
abbrev eI : Int → D := D.int
abbrev eB : Bool → D := D.bl
abbrev eS : Str → D := D.str
abbrev eX : D → D := fun d => d
def eN : Unit → D := fun _ => .non
def eO (e : α → D) : Option α → D
  | none => .non
  | some a => e a
def eL (e : α → D) (l : List α) : D := .lst (l.map e)
def eT (e : α → D) (l : List α) : D := .tup (l.map e)
def eP (e1 : α → D) (e2 : β → D) (p : α × β) : D := .tup [e1 p.1, e2 p.2]
def e3 (e1 : α → D) (e2 : β → D) (e3 : γ → D) (p : α × β × γ) : D := .tup [e1 p.1, e2 p.2.1, e3 p.2.2]
def e4 (e1 : α → D) (e2 : β → D) (e3 : γ → D) (e4 : δ → D) (p : α × β × γ × δ) : D := .tup [e1 p.1, e2 p.2.1, e3 p.2.2.1, e4 p.2.2.2]
def kvE (ek : κ → D) (ev : α → D) (l : List (κ × α)) : List (D × D) := l.map fun p => (ek p.1, ev p.2)
def eD (ek : κ → D) (ev : α → D) (l : List (κ × α)) : D := .dct (kvE ek ev l)
/-- one's own -/
def oL (e : α → D) (l : List α) : SV := .ml (l.map e)
def oG (e : α → D) (l : List (List α)) : SV := .mg (l.map fun r => r.map e)
def oD (ek : κ → D) (ev : α → D) (l : List (κ × α)) : SV := .md (kvE ek ev l)
def oK (g : Addr × Obj × List Ent) (ek : κ → D) (ev : α → D) (l : List (κ × α)) : SV := .lk g (kvE ek ev l)

/-- flat: nothing in it can change -/
def FlE (e : α → D) : Prop := ∀ a, flat (e a) = true
theorem FlE.i : FlE eI := fun _ => rfl
theorem FlE.b : FlE eB := fun _ => rfl
theorem FlE.s : FlE eS := fun _ => rfl
theorem FlE.n : FlE eN := fun _ => rfl
theorem FlE.o {e : α → D} (h : FlE e) : FlE (eO e) := fun a => by cases a <;> first | rfl | exact h _
theorem FlE.t {e : α → D} (h : FlE e) : FlE (eT e) := fun l => by
  show flats (l.map e) = true
  induction l with
  | nil => rfl
  | cons x l ih => simp [flats, h x, ih]
theorem FlE.p {e1 : α → D} {e2 : β → D} (h1 : FlE e1) (h2 : FlE e2) : FlE (eP e1 e2) := fun p => by
  show flats [_, _] = true
  simp [flats, h1 p.1, h2 p.2]
theorem FlE.p3 {e1 : α → D} {e2 : β → D} {e3' : γ → D} (h1 : FlE e1) (h2 : FlE e2) (h3 : FlE e3') : FlE (e3 e1 e2 e3') := fun p => by
  show flats [_, _, _] = true
  simp [flats, h1 p.1, h2 p.2.1, h3 p.2.2]
theorem FlE.p4 {e1 : α → D} {e2 : β → D} {e3' : γ → D} {e4' : δ → D} (h1 : FlE e1) (h2 : FlE e2) (h3 : FlE e3') (h4 : FlE e4') : FlE (e4 e1 e2 e3' e4') := fun p => by
  show flats [_, _, _, _] = true
  simp [flats, h1 p.1, h2 p.2.1, h3 p.2.2.1, h4 p.2.2.2]

/-- data of ints, texts, None; comparable -/
def fitB : Nat → D → Bool
  | _, .non => true
  | _, .int _ => true
  | _, .str z => PyData.strOk z
  | n + 1, .tup ds => decide (ds.length < 2 ^ 62) && ds.all (fitB n)
  | n + 1, .lst ds => decide (ds.length < 2 ^ 62) && ds.all (fitB n)
  | _, _ => false
theorem fitB_fits : ∀ {n : Nat} {d : D}, fitB n d = true → fits false n d
  | n, .non, _ => fits_non
  | n, .int _, _ => fits_int
  | n, .str _, h => fits_str (by cases n <;> (unfold fitB at h; exact h))
  | 0, .tup _, h => by unfold fitB at h; cases h
  | 0, .lst _, h => by unfold fitB at h; cases h
  | n + 1, .tup ds, h => by
    unfold fitB at h
    simp only [Bool.and_eq_true, decide_eq_true_eq, List.all_eq_true] at h
    exact fits_tup h.1 fun d m => fitB_fits (h.2 d m)
  | n + 1, .lst ds, h => by
    unfold fitB at h
    simp only [Bool.and_eq_true, decide_eq_true_eq, List.all_eq_true] at h
    exact fits_lst h.1 fun d m => fitB_fits (h.2 d m)
  | n, .bl _, h => by cases n <;> (unfold fitB at h; cases h)
  | n, .dct _, h => by cases n <;> (unfold fitB at h; cases h)
  | n, .deal _, h => by cases n <;> (unfold fitB at h; cases h)
  | n, .fn _, h => by cases n <;> (unfold fitB at h; cases h)
  | n, .scr _, h => by cases n <;> (unfold fitB at h; cases h)
/-- encodings that tell data apart -/
def Inj (e : α → D) : Prop := ∀ a b, e a = e b → a = b
theorem Inj.i : Inj eI := fun _ _ h => by cases h; rfl
theorem Inj.b : Inj eB := fun _ _ h => by cases h; rfl
theorem Inj.s : Inj eS := fun _ _ h => by cases h; rfl
theorem Inj.x : Inj eX := fun _ _ h => h
theorem map_inj {e : α → D} (h : Inj e) : ∀ {l m : List α}, l.map e = m.map e → l = m
  | [], [], _ => rfl
  | [], _ :: _, q => by simp at q
  | _ :: _, [], q => by simp at q
  | x :: l, y :: m, q => by
    simp only [List.map_cons, List.cons.injEq] at q
    rw [h _ _ q.1, map_inj h q.2]
theorem Inj.l {e : α → D} (h : Inj e) : Inj (eL e) := fun _ _ q => by
  injection q with q; exact map_inj h q
theorem Inj.t {e : α → D} (h : Inj e) : Inj (eT e) := fun _ _ q => by
  injection q with q; exact map_inj h q
theorem Inj.p {e1 : α → D} {e2 : β → D} (h1 : Inj e1) (h2 : Inj e2) : Inj (eP e1 e2) := fun a b q => by
  unfold eP at q
  simp only [D.tup.injEq, List.cons.injEq, and_true] at q
  exact Prod.ext (h1 _ _ q.1) (h2 _ _ q.2)
theorem Inj.p3 {e1 : α → D} {e2 : β → D} {e3' : γ → D} (h1 : Inj e1) (h2 : Inj e2) (h3 : Inj e3') : Inj (e3 e1 e2 e3') := fun a b q => by
  unfold e3 at q
  simp only [D.tup.injEq, List.cons.injEq, and_true] at q
  exact Prod.ext (h1 _ _ q.1) (Prod.ext (h2 _ _ q.2.1) (h3 _ _ q.2.2))
theorem Inj.p4 {e1 : α → D} {e2 : β → D} {e3' : γ → D} {e4' : δ → D} (h1 : Inj e1) (h2 : Inj e2) (h3 : Inj e3') (h4 : Inj e4') : Inj (e4 e1 e2 e3' e4') := fun a b q => by
  unfold e4 at q
  simp only [D.tup.injEq, List.cons.injEq, and_true] at q
  exact Prod.ext (h1 _ _ q.1) (Prod.ext (h2 _ _ q.2.1) (Prod.ext (h3 _ _ q.2.2.1) (h4 _ _ q.2.2.2)))
/-- never None -/
def NonE (e : α → D) : Prop := ∀ a, isNon (e a) = false
theorem Inj.o {e : α → D} (h : Inj e) (n : NonE e) : Inj (eO e) := fun a b q => by
  cases a with
  | none =>
    cases b with
    | none => rfl
    | some b =>
      have := n b
      rw [← (show D.non = e b from q)] at this
      cases this
  | some a =>
    cases b with
    | none =>
      have := n a
      rw [(show e a = D.non from q)] at this
      cases this
    | some b => rw [h _ _ q]
/-- comparable whatever stands in it -/
def TotE (e : α → D) : Prop := ∀ a, fitB 8 (e a) = true
theorem fitB_up : ∀ {n : Nat} {d : D}, fitB n d = true → fitB (n + 1) d = true
  | n, .non, _ => by unfold fitB; rfl
  | n, .int _, _ => by unfold fitB; rfl
  | n, .str _, h => by cases n <;> (unfold fitB at h ⊢; exact h)
  | 0, .tup _, h => by unfold fitB at h; cases h
  | 0, .lst _, h => by unfold fitB at h; cases h
  | n + 1, .tup ds, h => by
    unfold fitB at h ⊢
    simp only [Bool.and_eq_true, decide_eq_true_eq, List.all_eq_true] at h ⊢
    exact ⟨h.1, fun d m => fitB_up (h.2 d m)⟩
  | n + 1, .lst ds, h => by
    unfold fitB at h ⊢
    simp only [Bool.and_eq_true, decide_eq_true_eq, List.all_eq_true] at h ⊢
    exact ⟨h.1, fun d m => fitB_up (h.2 d m)⟩
  | n, .bl _, h => by cases n <;> (unfold fitB at h; cases h)
  | n, .dct _, h => by cases n <;> (unfold fitB at h; cases h)
  | n, .deal _, h => by cases n <;> (unfold fitB at h; cases h)
  | n, .fn _, h => by cases n <;> (unfold fitB at h; cases h)
  | n, .scr _, h => by cases n <;> (unfold fitB at h; cases h)
def TotN (n : Nat) (e : α → D) : Prop := ∀ a, fitB n (e a) = true
theorem TotN.i : TotN 0 eI := fun _ => by unfold fitB; rfl
theorem TotN.up {n : Nat} {e : α → D} (h : TotN n e) : TotN (n + 1) e := fun a => fitB_up (h a)
theorem TotN.o {n : Nat} {e : α → D} (h : TotN n e) : TotN n (eO e) := fun a => by
  cases a with
  | none => show fitB n .non = true; cases n <;> (unfold fitB; rfl)
  | some a => exact h a
theorem TotN.p {n : Nat} {e1 : α → D} {e2 : β → D} (h1 : TotN n e1) (h2 : TotN n e2) : TotN (n + 1) (eP e1 e2) := fun p => by
  show fitB (n + 1) (.tup [_, _]) = true
  unfold fitB
  simp [h1 p.1, h2 p.2]
theorem TotN.p3 {n : Nat} {e1 : α → D} {e2 : β → D} {e3' : γ → D} (h1 : TotN n e1) (h2 : TotN n e2) (h3 : TotN n e3') : TotN (n + 1) (e3 e1 e2 e3') := fun p => by
  show fitB (n + 1) (.tup [_, _, _]) = true
  unfold fitB
  simp [h1 p.1, h2 p.2.1, h3 p.2.2]
theorem TotN.p4 {n : Nat} {e1 : α → D} {e2 : β → D} {e3' : γ → D} {e4' : δ → D} (h1 : TotN n e1) (h2 : TotN n e2) (h3 : TotN n e3') (h4 : TotN n e4') : TotN (n + 1) (e4 e1 e2 e3' e4') := fun p => by
  show fitB (n + 1) (.tup [_, _, _, _]) = true
  unfold fitB
  simp [h1 p.1, h2 p.2.1, h3 p.2.2.1, h4 p.2.2.2]
theorem TotN.le {n m : Nat} {e : α → D} (h : TotN n e) (l : n ≤ m) : TotN m e := by
  obtain ⟨k, rfl⟩ := Nat.le.dest l
  induction k with
  | zero => exact h
  | succ k ih => exact TotN.up (ih (Nat.le_add_right _ _))
/-- keys of dicts -/
def KeyE (e : κ → D) : Prop := ∃ f : κ → NK, (∀ k, KeyOk (e k) (f k)) ∧ ∀ a b, f a = f b → a = b
end
end VL

/-! ML2: how a transformer is carried by a plain function: expressions. -/
namespace VL
open PySem PySem.Spec PyProof.Rows L2
variable {α β γ δ κ : Type}

/-! ### keys -/
def NkE (n : Nat) (e : α → D) : Prop := ∃ f : α → NK, (∀ a, keyOf (e a) = some (f a) ∧ (f a).depth ≤ n) ∧ ∀ a b, f a = f b → a = b
theorem NkE.i : NkE 0 eI := ⟨fun i => .num i, fun a => ⟨rfl, by simp [NestedKey.depth]⟩, fun a b h => by injection h⟩
theorem NkE.s : NkE 0 eS := ⟨fun i => .text i, fun a => ⟨rfl, by simp [NestedKey.depth]⟩, fun a b h => by injection h⟩
theorem NkE.b : NkE 0 eB := ⟨fun i => .num (if i then 1 else 0), fun a => ⟨rfl, by simp [NestedKey.depth]⟩, fun a b h => by
  injection h with h
  cases a <;> cases b <;> first | rfl | (simp at h)⟩
theorem NkE.p {n : Nat} {e1 : α → D} {e2 : β → D} (h1 : NkE n e1) (h2 : NkE n e2) : NkE (n + 1) (eP e1 e2) := by
  obtain ⟨f, a1, i1⟩ := h1
  obtain ⟨g, a2, i2⟩ := h2
  refine ⟨fun p => .tup [f p.1, g p.2], fun p => ⟨?_, ?_⟩, fun p q h => ?_⟩
  · show keyOf (.tup [e1 p.1, e2 p.2]) = _
    simp [keyOf, keysOf, (a1 p.1).1, (a2 p.2).1]
  · have := (a1 p.1).2
    have := (a2 p.2).2
    simp only [NestedKey.depth, NestedKey.depthAll]
    omega
  · simp only [NestedKey.tup.injEq, List.cons.injEq, and_true] at h
    exact Prod.ext (i1 _ _ h.1) (i2 _ _ h.2)
theorem NkE.p3 {n : Nat} {e1 : α → D} {e2 : β → D} {e3' : γ → D} (h1 : NkE n e1) (h2 : NkE n e2) (h3 : NkE n e3') : NkE (n + 1) (e3 e1 e2 e3') := by
  obtain ⟨f, a1, i1⟩ := h1
  obtain ⟨g, a2, i2⟩ := h2
  obtain ⟨k, a3, i3⟩ := h3
  refine ⟨fun p => .tup [f p.1, g p.2.1, k p.2.2], fun p => ⟨?_, ?_⟩, fun p q h => ?_⟩
  · show keyOf (.tup [e1 p.1, e2 p.2.1, e3' p.2.2]) = _
    simp [keyOf, keysOf, (a1 p.1).1, (a2 p.2.1).1, (a3 p.2.2).1]
  · have := (a1 p.1).2
    have := (a2 p.2.1).2
    have := (a3 p.2.2).2
    simp only [NestedKey.depth, NestedKey.depthAll]
    omega
  · simp only [NestedKey.tup.injEq, List.cons.injEq, and_true] at h
    exact Prod.ext (i1 _ _ h.1) (Prod.ext (i2 _ _ h.2.1) (i3 _ _ h.2.2))
theorem NkE.up {n : Nat} {e : α → D} (h : NkE n e) : NkE (n + 1) e := by
  obtain ⟨f, a, i⟩ := h
  exact ⟨f, fun x => ⟨(a x).1, Nat.le_succ_of_le (a x).2⟩, i⟩
theorem NkE.t {n : Nat} {e : α → D} (h : NkE n e) : NkE (n + 1) (eT e) := by
  obtain ⟨f, a, i⟩ := h
  have ks : ∀ l : List α, keysOf (l.map e) = some (l.map f) := fun l => by
    induction l with
    | nil => simp [keysOf]
    | cons x l ih => simp [keysOf, (a x).1, ih]
  have dp : ∀ l : List α, NestedKey.depthAll (l.map f) ≤ n := fun l => by
    induction l with
    | nil => simp [NestedKey.depthAll]
    | cons x l ih =>
      have := (a x).2
      simp only [List.map_cons, NestedKey.depthAll]
      omega
  have inj : ∀ l m : List α, l.map f = m.map f → l = m := fun l => by
    induction l with
    | nil => intro m h; cases m with
      | nil => rfl
      | cons y m => simp at h
    | cons x l ih => intro m h; cases m with
      | nil => simp at h
      | cons y m =>
        simp only [List.map_cons, List.cons.injEq] at h
        rw [i _ _ h.1, ih m h.2]
  refine ⟨fun l => .tup (l.map f), fun l => ⟨?_, ?_⟩, fun p q h => inj _ _ (by injection h)⟩
  · show keyOf (.tup (l.map e)) = _
    simp [keyOf, ks]
  · have := dp l
    simp only [NestedKey.depth]
    omega
theorem keyE_of {n : Nat} {e : κ → D} (h : NkE n e) (hn : n ≤ 8) (ht : ∀ k, isTup (e k) = true) : KeyE e := by
  obtain ⟨f, a, i⟩ := h
  exact ⟨f, fun k => ⟨(a k).1, Nat.le_trans (a k).2 hn, ht k⟩, i⟩
theorem KeyE.fl {e : κ → D} (h : KeyE e) : FlE e := fun k => by
  obtain ⟨f, a, _⟩ := h
  exact flat_key _ _ (a k).1

/-! ### classes of tags -/
abbrev Cl := Tg → Bool
def cT : Cl | .st => true | _ => false
def cF : Cl | .fr => true | _ => false
def cF2 : Cl | .fr2 => true | _ => false
def cS : Cl | .st => true | .fr => true | .fr2 => true | _ => false
def cB : Cl | .b1 => true | _ => false
def cG : Cl | .b2 => true | _ => false
def cO : Cl | .b2 => false | _ => true
def cA : Cl | _ => true
def Cl.sub (c c' : Cl) : Bool := [Tg.st, .fr, .fr2, .b1, .b2].all fun τ => !c τ || c' τ
theorem sub_of {c c' : Cl} (h : Cl.sub c c' = true) {τ : Tg} (q : c τ = true) : c' τ = true := by
  unfold Cl.sub at h
  simp only [List.all_cons, List.all_nil, Bool.and_true, Bool.and_eq_true] at h
  obtain ⟨h1, h2, h3, h4, h5⟩ := h
  cases τ <;> simp_all
/-- of this class: may be kept -/
def StoE (c : Cl) (e : α → D) : Prop := ∀ τ a, c τ = true → sto τ (e a)
theorem sto_s {c : Cl} {e : α → D} (h : Cl.sub c cS = true) : StoE c e := fun τ a q => by
  have := sub_of h q
  cases τ <;> first | rfl | (cases this)
theorem sto_f {c : Cl} {e : α → D} (h : FlE e) : StoE c e := fun τ a q => by
  show stoB τ (e a) = true
  cases τ <;> first | rfl | exact h a
/-- .. its elements -/
def EstE (c : Cl) (e : α → D) : Prop := ∀ τ (l : List α), c τ = true → est τ (l.map e)
theorem est_o {c : Cl} {e : α → D} (h : Cl.sub c cO = true) : EstE c e := fun τ l q => by
  have := sub_of h q
  cases τ <;> first | trivial | (cases this)
theorem flats_mapE {e : α → D} (h : FlE e) (l : List α) : flats (l.map e) = true := by
  induction l with
  | nil => rfl
  | cons x l ih => simp [flats, h x, ih]
theorem est_f {c : Cl} {e : α → D} (h : FlE e) : EstE c e := fun τ l q => by
  cases τ <;> first | trivial | exact flats_mapE h l

/-! ### what carries what -/
def RE (t : SE) (σ : SG) (m : M α) (e : α → D) (c : Cl) : Prop := ∀ W a W' Q, m.run W = some (a, W') → (∀ τ, c τ = true → Q τ (e a) W') → t σ W Q
def RB (t : SB) (σ : SG) (m : M Bool) : Prop := ∀ W b W' Q, m.run W = some (b, W') → Q b W' → t σ W Q
def RI (t : SI) (σ : SG) (m : M (List α)) (e : α → D) : Prop := ∀ W l W' Q, m.run W = some (l, W') → Q (l.map e) W' → t σ W Q
def RD (t : SDs) (σ : SG) (m : M (List (κ × α))) (ek : κ → D) (ev : α → D) : Prop := ∀ W l W' Q, m.run W = some (l, W') → (∀ g, el g = .st → Q g (kvE ek ev l) W') → t σ W Q
def RA (t : SA) (σ : SG) (m : M γ) (ds : γ → List D) (ok : Bool) : Prop := ∀ W g W' Q, m.run W = some (g, W') → (∀ l : List (Tg × D), l.map (·.2) = ds g → (ok = true → allSto l = true) → Q l W') → t σ W Q
theorem RE.cast {t : SE} {σ : SG} {m m' : M α} {e : α → D} {c : Cl} (h : RE t σ m e c) (q : m = m') : RE t σ m' e c := q ▸ h
theorem RB.cast {t : SB} {σ : SG} {m m' : M Bool} (h : RB t σ m) (q : m = m') : RB t σ m' := q ▸ h
theorem RI.cast {t : SI} {σ : SG} {m m' : M (List α)} {e : α → D} (h : RI t σ m e) (q : m = m') : RI t σ m' e := q ▸ h
theorem RE.sub {t : SE} {σ : SG} {m : M α} {e : α → D} {c c' : Cl} (h : RE t σ m e c) (s : Cl.sub c c' = true) : RE t σ m e c' := fun W a W' Q r q => h W a W' Q r fun τ k => q τ (sub_of s k)
/-- as one that may be None -/
theorem RE.some {t : SE} {σ : SG} {m : M α} {e : α → D} {c : Cl} (h : RE t σ m e c) : RE t σ (m >>= fun a => pure (some a)) (eO e) c := fun W a W' Q r q => by
  obtain ⟨x, W1, r1, r2⟩ := M.bnd_some r
  obtain ⟨rfl, rfl⟩ := M.pure_some r2
  exact h W x W' Q r1 q
/-- as one that is not None -/
theorem RE.get {t : SE} {σ : SG} {m : M (Option α)} {e : α → D} {c : Cl} (h : RE t σ m (eO e) c) : RE t σ (m >>= fun a => M.ofO a) e c := fun W a W' Q r q => by
  obtain ⟨x, W1, r1, r2⟩ := M.bnd_some r
  obtain ⟨rfl, rfl⟩ := M.ofO_someE r2
  exact h W (Option.some a) W' Q r1 q

/-! ### names, constants -/
section
variable {σ : SG} {i : Nat}
theorem re_var {e : α → D} {a : α} (h : σ[i]? = some (some (.val (e a)))) : RE (sVar i) σ (pure a) e cT := fun W b W' Q r q => by
  obtain ⟨rfl, rfl⟩ := M.pure_some r
  show (match σ[i]? with | some (some x) => sv x fun t d => Q t d W' | _ => False)
  rw [h]
  exact q .st rfl
theorem re_varL {e : α → D} {a : List α} (h : σ[i]? = some (some (oL e a))) : RE (sVar i) σ (pure a) (eL e) cB := fun W b W' Q r q => by
  obtain ⟨rfl, rfl⟩ := M.pure_some r
  show (match σ[i]? with | some (some x) => sv x fun t d => Q t d W' | _ => False)
  rw [h]
  exact q .b1 rfl
theorem re_varG {e : α → D} {a : List (List α)} (h : σ[i]? = some (some (oG e a))) : RE (sVar i) σ (pure a) (eL (eL e)) cG := fun W b W' Q r q => by
  obtain ⟨rfl, rfl⟩ := M.pure_some r
  show (match σ[i]? with | some (some x) => sv x fun t d => Q t d W' | _ => False)
  rw [h]
  have := q .b2 rfl
  unfold eL at this
  show Q .b2 (.lst ((b.map fun r => r.map e).map D.lst)) W'
  rw [List.map_map]
  exact this
theorem re_varK {g : Addr × Obj × List Ent} {ek : κ → D} {ev : α → D} {l : List (κ × α)} (h : σ[i]? = some (some (oK g ek ev l))) : RE (sVar i) σ (pure l) (eD ek ev) cB := fun W b W' Q r q => by
  obtain ⟨rfl, rfl⟩ := M.pure_some r
  show (match σ[i]? with | some (some x) => sv x fun t d => Q t d W' | _ => False)
  rw [h]
  exact q .b1 rfl
theorem re_c {e : α → D} {a : α} {d : D} (h : d = e a) : RE (sC d) σ (pure a) e cT := fun W b W' Q r q => by
  obtain ⟨rfl, rfl⟩ := M.pure_some r
  subst h
  exact q .st rfl

/-! ### operators -/
def OpS (f : OpD) (c1 : Cl) (e1 : α → D) (c2 : Cl) (e2 : β → D) (g : α → β → M γ) (e3 : γ → D) (c3 : Cl) : Prop :=
  ∀ τ1 τ2 a b W r W' (R : Tg → D → Prop), c1 τ1 = true → c2 τ2 = true → (g a b).run W = some (r, W') → (∀ τ, c3 τ = true → R τ (e3 r)) → W' = W ∧ f τ1 (e1 a) τ2 (e2 b) R
theorem re_bin {f : OpD} {ta tb : SE} {ma : M α} {mb : M β} {e1 : α → D} {e2 : β → D} {c1 c2 c3 : Cl} {g : α → β → M γ} {e3 : γ → D} (ho : OpS f c1 e1 c2 e2 g e3 c3) (ha : RE ta σ ma e1 c1) (hb : RE tb σ mb e2 c2) :
    RE (sBin f ta tb) σ (ma >>= fun a => mb >>= fun b => g a b) e3 c3 := fun W r W' Q h q => by
  obtain ⟨a, W1, h1, h⟩ := M.bnd_some h
  obtain ⟨b, W2, h2, h3⟩ := M.bnd_some h
  refine ha W a W1 _ h1 fun τ1 k1 => hb W1 b W2 _ h2 fun τ2 k2 => ?_
  obtain ⟨rfl, w⟩ := ho τ1 τ2 a b W2 r W' (fun g d => Q g d W2) k1 k2 h3 (by
    have e : W' = W2 := (ho τ1 τ2 a b W2 r W' (fun _ _ => True) k1 k2 h3 fun _ _ => trivial).1
    subst e; exact q)
  exact w
section
variable {c1 c2 : Cl}
def OpP (f : OpD) (c1 : Cl) (e1 : α → D) (c2 : Cl) (e2 : β → D) (g : α → β → γ) (e3 : γ → D) (c3 : Cl) : Prop :=
  ∀ τ1 τ2 a b (R : Tg → D → Prop), c1 τ1 = true → c2 τ2 = true → (∀ τ, c3 τ = true → R τ (e3 (g a b))) → f τ1 (e1 a) τ2 (e2 b) R
theorem OpS.pure {f : OpD} {e1 : α → D} {e2 : β → D} {g : α → β → γ} {e3 : γ → D} {c3 : Cl} (h : ∀ τ1 τ2 a b (R : Tg → D → Prop), c1 τ1 = true → c2 τ2 = true → (∀ τ, c3 τ = true → R τ (e3 (g a b))) → f τ1 (e1 a) τ2 (e2 b) R) : OpS f c1 e1 c2 e2 (fun a b => Pure.pure (g a b)) e3 c3 :=
  fun τ1 τ2 a b W r W' R k1 k2 hr q => by
    obtain ⟨rfl, rfl⟩ := M.pure_some hr
    exact ⟨rfl, h τ1 τ2 a b R k1 k2 q⟩
theorem opp_addI : OpP dAdd c1 eI c2 eI (fun a b => (a + b)) eI cT := fun _ _ _ _ _ _ _ q => q .st rfl
theorem opp_subI : OpP dSub c1 eI c2 eI (fun a b => (a - b)) eI cT := fun _ _ _ _ _ _ _ q => q .st rfl
theorem opp_ltI : OpP dLt c1 eI c2 eI (fun a b => (decide (a < b))) eB cT := fun _ _ _ _ _ _ _ q => q .st rfl
theorem opp_leI : OpP dLe c1 eI c2 eI (fun a b => (decide (a ≤ b))) eB cT := fun _ _ _ _ _ _ _ q => q .st rfl
theorem opp_gtI : OpP dGt c1 eI c2 eI (fun a b => (decide (b < a))) eB cT := fun _ _ _ _ _ _ _ q => q .st rfl
theorem opp_geI : OpP dGe c1 eI c2 eI (fun a b => (decide (b ≤ a))) eB cT := fun _ _ _ _ _ _ _ q => q .st rfl
theorem opp_eqI : OpP dEq c1 eI c2 eI (fun a b => (decide (a = b))) eB cT := fun _ _ _ _ _ _ _ q => q .st rfl
theorem opp_neI : OpP dNe c1 eI c2 eI (fun a b => (!decide (a = b))) eB cT := fun _ _ _ _ _ _ _ q => q .st rfl
theorem opp_eqS : OpP dEq c1 eS c2 eS (fun a b => (decide (a = b))) eB cT := fun _ _ _ _ _ _ _ q => q .st rfl
theorem opp_neS : OpP dNe c1 eS c2 eS (fun a b => (!decide (a = b))) eB cT := fun _ _ _ _ _ _ _ q => q .st rfl
theorem opp_eqB : OpP dEq c1 eB c2 eB (fun a b => (decide (a = b))) eB cT := fun _ _ _ _ _ _ _ q => q .st rfl
theorem opp_neB : OpP dNe c1 eB c2 eB (fun a b => (!decide (a = b))) eB cT := fun _ _ _ _ _ _ _ q => q .st rfl
instance {i j : Int} : Decidable (CMul i j) := by unfold CMul; exact inferInstance
instance {i j : Int} : Decidable (CDiv i j) := by unfold CDiv; exact inferInstance
instance {i j : Int} : Decidable (CPow i j) := by unfold CPow; exact inferInstance
def mulI (a b : Int) : M Int := M.chk (CMul a b) >>= fun _ => pure (a * b)
def divI (a b : Int) : M Int := M.chk (CDiv a b) >>= fun _ => pure (a / b)
def modI (a b : Int) : M Int := M.chk (0 < b) >>= fun _ => pure (a % b)
def powI (a b : Int) : M Int := M.chk (CPow a b) >>= fun _ => pure (a ^ b.toNat)
theorem OpS.chk {f : OpD} {e1 : α → D} {e2 : β → D} {g : α → β → γ} {p : α → β → Prop} [∀ a b, Decidable (p a b)] {e3 : γ → D} {c3 : Cl} (h : ∀ τ1 τ2 a b (R : Tg → D → Prop), c1 τ1 = true → c2 τ2 = true → p a b → (∀ τ, c3 τ = true → R τ (e3 (g a b))) → f τ1 (e1 a) τ2 (e2 b) R) :
    OpS f c1 e1 c2 e2 (fun a b => M.chk (p a b) >>= fun _ => Pure.pure (g a b)) e3 c3 := fun τ1 τ2 a b W r W' R k1 k2 hr q => by
  obtain ⟨hp, hr⟩ := M.chk_some hr
  obtain ⟨rfl, rfl⟩ := M.pure_some hr
  exact ⟨rfl, h τ1 τ2 a b R k1 k2 hp q⟩
theorem op_mulI : OpS dMul c1 eI c2 eI mulI eI cT := .chk fun _ _ _ _ _ _ _ hp q => ⟨hp, q .st rfl⟩
theorem op_divI : OpS dFdiv c1 eI c2 eI divI eI cT := .chk fun _ _ _ _ _ _ _ hp q => ⟨hp, q .st rfl⟩
theorem op_modI : OpS dMod c1 eI c2 eI modI eI cT := .chk fun _ _ _ _ _ _ _ hp q => ⟨hp, q .st rfl⟩
theorem op_powI : OpS dPow c1 eI c2 eI powI eI cT := .chk fun _ _ _ _ _ _ _ hp q => ⟨hp, q .st rfl⟩
def catS (a b : Str) : M Str := M.chk (a.length + b.length ≤ sizeLine) >>= fun _ => pure (a ++ b)
theorem op_catS : OpS dAdd c1 eS c2 eS catS eS cT := .chk fun _ _ _ _ _ _ _ hp q => ⟨hp, q .st rfl⟩
def cat (a b : List α) : M (List α) := M.chk (a.length + b.length ≤ sizeLine) >>= fun _ => pure (a ++ b)
theorem op_catL {e : α → D} (h1 : EstE c1 e) (h2 : EstE c2 e) : OpS dAdd c1 (eL e) c2 (eL e) cat (eL e) cF := .chk fun τ1 τ2 a b _ k1 k2 hp q =>
  ⟨by simpa using hp, h1 τ1 a k1, h2 τ2 b k2, by have := q .fr rfl; unfold eL at this; rw [List.map_append] at this; exact this⟩
theorem op_catT {e : α → D} (h1 : EstE c1 e) (h2 : EstE c2 e) : OpS dAdd c1 (eT e) c2 (eT e) cat (eT e) cT := .chk fun τ1 τ2 a b _ k1 k2 hp q =>
  ⟨by simpa using hp, h1 τ1 a k1, h2 τ2 b k2, by have := q .st rfl; unfold eT at this; rw [List.map_append] at this; exact this⟩
def rep (a : List α) (k : Int) : M (List α) := M.chk (-(2 ^ 63) ≤ k ∧ k < 2 ^ 63 ∧ a.length * k.toNat ≤ sizeLine) >>= fun _ => pure (List.replicate k.toNat a).flatten
theorem map_repl {e : α → D} (a : List α) : ∀ n : Nat, ((List.replicate n a).flatten).map e = (List.replicate n (a.map e)).flatten
  | 0 => rfl
  | n + 1 => by rw [List.replicate_succ, List.replicate_succ, List.flatten_cons, List.flatten_cons, List.map_append, map_repl a n]
theorem op_repL {e : α → D} (h1 : EstE c1 e) : OpS dMul c1 (eL e) c2 eI rep (eL e) cF := .chk fun τ1 τ2 a b _ k1 k2 hp q =>
  ⟨hp.1, hp.2.1, by simpa using hp.2.2, h1 τ1 a k1, by have := q .fr rfl; unfold eL at this; rw [map_repl] at this; exact this⟩
/-- ==, in, of data -/
def eqB [DecidableEq α] (a b : α) : Bool := decide (a = b)
def memB [DecidableEq α] (a : α) (l : List α) : Bool := decide (a ∈ l)
/-- == of data -/
def eqM [DecidableEq α] (e : α → D) (a b : α) : M Bool := M.chk (fitB 8 (e a) = true ∧ fitB 8 (e b) = true) >>= fun _ => pure (eqB a b)
theorem dEqG_fit {x y : D} {R : Tg → D → Prop} {neg : Bool} {τ1 τ2 : Tg} [Decidable (x = y)] (hx : fitB 8 x = true) (hy : fitB 8 y = true) (q : R .st (.bl (if neg then !decide (x = y) else decide (x = y)))) : dEqG neg τ1 x τ2 y R := by
  have fx := fitB_fits hx
  have fy := fitB_fits hy
  unfold dEqG
  split
  · rename_i i j _
    rw [show decide (i = j) = decide (D.int i = D.int j) from decide_eq_decide.mpr ⟨fun h => by rw [h], fun h => by injection h⟩]
    exact q
  · rename_i i j _
    rw [show decide (i = j) = decide (D.str i = D.str j) from decide_eq_decide.mpr ⟨fun h => by rw [h], fun h => by injection h⟩]
    exact q
  · rename_i i j _
    unfold fitB at hx
    cases hx
  · refine ⟨fits_eqOk fx, fits_eqOk fy, ?_⟩
    rw [deq_eq fx fy]
    exact q
theorem dec_e [DecidableEq α] {e : α → D} (hi : Inj e) {a b : α} [Decidable (e a = e b)] : decide (e a = e b) = decide (a = b) := decide_eq_decide.mpr ⟨hi a b, fun h => by rw [h]⟩
open Classical in
theorem op_eqD [DecidableEq α] {e : α → D} (hi : Inj e) : OpS dEq c1 e c2 e (eqM e) eB cT := .chk fun τ1 τ2 a b _ _ _ hp q => dEqG_fit (neg := false) hp.1 hp.2 (by
  rw [dec_e hi]; exact q .st rfl)
def neM [DecidableEq α] (e : α → D) (a b : α) : M Bool := M.chk (fitB 8 (e a) = true ∧ fitB 8 (e b) = true) >>= fun _ => pure (!eqB a b)
open Classical in
theorem op_neD [DecidableEq α] {e : α → D} (hi : Inj e) : OpS dNe c1 e c2 e (neM e) eB cT := .chk fun τ1 τ2 a b _ _ _ hp q => dEqG_fit (neg := true) hp.1 hp.2 (by
  rw [dec_e hi]; exact q .st rfl)
open Classical in
theorem opp_eqT [DecidableEq α] {e : α → D} (hi : Inj e) {n : Nat} (ht : TotN n e) (hn : n ≤ 8 := by decide) : OpP dEq c1 e c2 e (fun a b => eqB a b) eB cT := fun τ1 τ2 a b _ _ _ q => dEqG_fit (neg := false) (ht.le hn a) (ht.le hn b) (by
  rw [dec_e hi]; exact q .st rfl)
open Classical in
theorem opp_neT [DecidableEq α] {e : α → D} (hi : Inj e) {n : Nat} (ht : TotN n e) (hn : n ≤ 8 := by decide) : OpP dNe c1 e c2 e (fun a b => !eqB a b) eB cT := fun τ1 τ2 a b _ _ _ q => dEqG_fit (neg := true) (ht.le hn a) (ht.le hn b) (by
  rw [dec_e hi]; exact q .st rfl)
theorem any_deq [DecidableEq α] {e : α → D} (hi : Inj e) (x : α) (hx : fitB 8 (e x) = true) : ∀ l : List α, (∀ z ∈ l, fitB 8 (e z) = true) → ((l.map e).any fun z => deq z (e x)) = decide (x ∈ l)
  | [], _ => by simp
  | y :: l, h => by
    have ih := any_deq hi x hx l fun z m => h z (by simp [m])
    have h1 : deq (e y) (e x) = decide (x = y) := by
      have q := deq_iff (fitB_fits (h y (by simp))) (fitB_fits hx)
      by_cases z : x = y
      · subst z; rw [decide_eq_true rfl]; exact q.mpr rfl
      · rw [decide_eq_false z]
        cases w : deq (e y) (e x) with
        | false => rfl
        | true => exact absurd (hi _ _ (q.mp w)).symm z
    rw [List.map_cons, List.any_cons, ih, h1]
    simp
theorem eqOk_list {l : List D} (h : ∀ d ∈ l, fitB 8 d = true) : eqOk (.lst l) := by
  have hh := fun d m => fits_shape (fitB_fits (h d m))
  refine ⟨pyOks_of fun d m => (hh d m).1, ?_⟩
  have h2 := lay_of (l := l) fun d m => (hh d m).2.1
  have h3 := depth_of (l := l) fun d m => (hh d m).2.2
  unfold SeqAt.shaped
  simp only [py, PyData.canLay0, PyData.depth, h2, Bool.true_and]
  exact decide_eq_true (by omega)
theorem eqOk_tup {l : List D} (h : ∀ d ∈ l, fitB 8 d = true) : eqOk (.tup l) := by
  have hh := fun d m => fits_shape (fitB_fits (h d m))
  refine ⟨pyOks_of fun d m => (hh d m).1, ?_⟩
  have h2 := lay_of (l := l) fun d m => (hh d m).2.1
  have h3 := depth_of (l := l) fun d m => (hh d m).2.2
  unfold SeqAt.shaped
  simp only [py, PyData.canLay0, PyData.depth, h2, Bool.true_and]
  exact decide_eq_true (by omega)
/-- x in l -/
def inM [DecidableEq α] (e : α → D) (x : α) (l : List α) : M Bool := M.chk (fitB 8 (e x) = true ∧ ∀ z ∈ l, fitB 8 (e z) = true) >>= fun _ => pure (memB x l)
theorem op_inL [DecidableEq α] {e : α → D} (hi : Inj e) : OpS dIn c1 e c2 (eL e) (inM e) eB cT := .chk fun τ1 τ2 a b R _ _ hp q => ⟨fits_eqOk (fitB_fits hp.1), eqOk_list fun d m => by obtain ⟨z, hz, rfl⟩ := List.mem_map.mp m; exact hp.2 z hz, by
  show R .st (.bl ((b.map e).any fun z => deq z (e a)))
  rw [any_deq hi a hp.1 b hp.2]; exact q .st rfl⟩
theorem op_inT [DecidableEq α] {e : α → D} (hi : Inj e) : OpS dIn c1 e c2 (eT e) (inM e) eB cT := .chk fun τ1 τ2 a b R _ _ hp q => ⟨fits_eqOk (fitB_fits hp.1), eqOk_tup fun d m => by obtain ⟨z, hz, rfl⟩ := List.mem_map.mp m; exact hp.2 z hz, by
  show R .st (.bl ((b.map e).any fun z => deq z (e a)))
  rw [any_deq hi a hp.1 b hp.2]; exact q .st rfl⟩
theorem opp_inLt [DecidableEq α] {e : α → D} (hi : Inj e) {n : Nat} (ht : TotN n e) (hn : n ≤ 8 := by decide) : OpP dIn c1 e c2 (eL e) (fun x l => memB x l) eB cT := fun τ1 τ2 a b R _ _ q => ⟨fits_eqOk (fitB_fits (ht.le hn a)), eqOk_list fun d m => by obtain ⟨z, hz, rfl⟩ := List.mem_map.mp m; exact ht.le hn z, by
  show R .st (.bl ((b.map e).any fun z => deq z (e a)))
  rw [any_deq hi a (ht.le hn a) b fun z _ => ht.le hn z]; exact q .st rfl⟩
theorem opp_inTt [DecidableEq α] {e : α → D} (hi : Inj e) {n : Nat} (ht : TotN n e) (hn : n ≤ 8 := by decide) : OpP dIn c1 e c2 (eT e) (fun x l => memB x l) eB cT := fun τ1 τ2 a b R _ _ q => ⟨fits_eqOk (fitB_fits (ht.le hn a)), eqOk_tup fun d m => by obtain ⟨z, hz, rfl⟩ := List.mem_map.mp m; exact ht.le hn z, by
  show R .st (.bl ((b.map e).any fun z => deq z (e a)))
  rw [any_deq hi a (ht.le hn a) b fun z _ => ht.le hn z]; exact q .st rfl⟩
theorem op_ninL [DecidableEq α] {e : α → D} (hi : Inj e) : OpS dNotIn c1 e c2 (eL e) (fun x l => M.chk (fitB 8 (e x) = true ∧ ∀ z ∈ l, fitB 8 (e z) = true) >>= fun _ => Pure.pure (!memB x l)) eB cT := .chk fun τ1 τ2 a b R _ _ hp q => ⟨fits_eqOk (fitB_fits hp.1), eqOk_list fun d m => by obtain ⟨z, hz, rfl⟩ := List.mem_map.mp m; exact hp.2 z hz, by
  show R .st (.bl (!(b.map e).any fun z => deq z (e a)))
  rw [any_deq hi a hp.1 b hp.2]; exact q .st rfl⟩
theorem op_ninT [DecidableEq α] {e : α → D} (hi : Inj e) : OpS dNotIn c1 e c2 (eT e) (fun x l => M.chk (fitB 8 (e x) = true ∧ ∀ z ∈ l, fitB 8 (e z) = true) >>= fun _ => Pure.pure (!memB x l)) eB cT := .chk fun τ1 τ2 a b R _ _ hp q => ⟨fits_eqOk (fitB_fits hp.1), eqOk_tup fun d m => by obtain ⟨z, hz, rfl⟩ := List.mem_map.mp m; exact hp.2 z hz, by
  show R .st (.bl (!(b.map e).any fun z => deq z (e a)))
  rw [any_deq hi a hp.1 b hp.2]; exact q .st rfl⟩
theorem opp_ninLt [DecidableEq α] {e : α → D} (hi : Inj e) {n : Nat} (ht : TotN n e) (hn : n ≤ 8 := by decide) : OpP dNotIn c1 e c2 (eL e) (fun x l => !memB x l) eB cT := fun τ1 τ2 a b R _ _ q => ⟨fits_eqOk (fitB_fits (ht.le hn a)), eqOk_list fun d m => by obtain ⟨z, hz, rfl⟩ := List.mem_map.mp m; exact ht.le hn z, by
  show R .st (.bl (!(b.map e).any fun z => deq z (e a)))
  rw [any_deq hi a (ht.le hn a) b fun z _ => ht.le hn z]; exact q .st rfl⟩
theorem opp_ninTt [DecidableEq α] {e : α → D} (hi : Inj e) {n : Nat} (ht : TotN n e) (hn : n ≤ 8 := by decide) : OpP dNotIn c1 e c2 (eT e) (fun x l => !memB x l) eB cT := fun τ1 τ2 a b R _ _ q => ⟨fits_eqOk (fitB_fits (ht.le hn a)), eqOk_tup fun d m => by obtain ⟨z, hz, rfl⟩ := List.mem_map.mp m; exact ht.le hn z, by
  show R .st (.bl (!(b.map e).any fun z => deq z (e a)))
  rw [any_deq hi a (ht.le hn a) b fun z _ => ht.le hn z]; exact q .st rfl⟩
/-- xs[i] -/
def ix (l : List α) (i : Int) : M α := M.ofO (atI l i)
theorem atI_map {e : α → D} {l : List α} {i : Int} {a : α} (h : atI l i = some a) : atI (l.map e) i = some (e a) := by
  unfold atI at h ⊢
  rw [List.length_map]
  cases q : ixN l.length i with
  | none => rw [q] at h; cases h
  | some j =>
    rw [q] at h
    show (l.map e)[j]? = _
    rw [List.getElem?_map, (show l[j]? = some a from h)]
    rfl
def cEl (c : Cl) : Cl | .b2 => c .b2 | .st => c .st || c .fr || c .fr2 || c .b1 | _ => false
theorem cEl_el {c : Cl} {τ : Tg} (h : c τ = true) : cEl c (el τ) = true := by cases τ <;> simp_all [cEl, el]
theorem op_ixL {e : α → D} : OpS dIx c1 (eL e) c2 eI ix e (cEl c1) := fun τ1 τ2 a b W r W' R k1 k2 hr q => by
  obtain ⟨h, rfl⟩ := M.ofO_someE hr
  exact ⟨rfl, e r, atI_map h, q _ (cEl_el k1)⟩
theorem op_ixT {e : α → D} : OpS dIx c1 (eT e) c2 eI ix e (cEl c1) := fun τ1 τ2 a b W r W' R k1 k2 hr q => by
  obtain ⟨h, rfl⟩ := M.ofO_someE hr
  exact ⟨rfl, e r, atI_map h, q _ (cEl_el k1)⟩
def sign (c : Nat) : Str := ⟨#[c]⟩
def six (z : Str) (i : Int) : M Str := M.chk (z.length ≤ sizeLine) >>= fun _ => M.ofO ((atI z.cps.toList i).map sign)
theorem op_ixS : OpS dIx c1 eS c2 eI six eS cT := fun τ1 τ2 a b W r W' R k1 k2 hr q => by
  obtain ⟨hp, hr⟩ := M.chk_some hr
  obtain ⟨h, rfl⟩ := M.ofO_someE hr
  obtain ⟨c, hc, rfl⟩ := Option.map_eq_some_iff.mp h
  exact ⟨rfl, c, hp, hc, q .st rfl⟩
end
theorem re_ixP0 {e1 : α → D} {e2 : β → D} {t : SE} {m : M (α × β)} {c : Cl} (h : RE t σ m (eP e1 e2) c) : RE (sBin dIx t (sC (.int 0))) σ (m >>= fun p => pure p.1) e1 (cEl c) := fun W r W' Q hr q => by
  obtain ⟨p, W1, h1, h2⟩ := M.bnd_some hr
  obtain ⟨rfl, rfl⟩ := M.pure_some h2
  exact h W p _ _ h1 fun τ k => ⟨e1 p.1, rfl, q _ (cEl_el k)⟩
theorem re_ixP1 {e1 : α → D} {e2 : β → D} {t : SE} {m : M (α × β)} {c : Cl} (h : RE t σ m (eP e1 e2) c) : RE (sBin dIx t (sC (.int 1))) σ (m >>= fun p => pure p.2) e2 (cEl c) := fun W r W' Q hr q => by
  obtain ⟨p, W1, h1, h2⟩ := M.bnd_some hr
  obtain ⟨rfl, rfl⟩ := M.pure_some h2
  exact h W p _ _ h1 fun τ k => ⟨e2 p.2, rfl, q _ (cEl_el k)⟩
theorem re_ix30 {e1 : α → D} {e2 : β → D} {e3' : γ → D} {t : SE} {m : M (α × β × γ)} {c : Cl} (h : RE t σ m (e3 e1 e2 e3') c) : RE (sBin dIx t (sC (.int 0))) σ (m >>= fun p => pure p.1) e1 (cEl c) := fun W r W' Q hr q => by
  obtain ⟨p, W1, h1, h2⟩ := M.bnd_some hr
  obtain ⟨rfl, rfl⟩ := M.pure_some h2
  exact h W p _ _ h1 fun τ k => ⟨e1 p.1, rfl, q _ (cEl_el k)⟩
theorem re_ix31 {e1 : α → D} {e2 : β → D} {e3' : γ → D} {t : SE} {m : M (α × β × γ)} {c : Cl} (h : RE t σ m (e3 e1 e2 e3') c) : RE (sBin dIx t (sC (.int 1))) σ (m >>= fun p => pure p.2.1) e2 (cEl c) := fun W r W' Q hr q => by
  obtain ⟨p, W1, h1, h2⟩ := M.bnd_some hr
  obtain ⟨rfl, rfl⟩ := M.pure_some h2
  exact h W p _ _ h1 fun τ k => ⟨e2 p.2.1, rfl, q _ (cEl_el k)⟩
theorem re_ix32 {e1 : α → D} {e2 : β → D} {e3' : γ → D} {t : SE} {m : M (α × β × γ)} {c : Cl} (h : RE t σ m (e3 e1 e2 e3') c) : RE (sBin dIx t (sC (.int 2))) σ (m >>= fun p => pure p.2.2) e3' (cEl c) := fun W r W' Q hr q => by
  obtain ⟨p, W1, h1, h2⟩ := M.bnd_some hr
  obtain ⟨rfl, rfl⟩ := M.pure_some h2
  exact h W p _ _ h1 fun τ k => ⟨e3' p.2.2, rfl, q _ (cEl_el k)⟩
end
end VL

/-! ML3: expressions carried by plain data and by plain functions. -/
namespace VL
open PySem PySem.Spec PyProof.Rows L2
variable {α β γ δ κ : Type}

/-! ### properties of encodings, found by instances -/
class CFl (e : α → D) : Prop where h : FlE e
instance : CFl eI := ⟨.i⟩
instance : CFl eB := ⟨.b⟩
instance : CFl eS := ⟨.s⟩
instance : CFl eN := ⟨.n⟩
instance {e : α → D} [h : CFl e] : CFl (eO e) := ⟨.o h.h⟩
instance {e : α → D} [h : CFl e] : CFl (eT e) := ⟨.t h.h⟩
instance {e1 : α → D} {e2 : β → D} [h1 : CFl e1] [h2 : CFl e2] : CFl (eP e1 e2) := ⟨.p h1.h h2.h⟩
instance {e1 : α → D} {e2 : β → D} {e3' : γ → D} [h1 : CFl e1] [h2 : CFl e2] [h3 : CFl e3'] : CFl (e3 e1 e2 e3') := ⟨.p3 h1.h h2.h h3.h⟩
instance {e1 : α → D} {e2 : β → D} {e3' : γ → D} {e4' : δ → D} [h1 : CFl e1] [h2 : CFl e2] [h3 : CFl e3'] [h4 : CFl e4'] : CFl (e4 e1 e2 e3' e4') := ⟨.p4 h1.h h2.h h3.h h4.h⟩
class CNon (e : α → D) : Prop where h : NonE e
instance : CNon eI := ⟨fun _ => rfl⟩
instance : CNon eB := ⟨fun _ => rfl⟩
instance : CNon eS := ⟨fun _ => rfl⟩
instance {e : α → D} : CNon (eL e) := ⟨fun _ => rfl⟩
instance {e : α → D} : CNon (eT e) := ⟨fun _ => rfl⟩
instance {e1 : α → D} {e2 : β → D} : CNon (eP e1 e2) := ⟨fun _ => rfl⟩
instance {e1 : α → D} {e2 : β → D} {e3' : γ → D} : CNon (e3 e1 e2 e3') := ⟨fun _ => rfl⟩
instance {e1 : α → D} {e2 : β → D} {e3' : γ → D} {e4' : δ → D} : CNon (e4 e1 e2 e3' e4') := ⟨fun _ => rfl⟩
instance {ek : κ → D} {ev : α → D} : CNon (eD ek ev) := ⟨fun _ => rfl⟩
class CInj (e : α → D) : Prop where h : Inj e
instance : CInj eI := ⟨.i⟩
instance : CInj eB := ⟨.b⟩
instance : CInj eS := ⟨.s⟩
instance : CInj eN := ⟨fun _ _ _ => rfl⟩
instance {e : α → D} [h : CInj e] [n : CNon e] : CInj (eO e) := ⟨.o h.h n.h⟩
instance {e : α → D} [h : CInj e] : CInj (eL e) := ⟨.l h.h⟩
instance {e : α → D} [h : CInj e] : CInj (eT e) := ⟨.t h.h⟩
instance {e1 : α → D} {e2 : β → D} [h1 : CInj e1] [h2 : CInj e2] : CInj (eP e1 e2) := ⟨.p h1.h h2.h⟩
instance {e1 : α → D} {e2 : β → D} {e3' : γ → D} [h1 : CInj e1] [h2 : CInj e2] [h3 : CInj e3'] : CInj (e3 e1 e2 e3') := ⟨.p3 h1.h h2.h h3.h⟩
instance {e1 : α → D} {e2 : β → D} {e3' : γ → D} {e4' : δ → D} [h1 : CInj e1] [h2 : CInj e2] [h3 : CInj e3'] [h4 : CInj e4'] : CInj (e4 e1 e2 e3' e4') := ⟨.p4 h1.h h2.h h3.h h4.h⟩
class CTot (n : outParam Nat) (e : α → D) : Prop where h : TotN n e
instance : CTot 0 eI := ⟨.i⟩
instance : CTot 0 eN := ⟨fun _ => by show fitB 0 .non = true; unfold fitB; rfl⟩
instance {n : Nat} {e : α → D} [h : CTot n e] : CTot n (eO e) := ⟨.o h.h⟩
instance {n m : Nat} {e1 : α → D} {e2 : β → D} [h1 : CTot n e1] [h2 : CTot m e2] : CTot (max n m + 1) (eP e1 e2) := ⟨.p (h1.h.le (Nat.le_max_left _ _)) (h2.h.le (Nat.le_max_right _ _))⟩
instance {n m k : Nat} {e1 : α → D} {e2 : β → D} {e3' : γ → D} [h1 : CTot n e1] [h2 : CTot m e2] [h3 : CTot k e3'] : CTot (max n (max m k) + 1) (e3 e1 e2 e3') :=
  ⟨.p3 (h1.h.le (by omega)) (h2.h.le (by omega)) (h3.h.le (by omega))⟩
class CNk (n : outParam Nat) (e : α → D) : Prop where h : NkE n e
instance : CNk 0 eI := ⟨.i⟩
instance : CNk 0 eS := ⟨.s⟩
instance : CNk 0 eB := ⟨.b⟩
theorem NkE.le {n m : Nat} {e : α → D} (h : NkE n e) (l : n ≤ m) : NkE m e := by
  obtain ⟨f, a, i⟩ := h
  exact ⟨f, fun x => ⟨(a x).1, Nat.le_trans (a x).2 l⟩, i⟩
instance {n : Nat} {e : α → D} [h : CNk n e] : CNk (n + 1) (eT e) := ⟨.t h.h⟩
instance {n m : Nat} {e1 : α → D} {e2 : β → D} [h1 : CNk n e1] [h2 : CNk m e2] : CNk (max n m + 1) (eP e1 e2) := ⟨.p (h1.h.le (Nat.le_max_left _ _)) (h2.h.le (Nat.le_max_right _ _))⟩
instance {n m k : Nat} {e1 : α → D} {e2 : β → D} {e3' : γ → D} [h1 : CNk n e1] [h2 : CNk m e2] [h3 : CNk k e3'] : CNk (max n (max m k) + 1) (e3 e1 e2 e3') :=
  ⟨.p3 (h1.h.le (by omega)) (h2.h.le (by omega)) (h3.h.le (by omega))⟩


/-! ### plain data -/
def RP (t : SE) (σ : SG) (a : α) (e : α → D) (c : Cl) : Prop := ∀ W Q, (∀ τ, c τ = true → Q τ (e a) W) → t σ W Q
def RBP (t : SB) (σ : SG) (b : Bool) : Prop := ∀ W Q, Q b W → t σ W Q
def RIP (t : SI) (σ : SG) (l : List α) (e : α → D) : Prop := ∀ W Q, Q (l.map e) W → t σ W Q
variable {σ : SG} {i : Nat} {c c1 c2 c3 : Cl} {e : α → D} {e1 : α → D} {e2 : β → D} {e3 : γ → D} {ta tb tc t : SE} {a : α} {b : β} {m : M α} {ma : M α} {mb : M β}
theorem RP.re (h : RP t σ a e c) : RE t σ (pure a) e c := fun W b W' Q r q => by
  obtain ⟨rfl, rfl⟩ := M.pure_some r
  exact h _ _ q
theorem RBP.rb {t : SB} {b : Bool} (h : RBP t σ b) : RB t σ (pure b) := fun W b W' Q r q => by
  obtain ⟨rfl, rfl⟩ := M.pure_some r
  exact h _ _ q
theorem RIP.ri {t : SI} {l : List α} (h : RIP t σ l e) : RI t σ (pure l) e := fun W b W' Q r q => by
  obtain ⟨rfl, rfl⟩ := M.pure_some r
  exact h _ _ q
theorem RP.sub {c' : Cl} (h : RP t σ a e c) (s : Cl.sub c c' = true) : RP t σ a e c' := fun W Q q => h W Q fun τ k => q τ (sub_of s k)
theorem RP.some (h : RP t σ a e c) : RP t σ (Option.some a) (eO e) c := h
theorem RP.get {o : Option α} (h : RP t σ o (eO e) c) : RE t σ (M.ofO o) e c := fun W a W' Q r q => by
  obtain ⟨rfl, rfl⟩ := M.ofO_someE r
  exact h _ Q q
theorem rp_var (h : σ[i]? = some (some (.val (e a)))) : RP (sVar i) σ a e cT := fun W Q q => by
  show (match σ[i]? with | some (some x) => sv x fun t d => Q t d W | _ => False)
  rw [h]
  exact q .st rfl
theorem rp_varL {a : List α} (h : σ[i]? = some (some (oL e a))) : RP (sVar i) σ a (eL e) cB := fun W Q q => by
  show (match σ[i]? with | some (some x) => sv x fun t d => Q t d W | _ => False)
  rw [h]
  exact q .b1 rfl
theorem rp_varG {a : List (List α)} (h : σ[i]? = some (some (oG e a))) : RP (sVar i) σ a (eL (eL e)) cG := fun W Q q => by
  show (match σ[i]? with | some (some x) => sv x fun t d => Q t d W | _ => False)
  rw [h]
  have := q .b2 rfl
  unfold eL at this
  show Q .b2 (.lst ((a.map fun r => r.map e).map D.lst)) W
  rw [List.map_map]
  exact this
theorem rp_varK {g : Addr × Obj × List Ent} {ek : κ → D} {ev : α → D} {l : List (κ × α)} (h : σ[i]? = some (some (oK g ek ev l))) : RP (sVar i) σ l (eD ek ev) cB := fun W Q q => by
  show (match σ[i]? with | some (some x) => sv x fun t d => Q t d W | _ => False)
  rw [h]
  exact q .b1 rfl
theorem rp_c {d : D} (h : d = e a := by rfl) : RP (sC d) σ a e cT := fun W Q q => by
  subst h
  exact q .st rfl
theorem rp_bin {f : OpD} {g : α → β → γ} (ho : OpP f c1 e1 c2 e2 g e3 c3) (ha : RP ta σ a e1 c1) (hb : RP tb σ b e2 c2) : RP (sBin f ta tb) σ (g a b) e3 c3 := fun W Q q =>
  ha W _ fun τ1 k1 => hb W _ fun τ2 k2 => ho τ1 τ2 a b _ k1 k2 q
theorem re_binP {f : OpD} {g : α → β → γ} (ho : OpP f c1 e1 c2 e2 g e3 c3) (ha : RE ta σ ma e1 c1) (hb : RE tb σ mb e2 c2) : RE (sBin f ta tb) σ (ma >>= fun a => mb >>= fun b => pure (g a b)) e3 c3 :=
  re_bin (OpS.pure ho) ha hb
/-! ### one operand -/
def UnP (f : UnD) (c : Cl) (e1 : α → D) (g : α → β) (e2 : β → D) (c' : Cl) : Prop := ∀ τ a (R : Tg → D → Prop), c τ = true → (∀ τ, c' τ = true → R τ (e2 (g a))) → f τ (e1 a) R
theorem rp_un {f : UnD} {g : α → β} (ho : UnP f c1 e1 g e2 c2) (ha : RP ta σ a e1 c1) : RP (sUn f ta) σ (g a) e2 c2 := fun W Q q => ha W _ fun τ k => ho τ a _ k q
theorem re_un {f : UnD} {g : α → β} (ho : UnP f c1 e1 g e2 c2) (ha : RE ta σ ma e1 c1) : RE (sUn f ta) σ (ma >>= fun a => pure (g a)) e2 c2 := fun W r W' Q h q => by
  obtain ⟨a, W1, h1, h⟩ := M.bnd_some h
  obtain ⟨rfl, rfl⟩ := M.pure_some h
  exact ha W a _ _ h1 fun τ k => ho τ a _ k q
theorem un_neg : UnP dNeg c eI (fun a => -a) eI cT := fun _ _ _ _ q => q .st rfl
theorem un_isi {T : String} {n : String} (h : ∀ a, tyN (e a) = some n) : UnP (dIsi T) c e (fun _ => isTy n T) eB cT := fun τ a R _ q => by
  unfold dIsi
  rw [h a]
  exact q .st rfl
/-! ### and, or, not, if -/
theorem rp_not {a : Bool} (ha : RP ta σ a eB c) : RP (sNot ta) σ (!a) eB cT := fun W Q q => ha W _ fun τ k => q .st rfl
theorem re_not {ma : M Bool} (ha : RE ta σ ma eB c) : RE (sNot ta) σ (ma >>= fun a => pure (!a)) eB cT := fun W r W' Q h q => by
  obtain ⟨a, W1, h1, h⟩ := M.bnd_some h
  obtain ⟨rfl, rfl⟩ := M.pure_some h
  exact ha W a _ _ h1 fun τ k => q .st rfl
def M.and (a b : M Bool) : M Bool := a >>= fun x => if x = true then b else pure false
def M.or (a b : M Bool) : M Bool := a >>= fun x => if x = true then pure true else b
theorem M.and_pure {a : Bool} {m : M Bool} : M.and (pure a) m = if a = true then m else pure false := rfl
theorem M.or_pure {a : Bool} {m : M Bool} : M.or (pure a) m = if a = true then pure true else m := rfl
theorem M.and_some {a b : M Bool} {W W' : Wd} {r : Bool} (h : (M.and a b).run W = some (r, W')) : (∃ W1, a.run W = some (true, W1) ∧ b.run W1 = some (r, W')) ∨ (a.run W = some (false, W') ∧ r = false) := by
  obtain ⟨x, W1, h1, h⟩ := M.bnd_some h
  cases x with
  | true => exact .inl ⟨W1, h1, h⟩
  | false =>
    obtain ⟨rfl, rfl⟩ := M.pure_some (show (pure false : M Bool).run W1 = _ from h)
    exact .inr ⟨h1, rfl⟩
theorem M.or_some {a b : M Bool} {W W' : Wd} {r : Bool} (h : (M.or a b).run W = some (r, W')) : (∃ W1, a.run W = some (false, W1) ∧ b.run W1 = some (r, W')) ∨ (a.run W = some (true, W') ∧ r = true) := by
  obtain ⟨x, W1, h1, h⟩ := M.bnd_some h
  cases x with
  | false => exact .inl ⟨W1, h1, h⟩
  | true =>
    obtain ⟨rfl, rfl⟩ := M.pure_some (show (pure true : M Bool).run W1 = _ from h)
    exact .inr ⟨h1, rfl⟩
theorem rp_and {a b : Bool} {c1 c2 : Cl} (ha : RP ta σ a eB c1) (hb : RP tb σ b eB c2) : RP (sAnd ta tb) σ (a && b) eB (fun τ => c2 τ || cT τ) := fun W Q q => ha W _ fun τ k => by
  cases a with
  | true => exact hb W _ fun τ k => q τ (by simp [k])
  | false => exact q .st (by simp [cT])
theorem rp_or {a b : Bool} {c1 c2 : Cl} (ha : RP ta σ a eB c1) (hb : RP tb σ b eB c2) : RP (sOr ta tb) σ (a || b) eB (fun τ => c2 τ || cT τ) := fun W Q q => ha W _ fun τ k => by
  cases a with
  | false => exact hb W _ fun τ k => q τ (by simp [k])
  | true => exact q .st (by simp [cT])
theorem re_and {ma mb : M Bool} (ha : RE ta σ ma eB c1) (hb : RE tb σ mb eB c2) : RE (sAnd ta tb) σ (M.and ma mb) eB (fun τ => c2 τ || cT τ) := fun W r W' Q h q => by
  rcases M.and_some h with ⟨W1, h1, h2⟩ | ⟨h1, rfl⟩
  · exact ha _ _ _ _ h1 fun τ k => hb _ _ _ _ h2 fun τ k => q τ (by simp [k])
  · exact ha _ _ _ _ h1 fun τ k => q .st (by simp [cT])
theorem re_or {ma mb : M Bool} (ha : RE ta σ ma eB c1) (hb : RE tb σ mb eB c2) : RE (sOr ta tb) σ (M.or ma mb) eB (fun τ => c2 τ || cT τ) := fun W r W' Q h q => by
  rcases M.or_some h with ⟨W1, h1, h2⟩ | ⟨h1, rfl⟩
  · exact ha _ _ _ _ h1 fun τ k => hb _ _ _ _ h2 fun τ k => q τ (by simp [k])
  · exact ha _ _ _ _ h1 fun τ k => q .st (by simp [cT])
section
variable {u v : SB} {x y : Bool} {mx my : M Bool}
theorem rb_andP (ha : RBP u σ x) (hb : RBP v σ y) : RBP (bAnd u v) σ (x && y) := fun W Q q => ha W _ (by
  cases x with
  | true => exact hb W _ q
  | false => exact q)
theorem rb_orP (ha : RBP u σ x) (hb : RBP v σ y) : RBP (bOr u v) σ (x || y) := fun W Q q => ha W _ (by
  cases x with
  | true => exact q
  | false => exact hb W _ q)
theorem rb_notP (ha : RBP u σ x) : RBP (bNot u) σ (!x) := fun W Q q => ha W _ q
theorem rb_testP (ha : RP ta σ x eB c) : RBP (sTest ta) σ x := fun W Q q => ha W _ fun τ k => q
theorem rb_yes : RBP bYes σ true := fun W Q q => q
theorem rb_and (ha : RB u σ mx) (hb : RB v σ my) : RB (bAnd u v) σ (M.and mx my) := fun W r W' Q h q => by
  rcases M.and_some h with ⟨W1, h1, h2⟩ | ⟨h1, rfl⟩
  · exact ha _ _ _ _ h1 (hb _ _ _ _ h2 q)
  · exact ha _ _ _ _ h1 q
theorem rb_or (ha : RB u σ mx) (hb : RB v σ my) : RB (bOr u v) σ (M.or mx my) := fun W r W' Q h q => by
  rcases M.or_some h with ⟨W1, h1, h2⟩ | ⟨h1, rfl⟩
  · exact ha _ _ _ _ h1 (hb _ _ _ _ h2 q)
  · exact ha _ _ _ _ h1 q
theorem rb_not (ha : RB u σ mx) : RB (bNot u) σ (mx >>= fun x => pure (!x)) := fun W r W' Q h q => by
  obtain ⟨x, W1, h1, h⟩ := M.bnd_some h
  obtain ⟨rfl, rfl⟩ := M.pure_some h
  exact ha _ _ _ _ h1 q
theorem rb_test (ha : RE ta σ mx eB c) : RB (sTest ta) σ mx := fun W r W' Q h q => ha W _ _ _ h fun τ k => q
theorem rp_if {a' : α} (hc : RBP u σ x) (ha : RP ta σ a e c1) (hb : RP tb σ a' e c2) : RP (sIf u ta tb) σ (if x = true then a else a') e (fun τ => c1 τ || c2 τ) := fun W Q q => hc W _ (by
  cases x with
  | true => exact ha W _ fun τ k => q τ (by simp [k])
  | false => exact hb W _ fun τ k => q τ (by simp [k]))
theorem re_if {ma' : M α} (hc : RB u σ mx) (ha : RE ta σ ma e c1) (hb : RE tb σ ma' e c2) : RE (sIf u ta tb) σ (mx >>= fun x => if x = true then ma else ma') e (fun τ => c1 τ || c2 τ) := fun W r W' Q h q => by
  obtain ⟨x, W1, h1, h⟩ := M.bnd_some h
  refine hc _ _ _ _ h1 ?_
  cases x with
  | true => exact ha _ _ _ _ h fun τ k => q τ (by simp [k])
  | false => exact hb _ _ _ _ h fun τ k => q τ (by simp [k])
end
/-! ### chains, None -/
theorem rp_chain {f f' : OpD} {d : γ} {g : α → β → Bool} {g' : β → γ → Bool} {c4 c5 : Cl} (ho : OpP f c1 e1 c2 e2 g eB c4) (ho' : OpP f' c2 e2 c3 e3 g' eB c5) (ha : RP ta σ a e1 c1) (hb : RP tb σ b e2 c2) (hc : RP tc σ d e3 c3) :
    RP (sChain f f' ta tb tc) σ (g a b && g' b d) eB (fun τ => c5 τ || cT τ) := fun W Q q => ha W _ fun τ1 k1 => hb W _ fun τ2 k2 => ho τ1 τ2 a b _ k1 k2 fun τ4 k4 => by
  cases h : g a b with
  | true => exact hc W _ fun τ3 k3 => ho' τ2 τ3 b d _ k2 k3 fun τ k => (by
      have := q τ (by simp [k])
      rw [h] at this
      exact this)
  | false =>
    have := q .st (by simp [cT])
    rw [h] at this
    exact this
theorem re_chain {f f' : OpD} {mc : M γ} {g : α → β → Bool} {g' : β → γ → Bool} {c4 c5 : Cl} (ho : OpP f c1 e1 c2 e2 g eB c4) (ho' : OpP f' c2 e2 c3 e3 g' eB c5) (ha : RE ta σ ma e1 c1) (hb : RE tb σ mb e2 c2) (hc : RE tc σ mc e3 c3) :
    RE (sChain f f' ta tb tc) σ (ma >>= fun a => mb >>= fun b => if g a b = true then mc >>= fun d => pure (g' b d) else pure false) eB (fun τ => c5 τ || cT τ) := fun W r W' Q h q => by
  obtain ⟨a, W1, h1, h⟩ := M.bnd_some h
  obtain ⟨b, W2, h2, h⟩ := M.bnd_some h
  refine ha _ _ _ _ h1 fun τ1 k1 => hb _ _ _ _ h2 fun τ2 k2 => ho τ1 τ2 a b _ k1 k2 fun τ4 k4 => ?_
  cases hg : g a b with
  | true =>
    rw [hg, if_pos rfl] at h
    obtain ⟨d, W3, h3, h⟩ := M.bnd_some h
    obtain ⟨rfl, rfl⟩ := M.pure_some h
    exact hc _ _ _ _ h3 fun τ3 k3 => ho' τ2 τ3 b d _ k2 k3 fun τ k => q τ (by simp [k])
  | false =>
    rw [hg] at h
    obtain ⟨rfl, rfl⟩ := M.pure_some (show (pure false : M Bool).run W2 = _ from h)
    exact q .st (by simp [cT])
theorem rp_none {o : Option α} [n : CNon e] (h : RP t σ o (eO e) c) : RP (sBin dIs t (sC .non)) σ o.isNone eB cT := fun W Q q => h W _ fun τ k => by
  have := q .st rfl
  cases o with
  | none => exact this
  | some x =>
    show Q .st (.bl (isNon (e x))) W
    rw [n.h x]
    exact this
theorem rp_some {o : Option α} [n : CNon e] (h : RP t σ o (eO e) c) : RP (sBin dIsNot t (sC .non)) σ o.isSome eB cT := fun W Q q => h W _ fun τ k => by
  have := q .st rfl
  cases o with
  | none => exact this
  | some x =>
    show Q .st (.bl (!isNon (e x))) W
    rw [n.h x]
    exact this
theorem re_none {o : M (Option α)} [n : CNon e] (h : RE t σ o (eO e) c) : RE (sBin dIs t (sC .non)) σ (o >>= fun o => pure o.isNone) eB cT := fun W r W' Q hr q => by
  obtain ⟨a, W1, h1, hr⟩ := M.bnd_some hr
  obtain ⟨rfl, rfl⟩ := M.pure_some hr
  refine h _ _ _ _ h1 fun τ k => ?_
  have := q .st rfl
  cases a with
  | none => exact this
  | some x =>
    show Q .st (.bl (isNon (e x))) _
    rw [n.h x]
    exact this
theorem re_some {o : M (Option α)} [n : CNon e] (h : RE t σ o (eO e) c) : RE (sBin dIsNot t (sC .non)) σ (o >>= fun o => pure o.isSome) eB cT := fun W r W' Q hr q => by
  obtain ⟨a, W1, h1, hr⟩ := M.bnd_some hr
  obtain ⟨rfl, rfl⟩ := M.pure_some hr
  refine h _ _ _ _ h1 fun τ k => ?_
  have := q .st rfl
  cases a with
  | none => exact this
  | some x =>
    show Q .st (.bl (!isNon (e x))) _
    rw [n.h x]
    exact this
end VL

/-! ML4: displays, calls, slices, what is walked, comprehensions. -/
namespace VL
open PySem PySem.Spec PyProof.Rows L2
section
variable {α β γ δ κ ρ : Type} {σ : SG} {i : Nat} {c c1 c2 c3 : Cl} {e : α → D} {e1 : α → D} {e2 : β → D} {er : ρ → D} {ta tb tc t : SE} {tr : SA} {a : α} {b : β} {m : M α} {ma : M α} {mb : M β} {ok : Bool}
/-! ### arguments -/
def RAP (t : SA) (σ : SG) (l : List D) (ok : Bool) : Prop := ∀ W Q, (∀ ls : List (Tg × D), ls.map (·.2) = l → (ok = true → allSto ls = true) → Q ls W) → t σ W Q
theorem rap_nil : RAP aNil σ [] true := fun W Q q => q [] rfl fun _ => rfl
theorem rap_cons {l : List D} (ha : RP ta σ a e1 c1) (hr : RAP tr σ l ok) (hs : StoE c1 e1 := by first | exact sto_s rfl | exact sto_f CFl.h) : RAP (aCons ta tr) σ (e1 a :: l) ok := fun W Q q =>
  ha W _ fun τ k => hr W _ fun ls h1 h2 => q ((τ, e1 a) :: ls) (by rw [List.map_cons, h1]) fun h => by
    have := h2 h
    unfold allSto at this ⊢
    rw [List.all_cons, this, Bool.and_true]
    exact hs τ a k
theorem rap_consN {l : List D} (ha : RP ta σ a e1 c1) (hr : RAP tr σ l ok) : RAP (aCons ta tr) σ (e1 a :: l) false := fun W Q q =>
  ha W _ fun τ k => hr W _ fun ls h1 h2 => q ((τ, e1 a) :: ls) (by rw [List.map_cons, h1]) fun h => by cases h
theorem ra_nil : RA aNil σ (pure ()) (fun _ => []) true := fun W g W' Q r q => by
  obtain ⟨_, rfl⟩ := M.pure_some r
  exact q [] rfl fun _ => rfl
theorem ra_cons {mr : M γ} {ds : γ → List D} (ha : RE ta σ ma e1 c1) (hr : RA tr σ mr ds ok) (hs : StoE c1 e1 := by first | exact sto_s rfl | exact sto_f CFl.h) : RA (aCons ta tr) σ (ma >>= fun a => mr >>= fun g => pure (a, g)) (fun p => e1 p.1 :: ds p.2) ok := fun W g W' Q r q => by
  obtain ⟨a, W1, h1, r⟩ := M.bnd_some r
  obtain ⟨g', W2, h2, r⟩ := M.bnd_some r
  obtain ⟨rfl, rfl⟩ := M.pure_some r
  exact ha W _ _ _ h1 fun τ k => hr W1 _ _ _ h2 fun ls h3 h4 => q ((τ, e1 a) :: ls) (by rw [List.map_cons, h3]) fun h => by
    have := h4 h
    unfold allSto at this ⊢
    rw [List.all_cons, this, Bool.and_true]
    exact hs τ a k
theorem ra_consN {mr : M γ} {ds : γ → List D} (ha : RE ta σ ma e1 c1) (hr : RA tr σ mr ds ok) : RA (aCons ta tr) σ (ma >>= fun a => mr >>= fun g => pure (a, g)) (fun p => e1 p.1 :: ds p.2) false := fun W g W' Q r q => by
  obtain ⟨a, W1, h1, r⟩ := M.bnd_some r
  obtain ⟨g', W2, h2, r⟩ := M.bnd_some r
  obtain ⟨rfl, rfl⟩ := M.pure_some r
  exact ha W _ _ _ h1 fun τ k => hr W1 _ _ _ h2 fun ls h3 h4 => q ((τ, e1 a) :: ls) (by rw [List.map_cons, h3]) fun h => by cases h
def cTG : Cl | .st => true | .b2 => true | _ => false
def cFG : Cl | .fr => true | .b2 => true | _ => false
def tupC (ok : Bool) : Cl := if ok then cT else cTG
def lstC (ok : Bool) : Cl := if ok then cF else cFG
theorem tupC_ok {ls : List (Tg × D)} (h : ok = true → allSto ls = true) : tupC ok (if allSto ls = true then .st else .b2) = true := by
  cases ok with
  | true => rw [if_pos (h rfl)]; rfl
  | false => by_cases z : allSto ls = true <;> simp [z, tupC, cTG]
theorem lstC_ok {ls : List (Tg × D)} (h : ok = true → allSto ls = true) : lstC ok (if allSto ls = true then .fr else .b2) = true := by
  cases ok with
  | true => rw [if_pos (h rfl)]; rfl
  | false => by_cases z : allSto ls = true <;> simp [z, lstC, cFG]
theorem sz_small {l : List D} {n : Nat} (h : l.length = n) (hn : n ≤ 1000) : l.length ≤ sizeLine := by rw [h]; exact Nat.le_trans hn (by decide)
section
variable {l : List D} {γ : Type} {mg : M γ} {ds : γ → List D} {n : Nat}
theorem rp_tup (h : RAP tr σ l ok) (hd : D.tup l = e a := by rfl) (hn : l.length = n := by rfl) (hn2 : n ≤ 1000 := by decide) : RP (sFn dTup tr) σ a e (tupC ok) := fun W Q q => h W _ fun ls h1 h2 => by
  have hl : ls.length = l.length := by rw [← h1, List.length_map]
  refine ⟨by rw [hl]; exact sz_small hn hn2, ?_⟩
  rw [h1, hd]
  exact q _ (tupC_ok h2)
theorem rp_lst (h : RAP tr σ l ok) (hd : D.lst l = e a := by rfl) (hn : l.length = n := by rfl) (hn2 : n ≤ 1000 := by decide) : RP (sFn dLst tr) σ a e (lstC ok) := fun W Q q => h W _ fun ls h1 h2 => by
  have hl : ls.length = l.length := by rw [← h1, List.length_map]
  refine ⟨by rw [hl]; exact sz_small hn hn2, ?_⟩
  rw [h1, hd]
  exact q _ (lstC_ok h2)
theorem re_tup {x : γ → ρ} (h : RA tr σ mg ds ok) (hd : ∀ g, D.tup (ds g) = er (x g) := by intro _; rfl) (hn : ∀ g, (ds g).length = n := by intro _; rfl) (hn2 : n ≤ 1000 := by decide) : RE (sFn dTup tr) σ (mg >>= fun g => pure (x g)) er (tupC ok) := fun W r W' Q hr q => by
  obtain ⟨g, W1, h0, hr⟩ := M.bnd_some hr
  obtain ⟨rfl, rfl⟩ := M.pure_some hr
  refine h W g _ _ h0 fun ls h1 h2 => ?_
  have hl : ls.length = (ds g).length := by rw [← h1, List.length_map]
  refine ⟨by rw [hl]; exact sz_small (hn g) hn2, ?_⟩
  rw [h1, hd]
  exact q _ (tupC_ok h2)
theorem re_lst {x : γ → ρ} (h : RA tr σ mg ds ok) (hd : ∀ g, D.lst (ds g) = er (x g) := by intro _; rfl) (hn : ∀ g, (ds g).length = n := by intro _; rfl) (hn2 : n ≤ 1000 := by decide) : RE (sFn dLst tr) σ (mg >>= fun g => pure (x g)) er (lstC ok) := fun W r W' Q hr q => by
  obtain ⟨g, W1, h0, hr⟩ := M.bnd_some hr
  obtain ⟨rfl, rfl⟩ := M.pure_some hr
  refine h W g _ _ h0 fun ls h1 h2 => ?_
  have hl : ls.length = (ds g).length := by rw [← h1, List.length_map]
  refine ⟨by rw [hl]; exact sz_small (hn g) hn2, ?_⟩
  rw [h1, hd]
  exact q _ (lstC_ok h2)
/-! ### calls of defs -/
def SP (sp : DSp) (ds : γ → List D) (m : γ → M ρ) (e : ρ → D) (c : Cl) : Prop := ∀ g W r W' Q, (m g).run W = some (r, W') → (∀ τ, c τ = true → Q τ (e r) W') → sp (ds g) W Q
def callC (c : Cl) : Cl | .fr => c .fr | .st => c .st || c .fr2 || c .b1 || c .b2 | _ => false
theorem callC_ok {c : Cl} {τ : Tg} {d : D} (h : c τ = true) : callC c (callTag true d τ) = true := by cases τ <;> simp_all [callTag, callC]
/-- results that cannot change, whatever was given -/
def FtE (c : Cl) (e : ρ → D) (c' : Cl) : Prop := ∀ τ a b, c τ = true → c' (callTag b (e a) τ) = true
theorem ft_fl {c : Cl} {e : ρ → D} (h : Cl.sub c cT = true) (hf : FlE e) : FtE c e cT := fun τ a b k => by
  have := sub_of h k
  cases τ <;> first | (cases this; done) | simp [callTag, hf a, cT]
theorem ft_el {c : Cl} {e : ρ → D} (h : Cl.sub c cF = true) (hf : FlE e) : FtE c (eL e) cF := fun τ a b k => by
  have := sub_of h k
  have q : flatEl (eL e a) = true := flats_mapE hf a
  cases τ <;> first | (cases this; done) | simp [callTag, q, cF]
theorem re_call {sp : DSp} {m : γ → M ρ} (h : SP sp ds m er c) (ha : RA tr σ mg ds true) (hn : ∀ g, (ds g).length = n := by intro _; rfl) : RE (sCall n sp tr) σ (mg >>= m) er (callC c) := fun W r W' Q hr q => by
  obtain ⟨g, W1, h0, hr⟩ := M.bnd_some hr
  refine ha W g _ _ h0 fun ls h1 h2 => ⟨by rw [← hn g, ← h1, List.length_map], ?_⟩
  rw [h1, h2 rfl]
  exact h g W1 r W' _ hr fun τ k => q _ (callC_ok k)
theorem re_callP {sp : DSp} {m : γ → M ρ} {x : γ} (h : SP sp ds m er c) (ha : RAP tr σ (ds x) true) (hn : (ds x).length = n := by rfl) : RE (sCall n sp tr) σ (m x) er (callC c) := fun W r W' Q hr q => by
  refine ha W _ fun ls h1 h2 => ⟨by rw [← hn, ← h1, List.length_map], ?_⟩
  rw [h1, h2 rfl]
  exact h x W r W' _ hr fun τ k => q _ (callC_ok k)
theorem re_callN {c' : Cl} {sp : DSp} {m : γ → M ρ} (hf : FtE c er c') (h : SP sp ds m er c) (ha : RA tr σ mg ds ok) (hn : ∀ g, (ds g).length = n := by intro _; rfl) : RE (sCall n sp tr) σ (mg >>= m) er c' := fun W r W' Q hr q => by
  obtain ⟨g, W1, h0, hr⟩ := M.bnd_some hr
  refine ha W g _ _ h0 fun ls h1 h2 => ⟨by rw [← hn g, ← h1, List.length_map], ?_⟩
  rw [h1]
  exact h g W1 r W' _ hr fun τ k => q _ (hf τ r _ k)
theorem re_callPN {c' : Cl} {sp : DSp} {m : γ → M ρ} {x : γ} (hf : FtE c er c') (h : SP sp ds m er c) (ha : RAP tr σ (ds x) ok) (hn : (ds x).length = n := by rfl) : RE (sCall n sp tr) σ (m x) er c' := fun W r W' Q hr q => by
  refine ha W _ fun ls h1 h2 => ⟨by rw [← hn, ← h1, List.length_map], ?_⟩
  rw [h1]
  exact h x W r W' _ hr fun τ k => q _ (hf τ r _ k)
end
/-! ### functions of values -/
def FnP (f : FnD) (c : Cl) (e1 : α → D) (g : α → β) (e2 : β → D) (c' : Cl) : Prop := ∀ τ a (R : Tg → D → Prop), c τ = true → (∀ τ, c' τ = true → R τ (e2 (g a))) → f [(τ, e1 a)] R
def FnS (f : FnD) (c : Cl) (e1 : α → D) (g : α → M β) (e2 : β → D) (c' : Cl) : Prop := ∀ τ a W r W' (R : Tg → D → Prop), c τ = true → (g a).run W = some (r, W') → (∀ τ, c' τ = true → R τ (e2 r)) → W' = W ∧ f [(τ, e1 a)] R
theorem rp_fn {f : FnD} {g : α → β} (ho : FnP f c1 e1 g e2 c2) (ha : RP ta σ a e1 c1) : RP (sFn f (aCons ta aNil)) σ (g a) e2 c2 := fun W Q q => ha W _ fun τ k => ho τ a _ k q
theorem re_fn {f : FnD} {g : α → β} (ho : FnP f c1 e1 g e2 c2) (ha : RE ta σ ma e1 c1) : RE (sFn f (aCons ta aNil)) σ (ma >>= fun a => pure (g a)) e2 c2 := fun W r W' Q h q => by
  obtain ⟨a, W1, h1, h⟩ := M.bnd_some h
  obtain ⟨rfl, rfl⟩ := M.pure_some h
  exact ha W a _ _ h1 fun τ k => ho τ a _ k q
theorem re_fnS {f : FnD} {g : α → M β} (ho : FnS f c1 e1 g e2 c2) (ha : RE ta σ ma e1 c1) : RE (sFn f (aCons ta aNil)) σ (ma >>= g) e2 c2 := fun W r W' Q h q => by
  obtain ⟨a, W1, h1, h⟩ := M.bnd_some h
  refine ha W a _ _ h1 fun τ k => ?_
  have e : W' = W1 := (ho τ a W1 r W' (fun _ _ => True) k h fun _ _ => trivial).1
  subst e
  exact (ho τ a W' r W' (fun g d => Q g d W') k h q).2
theorem FnS.chk {f : FnD} {g : α → β} {p : α → Prop} [∀ a, Decidable (p a)] (h : ∀ τ a (R : Tg → D → Prop), c τ = true → p a → (∀ τ, c2 τ = true → R τ (e2 (g a))) → f [(τ, e1 a)] R) : FnS f c e1 (fun a => M.chk (p a) >>= fun _ => pure (g a)) e2 c2 := fun τ a W r W' R k hr q => by
  obtain ⟨hp, hr⟩ := M.chk_some hr
  obtain ⟨rfl, rfl⟩ := M.pure_some hr
  exact ⟨rfl, h τ a R k hp q⟩
def FnP2 (f : FnD) (c1 : Cl) (e1 : α → D) (c2 : Cl) (e2 : β → D) (g : α → β → ρ) (e3 : ρ → D) (c' : Cl) : Prop := ∀ τ u a b (R : Tg → D → Prop), c1 τ = true → c2 u = true → (∀ τ, c' τ = true → R τ (e3 (g a b))) → f [(τ, e1 a), (u, e2 b)] R
theorem rp_fn2 {f : FnD} {g : α → β → ρ} (ho : FnP2 f c1 e1 c2 e2 g er c3) (ha : RP ta σ a e1 c1) (hb : RP tb σ b e2 c2) : RP (sFn f (aCons ta (aCons tb aNil))) σ (g a b) er c3 := fun W Q q => ha W _ fun τ k => hb W _ fun u k2 => ho τ u a b _ k k2 q
theorem re_fn2 {f : FnD} {g : α → β → ρ} (ho : FnP2 f c1 e1 c2 e2 g er c3) (ha : RE ta σ ma e1 c1) (hb : RE tb σ mb e2 c2) : RE (sFn f (aCons ta (aCons tb aNil))) σ (ma >>= fun a => mb >>= fun b => pure (g a b)) er c3 := fun W r W' Q h q => by
  obtain ⟨a, W1, h1, h⟩ := M.bnd_some h
  obtain ⟨b, W2, h2, h⟩ := M.bnd_some h
  obtain ⟨rfl, rfl⟩ := M.pure_some h
  exact ha W a _ _ h1 fun τ k => hb W1 b _ _ h2 fun u k2 => ho τ u a b _ k k2 q
theorem fn_lenL {e : α → D} : FnP dLen c (eL e) (fun l => (l.length : Int)) eI cT := fun τ l R _ q => by
  have := q .st rfl
  show R .st (.int (l.map e).length)
  rw [List.length_map]; exact this
theorem fn_lenT {e : α → D} : FnP dLen c (eT e) (fun l => (l.length : Int)) eI cT := fun τ l R _ q => by
  have := q .st rfl
  show R .st (.int (l.map e).length)
  rw [List.length_map]; exact this
theorem fn_lenP {e1 : α → D} {e2 : β → D} : FnP dLen c (eP e1 e2) (fun _ => (2 : Int)) eI cT := fun τ l R _ q => q .st rfl
def lenS (z : Str) : M Int := M.chk (z.length ≤ sizeLine) >>= fun _ => pure z.length
theorem fn_lenS : FnS dLen c eS lenS eI cT := .chk fun τ z R _ hp q => ⟨hp, q .st rfl⟩
theorem fn_listL {e : α → D} (h : EstE c e := by first | exact est_o rfl | exact est_f CFl.h) : FnP dList c (eL e) (fun l => l) (eL e) cF := fun τ l R k q => ⟨h τ l k, q .fr rfl⟩
theorem fn_listT {e : α → D} (h : EstE c e := by first | exact est_o rfl | exact est_f CFl.h) : FnP dList c (eT e) (fun l => l) (eL e) cF := fun τ l R k q => ⟨h τ l k, q .fr rfl⟩
theorem fn_tupL {e : α → D} (h : EstE c e := by first | exact est_o rfl | exact est_f CFl.h) : FnP dTuple c (eL e) (fun l => l) (eT e) cT := fun τ l R k q => ⟨h τ l k, q .st rfl⟩
theorem fn_tupT {e : α → D} (h : EstE c e := by first | exact est_o rfl | exact est_f CFl.h) : FnP dTuple c (eT e) (fun l => l) (eT e) cT := fun τ l R k q => ⟨h τ l k, q .st rfl⟩
theorem fn_f1 {f : Int → Int} : FnP (dF1 f) c eI f eI cT := fun _ _ _ _ q => q .st rfl
theorem fn_f2 {f : Int → Int → Int} : FnP2 (dF2 f) c1 eI c2 eI f eI cT := fun _ _ _ _ _ _ _ q => q .st rfl
theorem fn_sumL : FnP dSum c (eL eI) List.sum eI cT := fun τ l R _ q => ⟨l, rfl, q .st rfl⟩
theorem fn_sumT : FnP dSumT c (eT eI) List.sum eI cT := fun τ l R _ q => ⟨l, rfl, q .st rfl⟩
theorem rp_min4 {i j k l : Int} {t1 t2 t3 t4 : SE} {c1 c2 c3 c4 : Cl} (h1 : RP t1 σ i eI c1) (h2 : RP t2 σ j eI c2) (h3 : RP t3 σ k eI c3) (h4 : RP t4 σ l eI c4) : RP (sFn dMin4 (aCons t1 (aCons t2 (aCons t3 (aCons t4 aNil))))) σ (least4 i j k l) eI cT := fun W Q q =>
  h1 W _ fun _ _ => h2 W _ fun _ _ => h3 W _ fun _ _ => h4 W _ fun _ _ => q .st rfl
def maxI : List Int → Option Int
  | [] => none
  | x :: xs => some (xs.foldl (fun m y => if m < y then y else m) x)
def minI : List Int → Option Int
  | [] => none
  | x :: xs => some (xs.foldl (fun m y => if y < m then y else m) x)
theorem max_ge (xs : List Int) : ∀ x : Int, x ≤ xs.foldl (fun m y => if m < y then y else m) x ∧ (∀ y ∈ xs, y ≤ xs.foldl (fun m y => if m < y then y else m) x) := by
  induction xs with
  | nil => intro x; simp
  | cons z xs ih =>
    intro x
    rw [List.foldl_cons]
    have := ih (if x < z then z else x)
    refine ⟨?_, fun y hy => ?_⟩
    · have := this.1; split at this <;> omega
    · rcases List.mem_cons.mp hy with rfl | hy
      · have := this.1; split at this <;> omega
      · exact this.2 y hy
theorem min_le (xs : List Int) : ∀ x : Int, xs.foldl (fun m y => if y < m then y else m) x ≤ x ∧ (∀ y ∈ xs, xs.foldl (fun m y => if y < m then y else m) x ≤ y) := by
  induction xs with
  | nil => intro x; simp
  | cons z xs ih =>
    intro x
    rw [List.foldl_cons]
    have := ih (if z < x then z else x)
    refine ⟨?_, fun y hy => ?_⟩
    · have := this.1; split at this <;> omega
    · rcases List.mem_cons.mp hy with rfl | hy
      · have := this.1; split at this <;> omega
      · exact this.2 y hy
theorem max_mem (xs : List Int) : ∀ x : Int, xs.foldl (fun m y => if m < y then y else m) x ∈ x :: xs := by
  induction xs with
  | nil => intro x; simp
  | cons z xs ih =>
    intro x
    rw [List.foldl_cons]
    have := ih (if x < z then z else x)
    rcases List.mem_cons.mp this with h | h
    · rw [h]; split <;> simp
    · simp [h]
theorem min_mem (xs : List Int) : ∀ x : Int, xs.foldl (fun m y => if y < m then y else m) x ∈ x :: xs := by
  induction xs with
  | nil => intro x; simp
  | cons z xs ih =>
    intro x
    rw [List.foldl_cons]
    have := ih (if z < x then z else x)
    rcases List.mem_cons.mp this with h | h
    · rw [h]; split <;> simp
    · simp [h]
theorem maxI_some {l : List Int} {a m : Int} (h : maxI l = some a) (hm : m ∈ l) (hb : ∀ y ∈ l, y ≤ m) : m = a := by
  cases l with
  | nil => cases h
  | cons x xs =>
    cases h
    have h1 := max_ge xs x
    have h2 := hb _ (max_mem xs x)
    rcases List.mem_cons.mp hm with rfl | hm
    · exact Int.le_antisymm h1.1 h2
    · exact Int.le_antisymm (h1.2 m hm) h2
theorem minI_some {l : List Int} {a m : Int} (h : minI l = some a) (hm : m ∈ l) (hb : ∀ y ∈ l, m ≤ y) : m = a := by
  cases l with
  | nil => cases h
  | cons x xs =>
    cases h
    have h1 := min_le xs x
    have h2 := hb _ (min_mem xs x)
    rcases List.mem_cons.mp hm with rfl | hm
    · exact Int.le_antisymm h2 h1.1
    · exact Int.le_antisymm h2 (h1.2 m hm)
theorem pos_of_some {l : List Int} {a : Int} (h : maxI l = some a ∨ minI l = some a) : 0 < l.length := by
  cases l with
  | nil => rcases h with h | h <;> cases h
  | cons => simp
def maxM (l : List Int) : M Int := M.ofO (maxI l)
def minM (l : List Int) : M Int := M.ofO (minI l)
theorem fn_maxL : FnS dMax1 c (eL eI) maxM eI cT := fun τ l W r W' R k hr q => by
  obtain ⟨h, rfl⟩ := M.ofO_someE hr
  exact ⟨rfl, l, rfl, pos_of_some (.inl h), fun m hm hb => by rw [maxI_some h hm hb]; exact q .st rfl⟩
theorem fn_maxT : FnS dMax1 c (eT eI) maxM eI cT := fun τ l W r W' R k hr q => by
  obtain ⟨h, rfl⟩ := M.ofO_someE hr
  exact ⟨rfl, l, rfl, pos_of_some (.inl h), fun m hm hb => by rw [maxI_some h hm hb]; exact q .st rfl⟩
theorem fn_minL : FnS dMin1 c (eL eI) minM eI cT := fun τ l W r W' R k hr q => by
  obtain ⟨h, rfl⟩ := M.ofO_someE hr
  exact ⟨rfl, l, rfl, pos_of_some (.inr h), fun m hm hb => by rw [minI_some h hm hb]; exact q .st rfl⟩
theorem fn_minT : FnS dMin1 c (eT eI) minM eI cT := fun τ l W r W' R k hr q => by
  obtain ⟨h, rfl⟩ := M.ofO_someE hr
  exact ⟨rfl, l, rfl, pos_of_some (.inr h), fun m hm hb => by rw [minI_some h hm hb]; exact q .st rfl⟩
/-! ### sorted, join -/
def leE (e : α → D) (a b : α) : Bool := leD (e a) (e b)
def srtE (e : α → D) (l : List α) : List α := l.mergeSort (leE e)
theorem srt_map {e : α → D} (l : List α) : sortD (l.map e) = (srtE e l).map e := by
  unfold sortD srtE
  exact (List.map_mergeSort (r := leE e) (s := leD) (f := e) (l := l) fun a _ b _ => rfl).symm
open Classical in
noncomputable def srt (e : α → D) (l : List α) : M (List α) := M.chk (SortOk (l.map e)) >>= fun _ => pure (srtE e l)
open Classical in
theorem fn_sort {e : α → D} (h : EstE c e := by first | exact est_o rfl | exact est_f CFl.h) : FnS dSort c (eL e) (srt e) (eL e) cF := .chk fun τ l R k hp q => ⟨h τ l k, hp, by rw [srt_map]; exact q .fr rfl⟩
theorem strs_map : ∀ l : List Str, strsOf (l.map D.str) = some l
  | [] => by simp [strsOf]
  | z :: l => by
    rw [List.map_cons]
    unfold strsOf
    rw [strs_map l]
    rfl
instance {a : Str} {l : List Str} : Decidable (joinOk a l) := by unfold joinOk; exact inferInstance
def joinM (a : Str) (l : List Str) : M Str := M.chk (joinOk a l) >>= fun _ => pure (Txt.join a l)
theorem re_joinL {z : Str} {ml : M (List Str)} (h : RE tb σ ml (eL eS) c) : RE (sJoin (sC (.str z)) tb) σ (ml >>= joinM z) eS cT := fun W r W' Q hr q => by
  obtain ⟨l, W1, h1, hr⟩ := M.bnd_some hr
  obtain ⟨hp, hr⟩ := M.chk_some hr
  obtain ⟨rfl, rfl⟩ := M.pure_some hr
  exact ⟨z, rfl, h _ _ _ _ h1 fun τ k => ⟨l, strs_map l, hp, q .st rfl⟩⟩
theorem re_joinT {z : Str} {ml : M (List Str)} (h : RE tb σ ml (eT eS) c) : RE (sJoin (sC (.str z)) tb) σ (ml >>= joinM z) eS cT := fun W r W' Q hr q => by
  obtain ⟨l, W1, h1, hr⟩ := M.bnd_some hr
  obtain ⟨hp, hr⟩ := M.chk_some hr
  obtain ⟨rfl, rfl⟩ := M.pure_some hr
  exact ⟨z, rfl, h _ _ _ _ h1 fun τ k => ⟨l, strs_map l, hp, q .st rfl⟩⟩
theorem rp_rev {l : List α} {e : α → D} (ha : RP ta σ l (eL e) c) (h : EstE c e := by first | exact est_o rfl | exact est_f CFl.h) : RP (sRev ta) σ l.reverse (eL e) cF := fun W Q q => ha W _ fun τ k => ⟨h τ l k, by rw [← List.map_reverse]; exact q .fr rfl⟩
theorem re_rev {ml : M (List α)} {e : α → D} (ha : RE ta σ ml (eL e) c) (h : EstE c e := by first | exact est_o rfl | exact est_f CFl.h) : RE (sRev ta) σ (ml >>= fun l => pure l.reverse) (eL e) cF := fun W r W' Q hr q => by
  obtain ⟨l, W1, h1, hr⟩ := M.bnd_some hr
  obtain ⟨rfl, rfl⟩ := M.pure_some hr
  exact ha _ _ _ _ h1 fun τ k => ⟨h τ l k, by rw [← List.map_reverse]; exact q .fr rfl⟩
/-! ### slices -/
def cutL (xs : List α) (lo hi : Option Int) : List α := (xs.drop (HT.sIx xs.length 0 lo)).take (HT.sIx xs.length xs.length hi - HT.sIx xs.length 0 lo)
theorem cut_map {e : α → D} (l : List α) (lo hi : Option Int) : cutD (l.map e) lo hi = (cutL l lo hi).map e := by
  unfold cutD cutL
  rw [List.length_map, List.map_take, List.map_drop]
def RPt (t : SPt) (σ : SG) (m : M (Option Int)) : Prop := ∀ W o W' Q, m.run W = some (o, W') → Q o W' → t σ W Q
def RPtP (t : SPt) (σ : SG) (o : Option Int) : Prop := ∀ W Q, Q o W → t σ W Q
theorem rpt_n : RPtP spN σ none := fun W Q q => q
theorem rpt_s {i : Int} (h : RP t σ i eI c) : RPtP (spS t) σ (some i) := fun W Q q => h W _ fun τ k => q
theorem rpt_m {t : SPt} {o : Option Int} (h : RPtP t σ o) : RPt t σ (pure o) := fun W o W' Q r q => by
  obtain ⟨rfl, rfl⟩ := M.pure_some r
  exact h _ _ q
theorem rpt_sm {m : M Int} (h : RE t σ m eI c) : RPt (spS t) σ (m >>= fun i => pure (some i)) := fun W o W' Q r q => by
  obtain ⟨i, W1, h1, r⟩ := M.bnd_some r
  obtain ⟨rfl, rfl⟩ := M.pure_some r
  exact h _ _ _ _ h1 fun τ k => q
theorem rp_slL {l : List α} {e : α → D} {lo hi : Option Int} {tl th : SPt} (ha : RP ta σ l (eL e) c) (hl : RPtP tl σ lo) (hh : RPtP th σ hi) (h : EstE c e := by first | exact est_o rfl | exact est_f CFl.h) : RP (sSl ta tl th) σ (cutL l lo hi) (eL e) cF := fun W Q q =>
  ha W _ fun τ k => hl W _ (hh W _ ⟨h τ l k, by rw [cut_map]; exact q .fr rfl⟩)
theorem rp_slT {l : List α} {e : α → D} {lo hi : Option Int} {tl th : SPt} (ha : RP ta σ l (eT e) c) (hl : RPtP tl σ lo) (hh : RPtP th σ hi) (h : EstE c e := by first | exact est_o rfl | exact est_f CFl.h) : RP (sSl ta tl th) σ (cutL l lo hi) (eT e) cT := fun W Q q =>
  ha W _ fun τ k => hl W _ (hh W _ ⟨h τ l k, by rw [cut_map]; exact q .st rfl⟩)
theorem re_slL {ml : M (List α)} {e : α → D} {lo hi : M (Option Int)} {tl th : SPt} (ha : RE ta σ ml (eL e) c) (hl : RPt tl σ lo) (hh : RPt th σ hi) (h : EstE c e := by first | exact est_o rfl | exact est_f CFl.h) : RE (sSl ta tl th) σ (ml >>= fun l => lo >>= fun lo => hi >>= fun hi => pure (cutL l lo hi)) (eL e) cF := fun W r W' Q hr q => by
  obtain ⟨l, W1, h1, hr⟩ := M.bnd_some hr
  obtain ⟨x, W2, h2, hr⟩ := M.bnd_some hr
  obtain ⟨y, W3, h3, hr⟩ := M.bnd_some hr
  obtain ⟨rfl, rfl⟩ := M.pure_some hr
  exact ha _ _ _ _ h1 fun τ k => hl _ _ _ _ h2 (hh _ _ _ _ h3 ⟨h τ l k, by rw [cut_map]; exact q .fr rfl⟩)
theorem re_slT {ml : M (List α)} {e : α → D} {lo hi : M (Option Int)} {tl th : SPt} (ha : RE ta σ ml (eT e) c) (hl : RPt tl σ lo) (hh : RPt th σ hi) (h : EstE c e := by first | exact est_o rfl | exact est_f CFl.h) : RE (sSl ta tl th) σ (ml >>= fun l => lo >>= fun lo => hi >>= fun hi => pure (cutL l lo hi)) (eT e) cT := fun W r W' Q hr q => by
  obtain ⟨l, W1, h1, hr⟩ := M.bnd_some hr
  obtain ⟨x, W2, h2, hr⟩ := M.bnd_some hr
  obtain ⟨y, W3, h3, hr⟩ := M.bnd_some hr
  obtain ⟨rfl, rfl⟩ := M.pure_some hr
  exact ha _ _ _ _ h1 fun τ k => hl _ _ _ _ h2 (hh _ _ _ _ h3 ⟨h τ l k, by rw [cut_map]; exact q .st rfl⟩)
def slS (z : Str) (lo hi : Option Int) : M Str := M.chk (z.length ≤ sizeLine) >>= fun _ => pure (cutS z lo hi)
theorem re_slS {mz : M Str} {lo hi : M (Option Int)} {tl th : SPt} (ha : RE ta σ mz eS c) (hl : RPt tl σ lo) (hh : RPt th σ hi) : RE (sSl ta tl th) σ (mz >>= fun z => lo >>= fun lo => hi >>= fun hi => slS z lo hi) eS cT := fun W r W' Q hr q => by
  obtain ⟨l, W1, h1, hr⟩ := M.bnd_some hr
  obtain ⟨x, W2, h2, hr⟩ := M.bnd_some hr
  obtain ⟨y, W3, h3, hr⟩ := M.bnd_some hr
  obtain ⟨hp, hr⟩ := M.chk_some hr
  obtain ⟨rfl, rfl⟩ := M.pure_some hr
  exact ha _ _ _ _ h1 fun τ k => hl _ _ _ _ h2 (hh _ _ _ _ h3 ⟨hp, q .st rfl⟩)
/-! ### what is walked -/
theorem frozen_of {c : Cl} {τ : Tg} (h : Cl.sub c cS = true) (k : c τ = true) : frozenTg τ = true := by
  have := sub_of h k
  cases τ <;> first | rfl | cases this
theorem ri_lstP {l : List α} {e : α → D} (ha : RP ta σ l (eL e) c) (h : Cl.sub c cS = true := by rfl) : RIP (sIter ta) σ l e := fun W Q q => ha W _ fun τ k => ⟨frozen_of h k, q⟩
theorem ri_tupP {l : List α} {e : α → D} (ha : RP ta σ l (eT e) c) (h : EstE c e := by first | exact est_o rfl | exact est_f CFl.h) : RIP (sIter ta) σ l e := fun W Q q => ha W _ fun τ k => ⟨h τ l k, q⟩
theorem ri_lst {ml : M (List α)} {e : α → D} (ha : RE ta σ ml (eL e) c) (h : Cl.sub c cS = true := by rfl) : RI (sIter ta) σ ml e := fun W l W' Q r q => ha _ _ _ _ r fun τ k => ⟨frozen_of h k, q⟩
theorem ri_tup {ml : M (List α)} {e : α → D} (ha : RE ta σ ml (eT e) c) (h : EstE c e := by first | exact est_o rfl | exact est_f CFl.h) : RI (sIter ta) σ ml e := fun W l W' Q r q => ha _ _ _ _ r fun τ k => ⟨h τ l k, q⟩
def charsL (z : Str) : List Str := z.cps.toList.map sign
theorem charsL_map (z : Str) : signsD z = (charsL z).map eS := by
  unfold signsD charsL
  rw [List.map_map]; rfl
theorem ri_strP {z : Str} (ha : RP ta σ z eS c) : RIP (sIter ta) σ (charsL z) eS := fun W Q q => ha W _ fun τ k => by
  show Q (signsD z) W
  rw [charsL_map]; exact q
theorem ri_str {mz : M Str} (ha : RE ta σ mz eS c) : RI (sIter ta) σ (mz >>= fun z => pure (charsL z)) eS := fun W l W' Q r q => by
  obtain ⟨z, W1, h1, r⟩ := M.bnd_some r
  obtain ⟨rfl, rfl⟩ := M.pure_some r
  refine ha _ _ _ _ h1 fun τ k => ?_
  show Q (signsD z) _
  rw [charsL_map]; exact q
def upI (lo : Int) (n : Nat) : List Int := (List.range n).map fun i => lo + (i : Nat)
def downI (hi : Int) (n : Nat) : List Int := (List.range n).map fun i => hi - (i : Nat)
def rng1 (n : Int) : M (List Int) := M.chk (-(2 ^ 62) ≤ n ∧ n < 2 ^ 62) >>= fun _ => pure (upI 0 n.toNat)
def rng2 (a b : Int) : M (List Int) := M.chk (-(2 ^ 62) ≤ a ∧ a < 2 ^ 62 ∧ -(2 ^ 62) ≤ b ∧ b < 2 ^ 62) >>= fun _ => pure (upI a (b - a).toNat)
def rngD (a b : Int) : M (List Int) := M.chk (-(2 ^ 62) ≤ a ∧ a < 2 ^ 62 ∧ -(2 ^ 62) ≤ b ∧ b < 2 ^ 62) >>= fun _ => pure (downI a (a - b).toNat)
theorem up_map (lo : Int) (n : Nat) : upTo lo n = (upI lo n).map eI := by
  unfold upTo upI
  rw [List.map_map]; rfl
theorem down_map (lo : Int) (n : Nat) : downTo lo n = (downI lo n).map eI := by
  unfold downTo downI
  rw [List.map_map]; rfl
theorem ri_rng1 {ma : M Int} (ha : RE ta σ ma eI c) : RI (sRng1 (aCons ta aNil)) σ (ma >>= rng1) eI := fun W l W' Q r q => by
  obtain ⟨a, W1, h1, r⟩ := M.bnd_some r
  obtain ⟨hp, r⟩ := M.chk_some r
  obtain ⟨rfl, rfl⟩ := M.pure_some r
  exact ha _ _ _ _ h1 fun τ k => ⟨hp.1, hp.2, by rw [up_map]; exact q⟩
theorem ri_rng2 {ma mb : M Int} (ha : RE ta σ ma eI c1) (hb : RE tb σ mb eI c2) : RI (sRng2 (aCons ta (aCons tb aNil))) σ (ma >>= fun a => mb >>= fun b => rng2 a b) eI := fun W l W' Q r q => by
  obtain ⟨a, W1, h1, r⟩ := M.bnd_some r
  obtain ⟨b, W2, h2, r⟩ := M.bnd_some r
  obtain ⟨hp, r⟩ := M.chk_some r
  obtain ⟨rfl, rfl⟩ := M.pure_some r
  exact ha _ _ _ _ h1 fun τ k => hb _ _ _ _ h2 fun τ k => ⟨hp, by rw [up_map]; exact q⟩
theorem ri_rngD {ma mb : M Int} (ha : RE ta σ ma eI c1) (hb : RE tb σ mb eI c2) : RI (sRngD (aCons ta (aCons tb (aCons (sUn dNeg (sC (.int 1))) aNil)))) σ (ma >>= fun a => mb >>= fun b => rngD a b) eI := fun W l W' Q r q => by
  obtain ⟨a, W1, h1, r⟩ := M.bnd_some r
  obtain ⟨b, W2, h2, r⟩ := M.bnd_some r
  obtain ⟨hp, r⟩ := M.chk_some r
  obtain ⟨rfl, rfl⟩ := M.pure_some r
  exact ha _ _ _ _ h1 fun τ k => hb _ _ _ _ h2 fun τ k => ⟨hp, by rw [down_map]; exact q⟩
end
end VL

/-! ML5: comprehensions; statements. -/
namespace VL
open PySem PySem.Spec PyProof.Rows L2
section
variable {α β γ δ κ ρ S : Type} {σ : SG} {i j : Nat} {c c1 c2 c3 : Cl} {e : α → D} {e1 : α → D} {e2 : β → D} {er : ρ → D} {ta tb tc t : SE} {a : α} {b : β} {m : M α} {ma : M α} {mb : M β}
/-! ### targets -/
def TG (f : TgF) (e : α → D) (σ : SG) (σ' : α → SG) : Prop := ∀ x (Q : SG → Prop), Q (σ' x) → tgD f .st (e x) σ Q
theorem tg_name {e : α → D} : TG (.name i) e σ (fun x => σ.set i (some (.val (e x)))) := fun x Q q => ⟨rfl, q⟩
theorem tg_p {e1 : α → D} {e2 : β → D} : TG (.tup [i, j]) (eP e1 e2) σ (fun x => (σ.set i (some (.val (e1 x.1)))).set j (some (.val (e2 x.2)))) := fun x Q q => ⟨rfl, trivial, q⟩
theorem tg_3 {k : Nat} {e1 : α → D} {e2 : β → D} {e3' : γ → D} : TG (.tup [i, j, k]) (e3 e1 e2 e3') σ (fun x => ((σ.set i (some (.val (e1 x.1)))).set j (some (.val (e2 x.2.1)))).set k (some (.val (e3' x.2.2)))) := fun x Q q => ⟨rfl, trivial, q⟩
theorem tg_4 {k l : Nat} {e1 : α → D} {e2 : β → D} {e3' : γ → D} {e4' : δ → D} : TG (.tup [i, j, k, l]) (e4 e1 e2 e3' e4') σ (fun x => (((σ.set i (some (.val (e1 x.1)))).set j (some (.val (e2 x.2.1)))).set k (some (.val (e3' x.2.2.1)))).set l (some (.val (e4' x.2.2.2)))) := fun x Q q => ⟨rfl, trivial, q⟩
/-! ### comprehensions -/
def coll (f : α → M Bool) (g : α → M β) : List α → M (List β)
  | [] => pure []
  | x :: xs => f x >>= fun b => if b = true then g x >>= fun y => coll f g xs >>= fun ys => pure (y :: ys) else coll f g xs
def lim (m : M (List β)) : M (List β) := m >>= fun l => M.chk (l.length ≤ sizeLine) >>= fun _ => pure l
def cmp (f : α → M Bool) (g : α → M β) (l : List α) : M (List β) := lim (coll f g l)
theorem coll_pure {f : α → Bool} {g : α → β} : ∀ l : List α, coll (fun x => pure (f x)) (fun x => pure (g x)) l = pure ((l.filter f).map g)
  | [] => rfl
  | x :: xs => by
    unfold coll
    rw [pure_bind, coll_pure xs]
    cases h : f x with
    | true => simp [h]
    | false => simp [h]
theorem coll_map {g : α → M β} {l : List α} {h : α → β} (hg : ∀ x ∈ l, g x = pure (h x)) : coll (fun _ => pure true) g l = pure (l.map h) := by
  induction l with
  | nil => rfl
  | cons x xs ih =>
    unfold coll
    rw [pure_bind, if_pos rfl, hg x (by simp), pure_bind, ih fun y m => hg y (by simp [m]), pure_bind]
    rfl
theorem coll_filter {f : α → M Bool} {g : α → M β} {l : List α} {p : α → Bool} {h : α → β} (hf : ∀ x ∈ l, f x = pure (p x)) (hg : ∀ x ∈ l, p x = true → g x = pure (h x)) : coll f g l = pure ((l.filter p).map h) := by
  induction l with
  | nil => rfl
  | cons x xs ih =>
    unfold coll
    have ih := ih (fun y m => hf y (by simp [m])) fun y m => hg y (by simp [m])
    rw [hf x (by simp), pure_bind, ih]
    cases q : p x with
    | true => rw [if_pos rfl, hg x (by simp) q, pure_bind, pure_bind, List.filter_cons_of_pos q, List.map_cons]
    | false => rw [if_neg (by simp), List.filter_cons_of_neg (by simp [q])]
theorem lim_pure {l : List β} (h : l.length ≤ sizeLine) : lim (pure l) = pure l := by
  unfold lim
  rw [pure_bind, M.chk_pos h, pure_bind]
theorem lim_some {m : M (List β)} {W W' : Wd} {l : List β} (h : (lim m).run W = some (l, W')) : m.run W = some (l, W') ∧ l.length ≤ sizeLine := by
  obtain ⟨x, W1, h1, h⟩ := M.bnd_some h
  obtain ⟨hp, h⟩ := M.chk_some h
  obtain ⟨rfl, rfl⟩ := M.pure_some h
  exact ⟨h1, hp⟩
theorem coll_run {f : TgF} {tt : SB} {te : SE} {ok : Tg → D → Prop} {σ' : α → SG} {mf : α → M Bool} {mg : α → M β} (hg : TG f e σ σ') (ht : ∀ x, RB tt (σ' x) (mf x)) (he : ∀ x, RE te (σ' x) (mg x) e2 c) (hok : ∀ τ y, c τ = true → ok τ (e2 y)) :
    ∀ (l : List α) (acc : List D) (W W' : Wd) (ys : List β) (Q : List D → Wd → Prop), (coll mf mg l).run W = some (ys, W') → acc.length + ys.length ≤ sizeLine → Q (acc ++ ys.map e2) W' → compD f tt te ok (l.map e) σ acc W Q
  | [], acc, W, W', ys, Q, hr, hl, q => by
    obtain ⟨rfl, rfl⟩ := M.pure_some hr
    show Q acc _
    simpa using q
  | x :: xs, acc, W, W', ys, Q, hr, hl, q => by
    obtain ⟨b, W1, h1, hr⟩ := M.bnd_some hr
    refine hg x _ (ht x _ _ _ _ h1 ?_)
    cases b with
    | true =>
      obtain ⟨y, W2, h2, hr⟩ := M.bnd_some hr
      obtain ⟨zs, W3, h3, hr⟩ := M.bnd_some hr
      obtain ⟨rfl, rfl⟩ := M.pure_some hr
      rw [List.length_cons] at hl
      refine he x _ _ _ _ h2 fun τ k => ⟨hok τ y k, by omega, coll_run hg ht he hok xs _ _ _ _ _ h3 (by rw [List.length_append]; simp only [List.length_cons, List.length_nil]; omega) ?_⟩
      rw [List.append_assoc]; exact q
    | false => exact coll_run hg ht he hok xs _ _ _ _ _ hr hl q
theorem re_cmp {it : SI} {f : TgF} {tt : SB} {te : SE} {vs : List Nat} {ml : M (List α)} {σ' : α → SG} {mf : α → M Bool} {mg : α → M β} (hi : RI it σ ml e) (hg : TG f e (wipeD σ vs) σ') (ht : ∀ x, RB tt (σ' x) (mf x)) (he : ∀ x, RE te (σ' x) (mg x) e2 c) (hs : StoE c e2 := by first | exact sto_s rfl | exact sto_f CFl.h) :
    RE (sLc false it f tt te vs) σ (ml >>= cmp mf mg) (eL e2) cF := fun W r W' Q hr q => by
  obtain ⟨l, W1, h1, hr⟩ := M.bnd_some hr
  obtain ⟨hr, hl⟩ := lim_some hr
  exact hi _ _ _ _ h1 (coll_run hg ht he (ok := okC false) (fun τ y k => hs τ y k) l [] W1 W' r _ hr (by simpa using hl) (q .fr rfl))
/-- rows of one's own -/
theorem re_cmpG {it : SI} {f : TgF} {tt : SB} {te : SE} {vs : List Nat} {ml : M (List α)} {σ' : α → SG} {mf : α → M Bool} {mg : α → M (List β)} (hi : RI it σ ml e) (hg : TG f e (wipeD σ vs) σ') (ht : ∀ x, RB tt (σ' x) (mf x)) (he : ∀ x, RE te (σ' x) (mg x) (eL e2) c) (hs : Cl.sub c cF = true := by rfl) :
    RE (sLc true it f tt te vs) σ (ml >>= cmp mf mg) (eL (eL e2)) cF2 := fun W r W' Q hr q => by
  obtain ⟨l, W1, h1, hr⟩ := M.bnd_some hr
  obtain ⟨hr, hl⟩ := lim_some hr
  exact hi _ _ _ _ h1 (coll_run hg ht he (ok := okC true) (fun τ y k => ⟨(by have := sub_of hs k; cases τ <;> first | rfl | (cases this; done)), _, rfl⟩) l [] W1 W' r _ hr (by simpa using hl) (q .fr2 rfl))
def coll2 (f : α → M Bool) (it : α → M (List γ)) (f1 : α → γ → M Bool) (g : α → γ → M β) : List α → M (List β)
  | [] => pure []
  | x :: xs => f x >>= fun b => if b = true then it x >>= fun l => coll (f1 x) (g x) l >>= fun ys => coll2 f it f1 g xs >>= fun zs => pure (ys ++ zs) else coll2 f it f1 g xs
def cmp2 (f : α → M Bool) (it : α → M (List γ)) (f1 : α → γ → M Bool) (g : α → γ → M β) (l : List α) : M (List β) := lim (coll2 f it f1 g l)
theorem coll2_map {it : α → M (List γ)} {f1 : α → γ → M Bool} {g : α → γ → M β} {l : List α} {h : α → List β} (hi : ∀ x ∈ l, (it x >>= fun k => coll (f1 x) (g x) k) = pure (h x)) : coll2 (fun _ => pure true) it f1 g l = pure (l.flatMap h) := by
  induction l with
  | nil => rfl
  | cons x xs ih =>
    unfold coll2
    rw [pure_bind, if_pos rfl, ← bind_assoc, hi x (by simp), pure_bind, ih fun y m => hi y (by simp [m]), pure_bind]
    rfl
theorem coll2_run {f : TgF} {tt : SB} {it1 : SI} {f1 : TgF} {tt1 : SB} {te : SE} {vs1 : List Nat} {σ' : α → SG} {σ'' : α → γ → SG} {e1' : γ → D} {mf : α → M Bool} {mi : α → M (List γ)} {mf1 : α → γ → M Bool} {mg : α → γ → M β}
    (hg : TG f e σ σ') (ht : ∀ x, RB tt (σ' x) (mf x)) (hi : ∀ x, RI it1 (σ' x) (mi x) e1') (hg1 : ∀ x, TG f1 e1' (wipeD (σ' x) vs1) (σ'' x)) (ht1 : ∀ x y, RB tt1 (σ'' x y) (mf1 x y)) (he : ∀ x y, RE te (σ'' x y) (mg x y) e2 c) (hs : StoE c e2) :
    ∀ (l : List α) (acc : List D) (W W' : Wd) (ys : List β) (Q : List D → Wd → Prop), (coll2 mf mi mf1 mg l).run W = some (ys, W') → acc.length + ys.length ≤ sizeLine → Q (acc ++ ys.map e2) W' → comp2D f tt it1 f1 tt1 te vs1 (l.map e) σ acc W Q
  | [], acc, W, W', ys, Q, hr, hl, q => by
    obtain ⟨rfl, rfl⟩ := M.pure_some hr
    show Q acc _
    simpa using q
  | x :: xs, acc, W, W', ys, Q, hr, hl, q => by
    obtain ⟨b, W1, h1, hr⟩ := M.bnd_some hr
    refine hg x _ (ht x _ _ _ _ h1 ?_)
    cases b with
    | true =>
      obtain ⟨k, W2, h2, hr⟩ := M.bnd_some hr
      obtain ⟨us, W3, h3, hr⟩ := M.bnd_some hr
      obtain ⟨zs, W4, h4, hr⟩ := M.bnd_some hr
      obtain ⟨rfl, rfl⟩ := M.pure_some hr
      rw [List.length_append] at hl
      refine hi x _ _ _ _ h2 (coll_run (hg1 x) (ht1 x) (he x) (ok := sto) (fun τ y k => hs τ y k) k acc W2 W3 us _ h3 (by omega) ?_)
      refine coll2_run hg ht hi hg1 ht1 he hs xs _ _ _ _ _ h4 (by rw [List.length_append, List.length_map]; omega) ?_
      rw [List.append_assoc, ← List.map_append]; exact q
    | false => exact coll2_run hg ht hi hg1 ht1 he hs xs _ _ _ _ _ hr hl q
theorem re_cmp2 {it : SI} {f : TgF} {tt : SB} {it1 : SI} {f1 : TgF} {tt1 : SB} {te : SE} {vs vs1 : List Nat} {ml : M (List α)} {σ' : α → SG} {σ'' : α → γ → SG} {e1' : γ → D} {mf : α → M Bool} {mi : α → M (List γ)} {mf1 : α → γ → M Bool} {mg : α → γ → M β}
    (hi : RI it σ ml e) (hg : TG f e (wipeD σ vs) σ') (ht : ∀ x, RB tt (σ' x) (mf x)) (hi1 : ∀ x, RI it1 (σ' x) (mi x) e1') (hg1 : ∀ x, TG f1 e1' (wipeD (σ' x) vs1) (σ'' x)) (ht1 : ∀ x y, RB tt1 (σ'' x y) (mf1 x y)) (he : ∀ x y, RE te (σ'' x y) (mg x y) e2 c) (hs : StoE c e2 := by first | exact sto_s rfl | exact sto_f CFl.h) :
    RE (sLc2 it f tt it1 f1 tt1 te vs vs1) σ (ml >>= cmp2 mf mi mf1 mg) (eL e2) cF := fun W r W' Q hr q => by
  obtain ⟨l, W1, h1, hr⟩ := M.bnd_some hr
  obtain ⟨hr, hl⟩ := lim_some hr
  exact hi _ _ _ _ h1 (coll2_run hg ht hi1 hg1 ht1 he hs l [] W1 W' r _ hr (by simpa using hl) (q .fr rfl))
/-- one's own objects, read as data that stay -/
theorem re_bor {c' : Cl} (h : RE t (frzAll σ) m e c) (hc : ∀ τ a, c τ = true → c' (borTag τ (e a)) = true) : RE (sBor t) σ m e c' := fun W r W' Q hr q => h W r W' _ hr fun τ k => q _ (hc τ r k)
theorem bor_fl [h : CFl e] (τ : Tg) (a : List α) (k : cF τ = true) : cF (borTag τ (eL e a)) = true := by
  have q : flatEl (eL e a) = true := flats_mapE h.h a
  cases τ <;> first | (cases k; done) | simp [borTag, q, cF]

theorem re_borF [h : CFl e] {ml : M (List α)} (hr : RE t (frzAll σ) ml (eL e) cF) : RE (sBor t) σ ml (eL e) cF := re_bor hr fun τ a k => bor_fl τ a k
theorem re_borA {ml : M α} (hr : RE t (frzAll σ) ml e c) : RE (sBor t) σ ml e cFG := re_bor hr fun τ a k => by
  cases τ <;> first | rfl | (show cFG (if flatEl (e a) = true then .fr else .b2) = true; split <;> rfl)
theorem rp_varFG {g : List (List α)} (h : σ[i]? = some (some (.val (.lst ((g.map fun r => r.map e).map D.lst))))) : RP (sVar i) σ g (eL (eL e)) cT := fun W Q q => by
  show (match σ[i]? with | some (some x) => sv x fun t d => Q t d W | _ => False)
  rw [h]
  have := q .st rfl
  unfold eL at this
  show Q .st (.lst ((g.map fun r => r.map e).map D.lst)) W
  rw [List.map_map]
  exact this

/-! ### statements -/
def RS (t : SS) (σ : SG) (m : M ρ) (F : ρ → SEnds → Wd → Prop) : Prop := ∀ D W r W', m.run W = some (r, W') → F r D W' → t D σ W
inductive Ctl (S ρ : Type) where
  | nx (s : S) | bk (s : S) | rt (a : ρ)
/-- how a block ends: on to a state whose other slots are junk -/
def endN (Sl : S → (Nat → Option SV) → SG) (s : S) (D : SEnds) (W : Wd) : Prop := ∀ z, D.nx (Sl s z) W
def endC (Sl : S → (Nat → Option SV) → SG) (e : ρ → D) (c : Cl) : Ctl S ρ → SEnds → Wd → Prop
  | .nx s, D, W => (∀ z, D.nx (Sl s z) W) ∧ ∀ z, D.ct (Sl s z) W
  | .bk s, D, W => ∀ z, D.bk (Sl s z) W
  | .rt a, D, W => ∀ τ, c τ = true → D.rt τ (e a) W
/-- within a loop that neither breaks nor returns -/
def endL (Sl : S → (Nat → Option SV) → SG) (s : S) (D : SEnds) (W : Wd) : Prop := (∀ z, D.nx (Sl s z) W) ∧ ∀ z, D.ct (Sl s z) W
/-- the end of a def -/
def endF (e : ρ → D) (c : Cl) (a : ρ) (D : SEnds) (W : Wd) : Prop := (∀ τ, c τ = true → D.rt τ (e a) W) ∧ (e a = .non → c .st = true → ∀ σ', D.nx σ' W)
def retC (c : Cl) : Cl | .fr => c .fr || c .b1 | .st => c .st || c .fr2 || c .b2 | _ => false
theorem retC_ok {c : Cl} {τ : Tg} (h : c τ = true) : retC c (retTag τ) = true := by cases τ <;> simp_all [retTag, retC]
variable {F : ρ → SEnds → Wd → Prop} {u v rest : SS} {m' : M ρ} {mk : α → M ρ}
/-- what stands in the other slots -/
def jz (σ : SG) : Nat → Option SV := fun i => σ.getD i none
theorem rs_gh {g : SG → (SG → Prop) → Prop} {m' : M ρ} {F : ρ → SEnds → Wd → Prop} {u rest : SS} (h : RS (sGhost g (sSeq u rest)) σ m' F) : RS (sSeq (sGhost g u) rest) σ m' F := h
theorem rs_last (h : RS (sSeq u sNil) σ m' F) : RS u σ m' F := h
theorem rs_seq (h : RS (sSeq u (sSeq v rest)) σ m' F) : RS (sSeq (sSeq u v) rest) σ m' F := h
theorem rs_pass (h : RS rest σ m' F) : RS (sSeq sNil rest) σ m' F := h
theorem rs_cast {m : M ρ} (h : RS u σ m F) (e : m = m') : RS u σ m' F := e ▸ h
theorem rs_asgP {f : TgF} {te : SE} {σ' : α → SG} (h : RP te σ a e cT) (hg : TG f e σ σ') (hu : RS rest (σ' a) m' F) : RS (sSeq (sAsg f te) rest) σ m' F := fun D W r W' hr q => h W _ fun τ k => by
  have : τ = .st := by cases τ <;> first | rfl | cases k
  subst this
  exact hg a _ (hu D W r W' hr q)
theorem rs_asg {f : TgF} {te : SE} {σ' : α → SG} (h : RE te σ ma e cT) (hg : TG f e σ σ') (hu : ∀ a, RS rest (σ' a) (mk a) F) : RS (sSeq (sAsg f te) rest) σ (ma >>= mk) F := fun D W r W' hr q => by
  obtain ⟨a, W1, h1, hr⟩ := M.bnd_some hr
  exact h W _ _ _ h1 fun τ k => by
    have : τ = .st := by cases τ <;> first | rfl | cases k
    subst this
    exact hg a _ (hu a D W1 r W' hr q)
theorem rs_setP {te : SE} (h : RP te σ a e c) (hu : RS rest (σ.set i (some (.val (e a)))) m' F) (hs : StoE c e := by first | exact sto_s rfl | exact sto_f CFl.h) : RS (sSeq (sSet i te) rest) σ m' F := fun D W r W' hr q =>
  h W _ fun τ k => ⟨hs τ a k, hu D W r W' hr q⟩
theorem rs_set {te : SE} (h : RE te σ ma e c) (hu : ∀ a, RS rest (σ.set i (some (.val (e a)))) (mk a) F) (hs : StoE c e := by first | exact sto_s rfl | exact sto_f CFl.h) : RS (sSeq (sSet i te) rest) σ (ma >>= mk) F := fun D W r W' hr q => by
  obtain ⟨a, W1, h1, hr⟩ := M.bnd_some hr
  exact h W _ _ _ h1 fun τ k => ⟨hs τ a k, hu a D W1 r W' hr q⟩
theorem rs_drop {te : SE} (h : RE te σ ma e c) (hu : RS rest σ m' F) : RS (sSeq (sDrop te) rest) σ (ma >>= fun _ => m') F := fun D W r W' hr q => by
  obtain ⟨a, W1, h1, hr⟩ := M.bnd_some hr
  exact h W _ _ _ h1 fun τ k => hu D W1 r W' hr q
theorem rs_ownP {te : SE} {a : List α} (h : RP te σ a (eL e) c) (hu : RS rest (σ.set i (some (oL e a))) m' F) (hc : Cl.sub c cF = true := by rfl) : RS (sSeq (sOwn i te) rest) σ m' F := fun D W r W' hr q =>
  h W _ fun τ k => by
    have := sub_of hc k
    cases τ <;> first | (cases this; done) | exact hu D W r W' hr q
theorem rs_own {te : SE} {ma : M (List α)} {mk : List α → M ρ} (h : RE te σ ma (eL e) c) (hu : ∀ a, RS rest (σ.set i (some (oL e a))) (mk a) F) (hc : Cl.sub c cF = true := by rfl) : RS (sSeq (sOwn i te) rest) σ (ma >>= mk) F := fun D W r W' hr q => by
  obtain ⟨a, W1, h1, hr⟩ := M.bnd_some hr
  exact h W _ _ _ h1 fun τ k => by
    have := sub_of hc k
    cases τ <;> first | (cases this; done) | exact hu a D W1 r W' hr q
theorem rs_ownG {te : SE} {ma : M (List (List α))} {mk : List (List α) → M ρ} (h : RE te σ ma (eL (eL e)) c) (hu : ∀ a, RS rest (σ.set i (some (oG e a))) (mk a) F) (hc : Cl.sub c cF2 = true := by rfl) : RS (sSeq (sOwn i te) rest) σ (ma >>= mk) F := fun D W r W' hr q => by
  obtain ⟨a, W1, h1, hr⟩ := M.bnd_some hr
  exact h W _ _ _ h1 fun τ k => by
    have := sub_of hc k
    cases τ <;> first | (cases this; done) | (refine ⟨a.map fun r => r.map e, by rw [List.map_map]; rfl, ?_⟩; exact hu a D W1 r W' hr q)
theorem rs_app {te : SE} {l : List α} {c : Cl} (hi : σ[i]? = some (some (oL e l))) (h : RE te σ ma e c) (hu : ∀ a, RS rest (σ.set i (some (oL e (l ++ [a])))) (mk a) F) (hs : StoE c e := by first | exact sto_s rfl | exact sto_f CFl.h) :
    RS (sSeq (sApp i te) rest) σ (ma >>= fun a => M.chk (l.length < sizeLine) >>= fun _ => mk a) F := fun D W r W' hr q => by
  obtain ⟨a, W1, h1, hr⟩ := M.bnd_some hr
  obtain ⟨hp, hr⟩ := M.chk_some hr
  show (match σ[i]? with | some (some (.ml ds)) => _ | _ => False)
  rw [hi]
  refine h W _ _ _ h1 fun τ k => ⟨hs τ a k, by simpa using hp, ?_⟩
  have := hu a D W1 r W' hr q
  unfold oL at this
  rw [List.map_append] at this
  exact this
def setI (l : List α) (k : Int) (a : α) : M (List α) := M.ofO ((ixN l.length k).map fun j => l.set j a)
theorem rs_put {tk te : SE} {l : List α} {c ck : Cl} {mi : α → M Int} {mk : List α → M ρ} (hi : σ[i]? = some (some (oL e l))) (h : RE te σ ma e c) (hk : ∀ a, RE tk σ (mi a) eI ck) (hu : ∀ a, RS rest (σ.set i (some (oL e a))) (mk a) F) (hs : StoE c e := by first | exact sto_s rfl | exact sto_f CFl.h) :
    RS (sSeq (sPut i tk te) rest) σ (ma >>= fun a => mi a >>= fun k => setI l k a >>= mk) F := fun D W r W' hr q => by
  obtain ⟨a, W1, h1, hr⟩ := M.bnd_some hr
  obtain ⟨k, W2, h2, hr⟩ := M.bnd_some hr
  obtain ⟨l', W3, h3', hr⟩ := M.bnd_some hr
  obtain ⟨h3, rfl⟩ := M.ofO_someE h3'
  obtain ⟨j, hj, rfl⟩ := Option.map_eq_some_iff.mp h3
  show (match σ[i]? with | some (some (.ml ds)) => _ | _ => False)
  rw [hi]
  refine h W _ _ _ h1 fun τ kt => hk a W1 _ _ _ h2 fun τ' kt' => ⟨hs τ a kt, j, by rw [List.length_map]; exact hj, ?_⟩
  have := hu _ D _ r W' hr q
  unfold oL at this
  rw [List.map_set] at this
  exact this
def setG (g : List (List α)) (r k : Int) (a : α) : M (List (List α)) := ix g r >>= fun row => setI row k a >>= fun row' => M.ofO ((ixN g.length r).map fun j => g.set j row')
theorem rs_put2 {tr tk te : SE} {g : List (List α)} {c cr ck : Cl} {mr mi : M Int} {mk : List (List α) → M ρ} (hi : σ[i]? = some (some (oG e g))) (h : RE te σ ma e c) (hr' : RE tr σ mr eI cr) (hk : RE tk σ mi eI ck) (hu : ∀ a, RS rest (σ.set i (some (oG e a))) (mk a) F) (hs : StoE c e := by first | exact sto_s rfl | exact sto_f CFl.h) :
    RS (sSeq (sPut2 i tr tk te) rest) σ (ma >>= fun a => mr >>= fun r => ix g r >>= fun row => mi >>= fun k => setI row k a >>= fun row' => M.ofO ((ixN g.length r).map fun j => g.set j row') >>= mk) F := fun D W r W' hr q => by
  obtain ⟨a, W1, h1, hr1⟩ := M.bnd_some hr
  clear hr
  obtain ⟨x, W2, h2, hr2⟩ := M.bnd_some hr1
  clear hr1
  obtain ⟨row, W3, h3', hr3⟩ := M.bnd_some hr2
  clear hr2
  obtain ⟨h3, rfl⟩ := M.ofO_someE h3'
  obtain ⟨k, W4, h4, hr4⟩ := M.bnd_some hr3
  clear hr3
  obtain ⟨row', W5, h5', hr5⟩ := M.bnd_some hr4
  clear hr4
  obtain ⟨h5, rfl⟩ := M.ofO_someE h5'
  obtain ⟨n, hn, rfl⟩ := Option.map_eq_some_iff.mp h5
  obtain ⟨g', W6, h6', hr⟩ := M.bnd_some hr5
  clear hr5
  obtain ⟨h6, rfl⟩ := M.ofO_someE h6'
  obtain ⟨j, hj, rfl⟩ := Option.map_eq_some_iff.mp h6
  show (match σ[i]? with | some (some (.mg ds)) => _ | _ => False)
  rw [hi]
  refine h W _ _ _ h1 fun τ kt => hr' W1 _ _ _ h2 fun τ' kt' => ⟨j, row.map e, by rw [List.length_map]; exact hj, ?_, hk _ _ _ _ h4 fun τ2 kt2 => ⟨hs τ a kt, n, by rw [List.length_map]; exact hn, ?_⟩⟩
  · unfold atI at h3
    rw [hj] at h3
    rw [List.getElem?_map, (show g[j]? = some row from h3)]; rfl
  · have := hu _ D _ r W' hr q
    unfold oG at this
    rw [List.map_set, List.map_set] at this
    exact this
theorem rs_frz {l : List α} (hi : σ[i]? = some (some (oL e l))) (hu : RS rest (σ.set i (some (.val (eL e l)))) m' F) : RS (sGhost (frz i) rest) σ m' F := fun D W r W' hr q => by
  show frz i σ _
  unfold frz
  rw [hi]
  exact hu D W r W' hr q
theorem rs_frzV {a : α} (hi : σ[i]? = some (some (.val (e a)))) (hu : RS rest (σ.set i (some (.val (e a)))) m' F) : RS (sGhost (frz i) rest) σ m' F := fun D W r W' hr q => by
  show frz i σ _
  unfold frz
  rw [hi]
  exact hu D W r W' hr q
theorem rs_frzG {l : List (List α)} (hi : σ[i]? = some (some (oG e l))) (hu : RS rest (σ.set i (some (.val (eL (eL e) l)))) m' F) : RS (sGhost (frz i) rest) σ m' F := fun D W r W' hr q => by
  show frz i σ _
  unfold frz
  rw [hi]
  have := hu D W r W' hr q
  unfold eL at this
  show rest D (σ.set i (some (.val (.lst ((l.map fun r => r.map e).map VL.D.lst))))) W
  rw [List.map_map]
  exact this
/-! ### ends -/
theorem rs_retFP {te : SE} {a : ρ} {cr : Cl} (h : RP te σ a er c) (hc : Cl.sub (retC c) cr = true := by rfl) : RS (sSeq (sRet te) rest) σ (pure a) (endF er cr) := fun D W r W' hr q => by
  obtain ⟨rfl, rfl⟩ := M.pure_some hr
  exact h _ _ fun τ k => q.1 _ (sub_of hc (retC_ok k))
theorem rs_retF {te : SE} {mr : M ρ} {cr : Cl} (h : RE te σ mr er c) (hc : Cl.sub (retC c) cr = true := by rfl) : RS (sSeq (sRet te) rest) σ mr (endF er cr) := fun D W r W' hr q =>
  h _ _ _ _ hr fun τ k => q.1 _ (sub_of hc (retC_ok k))
theorem rs_retCP {te : SE} {a : ρ} {cr : Cl} {Sl : S → (Nat → Option SV) → SG} (h : RP te σ a er c) (hc : Cl.sub (retC c) cr = true := by rfl) : RS (sSeq (sRet te) rest) σ (pure (Ctl.rt a)) (endC Sl er cr) := fun D W r W' hr q => by
  obtain ⟨rfl, rfl⟩ := M.pure_some hr
  exact h _ _ fun τ k => q _ (sub_of hc (retC_ok k))
theorem rs_retC {te : SE} {mr : M ρ} {cr : Cl} {Sl : S → (Nat → Option SV) → SG} (h : RE te σ mr er c) (hc : Cl.sub (retC c) cr = true := by rfl) : RS (sSeq (sRet te) rest) σ (mr >>= fun a => pure (Ctl.rt a)) (endC Sl er cr) := fun D W r W' hr q => by
  obtain ⟨a, W1, h1, hr⟩ := M.bnd_some hr
  obtain ⟨rfl, rfl⟩ := M.pure_some hr
  exact h _ _ _ _ h1 fun τ k => q _ (sub_of hc (retC_ok k))
theorem rs_endF {a : ρ} {cr : Cl} (h : er a = .non) (hc : cr .st = true := by rfl) : RS sNil σ (pure a) (endF er cr) := fun D W r W' hr q => by
  obtain ⟨rfl, rfl⟩ := M.pure_some hr
  exact q.2 h hc σ
theorem rs_endN {s : S} {Sl : S → (Nat → Option SV) → SG} (h : σ = Sl s (jz σ)) : RS sNil σ (pure s) (endN Sl) := fun D W r W' hr q => by
  obtain ⟨rfl, rfl⟩ := M.pure_some hr
  rw [h]; exact q _
theorem rs_endL {s : S} {Sl : S → (Nat → Option SV) → SG} (h : σ = Sl s (jz σ)) : RS sNil σ (pure s) (endL Sl) := fun D W r W' hr q => by
  obtain ⟨rfl, rfl⟩ := M.pure_some hr
  rw [h]; exact q.1 _
theorem rs_contL {s : S} {Sl : S → (Nat → Option SV) → SG} (h : σ = Sl s (jz σ)) : RS (sSeq sCont rest) σ (pure s) (endL Sl) := fun D W r W' hr q => by
  obtain ⟨rfl, rfl⟩ := M.pure_some hr
  rw [h]; exact q.2 _
theorem rs_endC {s : S} {Sl : S → (Nat → Option SV) → SG} {cr : Cl} (h : σ = Sl s (jz σ)) : RS sNil σ (pure (Ctl.nx s)) (endC Sl er cr) := fun D W r W' hr q => by
  obtain ⟨rfl, rfl⟩ := M.pure_some hr
  rw [h]; exact q.1 _
theorem rs_contC {s : S} {Sl : S → (Nat → Option SV) → SG} {cr : Cl} (h : σ = Sl s (jz σ)) : RS (sSeq sCont rest) σ (pure (Ctl.nx s)) (endC Sl er cr) := fun D W r W' hr q => by
  obtain ⟨rfl, rfl⟩ := M.pure_some hr
  rw [h]; exact q.2 _
theorem rs_brkC {s : S} {Sl : S → (Nat → Option SV) → SG} {cr : Cl} (h : σ = Sl s (jz σ)) : RS (sSeq sBreak rest) σ (pure (Ctl.bk s)) (endC Sl er cr) := fun D W r W' hr q => by
  obtain ⟨rfl, rfl⟩ := M.pure_some hr
  rw [h]; exact q _
/-! ### if -/
theorem rs_if {tc : SB} {mc : M Bool} {m1 m2 : M ρ} (hc : RB tc σ mc) (h1 : RS (sSeq u rest) σ m1 F) (h2 : RS (sSeq v rest) σ m2 F) : RS (sSeq (sIfS tc u v) rest) σ (mc >>= fun b => if b = true then m1 else m2) F := fun D W r W' hr q => by
  obtain ⟨b, W1, hb, hr⟩ := M.bnd_some hr
  refine hc _ _ _ _ hb ?_
  cases b with
  | true => exact h1 D W1 r W' hr q
  | false => exact h2 D W1 r W' hr q
theorem rs_join {tc : SB} {mc : M Bool} {m1 m2 : M S} {mk : S → M ρ} (Sl : S → (Nat → Option SV) → SG) (hc : RB tc σ mc) (h1 : RS u σ m1 (endN Sl)) (h2 : RS v σ m2 (endN Sl)) (hu : ∀ s z, RS rest (Sl s z) (mk s) F) :
    RS (sSeq (sIfS tc u v) rest) σ ((mc >>= fun b => if b = true then m1 else m2) >>= mk) F := fun D W r W' hr q => by
  obtain ⟨s, W1, h, hr⟩ := M.bnd_some hr
  obtain ⟨b, W2, hb, h⟩ := M.bnd_some h
  refine hc _ _ _ _ hb ?_
  cases b with
  | true => exact h1 { D with nx := rest D } W2 s W1 h fun z => hu s z D W1 r W' hr q
  | false => exact h2 { D with nx := rest D } W2 s W1 h fun z => hu s z D W1 r W' hr q
/-! ### loops -/
def forL (f : S → α → M S) : S → List α → M S
  | s, [] => pure s
  | s, x :: xs => f s x >>= fun s' => forL f s' xs
def forC (f : S → α → M (Ctl S ρ)) : S → List α → M (Ctl S ρ)
  | s, [] => pure (.nx s)
  | s, x :: xs => f s x >>= fun r => match r with
    | .nx s' => forC f s' xs
    | .bk s' => pure (.nx s')
    | .rt a => pure (.rt a)
theorem forL_ok {f : S → α → M S} {g : S → α → S} : ∀ (l : List α) (s : S), (∀ s, ∀ x ∈ l, f s x = pure (g s x)) → forL f s l = pure (l.foldl g s)
  | [], s, _ => rfl
  | x :: xs, s, h => by
    unfold forL
    rw [h s x (by simp), pure_bind, forL_ok xs _ fun s y m => h s y (by simp [m])]
    rfl
def ctl (r : Ctl S ρ) (k : S → M ρ) (k' : ρ → M ρ) : M ρ := match r with
  | .nx s => k s
  | .bk s => k s
  | .rt a => k' a
def ctlC {S' : Type} (r : Ctl S ρ) (k : S → M (Ctl S' ρ)) : M (Ctl S' ρ) := match r with
  | .nx s => k s
  | .bk s => k s
  | .rt a => pure (.rt a)
theorem forL_run {f : TgF} {body : SS} {Sl : S → (Nat → Option SV) → SG} {σ' : S → (Nat → Option SV) → α → SG} {mb : S → α → M S} (hg : ∀ s z, TG f e (Sl s z) (σ' s z)) (hb : ∀ s z x, RS body (σ' s z x) (mb s x) (endL Sl)) :
    ∀ (l : List α) (s : S) (z : Nat → Option SV) (D : SEnds) (W W' : Wd) (s' : S), (forL mb s l).run W = some (s', W') → (∀ z, D.nx (Sl s' z) W') → forD f body (l.map e) D (Sl s z) W
  | [], s, z, D, W, W', s', hr, q => by
    obtain ⟨rfl, rfl⟩ := M.pure_some hr
    exact q z
  | x :: xs, s, z, D, W, W', s', hr, q => by
    obtain ⟨s1, W1, h1, hr⟩ := M.bnd_some hr
    exact hg s z x _ (hb s z x _ W s1 W1 h1 ⟨fun z => forL_run hg hb xs s1 z D W1 W' s' hr q, fun z => forL_run hg hb xs s1 z D W1 W' s' hr q⟩)
theorem rs_forL {it : SI} {f : TgF} {body : SS} {ml : M (List α)} {mb : S → α → M S} {mk : S → M ρ} {σ' : S → (Nat → Option SV) → α → SG} (Sl : S → (Nat → Option SV) → SG) (s0 : S) (hi : RI it σ ml e) (h0 : σ = Sl s0 (jz σ)) (hg : ∀ s z, TG f e (Sl s z) (σ' s z)) (hb : ∀ s z x, RS body (σ' s z x) (mb s x) (endL Sl))
    (hu : ∀ s z, RS rest (Sl s z) (mk s) F) : RS (sSeq (sFor it f body) rest) σ (ml >>= fun l => forL mb s0 l >>= mk) F := fun D W r W' hr q => by
  generalize jz σ = z0 at h0
  obtain ⟨l, W1, h1, hr⟩ := M.bnd_some hr
  obtain ⟨s, W2, h2, hr⟩ := M.bnd_some hr
  refine hi _ _ _ _ h1 ?_
  rw [h0]
  exact forL_run hg hb l s0 z0 _ W1 W2 s h2 fun z => hu s z D W2 r W' hr q
theorem forC_run {f : TgF} {body : SS} {Sl : S → (Nat → Option SV) → SG} {cr : Cl} {σ' : S → (Nat → Option SV) → α → SG} {mb : S → α → M (Ctl S ρ)} (hg : ∀ s z, TG f e (Sl s z) (σ' s z)) (hb : ∀ s z x, RS body (σ' s z x) (mb s x) (endC Sl er cr)) :
    ∀ (l : List α) (s : S) (z : Nat → Option SV) (D : SEnds) (W W' : Wd) (r : Ctl S ρ), (forC mb s l).run W = some (r, W') → (∀ s', (r = .nx s' ∨ r = .bk s') → ∀ z, D.nx (Sl s' z) W') → (∀ a, r = .rt a → ∀ τ, cr τ = true → D.rt τ (er a) W') → forD f body (l.map e) D (Sl s z) W
  | [], s, z, D, W, W', r, hr, q, q2 => by
    obtain ⟨rfl, rfl⟩ := M.pure_some hr
    exact q s (.inl rfl) z
  | x :: xs, s, z, D, W, W', r, hr, q, q2 => by
    obtain ⟨s1, W1, h1, hr⟩ := M.bnd_some hr
    refine hg s z x _ (hb s z x _ W s1 W1 h1 ?_)
    cases s1 with
    | nx s1 => exact ⟨fun z => forC_run hg hb xs s1 z D W1 W' r hr q q2, fun z => forC_run hg hb xs s1 z D W1 W' r hr q q2⟩
    | bk s1 =>
      obtain ⟨rfl, rfl⟩ := M.pure_some hr
      exact q s1 (.inl rfl)
    | rt a =>
      obtain ⟨rfl, rfl⟩ := M.pure_some hr
      exact q2 a rfl
theorem rs_forF {cr : Cl} {it : SI} {f : TgF} {body : SS} {ml : M (List α)} {mb : S → α → M (Ctl S ρ)} {mk : S → M ρ} {σ' : S → (Nat → Option SV) → α → SG} (Sl : S → (Nat → Option SV) → SG) (s0 : S) (hi : RI it σ ml e) (h0 : σ = Sl s0 (jz σ)) (hg : ∀ s z, TG f e (Sl s z) (σ' s z)) (hb : ∀ s z x, RS body (σ' s z x) (mb s x) (endC Sl er cr))
    (hu : ∀ s z, RS rest (Sl s z) (mk s) (endF er cr)) : RS (sSeq (sFor it f body) rest) σ (ml >>= fun l => forC mb s0 l >>= fun r => ctl r mk pure) (endF er cr) := fun D W r W' hr q => by
  generalize jz σ = z0 at h0
  obtain ⟨l, W1, h1, hr⟩ := M.bnd_some hr
  obtain ⟨s, W2, h2, hr⟩ := M.bnd_some hr
  refine hi _ _ _ _ h1 ?_
  rw [h0]
  cases s with
  | nx s => exact forC_run hg hb l s0 z0 _ W1 W2 _ h2 (fun s' hs z => by rcases hs with hs | hs <;> cases hs; exact hu _ z D W2 r W' hr q) (fun a ha => by cases ha)
  | bk s => exact forC_run hg hb l s0 z0 _ W1 W2 _ h2 (fun s' hs z => by rcases hs with hs | hs <;> cases hs; exact hu _ z D W2 r W' hr q) (fun a ha => by cases ha)
  | rt a =>
    obtain ⟨rfl, rfl⟩ := M.pure_some hr
    exact forC_run hg hb l s0 z0 _ W1 _ _ h2 (fun s' hs z => by rcases hs with hs | hs <;> cases hs) (fun a ha => by cases ha; exact q.1)
theorem rs_forC {S' : Type} {Sl' : S' → (Nat → Option SV) → SG} {cr : Cl} {it : SI} {f : TgF} {body : SS} {ml : M (List α)} {mb : S → α → M (Ctl S ρ)} {mk : S → M (Ctl S' ρ)} {σ' : S → (Nat → Option SV) → α → SG} (Sl : S → (Nat → Option SV) → SG) (s0 : S) (hi : RI it σ ml e) (h0 : σ = Sl s0 (jz σ)) (hg : ∀ s z, TG f e (Sl s z) (σ' s z)) (hb : ∀ s z x, RS body (σ' s z x) (mb s x) (endC Sl er cr))
    (hu : ∀ s z, RS rest (Sl s z) (mk s) (endC Sl' er cr)) : RS (sSeq (sFor it f body) rest) σ (ml >>= fun l => forC mb s0 l >>= fun r => ctlC r mk) (endC Sl' er cr) := fun D W r W' hr q => by
  generalize jz σ = z0 at h0
  obtain ⟨l, W1, h1, hr⟩ := M.bnd_some hr
  obtain ⟨s, W2, h2, hr⟩ := M.bnd_some hr
  refine hi _ _ _ _ h1 ?_
  rw [h0]
  cases s with
  | nx s => exact forC_run hg hb l s0 z0 _ W1 W2 _ h2 (fun s' hs z => by rcases hs with hs | hs <;> cases hs; exact hu _ z D W2 r W' hr q) (fun a ha => by cases ha)
  | bk s => exact forC_run hg hb l s0 z0 _ W1 W2 _ h2 (fun s' hs z => by rcases hs with hs | hs <;> cases hs; exact hu _ z D W2 r W' hr q) (fun a ha => by cases ha)
  | rt a =>
    obtain ⟨rfl, rfl⟩ := M.pure_some hr
    exact forC_run hg hb l s0 z0 _ W1 _ _ h2 (fun s' hs z => by rcases hs with hs | hs <;> cases hs) (fun a ha => by cases ha; exact q)
/-! ### while -/
def whlC (c : S → M Bool) (f : S → M (Ctl S ρ)) : Nat → S → M (Ctl S ρ)
  | 0, _ => M.fail
  | n + 1, s => c s >>= fun b => if b = true then f s >>= fun r => match r with
    | .nx s' => whlC c f n s'
    | .bk s' => pure (.nx s')
    | .rt a => pure (.rt a)
    else pure (.nx s)
def whlL (c : S → M Bool) (f : S → M S) : Nat → S → M S
  | 0, _ => M.fail
  | n + 1, s => c s >>= fun b => if b = true then f s >>= fun s' => whlL c f n s' else pure s
/-- turns that are enough -/
@[irreducible] def fuel : Nat := 1000000
theorem rs_whlL {tc : SB} {body : SS} {mc : S → M Bool} {mb : S → M S} {mk : S → M ρ} (Sl : S → (Nat → Option SV) → SG) (s0 : S) (h0 : σ = Sl s0 (jz σ)) (hc : ∀ s z, RB tc (Sl s z) (mc s)) (hb : ∀ s z, RS body (Sl s z) (mb s) (endL Sl))
    (hu : ∀ s z, RS rest (Sl s z) (mk s) F) : RS (sSeq (sWhile tc body) rest) σ (whlL mc mb fuel s0 >>= mk) F := fun D W r W' hr q => by
  generalize jz σ = z0 at h0
  obtain ⟨s, W2, h2, hr⟩ := M.bnd_some hr
  refine ⟨fun n σ W => ∃ s1 z, σ = Sl s1 z ∧ (whlL mc mb n s1).run W = some (s, W2), ⟨fuel, s0, z0, h0, h2⟩, fun n σ W ⟨s1, z, e, h⟩ => ?_⟩
  subst e
  cases n with
  | zero => cases h
  | succ n =>
    obtain ⟨b, W3, hb3, h⟩ := M.bnd_some h
    refine hc s1 z _ _ _ _ hb3 ?_
    cases b with
    | true =>
      obtain ⟨s2, W4, h4, h⟩ := M.bnd_some h
      exact hb s1 z _ W3 s2 W4 h4 ⟨fun z => ⟨n, by omega, s2, z, rfl, h⟩, fun z => ⟨n, by omega, s2, z, rfl, h⟩⟩
    | false =>
      obtain ⟨rfl, rfl⟩ := M.pure_some (show (pure s1 : M S).run W3 = _ from h)
      exact hu _ z D _ r W' hr q
theorem whlC_run {tc : SB} {body : SS} {cr : Cl} {mc : S → M Bool} {mb : S → M (Ctl S ρ)} {Sl : S → (Nat → Option SV) → SG} {D : SEnds} {x : Ctl S ρ} {W2 : Wd} (hc : ∀ s z, RB tc (Sl s z) (mc s)) (hb : ∀ s z, RS body (Sl s z) (mb s) (endC Sl er cr)) (q1 : ∀ s', (x = .nx s' ∨ x = .bk s') → ∀ z, D.nx (Sl s' z) W2) (q2 : ∀ a, x = .rt a → ∀ τ, cr τ = true → D.rt τ (er a) W2)
    {s0 : S} {z0 : Nat → Option SV} {W : Wd} (h2 : (whlC mc mb fuel s0).run W = some (x, W2)) : sWhile tc body D (Sl s0 z0) W := by
  refine ⟨fun n σ W => ∃ s1 z, σ = Sl s1 z ∧ (whlC mc mb n s1).run W = some (x, W2), ⟨fuel, s0, z0, rfl, h2⟩, fun n σ W ⟨s1, z, e, h⟩ => ?_⟩
  subst e
  cases n with
  | zero => cases h
  | succ n =>
    obtain ⟨b, W3, hb3, h⟩ := M.bnd_some h
    refine hc s1 z _ _ _ _ hb3 ?_
    cases b with
    | true =>
      obtain ⟨y, W4, h4, h⟩ := M.bnd_some h
      refine hb s1 z _ W3 y W4 h4 ?_
      cases y with
      | nx s2 => exact ⟨fun z => ⟨n, by omega, s2, z, rfl, h⟩, fun z => ⟨n, by omega, s2, z, rfl, h⟩⟩
      | bk s2 =>
        obtain ⟨rfl, rfl⟩ := M.pure_some h
        exact q1 s2 (.inl rfl)
      | rt a =>
        obtain ⟨rfl, rfl⟩ := M.pure_some h
        exact q2 a rfl
    | false =>
      obtain ⟨rfl, rfl⟩ := M.pure_some (show (pure (.nx s1) : M (Ctl S ρ)).run W3 = _ from h)
      exact q1 s1 (.inl rfl) z
theorem rs_whlF {cr : Cl} {tc : SB} {body : SS} {mc : S → M Bool} {mb : S → M (Ctl S ρ)} {mk : S → M ρ} (Sl : S → (Nat → Option SV) → SG) (s0 : S) (h0 : σ = Sl s0 (jz σ)) (hc : ∀ s z, RB tc (Sl s z) (mc s)) (hb : ∀ s z, RS body (Sl s z) (mb s) (endC Sl er cr))
    (hu : ∀ s z, RS rest (Sl s z) (mk s) (endF er cr)) : RS (sSeq (sWhile tc body) rest) σ (whlC mc mb fuel s0 >>= fun r => ctl r mk pure) (endF er cr) := fun D W r W' hr q => by
  generalize jz σ = z0 at h0
  obtain ⟨x, W2, h2, hr⟩ := M.bnd_some hr
  subst h0
  cases x with
  | nx s => exact whlC_run hc hb (fun s' hs z => by rcases hs with hs | hs <;> cases hs; exact hu _ z D W2 r W' hr q) (fun a ha => by cases ha) h2
  | bk s => exact whlC_run hc hb (fun s' hs z => by rcases hs with hs | hs <;> cases hs; exact hu _ z D W2 r W' hr q) (fun a ha => by cases ha) h2
  | rt a =>
    obtain ⟨rfl, rfl⟩ := M.pure_some hr
    exact whlC_run hc hb (fun s' hs z => by rcases hs with hs | hs <;> cases hs) (fun a ha => by cases ha; exact q.1) h2
theorem rs_whlC {S' : Type} {Sl' : S' → (Nat → Option SV) → SG} {cr : Cl} {tc : SB} {body : SS} {mc : S → M Bool} {mb : S → M (Ctl S ρ)} {mk : S → M (Ctl S' ρ)} (Sl : S → (Nat → Option SV) → SG) (s0 : S) (h0 : σ = Sl s0 (jz σ)) (hc : ∀ s z, RB tc (Sl s z) (mc s)) (hb : ∀ s z, RS body (Sl s z) (mb s) (endC Sl er cr))
    (hu : ∀ s z, RS rest (Sl s z) (mk s) (endC Sl' er cr)) : RS (sSeq (sWhile tc body) rest) σ (whlC mc mb fuel s0 >>= fun r => ctlC r mk) (endC Sl' er cr) := fun D W r W' hr q => by
  generalize jz σ = z0 at h0
  obtain ⟨x, W2, h2, hr⟩ := M.bnd_some hr
  subst h0
  cases x with
  | nx s => exact whlC_run hc hb (fun s' hs z => by rcases hs with hs | hs <;> cases hs; exact hu _ z D W2 r W' hr q) (fun a ha => by cases ha) h2
  | bk s => exact whlC_run hc hb (fun s' hs z => by rcases hs with hs | hs <;> cases hs; exact hu _ z D W2 r W' hr q) (fun a ha => by cases ha) h2
  | rt a =>
    obtain ⟨rfl, rfl⟩ := M.pure_some hr
    exact whlC_run hc hb (fun s' hs z => by rcases hs with hs | hs <;> cases hs) (fun a ha => by cases ha; exact q) h2
/-! ### a def -/
theorem sp_mk {γ : Type} {n : Nat} {body : SS} {ds : γ → List D} {m : γ → M ρ} {cr : Cl} (h : ∀ g, RS body ((ds g).map (fun d => some (.val d)) ++ List.replicate (n - (ds g).length) none) (m g) (endF er cr)) : SP (mkSp n body) ds m er cr := fun g W r W' Q hr q =>
  h g _ W r W' hr ⟨q, fun hn hc σ' => by
    have := q .st hc
    rw [hn] at this
    exact this⟩
end
end VL

/-! ML6: dicts. -/
namespace VL
open PySem PySem.Spec PyProof.Rows L2
section
variable {α β γ δ κ ρ S : Type} {σ : SG} {i j : Nat} {c c1 c2 c3 : Cl} {e : α → D} {e1 : α → D} {e2 : β → D} {er : ρ → D} {ta tb tc tk tv t : SE} {a : α} {b : β} {m : M α} {ma : M α} {mb : M β} {ek : κ → D} {ev : β → D} {td : SDs} {l : List (κ × β)} {ml : M (List (κ × β))} {k : κ} {mk : M κ}
/-! ### association lists -/
def lk [DecidableEq κ] (l : List (κ × β)) (k : κ) : Option β := (l.find? fun p => decide (p.1 = k)).map (·.2)
def kput [DecidableEq κ] (l : List (κ × β)) (k : κ) (v : β) : List (κ × β) := if (lk l k).isSome = true then l.map (fun p => if p.1 = k then (p.1, v) else p) else l ++ [(k, v)]
theorem lk_nil [DecidableEq κ] : lk ([] : List (κ × β)) k = none := rfl
theorem lk_cons [DecidableEq κ] {p : κ × β} : lk (p :: l) k = if p.1 = k then some p.2 else lk l k := by
  unfold lk
  rw [List.find?_cons]
  by_cases h : p.1 = k <;> simp [h]
theorem dAt_map [DecidableEq κ] {f : κ → NK} (hk : ∀ k, KeyOk (ek k) (f k)) (hi : ∀ a b, f a = f b → a = b) : ∀ l : List (κ × β), dAt (kvE ek ev l) (f k) = (lk l k).map ev
  | [] => rfl
  | p :: l => by
    have ih := dAt_map hk hi l
    rw [lk_cons]
    show ((((ek p.1, ev p.2) :: kvE ek ev l).find? fun q => decide (keyOf q.1 = some (f k))).map (·.2)) = _
    rw [List.find?_cons]
    by_cases h : p.1 = k
    · subst h
      simp [(hk p.1).1]
    · have : ¬ f p.1 = f k := fun z => h (hi _ _ z)
      simp only [(hk p.1).1, Option.some.injEq, this, decide_false, if_neg h]
      exact ih
theorem dPut_map [DecidableEq κ] {f : κ → NK} (hk : ∀ k, KeyOk (ek k) (f k)) (hi : ∀ a b, f a = f b → a = b) (l : List (κ × β)) (v : β) : dPut (kvE ek ev l) (ek k) (f k) (ev v) = kvE ek ev (kput l k v) := by
  unfold dPut kput
  rw [dAt_map hk hi, Option.isSome_map]
  by_cases h : (lk l k).isSome = true
  · rw [if_pos h, if_pos h]
    unfold kvE
    rw [List.map_map, List.map_map]
    refine List.map_congr_left fun p _ => ?_
    by_cases z : p.1 = k
    · subst z
      simp [(hk p.1).1]
    · have : ¬ f p.1 = f k := fun z' => z (hi _ _ z')
      simp [(hk p.1).1, this, z]
  · rw [if_neg h, if_neg h]
    unfold kvE
    rw [List.map_append]; rfl
theorem kvE_length (l : List (κ × β)) : (kvE ek ev l).length = l.length := by unfold kvE; rw [List.length_map]
/-! ### sources -/
def RDP (t : SDs) (σ : SG) (l : List (κ × β)) (ek : κ → D) (ev : β → D) : Prop := ∀ W Q, (∀ g, el g = .st → Q g (kvE ek ev l) W) → t σ W Q
theorem RDP.rd (h : RDP td σ l ek ev) : RD td σ (pure l) ek ev := fun W l W' Q r q => by
  obtain ⟨rfl, rfl⟩ := M.pure_some r
  exact h _ _ q
theorem el_of {c : Cl} {τ : Tg} (h : Cl.sub c cO = true) (k : c τ = true) : el τ = .st := by
  have := sub_of h k
  cases τ <;> first | rfl | cases this
theorem rd_vP (h : RP t σ l (eD ek ev) c) (hc : Cl.sub c cO = true := by rfl) : RDP (sDv t) σ l ek ev := fun W Q q => h W _ fun τ k => q τ (el_of hc k)
theorem rd_v (h : RE t σ ml (eD ek ev) c) (hc : Cl.sub c cO = true := by rfl) : RD (sDv t) σ ml ek ev := fun W l W' Q r q => h _ _ _ _ r fun τ k => q τ (el_of hc k)
theorem rd_m (h : σ[i]? = some (some (oD ek ev l))) : RDP (sDm i) σ l ek ev := fun W Q q => by
  show (match σ[i]? with | some (some (.md kvs)) => Q .st kvs W | _ => False)
  rw [h]
  exact q .st rfl
/-! ### reading -/
section
variable [DecidableEq κ]
theorem rp_din (hk : RP tk σ k ek c) (hd : RDP td σ l ek ev) (K : KeyE ek := by exact keyE_of CNk.h (by decide) fun _ => rfl) : RP (sDIn false tk td) σ (lk l k).isSome eB cT := fun W Q q => hk W _ fun τ _ => hd W _ fun g _ => by
  obtain ⟨f, h, hi⟩ := K
  have := q .st rfl
  refine ⟨f k, h k, ?_⟩
  rw [dAt_map h hi, Option.isSome_map]
  exact this
theorem rp_dnin (hk : RP tk σ k ek c) (hd : RDP td σ l ek ev) (K : KeyE ek := by exact keyE_of CNk.h (by decide) fun _ => rfl) : RP (sDIn true tk td) σ (!(lk l k).isSome) eB cT := fun W Q q => hk W _ fun τ _ => hd W _ fun g _ => by
  obtain ⟨f, h, hi⟩ := K
  have := q .st rfl
  refine ⟨f k, h k, ?_⟩
  rw [dAt_map h hi, Option.isSome_map]
  exact this
theorem re_din (hk : RE tk σ mk ek c) (hd : RD td σ ml ek ev) (K : KeyE ek := by exact keyE_of CNk.h (by decide) fun _ => rfl) : RE (sDIn false tk td) σ (mk >>= fun k => ml >>= fun l => pure (lk l k).isSome) eB cT := fun W r W' Q hr q => by
  obtain ⟨k, W1, h1, hr⟩ := M.bnd_some hr
  obtain ⟨l, W2, h2, hr⟩ := M.bnd_some hr
  obtain ⟨rfl, rfl⟩ := M.pure_some hr
  obtain ⟨f, h, hi⟩ := K
  have := q .st rfl
  refine hk _ _ _ _ h1 fun τ _ => hd _ _ _ _ h2 fun g _ => ⟨f k, h k, ?_⟩
  rw [dAt_map h hi, Option.isSome_map]
  exact this
theorem re_dnin (hk : RE tk σ mk ek c) (hd : RD td σ ml ek ev) (K : KeyE ek := by exact keyE_of CNk.h (by decide) fun _ => rfl) : RE (sDIn true tk td) σ (mk >>= fun k => ml >>= fun l => pure (!(lk l k).isSome)) eB cT := fun W r W' Q hr q => by
  obtain ⟨k, W1, h1, hr⟩ := M.bnd_some hr
  obtain ⟨l, W2, h2, hr⟩ := M.bnd_some hr
  obtain ⟨rfl, rfl⟩ := M.pure_some hr
  obtain ⟨f, h, hi⟩ := K
  have := q .st rfl
  refine hk _ _ _ _ h1 fun τ _ => hd _ _ _ _ h2 fun g _ => ⟨f k, h k, ?_⟩
  rw [dAt_map h hi, Option.isSome_map]
  exact this
def lkM (l : List (κ × β)) (k : κ) : M β := M.ofO (lk l k)
theorem re_dget (hd : RD td σ ml ek ev) (hk : RE tk σ mk ek c) (K : KeyE ek := by exact keyE_of CNk.h (by decide) fun _ => rfl) : RE (sDGet td tk) σ (ml >>= fun l => mk >>= fun k => lkM l k) ev cT := fun W r W' Q hr q => by
  obtain ⟨l, W1, h1, hr⟩ := M.bnd_some hr
  obtain ⟨k, W2, h2, hr⟩ := M.bnd_some hr
  obtain ⟨h3, rfl⟩ := M.ofO_someE hr
  obtain ⟨f, h, hi⟩ := K
  refine hd _ _ _ _ h1 fun g hg => hk _ _ _ _ h2 fun τ _ => ⟨f k, ev r, h k, ?_, by rw [hg]; exact q .st rfl⟩
  rw [dAt_map h hi, h3]; rfl
theorem rp_dget1 (hd : RDP td σ l ek ev) (hk : RP tk σ k ek c) (K : KeyE ek := by exact keyE_of CNk.h (by decide) fun _ => rfl) : RP (sDGet1 td tk) σ (lk l k) (eO ev) cT := fun W Q q => hd _ _ fun g hg => hk _ _ fun τ _ => by
  obtain ⟨f, h, hi⟩ := K
  refine ⟨f k, h k, ?_⟩
  rw [dAt_map h hi]
  have := q .st rfl
  cases z : lk l k with
  | none => rw [z] at this; exact this
  | some x => rw [z] at this; show Q (el g) (ev x) W; rw [hg]; exact this
theorem re_dget1 (hd : RD td σ ml ek ev) (hk : RE tk σ mk ek c) (K : KeyE ek := by exact keyE_of CNk.h (by decide) fun _ => rfl) : RE (sDGet1 td tk) σ (ml >>= fun l => mk >>= fun k => pure (lk l k)) (eO ev) cT := fun W r W' Q hr q => by
  obtain ⟨l, W1, h1, hr⟩ := M.bnd_some hr
  obtain ⟨k, W2, h2, hr⟩ := M.bnd_some hr
  obtain ⟨rfl, rfl⟩ := M.pure_some hr
  obtain ⟨f, h, hi⟩ := K
  refine hd _ _ _ _ h1 fun g hg => hk _ _ _ _ h2 fun τ _ => ⟨f k, h k, ?_⟩
  rw [dAt_map h hi]
  have := q .st rfl
  cases z : lk l k with
  | none => rw [z] at this; exact this
  | some x => rw [z] at this; show Q (el g) (ev x) _; rw [hg]; exact this
theorem rp_dget2 {x : β} (hd : RDP td σ l ek ev) (hk : RP tk σ k ek c) (hx : RP tv σ x ev cT) (K : KeyE ek := by exact keyE_of CNk.h (by decide) fun _ => rfl) : RP (sDGet2 td tk tv) σ ((lk l k).getD x) ev cT := fun W Q q => hd _ _ fun g hg => hk _ _ fun τ _ => hx _ _ fun τ' h' => by
  obtain ⟨f, h, hi⟩ := K
  refine ⟨f k, h k, ?_⟩
  rw [dAt_map h hi]
  cases z : lk l k with
  | none => have := q τ' h'; rw [z] at this; exact this
  | some x => have := q .st rfl; rw [z] at this; show Q (el g) (ev x) W; rw [hg]; exact this
theorem re_dget2 {mx : M β} (hd : RD td σ ml ek ev) (hk : RE tk σ mk ek c) (hx : RE tv σ mx ev cT) (K : KeyE ek := by exact keyE_of CNk.h (by decide) fun _ => rfl) : RE (sDGet2 td tk tv) σ (ml >>= fun l => mk >>= fun k => mx >>= fun x => pure ((lk l k).getD x)) ev cT := fun W r W' Q hr q => by
  obtain ⟨l, W1, h1, hr⟩ := M.bnd_some hr
  obtain ⟨k, W2, h2, hr⟩ := M.bnd_some hr
  obtain ⟨x, W3, h3, hr⟩ := M.bnd_some hr
  obtain ⟨rfl, rfl⟩ := M.pure_some hr
  obtain ⟨f, h, hi⟩ := K
  refine hd _ _ _ _ h1 fun g hg => hk _ _ _ _ h2 fun τ _ => hx _ _ _ _ h3 fun τ' h' => ⟨f k, h k, ?_⟩
  rw [dAt_map h hi]
  cases z : lk l k with
  | none => have := q τ' h'; rw [z] at this; exact this
  | some x => have := q .st rfl; rw [z] at this; show Q (el g) (ev x) _; rw [hg]; exact this
end
theorem rp_dlen (hd : RDP td σ l ek ev) : RP (sDLen td) σ (l.length : Int) eI cT := fun W Q q => hd W _ fun g _ => by
  have := q .st rfl
  show Q .st (.int (kvE ek ev l).length) W
  rw [kvE_length]; exact this
theorem re_dlen (hd : RD td σ ml ek ev) : RE (sDLen td) σ (ml >>= fun l => pure (l.length : Int)) eI cT := fun W r W' Q hr q => by
  obtain ⟨l, W1, h1, hr⟩ := M.bnd_some hr
  obtain ⟨rfl, rfl⟩ := M.pure_some hr
  refine hd _ _ _ _ h1 fun g _ => ?_
  have := q .st rfl
  show Q .st (.int (kvE ek ev l).length) _
  rw [kvE_length]; exact this
theorem kv_fst (l : List (κ × β)) : (kvE ek ev l).map (·.1) = (l.map (·.1)).map ek := by unfold kvE; rw [List.map_map, List.map_map]; rfl
theorem kv_snd (l : List (κ × β)) : (kvE ek ev l).map (·.2) = (l.map (·.2)).map ev := by unfold kvE; rw [List.map_map, List.map_map]; rfl
theorem kv_items (l : List (κ × β)) : itemsK .items (kvE ek ev l) = l.map (eP ek ev) := by
  show (kvE ek ev l).map _ = _
  unfold kvE; rw [List.map_map]; rfl
open Classical in
theorem re_dsort (hd : RD td σ ml ek ev) : RE (sDSort td) σ (ml >>= fun l => srt ek (l.map (·.1))) (eL ek) cF := fun W r W' Q hr q => by
  obtain ⟨l, W1, h1, hr⟩ := M.bnd_some hr
  obtain ⟨hp, hr⟩ := M.chk_some hr
  obtain ⟨rfl, rfl⟩ := M.pure_some hr
  exact hd _ _ _ _ h1 fun g hg => ⟨hg, by rw [kv_fst]; exact hp, by rw [kv_fst, srt_map]; exact q .fr rfl⟩
theorem rp_ditems (hd : RDP td σ l ek ev) : RP (sDItems td) σ l (eL (eP ek ev)) cF := fun W Q q => hd W _ fun g hg => ⟨hg, by rw [kv_items]; exact q .fr rfl⟩
theorem re_ditems (hd : RD td σ ml ek ev) : RE (sDItems td) σ ml (eL (eP ek ev)) cF := fun W r W' Q hr q => hd _ _ _ _ hr fun g hg => ⟨hg, by rw [kv_items]; exact q .fr rfl⟩
def minKE (ek : κ → D) : List κ → Option κ
  | [] => none
  | k :: ks => some (ks.foldl (fun a y => if ltD (ek y) (ek a) = true then y else a) k)
theorem minKs_map (ks : List κ) : minKs (ks.map ek) = (minKE ek ks).map ek := by
  cases ks with
  | nil => rfl
  | cons k ks =>
    show some ((ks.map ek).foldl _ _) = some (ek _)
    congr 1
    induction ks generalizing k with
    | nil => rfl
    | cons x ks ih =>
      rw [List.map_cons, List.foldl_cons, List.foldl_cons]
      by_cases h : ltD (ek x) (ek k) = true
      · rw [if_pos h, if_pos h]; exact ih x
      · rw [if_neg h, if_neg h]; exact ih k
open Classical in
noncomputable def minD (ek : κ → D) (l : List κ) : M κ := M.chk (SortOk (l.map ek)) >>= fun _ => M.ofO (minKE ek l)
open Classical in
theorem re_dmin (hd : RD td σ ml ek ev) : RE (sDMin td) σ (ml >>= fun l => minD ek (l.map (·.1))) ek cT := fun W r W' Q hr q => by
  obtain ⟨l, W1, h1, hr⟩ := M.bnd_some hr
  obtain ⟨hp, hr⟩ := M.chk_some hr
  obtain ⟨h3, rfl⟩ := M.ofO_someE hr
  exact hd _ _ _ _ h1 fun g hg => ⟨ek r, by rw [kv_fst]; exact hp, by rw [kv_fst, minKs_map, h3]; rfl, by rw [hg]; exact q .st rfl⟩
/-! ### what is walked -/
theorem ri_keysP (h : RP t σ l (eD ek ev) c) (hc : Cl.sub c cS = true := by rfl) : RIP (sIterK .keys t) σ (l.map (·.1)) ek := fun W Q q => h W _ fun τ k => ⟨frozen_of hc k, by show Q ((kvE ek ev l).map (·.1)) W; rw [kv_fst]; exact q⟩
theorem ri_valsP (h : RP t σ l (eD ek ev) c) (hc : Cl.sub c cS = true := by rfl) : RIP (sIterK .vals t) σ (l.map (·.2)) ev := fun W Q q => h W _ fun τ k => ⟨frozen_of hc k, by show Q ((kvE ek ev l).map (·.2)) W; rw [kv_snd]; exact q⟩
theorem ri_itemsP (h : RP t σ l (eD ek ev) c) (hc : Cl.sub c cS = true := by rfl) : RIP (sIterK .items t) σ l (eP ek ev) := fun W Q q => h W _ fun τ k => ⟨frozen_of hc k, by rw [kv_items]; exact q⟩
theorem ri_keys (h : RE t σ ml (eD ek ev) c) (hc : Cl.sub c cS = true := by rfl) : RI (sIterK .keys t) σ (ml >>= fun l => pure (l.map (·.1))) ek := fun W r W' Q hr q => by
  obtain ⟨l, W1, h1, hr⟩ := M.bnd_some hr
  obtain ⟨rfl, rfl⟩ := M.pure_some hr
  exact h _ _ _ _ h1 fun τ k => ⟨frozen_of hc k, by show Q ((kvE ek ev l).map (·.1)) _; rw [kv_fst]; exact q⟩
theorem ri_items (h : RE t σ ml (eD ek ev) c) (hc : Cl.sub c cS = true := by rfl) : RI (sIterK .items t) σ ml (eP ek ev) := fun W r W' Q hr q => h _ _ _ _ hr fun τ k => ⟨frozen_of hc k, by rw [kv_items]; exact q⟩
/-! ### new ones -/
def RN (t : SN) (σ : SG) (m : M (List (κ × β))) (ek : κ → D) (ev : β → D) : Prop := ∀ W l W' Q, m.run W = some (l, W') → Q (kvE ek ev l) W' → t σ W Q
theorem rn_nil : RN sDNil σ (pure ([] : List (κ × β))) ek ev := fun W l W' Q r q => by
  obtain ⟨rfl, rfl⟩ := M.pure_some r
  exact q
theorem rn_disp1 {cv : Cl} (hk : RE tk σ mk ek c) (hv : RE tv σ mb ev cv) (hs : StoE cv ev := by first | exact sto_s rfl | exact sto_f CFl.h) (K : KeyE ek := by exact keyE_of CNk.h (by decide) fun _ => rfl) : RN (sDisp1 tk tv) σ (mk >>= fun k => mb >>= fun v => pure [(k, v)]) ek ev := fun W l W' Q hr q => by
  obtain ⟨k, W1, h1, hr⟩ := M.bnd_some hr
  obtain ⟨v, W2, h2, hr⟩ := M.bnd_some hr
  obtain ⟨rfl, rfl⟩ := M.pure_some hr
  obtain ⟨f, h, hi⟩ := K
  exact hk _ _ _ _ h1 fun τ _ => hv _ _ _ _ h2 fun τ' h' => ⟨f k, h k, hs τ' v h', q⟩
def collD [DecidableEq κ] (f : α → M Bool) (gk : α → M κ) (gv : α → M β) : List (κ × β) → List α → M (List (κ × β))
  | acc, [] => pure acc
  | acc, x :: xs => f x >>= fun b => if b = true then gk x >>= fun k => gv x >>= fun v => M.chk (acc.length < sizeLine) >>= fun _ => collD f gk gv (kput acc k v) xs else collD f gk gv acc xs
theorem collD_run [DecidableEq κ] {f : TgF} {tt : SB} {σ' : α → SG} {mf : α → M Bool} {gk : α → M κ} {gv : α → M β} {ck cv : Cl} (hg : TG f e σ σ') (ht : ∀ x, RB tt (σ' x) (mf x)) (hk : ∀ x, RE tk (σ' x) (gk x) ek ck) (hv : ∀ x, RE tv (σ' x) (gv x) ev cv) (hs : StoE cv ev) (K : KeyE ek) :
    ∀ (l : List α) (acc : List (κ × β)) (W W' : Wd) (r : List (κ × β)) (Q : List (D × D) → Wd → Prop), (collD mf gk gv acc l).run W = some (r, W') → Q (kvE ek ev r) W' → compKD f tt tk tv (l.map e) σ (kvE ek ev acc) W Q
  | [], acc, W, W', r, Q, hr, q => by
    obtain ⟨rfl, rfl⟩ := M.pure_some hr
    exact q
  | x :: xs, acc, W, W', r, Q, hr, q => by
    obtain ⟨b, W1, h1, hr⟩ := M.bnd_some hr
    refine hg x _ (ht x _ _ _ _ h1 ?_)
    cases b with
    | true =>
      obtain ⟨k, W2, h2, hr⟩ := M.bnd_some hr
      obtain ⟨v, W3, h3, hr⟩ := M.bnd_some hr
      obtain ⟨hp, hr⟩ := M.chk_some hr
      obtain ⟨fk, h, hi⟩ := id K
      refine hk x _ _ _ _ h2 fun τ _ => hv x _ _ _ _ h3 fun τ' h' => ⟨fk k, h k, hs τ' v h', by rw [kvE_length]; exact hp, ?_⟩
      rw [dPut_map h hi]
      exact collD_run hg ht hk hv hs K xs _ _ _ _ _ hr q
    | false => exact collD_run hg ht hk hv hs K xs _ _ _ _ _ hr q
theorem rn_dc [DecidableEq κ] {it : SI} {f : TgF} {tt : SB} {vs : List Nat} {mi : M (List α)} {σ' : α → SG} {mf : α → M Bool} {gk : α → M κ} {gv : α → M β} {ck cv : Cl} (hi : RI it σ mi e) (hg : TG f e (wipeD σ vs) σ') (ht : ∀ x, RB tt (σ' x) (mf x)) (hk : ∀ x, RE tk (σ' x) (gk x) ek ck) (hv : ∀ x, RE tv (σ' x) (gv x) ev cv)
    (hs : StoE cv ev := by first | exact sto_s rfl | exact sto_f CFl.h) (K : KeyE ek := by exact keyE_of CNk.h (by decide) fun _ => rfl) : RN (sDc it f tt tk tv vs) σ (mi >>= collD mf gk gv []) ek ev := fun W l W' Q hr q => by
  obtain ⟨l, W1, h1, hr⟩ := M.bnd_some hr
  exact hi _ _ _ _ h1 (collD_run hg ht hk hv hs K l [] W1 W' _ Q hr q)
theorem re_newV {tn : SN} (h : RN tn σ ml ek ev) : RE (sNewV tn) σ ml (eD ek ev) cF := fun W r W' Q hr q => h _ _ _ _ hr (q .fr rfl)
/-! ### statements -/
variable {F : ρ → SEnds → Wd → Prop} {u v rest : SS} {m' : M ρ} {mr : List (κ × β) → M ρ}
theorem rs_newOwn {tn : SN} (h : RN tn σ ml ek ev) (hu : ∀ l, RS rest (σ.set j (some (oD ek ev l))) (mr l) F) : RS (sSeq (sNewOwn j tn) rest) σ (ml >>= mr) F := fun D W r W' hr q => by
  obtain ⟨l, W1, h1, hr⟩ := M.bnd_some hr
  exact h _ _ _ _ h1 (hu l D W1 r W' hr q)
theorem rs_newOwnN (hu : RS rest (σ.set j (some (oD ek ev ([] : List (κ × β))))) m' F) : RS (sSeq (sNewOwn j sDNil) rest) σ m' F := fun D W r W' hr q => hu D W r W' hr q
theorem rs_frzM (hi : σ[i]? = some (some (oD ek ev l))) (hu : RS rest (σ.set i (some (.val (eD ek ev l)))) m' F) : RS (sGhost (frzM i) rest) σ m' F := fun D W r W' hr q => by
  show frzM i σ _
  unfold frzM
  rw [hi]
  exact hu D W r W' hr q
theorem rs_dput [DecidableEq κ] {cv : Cl} {gk : β → M κ} (hi : σ[j]? = some (some (oD ek ev l))) (hv : RE tv σ mb ev cv) (hk : ∀ v, RE tk σ (gk v) ek c) (hu : ∀ l, RS rest (σ.set j (some (oD ek ev l))) (mr l) F) (hs : StoE cv ev := by first | exact sto_s rfl | exact sto_f CFl.h) (K : KeyE ek := by exact keyE_of CNk.h (by decide) fun _ => rfl) :
    RS (sSeq (sDPut j tk tv) rest) σ (mb >>= fun v => gk v >>= fun k => M.chk (l.length < sizeLine) >>= fun _ => pure (kput l k v) >>= mr) F := fun D W r W' hr q => by
  obtain ⟨v, W1, h1, hr⟩ := M.bnd_some hr
  obtain ⟨k, W2, h2, hr⟩ := M.bnd_some hr
  obtain ⟨hp, hr⟩ := M.chk_some hr
  rw [pure_bind] at hr
  obtain ⟨f, h, hf⟩ := K
  refine hv _ _ _ _ h1 fun τ h' => ?_
  rw [hi]
  refine hk v _ _ _ _ h2 fun _ _ => ⟨f k, h k, hs τ v h', by rw [kvE_length]; exact hp, ?_⟩
  rw [dPut_map h hf]
  exact hu _ D _ r W' hr q
def RM (m : KMode) (l : List (κ × β)) (ek : κ → D) (ev : β → D) (x : List α) (e : α → D) : Prop := itemsK m (kvE ek ev l) = x.map e
theorem rm_keys : RM .keys l ek ev (l.map (·.1)) ek := kv_fst l
theorem rm_vals : RM .vals l ek ev (l.map (·.2)) ev := kv_snd l
theorem rm_items : RM .items l ek ev l (eP ek ev) := kv_items l
theorem forLK_run {f : TgF} {body : SS} {Sl : S → (Nat → Option SV) → SG} {g : Addr × Obj × List Ent} {σ' : S → (Nat → Option SV) → α → SG} {mb : S → α → M S} (hj : ∀ s z, (Sl s z)[j]? = some (some (oD ek ev l))) (hg : ∀ s z, TG f e ((Sl s z).set j (some (oK g ek ev l))) (σ' s z)) (hb : ∀ s z x, RS body (σ' s z x) (mb s x) (endL fun s z => (Sl s z).set j (some (oK g ek ev l)))) :
    ∀ (l' : List α) (s : S) (z : Nat → Option SV) (D : SEnds) (W W' : Wd) (s' : S), (forL mb s l').run W = some (s', W') → (∀ z, D.nx ((Sl s' z).set j (some (oK g ek ev l))) W') → forDK j g f body (l'.map e) D ((Sl s z).set j (some (oK g ek ev l))) W
  | [], s, z, D, W, W', s', hr, q => by
    obtain ⟨rfl, rfl⟩ := M.pure_some hr
    refine ⟨⟨kvE ek ev l, ?_⟩, q z⟩
    rw [List.getElem?_set_self (by
      have := hj s' z
      rw [List.getElem?_eq_some_iff] at this
      exact this.1)]; rfl
  | x :: xs, s, z, D, W, W', s', hr, q => by
    obtain ⟨s1, W1, h1, hr⟩ := M.bnd_some hr
    refine ⟨⟨kvE ek ev l, ?_⟩, hg s z x _ (hb s z x _ W s1 W1 h1 ⟨fun z => forLK_run hj hg hb xs s1 z D W1 W' s' hr q, fun z => forLK_run hj hg hb xs s1 z D W1 W' s' hr q⟩)⟩
    rw [List.getElem?_set_self (by
      have := hj s z
      rw [List.getElem?_eq_some_iff] at this
      exact this.1)]; rfl
theorem unl_set {Sl : S → (Nat → Option SV) → SG} {s : S} {z : Nat → Option SV} {g : Addr × Obj × List Ent} (hj : ∀ s z, (Sl s z)[j]? = some (some (oD ek ev l))) {N : SG → Wd → Prop} {W : Wd} (h : N (Sl s z) W) : unlK j g N ((Sl s z).set j (some (oK g ek ev l))) W := by
  have lt : j < (Sl s z).length := by
    have := hj s z
    rw [List.getElem?_eq_some_iff] at this
    exact this.1
  refine ⟨kvE ek ev l, (by rw [List.getElem?_set_self lt]; rfl), ?_⟩
  have q : (Sl s z).set j (some (SV.md (kvE ek ev l))) = Sl s z := set_self (hj s z)
  rw [List.set_set, q]
  exact h
theorem rs_forLK {md : KMode} {f : TgF} {body : SS} {x : List α} {mb : S → α → M S} {mk : S → M ρ} {σ' : (Addr × Obj × List Ent) → S → (Nat → Option SV) → α → SG} (Sl : S → (Nat → Option SV) → SG) (s0 : S) (h0 : σ = Sl s0 (jz σ)) (hj : ∀ s z, (Sl s z)[j]? = some (some (oD ek ev l))) (hm : RM md l ek ev x e)
    (hg : ∀ g s z, TG f e ((Sl s z).set j (some (oK g ek ev l))) (σ' g s z)) (hb : ∀ g s z x, RS body (σ' g s z x) (mb s x) (endL fun s z => (Sl s z).set j (some (oK g ek ev l)))) (hu : ∀ s z, RS rest (Sl s z) (mk s) F) :
    RS (sSeq (sLocked j (sForK j md f body)) rest) σ (forL mb s0 x >>= mk) F := fun D W r W' hr q => by
  generalize jz σ = z0 at h0
  obtain ⟨s, W2, h2, hr⟩ := M.bnd_some hr
  subst h0
  have hz := hj s0 z0
  have lt : j < (Sl s0 z0).length := by
    rw [List.getElem?_eq_some_iff] at hz
    exact hz.1
  show (match (Sl s0 z0)[j]? with | some (some (.md kvs)) => _ | _ => False)
  rw [hz]
  intro g
  show (match ((Sl s0 z0).set j (some (oK g ek ev l)))[j]? with | some (some (.lk g kvs)) => _ | _ => False)
  rw [List.getElem?_set_self lt]
  show forDK j g f body (itemsK md (kvE ek ev l)) _ _ W
  rw [hm]
  exact forLK_run hj (hg g) (hb g) x s0 z0 _ W W2 s h2 fun z => unl_set hj (hu s z D W2 r W' hr q)
end
end VL

set_option maxHeartbeats 4000000
namespace VL
open PySem PySem.Spec PyProof.Rows L2
local macro_rules | `(tactic| walk_at "x") => `(tactic| simp (disch := omega) only [x_C, x_Bin, x_Un, x_Fn, x_aNil, x_aCons, x_Var, x_Call, x_Lc, x_Lc2, x_If, x_Sl, x_pN, x_Bor, x_Iter, x_And, x_Or, x_Not, x_Yes, x_Nil, x_Pass, x_Own, x_Set, x_For, x_Ret, x_Asg, x_App, x_Put, x_Put2, x_Drop, x_Break, x_Cont, x_RetN, x_Tup, x_Lst, x_frz, x_Ghost, x_ok1, x_ok2,
  sTest_eq, sRng1_eq, sRng2_eq, sRngD_eq, sChain_eq, sAnd_eq, sOr_eq, sNot_eq, spS_eq, frozenTg, VL.sv_val, VL.sv_ml, VL.sv_mg, VL.sv_lk, wipeD, setsD_cons, setsD_nil, frzAll, frzV_val, frzV_ml, frzV_mg, frzV_md, frzV_lk, frzV_no, borTag, retTag, callTag, allSto, stoB, isI_int, isB_bl, isNon,
  dAdd_int, dAdd_str, dAdd_lst, dAdd_tup, dI0_int, dII_int, dMul_int, dMul_lst, dMul_tup, dEq_int, dNe_int, dEq_str, dNe_str, dEq_bl, dNe_bl, dEq_tup, dNe_tup, dEq_lst, dNe_lst, dIs_non, dIsNot_non, dIs_bl, dIn_lst, dIn_tup, dNotIn_lst, dNotIn_tup, dIx_lst_rng, dIx_tup_rng, dIx_lst_rng0, dIx_tup_rng0, dIx_lst_0, dIx_tup_0, dIx_lst_1, dIx_tup_1, dIx_lst_2, dIx_tup_2,
  dSl_lst, dSl_tup, dLen_lst, dLen_tup, dLen_str, dLen_scr, dList_lst, dList_tup, dTuple_lst, dTuple_tup, dF1_int, dF2_int, dNeg_int, dIsi_non, dIsi_bl, dIsi_int, dIsi_str, dIsi_tup, dIsi_lst, itemsOf_lst, itemsOf_tup, tgD_name, tgD_tup, tgD_lst, ownOf_ml, ownOf_mg, putML_rng, 
  cutD_init, cutD_tail, Int.zero_add, Int.toNat_natCast, ty_NoneType_bool, ty_NoneType_int, ty_NoneType_str, ty_NoneType_tuple, ty_NoneType_list, ty_NoneType_dict, ty_bool_bool, ty_bool_int, ty_bool_str, ty_bool_tuple, ty_bool_list, ty_bool_dict, ty_int_bool, ty_int_int, ty_int_str, ty_int_tuple, ty_int_list, ty_int_dict, ty_str_bool, ty_str_int, ty_str_str, ty_str_tuple, ty_str_list, ty_str_dict, ty_tuple_bool, ty_tuple_int, ty_tuple_str, ty_tuple_tuple, ty_tuple_list, ty_tuple_dict, ty_list_bool, ty_list_int, ty_list_str, ty_list_tuple, ty_list_list, ty_list_dict, ty_dict_bool, ty_dict_int, ty_dict_str, ty_dict_tuple, ty_dict_list, ty_dict_dict,
  sto, est, el, List.getElem?_cons_succ, List.getElem?_cons_zero, List.set_cons_succ, List.set_cons_zero, List.map_cons, List.map_nil, List.all_cons, List.all_nil, Bool.and_true, Bool.true_and, if_true, if_false, and_true, true_and, List.length_nil, List.length_cons, List.length_map, List.length_range, reduceIte, Bool.false_eq_true, decide_eq_true_eq, Bool.not_true, Bool.not_false, Option.map_some, Option.map_none])
theorem bool_ok {a b : Bool} {W : Wd} {Q : Tg → D → Wd → Prop} (hq : Q .st (.bl (decide (a = b))) W) : spBool [.bl a, .bl b] W Q := by
  show b_bool _ [some (.val (.bl a)), some (.val (.bl b))] W
  unfold b_bool
  walk_at "x"
  exact hq
theorem same_tup {b : Bool} {n : Nat} {ds : List D} {W : Wd} {Q : Tg → D → Wd → Prop} (hl : ds.length < 2 ^ 62) (ih : ∀ x ∈ ds, ∀ W (Q : Tg → D → Wd → Prop), Q .st (.bl true) W → spSame n [x, x] W Q) (hq : Q .st (.bl true) W) : spSame (n + 1) [.tup ds, .tup ds] W Q := by
  show b_same _ _ [some (.val (.tup ds)), some (.val (.tup ds)), none] W
  unfold b_same
  refine stp fun K hK => ifs fun T hT hF => ?_
  walk_at "x"
  refine hT _ (stp fun K hK => ifs fun T hT hF => ?_)
  walk_at "x"
  refine hF _ (hK _ _ (stp fun K hK => ifs fun T hT hF => ?_))
  walk_at "x"
  refine hF _ (hK _ _ (stp fun K hK => ?_))
  walk_at "x"
  refine ⟨by omega, by omega, ?_⟩
  refine forD_up (hi := (ds.length : Int)) (fun i σ W' => W' = W ∧ ∃ o, σ = [some (.val (.tup ds)), some (.val (.tup ds)), o]) (by omega) ⟨rfl, none, rfl⟩ ?_ ?_
  · rintro i σ W' k h0 h1 hk ⟨rfl, o, rfl⟩
    have hx := atI_pos h0 (List.getElem?_eq_getElem (show i.toNat < ds.length by omega))
    walk_at "x"
    refine ifs fun T hT hF => ?_
    walk_at "x"
    simp only [dIx_tup, ex_some hx]
    try walk_at "x"
    refine ih _ (List.getElem_mem _) _ _ ?_
    walk_at "x"
    exact hF _ (hk _ _ ⟨rfl, _, rfl⟩)
  · rintro σ W' ⟨rfl, o, rfl⟩
    refine hK _ _ ?_
    walk_at "x"
    exact hq
theorem same_lst {b : Bool} {n : Nat} {ds : List D} {W : Wd} {Q : Tg → D → Wd → Prop} (hl : ds.length < 2 ^ 62) (ih : ∀ x ∈ ds, ∀ W (Q : Tg → D → Wd → Prop), Q .st (.bl true) W → spSame n [x, x] W Q) (hq : Q .st (.bl true) W) : spSame (n + 1) [.lst ds, .lst ds] W Q := by
  show b_same _ _ [some (.val (.lst ds)), some (.val (.lst ds)), none] W
  unfold b_same
  refine stp fun K hK => ifs fun T hT hF => ?_
  walk_at "x"
  refine hT _ (stp fun K hK => ifs fun T hT hF => ?_)
  walk_at "x"
  refine hF _ (hK _ _ (stp fun K hK => ifs fun T hT hF => ?_))
  walk_at "x"
  refine hF _ (hK _ _ (stp fun K hK => ?_))
  walk_at "x"
  refine ⟨by omega, by omega, ?_⟩
  refine forD_up (hi := (ds.length : Int)) (fun i σ W' => W' = W ∧ ∃ o, σ = [some (.val (.lst ds)), some (.val (.lst ds)), o]) (by omega) ⟨rfl, none, rfl⟩ ?_ ?_
  · rintro i σ W' k h0 h1 hk ⟨rfl, o, rfl⟩
    have hx := atI_pos h0 (List.getElem?_eq_getElem (show i.toNat < ds.length by omega))
    walk_at "x"
    refine ifs fun T hT hF => ?_
    walk_at "x"
    simp only [dIx_lst, ex_some hx]
    try walk_at "x"
    refine ih _ (List.getElem_mem _) _ _ ?_
    walk_at "x"
    exact hF _ (hk _ _ ⟨rfl, _, rfl⟩)
  · rintro σ W' ⟨rfl, o, rfl⟩
    refine hK _ _ ?_
    walk_at "x"
    exact hq
theorem same_one {b : Bool} {n : Nat} {d : D} {W : Wd} {Q : Tg → D → Wd → Prop} (hf : fits b 0 d) (hq : Q .st (.bl true) W) : spSame (n + 1) [d, d] W Q := by
  show b_same _ _ [some (.val d), some (.val d), none] W
  unfold b_same
  cases d with
  | tup a => unfold fits at hf; exact hf.elim
  | lst a => unfold fits at hf; exact hf.elim
  | dct a => unfold fits at hf; exact hf.elim
  | deal a => unfold fits at hf; exact hf.elim
  | fn a => unfold fits at hf; exact hf.elim
  | scr a => unfold fits at hf; exact hf.elim
  | _ =>
    refine stp fun K hK => ifs fun T hT hF => ?_
    walk_at "x"
    refine hF _ (hK _ _ (stp fun K hK => ifs fun T hT hF => ?_))
    walk_at "x"
    first
      | (refine hT _ ?_; walk_at "x"; exact hq)
      | (refine hF _ (hK _ _ (stp fun K hK => ifs fun T hT hF => ?_))
         walk_at "x"
         first
          | (refine hT _ ?_; walk_at "x"; exact hq)
          | (refine hF _ (hK _ _ (stp fun K hK => ifs fun T hT hF => ?_))
             walk_at "x"
             first
              | (refine hT _ ?_; walk_at "x"; exact hq)
              | (refine hF _ (hK _ _ ?_); walk_at "x"; exact hq)))
theorem same_ok {b : Bool} : ∀ {n : Nat} {d : D} {W : Wd} {Q : Tg → D → Wd → Prop}, fits b n d → Q .st (.bl true) W → spSame (n + 1) [d, d] W Q := by
  intro n
  induction n with
  | zero => exact fun hf hq => same_one hf hq
  | succ n ih =>
    intro d W Q hf hq
    cases d with
    | tup ds => unfold fits at hf; exact same_tup (b := b) hf.1 (fun x m W Q h => ih (hf.2 x m) h) hq
    | lst ds => unfold fits at hf; exact same_lst (b := b) hf.1 (fun x m W Q h => ih (hf.2 x m) h) hq
    | _ => exact same_one (b := b) (by unfold fits at hf ⊢; exact hf) hq
end VL

/-! ML7: parts of tuples, isinstance, texts, the law's own defs, the law's end. -/
namespace VL
open PySem PySem.Spec PyProof.Rows L2
section
variable {α β γ δ κ ρ S : Type} {σ : SG} {i j : Nat} {c c1 c2 c3 : Cl} {e : α → D} {e1 : α → D} {e2 : β → D} {e3' : γ → D} {e4' : δ → D} {er : ρ → D} {ta tb tc t : SE} {a : α} {b : β} {m : M α} {ma : M α} {mb : M β}
theorem rp_ixP0 {p : α × β} (h : RP t σ p (eP e1 e2) c) : RP (sBin dIx t (sC (.int 0))) σ p.1 e1 (cEl c) := fun W Q q => h W _ fun τ k => ⟨e1 p.1, rfl, q _ (cEl_el k)⟩
theorem rp_ixP1 {p : α × β} (h : RP t σ p (eP e1 e2) c) : RP (sBin dIx t (sC (.int 1))) σ p.2 e2 (cEl c) := fun W Q q => h W _ fun τ k => ⟨e2 p.2, rfl, q _ (cEl_el k)⟩
theorem rp_ix30 {p : α × β × γ} (h : RP t σ p (e3 e1 e2 e3') c) : RP (sBin dIx t (sC (.int 0))) σ p.1 e1 (cEl c) := fun W Q q => h W _ fun τ k => ⟨e1 p.1, rfl, q _ (cEl_el k)⟩
theorem rp_ix31 {p : α × β × γ} (h : RP t σ p (e3 e1 e2 e3') c) : RP (sBin dIx t (sC (.int 1))) σ p.2.1 e2 (cEl c) := fun W Q q => h W _ fun τ k => ⟨e2 p.2.1, rfl, q _ (cEl_el k)⟩
theorem rp_ix32 {p : α × β × γ} (h : RP t σ p (e3 e1 e2 e3') c) : RP (sBin dIx t (sC (.int 2))) σ p.2.2 e3' (cEl c) := fun W Q q => h W _ fun τ k => ⟨e3' p.2.2, rfl, q _ (cEl_el k)⟩
theorem rp_ix40 {p : α × β × γ × δ} (h : RP t σ p (e4 e1 e2 e3' e4') c) : RP (sBin dIx t (sC (.int 0))) σ p.1 e1 (cEl c) := fun W Q q => h W _ fun τ k => ⟨e1 p.1, rfl, q _ (cEl_el k)⟩
theorem rp_ix41 {p : α × β × γ × δ} (h : RP t σ p (e4 e1 e2 e3' e4') c) : RP (sBin dIx t (sC (.int 1))) σ p.2.1 e2 (cEl c) := fun W Q q => h W _ fun τ k => ⟨e2 p.2.1, rfl, q _ (cEl_el k)⟩
theorem rp_ix42 {p : α × β × γ × δ} (h : RP t σ p (e4 e1 e2 e3' e4') c) : RP (sBin dIx t (sC (.int 2))) σ p.2.2.1 e3' (cEl c) := fun W Q q => h W _ fun τ k => ⟨e3' p.2.2.1, rfl, q _ (cEl_el k)⟩
theorem rp_ix43 {p : α × β × γ × δ} (h : RP t σ p (e4 e1 e2 e3' e4') c) : RP (sBin dIx t (sC (.int 3))) σ p.2.2.2 e4' (cEl c) := fun W Q q => h W _ fun τ k => ⟨e4' p.2.2.2, rfl, q _ (cEl_el k)⟩
theorem re_ix40 {m : M (α × β × γ × δ)} (h : RE t σ m (e4 e1 e2 e3' e4') c) : RE (sBin dIx t (sC (.int 0))) σ (m >>= fun p => pure p.1) e1 (cEl c) := fun W r W' Q hr q => by
  obtain ⟨p, W1, h1, h2⟩ := M.bnd_some hr
  obtain ⟨rfl, rfl⟩ := M.pure_some h2
  exact h W p _ _ h1 fun τ k => ⟨e1 p.1, rfl, q _ (cEl_el k)⟩
theorem re_ix41 {m : M (α × β × γ × δ)} (h : RE t σ m (e4 e1 e2 e3' e4') c) : RE (sBin dIx t (sC (.int 1))) σ (m >>= fun p => pure p.2.1) e2 (cEl c) := fun W r W' Q hr q => by
  obtain ⟨p, W1, h1, h2⟩ := M.bnd_some hr
  obtain ⟨rfl, rfl⟩ := M.pure_some h2
  exact h W p _ _ h1 fun τ k => ⟨e2 p.2.1, rfl, q _ (cEl_el k)⟩
theorem re_ix42 {m : M (α × β × γ × δ)} (h : RE t σ m (e4 e1 e2 e3' e4') c) : RE (sBin dIx t (sC (.int 2))) σ (m >>= fun p => pure p.2.2.1) e3' (cEl c) := fun W r W' Q hr q => by
  obtain ⟨p, W1, h1, h2⟩ := M.bnd_some hr
  obtain ⟨rfl, rfl⟩ := M.pure_some h2
  exact h W p _ _ h1 fun τ k => ⟨e3' p.2.2.1, rfl, q _ (cEl_el k)⟩
theorem re_ix43 {m : M (α × β × γ × δ)} (h : RE t σ m (e4 e1 e2 e3' e4') c) : RE (sBin dIx t (sC (.int 3))) σ (m >>= fun p => pure p.2.2.2) e4' (cEl c) := fun W r W' Q hr q => by
  obtain ⟨p, W1, h1, h2⟩ := M.bnd_some hr
  obtain ⟨rfl, rfl⟩ := M.pure_some h2
  exact h W p _ _ h1 fun τ k => ⟨e4' p.2.2.2, rfl, q _ (cEl_el k)⟩
/-- .. of one that may be None -/
def isiO (n T : String) (o : Option α) : Bool := match o with
  | none => isTy "NoneType" T
  | some _ => isTy n T
theorem un_isiO {T n : String} (h : ∀ a, tyN (e a) = some n) : UnP (dIsi T) c (eO e) (isiO n T) eB cT := fun τ a R _ q => by
  unfold dIsi
  cases a with
  | none => exact q .st rfl
  | some x =>
    show (match tyN (e x) with | some n => _ | none => _)
    rw [h x]
    exact q .st rfl
def mulS (z : Str) (k : Int) : M Str := M.chk (-(2 ^ 63 : Int) ≤ k ∧ k ≤ 16777216 ∧ z.length * k.toNat ≤ 16777216) >>= fun _ => pure (Txt.mul z k)
theorem op_mulS : OpS dMulS c1 eS c2 eI mulS eS cT := .chk fun _ _ _ _ _ _ _ hp q => ⟨hp.1, hp.2.1, hp.2.2, q .st rfl⟩
def listS (z : Str) : M (List Str) := M.chk (z.length ≤ sizeLine) >>= fun _ => pure (charsL z)
theorem fn_listS : FnS dListS c eS listS (eL eS) cF := .chk fun τ z R _ hp q => ⟨hp, by rw [charsL_map]; exact q .fr rfl⟩
/-! ### x += e, x.extend(l) -/
variable {F : ρ → SEnds → Wd → Prop} {rest : SS} {mk : Int → M ρ}
theorem rs_aug {te : SE} {x : Int} {mi : M Int} (hi : σ[i]? = some (some (.val (eI x)))) (h : RE te σ mi eI c) (hu : ∀ y, RS rest (σ.set i (some (.val (eI y)))) (mk y) F) : RS (sSeq (sAug i te) rest) σ (mi >>= fun k => pure (x + k) >>= mk) F := fun D W r W' hr q => by
  obtain ⟨k, W1, h1, hr⟩ := M.bnd_some hr
  rw [pure_bind] at hr
  show (match σ[i]? with | some (some (.val (.int a))) => _ | _ => False)
  rw [hi]
  exact h _ _ _ _ h1 fun τ _ => ⟨k, rfl, hu _ D W1 r W' hr q⟩
theorem rs_ext {te : SE} {l : List α} {ml : M (List α)} {mk : List α → M ρ} (hi : σ[i]? = some (some (oL e l))) (h : RE te σ ml (eL e) c) (hu : ∀ l, RS rest (σ.set i (some (oL e l))) (mk l) F) (hs : EstE c e := by first | exact est_o rfl | exact est_f CFl.h) :
    RS (sSeq (sExt i te) rest) σ (ml >>= fun x => M.chk (l.length + x.length ≤ sizeLine) >>= fun _ => pure (l ++ x) >>= mk) F := fun D W r W' hr q => by
  obtain ⟨x, W1, h1, hr⟩ := M.bnd_some hr
  obtain ⟨hp, hr⟩ := M.chk_some hr
  rw [pure_bind] at hr
  show (match σ[i]? with | some (some (.ml ds)) => _ | _ => False)
  rw [hi]
  refine h _ _ _ _ h1 fun τ k => ⟨x.map e, rfl, hs τ x k, by rw [List.length_map, List.length_map]; exact hp, ?_⟩
  have := hu (l ++ x) D W1 r W' hr q
  unfold oL at this
  rw [List.map_append] at this
  exact this
/-! ### the law's own defs -/
def eA : Addr → D := .deal
instance : CFl eA := ⟨fun _ => rfl⟩
def takeM (d : Addr) (m : Int) : M Int := fun W => match W with
  | some t => if d = t.a ∧ 0 < m ∧ t.pos < 2 ^ 60 then some (takeV t m, some { t with pos := t.pos + 1 }) else none
  | none => none
theorem s_take : SP takeSp (fun g : Addr × Int × Unit => [eA g.1, eI g.2.1]) (fun g => takeM g.1 g.2.1) eI cT := fun g W r W' Q hr q => by
  cases W with
  | none => cases hr
  | some t =>
    have hr : (if g.1 = t.a ∧ 0 < g.2.1 ∧ t.pos < 2 ^ 60 then some (takeV t g.2.1, some { t with pos := t.pos + 1 }) else none) = some (r, W') := hr
    split at hr
    · rename_i h
      cases hr
      exact ⟨h.1, h.2.1, h.2.2, q .st rfl⟩
    · cases hr
theorem s_bool : SP spBool (fun g : Bool × Bool × Unit => [eB g.1, eB g.2.1]) (fun g => pure (decide (g.1 = g.2.1))) eB cT := fun g W r W' Q hr q => by
  obtain ⟨rfl, rfl⟩ := M.pure_some hr
  exact bool_ok (q .st rfl)
open Classical in
noncomputable def sameM (e : α → D) (a b : α) : M Bool := M.chk (e a = e b ∧ fits true 5 (e a)) >>= fun _ => pure true
open Classical in
theorem s_same : SP (spSame 6) (fun g : α × α × Unit => [e g.1, e g.2.1]) (fun g => sameM e g.1 g.2.1) eB cT := fun g W r W' Q hr q => by
  obtain ⟨hp, hr⟩ := M.chk_some hr
  obtain ⟨rfl, rfl⟩ := M.pure_some hr
  show spSame 6 [e g.1, e g.2.1] _ Q
  rw [← hp.1]
  exact same_ok hp.2 (q .st rfl)
open Classical in
theorem sameM_ok {a b : α} (h : a = b) (hf : fits true 5 (e a)) : sameM e a b = pure true := by
  subst h
  unfold sameM
  rw [M.chk_pos ⟨rfl, hf⟩]; rfl
/-- every tape is in order: it gives what P says, with at most n draws -/
def Tk (d : Addr) (n : Nat) (m : M α) (P : α → Prop) : Prop := ∀ t : Tape, t.a = d → t.pos + n ≤ 2 ^ 60 → ∃ r p, m.run (some t) = some (r, some { t with pos := p }) ∧ t.pos ≤ p ∧ p ≤ t.pos + n ∧ P r
theorem Tk.pure {d : Addr} {P : α → Prop} (h : P a) : Tk d 0 (pure a : M α) P := fun t _ _ => ⟨a, t.pos, rfl, Nat.le_refl _, Nat.le_refl _, h⟩
theorem Tk.mono {d : Addr} {n n' : Nat} {P P' : α → Prop} (h : Tk d n m P) (hn : n ≤ n') (hp : ∀ a, P a → P' a) : Tk d n' m P' := fun t h1 h2 => by
  obtain ⟨r, p, a1, a2, a3, a4⟩ := h t h1 (by omega)
  exact ⟨r, p, a1, a2, by omega, hp _ a4⟩
theorem Tk.bind {d : Addr} {n n' : Nat} {P : α → Prop} {P' : β → Prop} {k : α → M β} (h : Tk d n m P) (hk : ∀ a, P a → Tk d n' (k a) P') : Tk d (n + n') (m >>= k) P' := fun t h1 h2 => by
  obtain ⟨r, p, a1, a2, a3, a4⟩ := h t h1 (by omega)
  obtain ⟨r', p', b1, b2, b3, b4⟩ := hk r a4 { t with pos := p } h1 (by show p + n' ≤ _; omega)
  refine ⟨r', p', ?_, Nat.le_trans a2 b2, by have : p' ≤ p + n' := b3; omega, b4⟩
  rw [M.bnd_run, a1]
  exact b1
theorem Tk.take {d : Addr} {k : Int} (h : 0 < k) : Tk d 1 (takeM d k) (fun r => 0 ≤ r ∧ r < k) := fun t h1 h2 => by
  refine ⟨takeV t k, t.pos + 1, ?_, by omega, by omega, ?_⟩
  · show (if d = t.a ∧ 0 < k ∧ t.pos < 2 ^ 60 then some (takeV t k, some { t with pos := t.pos + 1 }) else none) = _
    rw [if_pos ⟨h1.symm, h, by omega⟩]
  · unfold takeV
    exact ⟨Int.emod_nonneg _ (by omega), Int.emod_lt_of_pos _ h⟩
/-- the law's end -/
theorem law_of {n : Nat} {body : SS} {m : Addr → M Bool} (h : ∀ (ns : List Int) (a : Addr), RS body (some (.val (.scr ns)) :: some (.val (eA a)) :: List.replicate n none) (m a) (endF eB cT)) (hm : ∀ a, ∃ k, k ≤ 2 ^ 60 ∧ Tk a k (m a) (fun r => r = true)) : LawOk n body := fun ns row tot a c hl => by
  obtain ⟨k, hk, hm⟩ := hm a
  obtain ⟨r, p, h1, _, _, rfl⟩ := hm ⟨a, c, row, tot, 0⟩ rfl (by show 0 + k ≤ _; omega)
  exact h ns a _ _ true _ h1 ⟨fun τ _ => rfl, fun hn => by cases hn⟩
end
end VL

/-! ML8: the same, operands being plain data. -/
namespace VL
open PySem PySem.Spec PyProof.Rows L2
section
variable {α β γ δ κ ρ S : Type} {σ : SG} {i j : Nat} {c c1 c2 c3 : Cl} {e : α → D} {e1 : α → D} {e2 : β → D} {e3 : γ → D} {er : ρ → D} {ta tb tc tk tv t : SE} {a : α} {b : β} {m : M α} {ma : M α} {mb : M β} {td : SDs} {ek : κ → D} {ev : β → D} {l : List (κ × β)} {k : κ}
theorem rm_bin {f : OpD} {g : α → β → M γ} (ho : OpS f c1 e1 c2 e2 g e3 c3) (ha : RP ta σ a e1 c1) (hb : RP tb σ b e2 c2) : RE (sBin f ta tb) σ (g a b) e3 c3 := re_bin ho ha.re hb.re
theorem rm_binL {f : OpD} {g : α → β → M γ} (ho : OpS f c1 e1 c2 e2 g e3 c3) (ha : RE ta σ ma e1 c1) (hb : RP tb σ b e2 c2) : RE (sBin f ta tb) σ (ma >>= fun a => g a b) e3 c3 := re_bin ho ha hb.re
theorem rm_binR {f : OpD} {g : α → β → M γ} (ho : OpS f c1 e1 c2 e2 g e3 c3) (ha : RP ta σ a e1 c1) (hb : RE tb σ mb e2 c2) : RE (sBin f ta tb) σ (mb >>= fun b => g a b) e3 c3 := re_bin ho ha.re hb
theorem rm_binPL {f : OpD} {g : α → β → γ} (ho : OpP f c1 e1 c2 e2 g e3 c3) (ha : RE ta σ ma e1 c1) (hb : RP tb σ b e2 c2) : RE (sBin f ta tb) σ (ma >>= fun a => pure (g a b)) e3 c3 := re_binP ho ha hb.re
theorem rm_binPR {f : OpD} {g : α → β → γ} (ho : OpP f c1 e1 c2 e2 g e3 c3) (ha : RP ta σ a e1 c1) (hb : RE tb σ mb e2 c2) : RE (sBin f ta tb) σ (mb >>= fun b => pure (g a b)) e3 c3 := re_binP ho ha.re hb
theorem rm_fnS {f : FnD} {g : α → M β} (ho : FnS f c1 e1 g e2 c2) (ha : RP ta σ a e1 c1) : RE (sFn f (aCons ta aNil)) σ (g a) e2 c2 := re_fnS ho ha.re
theorem rm_and {a : Bool} {mb : M Bool} (ha : RP ta σ a eB c1) (hb : RE tb σ mb eB c2) : RE (sAnd ta tb) σ (if a = true then mb else pure false) eB (fun τ => c2 τ || cT τ) := re_and ha.re hb
theorem rm_or {a : Bool} {mb : M Bool} (ha : RP ta σ a eB c1) (hb : RE tb σ mb eB c2) : RE (sOr ta tb) σ (if a = true then pure true else mb) eB (fun τ => c2 τ || cT τ) := re_or ha.re hb
theorem rmb_and {u v : SB} {a : Bool} {mb : M Bool} (ha : RBP u σ a) (hb : RB v σ mb) : RB (bAnd u v) σ (if a = true then mb else pure false) := rb_and ha.rb hb
theorem rmb_or {u v : SB} {a : Bool} {mb : M Bool} (ha : RBP u σ a) (hb : RB v σ mb) : RB (bOr u v) σ (if a = true then pure true else mb) := rb_or ha.rb hb
theorem rm_if {u : SB} {x : Bool} {ma ma' : M α} (hc : RBP u σ x) (ha : RE ta σ ma e c1) (hb : RE tb σ ma' e c2) : RE (sIf u ta tb) σ (if x = true then ma else ma') e (fun τ => c1 τ || c2 τ) := re_if hc.rb ha hb
theorem rm_joinL {z : Str} {l : List Str} (h : RP tb σ l (eL eS) c) : RE (sJoin (sC (.str z)) tb) σ (joinM z l) eS cT := re_joinL h.re
theorem rm_joinT {z : Str} {l : List Str} (h : RP tb σ l (eT eS) c) : RE (sJoin (sC (.str z)) tb) σ (joinM z l) eS cT := re_joinT h.re
theorem rm_slL {ml : M (List α)} {lo hi : Option Int} {tl th : SPt} (ha : RE ta σ ml (eL e) c) (hl : RPtP tl σ lo) (hh : RPtP th σ hi) (h : EstE c e := by first | exact est_o rfl | exact est_f CFl.h) : RE (sSl ta tl th) σ (ml >>= fun l => pure (cutL l lo hi)) (eL e) cF := re_slL ha (rpt_m hl) (rpt_m hh) h
theorem rm_slT {ml : M (List α)} {lo hi : Option Int} {tl th : SPt} (ha : RE ta σ ml (eT e) c) (hl : RPtP tl σ lo) (hh : RPtP th σ hi) (h : EstE c e := by first | exact est_o rfl | exact est_f CFl.h) : RE (sSl ta tl th) σ (ml >>= fun l => pure (cutL l lo hi)) (eT e) cT := re_slT ha (rpt_m hl) (rpt_m hh) h
theorem rm_slS {z : Str} {lo hi : Option Int} {tl th : SPt} (ha : RP ta σ z eS c) (hl : RPtP tl σ lo) (hh : RPtP th σ hi) : RE (sSl ta tl th) σ (slS z lo hi) eS cT := re_slS ha.re (rpt_m hl) (rpt_m hh)
theorem rm_rng1 {a : Int} (ha : RP ta σ a eI c) : RI (sRng1 (aCons ta aNil)) σ (rng1 a) eI := ri_rng1 ha.re
theorem rm_rng2 {a b : Int} (ha : RP ta σ a eI c1) (hb : RP tb σ b eI c2) : RI (sRng2 (aCons ta (aCons tb aNil))) σ (rng2 a b) eI := ri_rng2 ha.re hb.re
theorem rm_rngD {a b : Int} (ha : RP ta σ a eI c1) (hb : RP tb σ b eI c2) : RI (sRngD (aCons ta (aCons tb (aCons (sUn dNeg (sC (.int 1))) aNil)))) σ (rngD a b) eI := ri_rngD ha.re hb.re
theorem rm_dget [DecidableEq κ] (hd : RDP td σ l ek ev) (hk : RP tk σ k ek c) (K : KeyE ek := by exact keyE_of CNk.h (by decide) fun _ => rfl) : RE (sDGet td tk) σ (lkM l k) ev cT := re_dget hd.rd hk.re K
theorem rm_dsort (hd : RDP td σ l ek ev) : RE (sDSort td) σ (srt ek (l.map (·.1))) (eL ek) cF := re_dsort hd.rd
theorem rm_dmin (hd : RDP td σ l ek ev) : RE (sDMin td) σ (minD ek (l.map (·.1))) ek cT := re_dmin hd.rd
theorem rm_cmp {it : SI} {f : TgF} {tt : SB} {te : SE} {vs : List Nat} {l : List α} {σ' : α → SG} {mf : α → M Bool} {mg : α → M β} (hi : RIP it σ l e) (hg : TG f e (wipeD σ vs) σ') (ht : ∀ x, RB tt (σ' x) (mf x)) (he : ∀ x, RE te (σ' x) (mg x) e2 c) (hs : StoE c e2 := by first | exact sto_s rfl | exact sto_f CFl.h) :
    RE (sLc false it f tt te vs) σ (cmp mf mg l) (eL e2) cF := re_cmp hi.ri hg ht he hs
theorem rm_cmpG {it : SI} {f : TgF} {tt : SB} {te : SE} {vs : List Nat} {l : List α} {σ' : α → SG} {mf : α → M Bool} {mg : α → M (List β)} (hi : RIP it σ l e) (hg : TG f e (wipeD σ vs) σ') (ht : ∀ x, RB tt (σ' x) (mf x)) (he : ∀ x, RE te (σ' x) (mg x) (eL e2) c) (hs : Cl.sub c cF = true := by rfl) :
    RE (sLc true it f tt te vs) σ (cmp mf mg l) (eL (eL e2)) cF2 := re_cmpG hi.ri hg ht he hs
theorem rm_cmp2 {it : SI} {f : TgF} {tt : SB} {it1 : SI} {f1 : TgF} {tt1 : SB} {te : SE} {vs vs1 : List Nat} {l : List α} {σ' : α → SG} {σ'' : α → γ → SG} {e1' : γ → D} {mf : α → M Bool} {mi : α → M (List γ)} {mf1 : α → γ → M Bool} {mg : α → γ → M β}
    (hi : RIP it σ l e) (hg : TG f e (wipeD σ vs) σ') (ht : ∀ x, RB tt (σ' x) (mf x)) (hi1 : ∀ x, RI it1 (σ' x) (mi x) e1') (hg1 : ∀ x, TG f1 e1' (wipeD (σ' x) vs1) (σ'' x)) (ht1 : ∀ x y, RB tt1 (σ'' x y) (mf1 x y)) (he : ∀ x y, RE te (σ'' x y) (mg x y) e2 c) (hs : StoE c e2 := by first | exact sto_s rfl | exact sto_f CFl.h) :
    RE (sLc2 it f tt it1 f1 tt1 te vs vs1) σ (cmp2 mf mi mf1 mg l) (eL e2) cF := re_cmp2 hi.ri hg ht hi1 hg1 ht1 he hs
theorem rm_dc [DecidableEq κ] {it : SI} {f : TgF} {tt : SB} {vs : List Nat} {l : List α} {σ' : α → SG} {mf : α → M Bool} {gk : α → M κ} {gv : α → M β} {ck cv : Cl} (hi : RIP it σ l e) (hg : TG f e (wipeD σ vs) σ') (ht : ∀ x, RB tt (σ' x) (mf x)) (hk : ∀ x, RE tk (σ' x) (gk x) ek ck) (hv : ∀ x, RE tv (σ' x) (gv x) ev cv)
    (hs : StoE cv ev := by first | exact sto_s rfl | exact sto_f CFl.h) (K : KeyE ek := by exact keyE_of CNk.h (by decide) fun _ => rfl) : RN (sDc it f tt tk tv vs) σ (collD mf gk gv [] l) ek ev := rn_dc hi.ri hg ht hk hv hs K
theorem rm_disp1 {v : β} {cv : Cl} (hk : RP tk σ k ek c) (hv : RP tv σ v ev cv) (hs : StoE cv ev := by first | exact sto_s rfl | exact sto_f CFl.h) (K : KeyE ek := by exact keyE_of CNk.h (by decide) fun _ => rfl) : RN (sDisp1 tk tv) σ (pure [(k, v)]) ek ev := rn_disp1 hk.re hv.re hs K
/-! ### statements -/
variable {F : ρ → SEnds → Wd → Prop} {u v rest : SS} {m' : M ρ}
theorem rs_ifP {tc : SB} {x : Bool} {m1 m2 : M ρ} (hc : RBP tc σ x) (h1 : RS (sSeq u rest) σ m1 F) (h2 : RS (sSeq v rest) σ m2 F) : RS (sSeq (sIfS tc u v) rest) σ (if x = true then m1 else m2) F := rs_if hc.rb h1 h2
theorem rs_joinP {tc : SB} {x : Bool} {m1 m2 : M S} {mk : S → M ρ} (Sl : S → (Nat → Option SV) → SG) (hc : RBP tc σ x) (h1 : RS u σ m1 (endN Sl)) (h2 : RS v σ m2 (endN Sl)) (hu : ∀ s z, RS rest (Sl s z) (mk s) F) :
    RS (sSeq (sIfS tc u v) rest) σ ((if x = true then m1 else m2) >>= mk) F := rs_join Sl hc.rb h1 h2 hu
theorem rs_appP {te : SE} {l : List α} {c : Cl} (hi : σ[i]? = some (some (oL e l))) (h : RP te σ a e c) (hu : RS rest (σ.set i (some (oL e (l ++ [a])))) m' F) (hs : StoE c e := by first | exact sto_s rfl | exact sto_f CFl.h) :
    RS (sSeq (sApp i te) rest) σ (M.chk (l.length < sizeLine) >>= fun _ => m') F := fun D W r W' hr q => by
  obtain ⟨hp, hr⟩ := M.chk_some hr
  show (match σ[i]? with | some (some (.ml ds)) => _ | _ => False)
  rw [hi]
  refine h W _ fun τ k => ⟨hs τ a k, by simpa using hp, ?_⟩
  have := hu D W r W' hr q
  unfold oL at this
  rw [List.map_append] at this
  exact this
theorem rs_putP {tk te : SE} {l : List α} {x : Int} {c ck : Cl} {mk : List α → M ρ} (hi : σ[i]? = some (some (oL e l))) (h : RP te σ a e c) (hk : RP tk σ x eI ck) (hu : ∀ a, RS rest (σ.set i (some (oL e a))) (mk a) F) (hs : StoE c e := by first | exact sto_s rfl | exact sto_f CFl.h) :
    RS (sSeq (sPut i tk te) rest) σ (setI l x a >>= mk) F := fun D W r W' hr q => by
  obtain ⟨l', W3, h3', hr⟩ := M.bnd_some hr
  obtain ⟨h3, rfl⟩ := M.ofO_someE h3'
  obtain ⟨j, hj, rfl⟩ := Option.map_eq_some_iff.mp h3
  show (match σ[i]? with | some (some (.ml ds)) => _ | _ => False)
  rw [hi]
  refine h _ _ fun τ kt => hk _ _ fun τ' kt' => ⟨hs τ a kt, j, by rw [List.length_map]; exact hj, ?_⟩
  have := hu _ D _ r W' hr q
  unfold oL at this
  rw [List.map_set] at this
  exact this
theorem rs_putM {tk te : SE} {l : List α} {x : Int} {c ck : Cl} {mk : List α → M ρ} (hi : σ[i]? = some (some (oL e l))) (h : RE te σ ma e c) (hk : RP tk σ x eI ck) (hu : ∀ a, RS rest (σ.set i (some (oL e a))) (mk a) F) (hs : StoE c e := by first | exact sto_s rfl | exact sto_f CFl.h) :
    RS (sSeq (sPut i tk te) rest) σ (ma >>= fun a => setI l x a >>= mk) F := rs_put hi h (fun _ => hk.re) hu hs
theorem rs_put2P {tr tk te : SE} {g : List (List α)} {c cr ck : Cl} {x y : Int} {mk : List (List α) → M ρ} (hi : σ[i]? = some (some (oG e g))) (h : RP te σ a e c) (hr' : RP tr σ x eI cr) (hk : RP tk σ y eI ck) (hu : ∀ a, RS rest (σ.set i (some (oG e a))) (mk a) F) (hs : StoE c e := by first | exact sto_s rfl | exact sto_f CFl.h) :
    RS (sSeq (sPut2 i tr tk te) rest) σ (setG g x y a >>= mk) F := rs_cast (rs_put2 hi h.re hr'.re hk.re hu hs) (by
  show (ix g x >>= fun row => setI row y a >>= fun row' => M.ofO ((ixN g.length x).map fun j => g.set j row') >>= mk) = _
  unfold setG
  rw [bind_assoc]
  congr 1; funext row
  rw [bind_assoc])
theorem rs_put2M {tr tk te : SE} {g : List (List α)} {c cr ck : Cl} {x y : Int} {mk : List (List α) → M ρ} (hi : σ[i]? = some (some (oG e g))) (h : RE te σ ma e c) (hr' : RP tr σ x eI cr) (hk : RP tk σ y eI ck) (hu : ∀ a, RS rest (σ.set i (some (oG e a))) (mk a) F) (hs : StoE c e := by first | exact sto_s rfl | exact sto_f CFl.h) :
    RS (sSeq (sPut2 i tr tk te) rest) σ (ma >>= fun a => setG g x y a >>= mk) F := rs_cast (rs_put2 hi h hr'.re hk.re hu hs) (by
  show (ma >>= fun a => ix g x >>= fun row => setI row y a >>= fun row' => M.ofO ((ixN g.length x).map fun j => g.set j row') >>= mk) = _
  congr 1; funext a
  unfold setG
  rw [bind_assoc]
  congr 1; funext row
  rw [bind_assoc])
theorem rs_dputP [DecidableEq κ] {cv : Cl} {mr : List (κ × β) → M ρ} (hi : σ[j]? = some (some (oD ek ev l))) (hv : RE tv σ mb ev cv) (hk : RP tk σ k ek c) (hu : ∀ l, RS rest (σ.set j (some (oD ek ev l))) (mr l) F) (hs : StoE cv ev := by first | exact sto_s rfl | exact sto_f CFl.h) (K : KeyE ek := by exact keyE_of CNk.h (by decide) fun _ => rfl) :
    RS (sSeq (sDPut j tk tv) rest) σ (mb >>= fun v => M.chk (l.length < sizeLine) >>= fun _ => pure (kput l k v) >>= mr) F := rs_dput hi hv (fun _ => hk.re) hu hs K
section
variable {it : SI} {f : TgF} {body : SS} {l : List α}
theorem rs_forLP {mb : S → α → M S} {mk : S → M ρ} {σ' : S → (Nat → Option SV) → α → SG} (Sl : S → (Nat → Option SV) → SG) (s0 : S) (hi : RIP it σ l e) (h0 : σ = Sl s0 (jz σ)) (hg : ∀ s z, TG f e (Sl s z) (σ' s z)) (hb : ∀ s z x, RS body (σ' s z x) (mb s x) (endL Sl))
    (hu : ∀ s z, RS rest (Sl s z) (mk s) F) : RS (sSeq (sFor it f body) rest) σ (forL mb s0 l >>= mk) F := rs_forL Sl s0 hi.ri h0 hg hb hu
theorem rs_forFP {cr : Cl} {mb : S → α → M (Ctl S ρ)} {mk : S → M ρ} {σ' : S → (Nat → Option SV) → α → SG} (Sl : S → (Nat → Option SV) → SG) (s0 : S) (hi : RIP it σ l e) (h0 : σ = Sl s0 (jz σ)) (hg : ∀ s z, TG f e (Sl s z) (σ' s z)) (hb : ∀ s z x, RS body (σ' s z x) (mb s x) (endC Sl er cr))
    (hu : ∀ s z, RS rest (Sl s z) (mk s) (endF er cr)) : RS (sSeq (sFor it f body) rest) σ (forC mb s0 l >>= fun r => ctl r mk pure) (endF er cr) := rs_forF Sl s0 hi.ri h0 hg hb hu
theorem rs_forCP {S' : Type} {Sl' : S' → (Nat → Option SV) → SG} {cr : Cl} {mb : S → α → M (Ctl S ρ)} {mk : S → M (Ctl S' ρ)} {σ' : S → (Nat → Option SV) → α → SG} (Sl : S → (Nat → Option SV) → SG) (s0 : S) (hi : RIP it σ l e) (h0 : σ = Sl s0 (jz σ)) (hg : ∀ s z, TG f e (Sl s z) (σ' s z)) (hb : ∀ s z x, RS body (σ' s z x) (mb s x) (endC Sl er cr))
    (hu : ∀ s z, RS rest (Sl s z) (mk s) (endC Sl' er cr)) : RS (sSeq (sFor it f body) rest) σ (forC mb s0 l >>= fun r => ctlC r mk) (endC Sl' er cr) := rs_forC Sl s0 hi.ri h0 hg hb hu
end
end
end VL

/-! ML9: lists of one's own rows, loops that break. -/
namespace VL
open PySem PySem.Spec PyProof.Rows L2
section
variable {α β γ δ κ ρ S : Type} {σ : SG} {i j : Nat} {c c1 c2 c3 : Cl} {e : α → D} {er : ρ → D} {t : SE} {F : ρ → SEnds → Wd → Prop} {rest : SS} {m' : M ρ} {ma : M α} {a : α}
abbrev absI (i : Int) : Int := if i < 0 then -i else i
abbrev minI2 (i j : Int) : Int := if j < i then j else i
abbrev maxI2 (i j : Int) : Int := if j > i then j else i
abbrev ninM [DecidableEq α] (e : α → D) (x : α) (l : List α) : M Bool := M.chk (fitB 8 (e x) = true ∧ ∀ z ∈ l, fitB 8 (e z) = true) >>= fun _ => pure (!memB x l)
/-- rows of one's own, none at first -/
def oM (e : α → D) (l : List (List α)) : SV := match l with
  | [] => .ml []
  | r :: l => .mg ((r :: l).map fun r => r.map e)
def cX : Cl | .b1 => true | .b2 => true | _ => false
theorem rp_varM {g : List (List α)} (h : σ[i]? = some (some (oM e g))) : RP (sVar i) σ g (eL (eL e)) cX := fun W Q q => by
  cases g with
  | nil =>
    show (match σ[i]? with | some (some x) => sv x fun t d => Q t d W | _ => False)
    rw [h]
    exact q .b1 rfl
  | cons r l => exact rp_varG (a := r :: l) h W Q fun τ k => q τ (by cases τ <;> first | rfl | cases k)
theorem rp_varFM {g : List (List α)} (h : σ[i]? = some (frzO (some (oM e g)))) : RP (sVar i) σ g (eL (eL e)) cT := fun W Q q => by
  cases g with
  | nil =>
    show (match σ[i]? with | some (some x) => sv x fun t d => Q t d W | _ => False)
    rw [h]
    exact q .st rfl
  | cons r l => exact rp_varFG (g := r :: l) h W Q q
theorem rs_appMo {r : List α} {g : List (List α)} (hij : i ≠ j) (hi : σ[i]? = some (some (oM e g))) (hj : σ[j]? = some (some (oL e r))) (hu : RS rest ((σ.set i (some (oM e (g ++ [r])))).set j none) m' F) :
    RS (sSeq (sAppMv i j) rest) σ (M.chk (g.length < sizeLine) >>= fun _ => m') F := fun D W x W' hr q => by
  obtain ⟨hp, hr⟩ := M.chk_some hr
  have := hu D W x W' hr q
  show (match σ[i]?, σ[j]? with | some (some (.mg g)), some (some (.ml ds)) => _ | some (some (.ml [])), some (some (.ml ds)) => _ | _, _ => False)
  rw [hi, hj]
  cases g with
  | nil => exact ⟨hij, this⟩
  | cons r0 l =>
    refine ⟨by simpa using hp, hij, ?_⟩
    have e1 : oM e ((r0 :: l) ++ [r]) = .mg (((r0 :: l).map fun r => r.map e) ++ [r.map e]) := by
      show SV.mg (((r0 :: l) ++ [r]).map fun r => r.map e) = _
      rw [List.map_append]; rfl
    rw [e1] at this
    exact this
theorem oM_G {g : List (List α)} (h : g ≠ []) : oM e g = oG e g := by
  cases g with
  | nil => exact absurd rfl h
  | cons r l => rfl
theorem rs_frzMo {g : List (List α)} (hi : σ[i]? = some (some (oM e g))) (hu : RS rest (σ.set i (some (.val (eL (eL e) g)))) m' F) : RS (sGhost (frz i) rest) σ m' F := by
  cases g with
  | nil => exact rs_frz (l := ([] : List (List α))) (e := eL e) hi hu
  | cons r l => exact rs_frzG (l := r :: l) hi hu
theorem setG_len {g g' : List (List α)} {x y : Int} {W W' : Wd} (h : (setG g x y a).run W = some (g', W')) : g ≠ [] ∧ g' ≠ [] := by
  unfold setG at h
  obtain ⟨row, W1, h1, h⟩ := M.bnd_some h
  obtain ⟨row', W2, h2, h⟩ := M.bnd_some h
  obtain ⟨h3, _⟩ := M.ofO_someE h
  obtain ⟨j, hj, rfl⟩ := Option.map_eq_some_iff.mp h3
  have hg : g ≠ [] := fun z => by
    subst z
    obtain ⟨h4, _⟩ := M.ofO_someE h1
    unfold atI at h4
    cases q : ixN ([] : List (List α)).length x with
    | none => rw [q] at h4; cases h4
    | some j => rw [q] at h4; simp at h4
  refine ⟨hg, fun z => hg ?_⟩
  have := congrArg List.length z
  rw [List.length_set] at this
  exact List.eq_nil_of_length_eq_zero this
open Classical in
theorem rs_put2MoP {tr tk te : SE} {g : List (List α)} {c cr ck : Cl} {x y : Int} {mk : List (List α) → M ρ} (hi : σ[i]? = some (some (oM e g))) (h : RP te σ a e c) (hr' : RP tr σ x eI cr) (hk : RP tk σ y eI ck) (hu : ∀ a, RS rest (σ.set i (some (oM e a))) (mk a) F) (hs : StoE c e := by first | exact sto_s rfl | exact sto_f CFl.h) :
    RS (sSeq (sPut2 i tr tk te) rest) σ (setG g x y a >>= mk) F := fun D W r W' hr q => by
  obtain ⟨g', W1, h1, h2⟩ := M.bnd_some hr
  have hn := (setG_len h1).1
  rw [oM_G hn] at hi
  refine rs_put2P (mk := fun a => if a = g' then mk a else M.fail) (by exact hi) h hr' hk (fun b D W r W' hr q => ?_) hs D W r W' ?_ q
  · by_cases z : b = g'
    · subst z
      have := hu b D W r W' (by simpa using hr) q
      rw [oM_G (setG_len h1).2] at this
      exact this
    · rw [if_neg z] at hr; cases hr
  · rw [M.bnd_run, h1]
    show (if g' = g' then mk g' else M.fail).run W1 = _
    rw [if_pos rfl]; exact h2
open Classical in
theorem rs_put2MoM {tr tk te : SE} {g : List (List α)} {c cr ck : Cl} {x y : Int} {mk : List (List α) → M ρ} (hi : σ[i]? = some (some (oM e g))) (h : RE te σ ma e c) (hr' : RP tr σ x eI cr) (hk : RP tk σ y eI ck) (hu : ∀ a, RS rest (σ.set i (some (oM e a))) (mk a) F) (hs : StoE c e := by first | exact sto_s rfl | exact sto_f CFl.h) :
    RS (sSeq (sPut2 i tr tk te) rest) σ (ma >>= fun a => setG g x y a >>= mk) F := fun D W r W' hr q => by
  obtain ⟨a, W0, h0, hr⟩ := M.bnd_some hr
  obtain ⟨g', W1, h1, h2⟩ := M.bnd_some hr
  have hn := (setG_len h1).1
  rw [oM_G hn] at hi
  refine rs_put2M (mk := fun a => if a = g' then mk a else M.fail) (by exact hi) h hr' hk (fun b D W r W' hr q => ?_) hs D W r W' ?_ q
  · by_cases z : b = g'
    · subst z
      have := hu b D W r W' (by simpa using hr) q
      rw [oM_G (setG_len h1).2] at this
      exact this
    · rw [if_neg z] at hr; cases hr
  · rw [M.bnd_run, h0]
    show (setG g x y a >>= _).run W0 = _
    rw [M.bnd_run, h1]
    show (if g' = g' then mk g' else M.fail).run W1 = _
    rw [if_pos rfl]; exact h2
/-! ### loops that break -/
def ctlE (r : Ctl S Empty) (k : S → M ρ) : M ρ := match r with
  | .nx s => k s
  | .bk s => k s
  | .rt a => nomatch a
theorem rs_forB {it : SI} {f : TgF} {body : SS} {ml : M (List α)} {mb : S → α → M (Ctl S Empty)} {mk : S → M ρ} {σ' : S → (Nat → Option SV) → α → SG} (Sl : S → (Nat → Option SV) → SG) (s0 : S) (hi : RI it σ ml e) (h0 : σ = Sl s0 (jz σ)) (hg : ∀ s z, TG f e (Sl s z) (σ' s z)) (hb : ∀ s z x, RS body (σ' s z x) (mb s x) (endC Sl (fun a : Empty => nomatch a) cT))
    (hu : ∀ s z, RS rest (Sl s z) (mk s) F) : RS (sSeq (sFor it f body) rest) σ (ml >>= fun l => forC mb s0 l >>= fun r => ctlE r mk) F := fun D W r W' hr q => by
  generalize jz σ = z0 at h0
  obtain ⟨l, W1, h1, hr⟩ := M.bnd_some hr
  obtain ⟨s, W2, h2, hr⟩ := M.bnd_some hr
  refine hi _ _ _ _ h1 ?_
  rw [h0]
  cases s with
  | nx s => exact forC_run hg hb l s0 z0 _ W1 W2 _ h2 (fun s' hs z => by rcases hs with hs | hs <;> cases hs; exact hu _ z D W2 r W' hr q) (fun a ha => by cases ha)
  | bk s => exact forC_run hg hb l s0 z0 _ W1 W2 _ h2 (fun s' hs z => by rcases hs with hs | hs <;> cases hs; exact hu _ z D W2 r W' hr q) (fun a ha => by cases ha)
  | rt a => exact nomatch a
theorem rs_forBP {it : SI} {f : TgF} {body : SS} {l : List α} {mb : S → α → M (Ctl S Empty)} {mk : S → M ρ} {σ' : S → (Nat → Option SV) → α → SG} (Sl : S → (Nat → Option SV) → SG) (s0 : S) (hi : RIP it σ l e) (h0 : σ = Sl s0 (jz σ)) (hg : ∀ s z, TG f e (Sl s z) (σ' s z)) (hb : ∀ s z x, RS body (σ' s z x) (mb s x) (endC Sl (fun a : Empty => nomatch a) cT))
    (hu : ∀ s z, RS rest (Sl s z) (mk s) F) : RS (sSeq (sFor it f body) rest) σ (forC mb s0 l >>= fun r => ctlE r mk) F := rs_forB Sl s0 hi.ri h0 hg hb hu
theorem rs_whlB {tc : SB} {body : SS} {mc : S → M Bool} {mb : S → M (Ctl S Empty)} {mk : S → M ρ} (Sl : S → (Nat → Option SV) → SG) (s0 : S) (h0 : σ = Sl s0 (jz σ)) (hc : ∀ s z, RB tc (Sl s z) (mc s)) (hb : ∀ s z, RS body (Sl s z) (mb s) (endC Sl (fun a : Empty => nomatch a) cT))
    (hu : ∀ s z, RS rest (Sl s z) (mk s) F) : RS (sSeq (sWhile tc body) rest) σ (whlC mc mb fuel s0 >>= fun r => ctlE r mk) F := fun D W r W' hr q => by
  generalize jz σ = z0 at h0
  obtain ⟨x, W2, h2, hr⟩ := M.bnd_some hr
  subst h0
  cases x with
  | nx s => exact whlC_run hc hb (fun s' hs z => by rcases hs with hs | hs <;> cases hs; exact hu _ z D W2 r W' hr q) (fun a ha => by cases ha) h2
  | bk s => exact whlC_run hc hb (fun s' hs z => by rcases hs with hs | hs <;> cases hs; exact hu _ z D W2 r W' hr q) (fun a ha => by cases ha) h2
  | rt a => exact nomatch a
end
end VL

set_option maxRecDepth 4000
set_option maxHeartbeats 4000000
namespace L79
open PySem PySem.Spec PyProof.Rows L2 VL

noncomputable def m__law_grid (p_deal : Addr) (p_rows : Int) (p_columns : Int) : M (List PySem.Str) :=
  ((takeM p_deal (6 : Int)) >>= fun style1 => (((takeM p_deal (4 : Int)) >>= fun b => (ix ([(2 : Int), (3 : Int), (4 : Int), (5 : Int)] : (List Int)) b)) >>= fun chance2 => ((rng1 p_rows) >>= fun l36 => forL (fun (s3 : (List (List PySem.Str))) x5 => ((rng1 p_columns) >>= fun l26 => forL (fun (s6 : (List PySem.Str)) x8 => (((takeM p_deal chance2) >>= fun a => pure (decide (a > (0 : Int)))) >>= fun land9 => ((if (decide (style1 = (1 : Int))) = true then (((takeM p_deal chance2) >>= fun a => pure (decide (a = (0 : Int)))) >>= fun land13 => (pure land13)) else (pure land9)) >>= fun (s11 : Bool) => ((if (decide (style1 = (2 : Int))) = true then (((modI (least4 x5 x8 ((p_rows - (1 : Int)) - x5) ((p_columns - (1 : Int)) - x8)) (2 : Int)) >>= fun a => pure (decide (a = (0 : Int)))) >>= fun land17 => (pure land17)) else (pure s11)) >>= fun (s15 : Bool) => ((if (decide (style1 = (3 : Int))) = true then (((modI (x5 + x8) (2 : Int)) >>= fun a => pure (decide (a = (0 : Int)))) >>= fun land21 => (pure land21)) else (pure s15)) >>= fun (s19 : Bool) => ((if (decide (style1 = (4 : Int))) = true then ((M.or ((modI x5 (2 : Int)) >>= fun a => pure (decide (a = (0 : Int)))) ((((divI x5 (2 : Int)) >>= fun a => (modI a (2 : Int))) >>= fun b => (ix ([(0 : Int), (p_columns - (1 : Int))] : (List Int)) b)) >>= fun b => pure (decide (x8 = b)))) >>= fun land25 => (pure land25)) else (pure s19)) >>= fun (s23 : Bool) => (M.chk (List.length s6 < sizeLine) >>= fun _ => (pure (s6 ++ [(if s23 = true then ("x" : PySem.Str) else ("." : PySem.Str))]))))))))) ([] : (List PySem.Str)) l26 >>= (fun (s6 : (List PySem.Str)) => (M.chk (List.length s3 < sizeLine) >>= fun _ => (pure (s3 ++ [s6])))))) ([] : (List (List PySem.Str))) l36 >>= (fun (s3 : (List (List PySem.Str))) => (((takeM p_deal (4 : Int)) >>= rng1) >>= fun l35 => forL (fun (s27 : (List (List PySem.Str))) x29 => ((takeM p_deal p_rows) >>= fun r30 => ((takeM p_deal p_columns) >>= fun c31 => (((((ix s27 r30) >>= fun a => (ix a c31)) >>= fun a => pure (decide (a = ("x" : PySem.Str)))) >>= fun x => if x = true then (pure ("." : PySem.Str)) else (pure ("x" : PySem.Str))) >>= fun a33 => setG s27 r30 c31 a33 >>= fun grid32 => (pure grid32))))) s3 l35 >>= (fun (s27 : (List (List PySem.Str))) => ((cmp (fun x34 => (pure true)) (fun x34 => (joinM ("" : PySem.Str) x34)) s27) >>= fun a => pure a)))))))
theorem t__law_grid (p_deal : Addr) (p_rows : Int) (p_columns : Int) : RS b__law_grid [some (.val (eA p_deal)), some (.val (eI p_rows)), some (.val (eI p_columns)), none, none, none, none, none, none, none, none] (m__law_grid p_deal p_rows p_columns) (endF (eT eS) cT) := by
  unfold b__law_grid m__law_grid
  exact (rs_set (re_callP (m := fun g : Addr × Int × Unit => takeM g.1 g.2.1) s_take (x := (p_deal, (6 : Int), ())) (rap_cons (rp_var (e := eA) rfl) (rap_cons (rp_c (e := eI) (a := 6)) rap_nil))) fun style1 => (rs_set (rm_binR (g := fun a b => (ix a b)) (a := ([(2 : Int), (3 : Int), (4 : Int), (5 : Int)] : (List Int))) (op_ixL) (rp_lst (n := 4) (e := (eL eI)) (a := ([(2 : Int), (3 : Int), (4 : Int), (5 : Int)] : (List Int))) (rap_cons (rp_c (e := eI) (a := 2)) (rap_cons (rp_c (e := eI) (a := 3)) (rap_cons (rp_c (e := eI) (a := 4)) (rap_cons (rp_c (e := eI) (a := 5)) rap_nil))))) (re_callP (m := fun g : Addr × Int × Unit => takeM g.1 g.2.1) s_take (x := (p_deal, (4 : Int), ())) (rap_cons (rp_var (e := eA) rfl) (rap_cons (rp_c (e := eI) (a := 4)) rap_nil)))) fun chance2 => (rs_ownP (e := (eL eS)) (rp_lst (n := 0) (e := (eL (eL eS))) (a := ([] : (List (List PySem.Str)))) rap_nil) (rs_forL (fun (s3 : (List (List PySem.Str))) z4 => [some (.val (eA p_deal)), some (.val (eI p_rows)), some (.val (eI p_columns)), some (.val (eI style1)), some (.val (eI chance2)), some (oM eS s3), z4 6, z4 7, z4 8, z4 9, none]) ([] : (List (List PySem.Str))) (rm_rng1 (rp_var (e := eI) rfl)) rfl (fun s3 z4 => tg_name) (fun s3 z4 x5 => (rs_ownP (e := eS) (rp_lst (n := 0) (e := (eL eS)) (a := ([] : (List PySem.Str))) rap_nil) (rs_forL (fun (s6 : (List PySem.Str)) z7 => [some (.val (eA p_deal)), some (.val (eI p_rows)), some (.val (eI p_columns)), some (.val (eI style1)), some (.val (eI chance2)), some (oM eS s3), some (.val (eI x5)), some (oL eS s6), z7 8, z7 9, none]) ([] : (List PySem.Str)) (rm_rng1 (rp_var (e := eI) rfl)) rfl (fun s6 z7 => tg_name) (fun s6 z7 x8 => (rs_set (rm_binPL (g := fun a b => (decide (a > b))) (b := (0 : Int)) (opp_gtI) (re_callP (m := fun g : Addr × Int × Unit => takeM g.1 g.2.1) s_take (x := (p_deal, chance2, ())) (rap_cons (rp_var (e := eA) rfl) (rap_cons (rp_var (e := eI) rfl) rap_nil))) (rp_c (e := eI) (a := 0))) fun land9 => (rs_joinP (fun (s11 : Bool) z12 => [some (.val (eA p_deal)), some (.val (eI p_rows)), some (.val (eI p_columns)), some (.val (eI style1)), some (.val (eI chance2)), some (oM eS s3), some (.val (eI x5)), some (oL eS s6), some (.val (eI x8)), some (.val (eB s11)), none]) (rb_testP (rp_bin (g := fun a b => (decide (a = b))) (a := style1) (b := (1 : Int)) (opp_eqI) (rp_var (e := eI) rfl) (rp_c (e := eI) (a := 1)))) (rs_last (rs_set (rm_binPL (g := fun a b => (decide (a = b))) (b := (0 : Int)) (opp_eqI) (re_callP (m := fun g : Addr × Int × Unit => takeM g.1 g.2.1) s_take (x := (p_deal, chance2, ())) (rap_cons (rp_var (e := eA) rfl) (rap_cons (rp_var (e := eI) rfl) rap_nil))) (rp_c (e := eI) (a := 0))) fun land13 => (rs_endN rfl))) (rs_endN rfl) fun s11 z12 => (rs_joinP (fun (s15 : Bool) z16 => [some (.val (eA p_deal)), some (.val (eI p_rows)), some (.val (eI p_columns)), some (.val (eI style1)), some (.val (eI chance2)), some (oM eS s3), some (.val (eI x5)), some (oL eS s6), some (.val (eI x8)), some (.val (eB s15)), none]) (rb_testP (rp_bin (g := fun a b => (decide (a = b))) (a := style1) (b := (2 : Int)) (opp_eqI) (rp_var (e := eI) rfl) (rp_c (e := eI) (a := 2)))) (rs_last (rs_set (rm_binPL (g := fun a b => (decide (a = b))) (b := (0 : Int)) (opp_eqI) (rm_bin (g := fun a b => (modI a b)) (a := (least4 x5 x8 ((p_rows - (1 : Int)) - x5) ((p_columns - (1 : Int)) - x8))) (b := (2 : Int)) (op_modI) (rp_min4 (rp_var (e := eI) rfl) (rp_var (e := eI) rfl) (rp_bin (g := fun a b => (a - b)) (a := (p_rows - (1 : Int))) (b := x5) (opp_subI) (rp_bin (g := fun a b => (a - b)) (a := p_rows) (b := (1 : Int)) (opp_subI) (rp_var (e := eI) rfl) (rp_c (e := eI) (a := 1))) (rp_var (e := eI) rfl)) (rp_bin (g := fun a b => (a - b)) (a := (p_columns - (1 : Int))) (b := x8) (opp_subI) (rp_bin (g := fun a b => (a - b)) (a := p_columns) (b := (1 : Int)) (opp_subI) (rp_var (e := eI) rfl) (rp_c (e := eI) (a := 1))) (rp_var (e := eI) rfl))) (rp_c (e := eI) (a := 2))) (rp_c (e := eI) (a := 0))) fun land17 => (rs_endN rfl))) (rs_endN rfl) fun s15 z16 => (rs_joinP (fun (s19 : Bool) z20 => [some (.val (eA p_deal)), some (.val (eI p_rows)), some (.val (eI p_columns)), some (.val (eI style1)), some (.val (eI chance2)), some (oM eS s3), some (.val (eI x5)), some (oL eS s6), some (.val (eI x8)), some (.val (eB s19)), none]) (rb_testP (rp_bin (g := fun a b => (decide (a = b))) (a := style1) (b := (3 : Int)) (opp_eqI) (rp_var (e := eI) rfl) (rp_c (e := eI) (a := 3)))) (rs_last (rs_set (rm_binPL (g := fun a b => (decide (a = b))) (b := (0 : Int)) (opp_eqI) (rm_bin (g := fun a b => (modI a b)) (a := (x5 + x8)) (b := (2 : Int)) (op_modI) (rp_bin (g := fun a b => (a + b)) (a := x5) (b := x8) (opp_addI) (rp_var (e := eI) rfl) (rp_var (e := eI) rfl)) (rp_c (e := eI) (a := 2))) (rp_c (e := eI) (a := 0))) fun land21 => (rs_endN rfl))) (rs_endN rfl) fun s19 z20 => (rs_joinP (fun (s23 : Bool) z24 => [some (.val (eA p_deal)), some (.val (eI p_rows)), some (.val (eI p_columns)), some (.val (eI style1)), some (.val (eI chance2)), some (oM eS s3), some (.val (eI x5)), some (oL eS s6), some (.val (eI x8)), some (.val (eB s23)), none]) (rb_testP (rp_bin (g := fun a b => (decide (a = b))) (a := style1) (b := (4 : Int)) (opp_eqI) (rp_var (e := eI) rfl) (rp_c (e := eI) (a := 4)))) (rs_last (rs_set (re_or (rm_binPL (g := fun a b => (decide (a = b))) (b := (0 : Int)) (opp_eqI) (rm_bin (g := fun a b => (modI a b)) (a := x5) (b := (2 : Int)) (op_modI) (rp_var (e := eI) rfl) (rp_c (e := eI) (a := 2))) (rp_c (e := eI) (a := 0))) (rm_binPR (g := fun a b => (decide (a = b))) (a := x8) (opp_eqI) (rp_var (e := eI) rfl) (rm_binR (g := fun a b => (ix a b)) (a := ([(0 : Int), (p_columns - (1 : Int))] : (List Int))) (op_ixL) (rp_lst (n := 2) (e := (eL eI)) (a := ([(0 : Int), (p_columns - (1 : Int))] : (List Int))) (rap_cons (rp_c (e := eI) (a := 0)) (rap_cons (rp_bin (g := fun a b => (a - b)) (a := p_columns) (b := (1 : Int)) (opp_subI) (rp_var (e := eI) rfl) (rp_c (e := eI) (a := 1))) rap_nil))) (rm_binL (g := fun a b => (modI a b)) (b := (2 : Int)) (op_modI) (rm_bin (g := fun a b => (divI a b)) (a := x5) (b := (2 : Int)) (op_divI) (rp_var (e := eI) rfl) (rp_c (e := eI) (a := 2))) (rp_c (e := eI) (a := 2)))))) fun land25 => (rs_endN rfl))) (rs_endN rfl) fun s23 z24 => (rs_last (rs_appP (e := eS) (l := s6) rfl (rp_if (rb_testP (rp_var (e := eB) rfl)) (rp_c (e := eS) (a := "x")) (rp_c (e := eS) (a := "."))) (rs_endL rfl))))))))) fun s6 z7 => (rs_last (rs_appMo (e := eS) (r := s6) (g := s3) (by decide) rfl rfl (rs_endL rfl)))))) fun s3 z4 => (rs_forL (fun (s27 : (List (List PySem.Str))) z28 => [some (.val (eA p_deal)), some (.val (eI p_rows)), some (.val (eI p_columns)), some (.val (eI style1)), some (.val (eI chance2)), some (oM eS s27), z28 6, (z4 7), z28 8, (z4 9), z28 10]) s3 (ri_rng1 (re_callP (m := fun g : Addr × Int × Unit => takeM g.1 g.2.1) s_take (x := (p_deal, (4 : Int), ())) (rap_cons (rp_var (e := eA) rfl) (rap_cons (rp_c (e := eI) (a := 4)) rap_nil)))) rfl (fun s27 z28 => tg_name) (fun s27 z28 x29 => (rs_set (re_callP (m := fun g : Addr × Int × Unit => takeM g.1 g.2.1) s_take (x := (p_deal, p_rows, ())) (rap_cons (rp_var (e := eA) rfl) (rap_cons (rp_var (e := eI) rfl) rap_nil))) fun r30 => (rs_set (re_callP (m := fun g : Addr × Int × Unit => takeM g.1 g.2.1) s_take (x := (p_deal, p_columns, ())) (rap_cons (rp_var (e := eA) rfl) (rap_cons (rp_var (e := eI) rfl) rap_nil))) fun c31 => (rs_last (rs_put2MoM (e := eS) (g := s27) rfl (re_if (rb_test (rm_binPL (g := fun a b => (decide (a = b))) (b := ("x" : PySem.Str)) (opp_eqS) (rm_binL (g := fun a b => (ix a b)) (b := c31) (op_ixL) (rm_bin (g := fun a b => (ix a b)) (a := s27) (b := r30) (op_ixL) (rp_varM (e := eS) rfl) (rp_var (e := eI) rfl)) (rp_var (e := eI) rfl)) (rp_c (e := eS) (a := "x")))) ((rp_c (e := eS) (a := "."))).re ((rp_c (e := eS) (a := "x"))).re) (rp_var (e := eI) rfl) (rp_var (e := eI) rfl) fun grid32 => (rs_endL rfl)))))) fun s27 z28 => (rs_last (rs_retF (re_fn (g := fun z => z) (fn_tupL (e := eS)) (re_borF (rm_cmp (ri_lstP (rp_varFM (e := eS) rfl)) tg_name (fun x34 => (rb_yes).rb) (fun x34 => (rm_joinL (rp_var (e := (eL eS)) rfl)))))))))))))
theorem s__law_grid : SP sp__law_grid (fun g : Addr × Int × Int × Unit => [eA g.1, eI g.2.1, eI g.2.2.1]) (fun g => m__law_grid g.1 g.2.1 g.2.2.1) (eT eS) cT := sp_mk fun g => t__law_grid g.1 g.2.1 g.2.2.1
noncomputable def m__law_cross (p_chart : (List PySem.Str)) (p_square : (Int × Int)) : M (List (Int × Int)) :=
  ((pure ([(p_square.1, p_square.2), ((p_square.1 - (1 : Int)), p_square.2), (p_square.1, (p_square.2 - (1 : Int))), (p_square.1, (p_square.2 + (1 : Int))), ((p_square.1 + (1 : Int)), p_square.2)] : (List (Int × Int)))) >>= fun around1 => (cmp (fun x2 => (if ((decide ((0 : Int) ≤ x2.1)) && (decide (x2.1 < ((List.length p_chart : Nat) : Int)))) = true then ((pure (0 : Int)) >>= fun a => (pure x2.2) >>= fun b => if (decide (a ≤ b)) = true then ((ix p_chart (0 : Int)) >>= fun a => (lenS a)) >>= fun d => pure (decide (b < d)) else pure false) else pure false)) (fun x2 => (pure (x2.1, x2.2))) around1))
theorem t__law_cross (p_chart : (List PySem.Str)) (p_square : (Int × Int)) : RS b__law_cross [some (.val ((eT eS) p_chart)), some (.val ((eP eI eI) p_square)), none, none, none, none, none] (m__law_cross p_chart p_square) (endF (eL (eP eI eI)) cF) := by
  unfold b__law_cross m__law_cross
  exact (rs_asgP (rp_var (e := (eP eI eI)) rfl) tg_p (rs_set ((rp_lst (n := 5) (e := (eL (eP eI eI))) (a := ([(p_square.1, p_square.2), ((p_square.1 - (1 : Int)), p_square.2), (p_square.1, (p_square.2 - (1 : Int))), (p_square.1, (p_square.2 + (1 : Int))), ((p_square.1 + (1 : Int)), p_square.2)] : (List (Int × Int)))) (rap_cons (rp_tup (n := 2) (e := (eP eI eI)) (a := (p_square.1, p_square.2)) (rap_cons (rp_var (e := eI) rfl) (rap_cons (rp_var (e := eI) rfl) rap_nil))) (rap_cons (rp_tup (n := 2) (e := (eP eI eI)) (a := ((p_square.1 - (1 : Int)), p_square.2)) (rap_cons (rp_bin (g := fun a b => (a - b)) (a := p_square.1) (b := (1 : Int)) (opp_subI) (rp_var (e := eI) rfl) (rp_c (e := eI) (a := 1))) (rap_cons (rp_var (e := eI) rfl) rap_nil))) (rap_cons (rp_tup (n := 2) (e := (eP eI eI)) (a := (p_square.1, (p_square.2 - (1 : Int)))) (rap_cons (rp_var (e := eI) rfl) (rap_cons (rp_bin (g := fun a b => (a - b)) (a := p_square.2) (b := (1 : Int)) (opp_subI) (rp_var (e := eI) rfl) (rp_c (e := eI) (a := 1))) rap_nil))) (rap_cons (rp_tup (n := 2) (e := (eP eI eI)) (a := (p_square.1, (p_square.2 + (1 : Int)))) (rap_cons (rp_var (e := eI) rfl) (rap_cons (rp_bin (g := fun a b => (a + b)) (a := p_square.2) (b := (1 : Int)) (opp_addI) (rp_var (e := eI) rfl) (rp_c (e := eI) (a := 1))) rap_nil))) (rap_cons (rp_tup (n := 2) (e := (eP eI eI)) (a := ((p_square.1 + (1 : Int)), p_square.2)) (rap_cons (rp_bin (g := fun a b => (a + b)) (a := p_square.1) (b := (1 : Int)) (opp_addI) (rp_var (e := eI) rfl) (rp_c (e := eI) (a := 1))) (rap_cons (rp_var (e := eI) rfl) rap_nil))) rap_nil))))))).re fun around1 => (rs_last (rs_retF (rm_cmp (ri_lstP (rp_var (e := (eL (eP eI eI))) rfl)) tg_p (fun x2 => (rmb_and (rb_testP (rp_chain (g := fun a b => (decide (a ≤ b))) (g' := fun a b => (decide (a < b))) (a := (0 : Int)) (b := x2.1) (d := ((List.length p_chart : Nat) : Int)) (opp_leI) (opp_ltI) (rp_c (e := eI) (a := 0)) (rp_var (e := eI) rfl) (rp_fn (g := fun z => ((List.length z : Nat) : Int)) (a := p_chart) (fn_lenT) (rp_var (e := (eT eS)) rfl)))) (rb_test (re_chain (g := fun a b => (decide (a ≤ b))) (g' := fun a b => (decide (a < b))) (opp_leI) (opp_ltI) ((rp_c (e := eI) (a := 0))).re ((rp_var (e := eI) rfl)).re (re_fnS (g := fun z => (lenS z)) (fn_lenS) (rm_bin (g := fun a b => (ix a b)) (a := p_chart) (b := (0 : Int)) (op_ixT) (rp_var (e := (eT eS)) rfl) (rp_c (e := eI) (a := 0)))))))) (fun x2 => ((rp_tup (n := 2) (e := (eP eI eI)) (a := (x2.1, x2.2)) (rap_cons (rp_var (e := eI) rfl) (rap_cons (rp_var (e := eI) rfl) rap_nil)))).re))))))
theorem s__law_cross : SP sp__law_cross (fun g : (List PySem.Str) × (Int × Int) × Unit => [(eT eS) g.1, (eP eI eI) g.2.1]) (fun g => m__law_cross g.1 g.2.1) (eL (eP eI eI)) cF := sp_mk fun g => t__law_cross g.1 g.2.1
noncomputable def m__law_press (p_chart : (List PySem.Str)) (p_squares : (List (Int × Int))) : M (List PySem.Str) :=
  ((cmp (fun x1 => (pure true)) (fun x1 => (listS x1)) p_chart) >>= fun grid2 => (forL (fun (s3 : (List (List PySem.Str))) x5 => ((m__law_cross p_chart x5) >>= fun l11 => forL (fun (s6 : (List (List PySem.Str))) x8 => (((((ix s6 x8.1) >>= fun a => (ix a x8.2)) >>= fun a => pure (decide (a = ("x" : PySem.Str)))) >>= fun x => if x = true then (pure ("." : PySem.Str)) else (pure ("x" : PySem.Str))) >>= fun a10 => setG s6 x8.1 x8.2 a10 >>= fun grid9 => (pure grid9))) s3 l11 >>= (fun (s6 : (List (List PySem.Str))) => (pure s6)))) grid2 p_squares >>= (fun (s3 : (List (List PySem.Str))) => ((cmp (fun x12 => (pure true)) (fun x12 => (joinM ("" : PySem.Str) x12)) s3) >>= fun a => pure a))))
theorem t__law_press (p_chart : (List PySem.Str)) (p_squares : (List (Int × Int))) : RS b__law_press [some (.val ((eT eS) p_chart)), some (.val ((eL (eP eI eI)) p_squares)), none, none, none, none, none] (m__law_press p_chart p_squares) (endF (eT eS) cT) := by
  unfold b__law_press m__law_press
  exact (rs_ownG (e := eS) (rm_cmpG (ri_tupP (rp_var (e := (eT eS)) rfl)) tg_name (fun x1 => (rb_yes).rb) (fun x1 => (rm_fnS (g := fun z => (listS z)) (a := x1) (fn_listS) (rp_var (e := eS) rfl)))) fun grid2 => (rs_forLP (fun (s3 : (List (List PySem.Str))) z4 => [some (.val ((eT eS) p_chart)), some (.val ((eL (eP eI eI)) p_squares)), some (oG eS s3), z4 3, z4 4, z4 5, none]) grid2 (ri_lstP (rp_var (e := (eL (eP eI eI))) rfl)) rfl (fun s3 z4 => tg_name) (fun s3 z4 x5 => (rs_last (rs_forL (fun (s6 : (List (List PySem.Str))) z7 => [some (.val ((eT eS) p_chart)), some (.val ((eL (eP eI eI)) p_squares)), some (oG eS s6), some (.val ((eP eI eI) x5)), z7 4, z7 5, none]) s3 (ri_lst (re_callP (m := fun g : (List PySem.Str) × (Int × Int) × Unit => m__law_cross g.1 g.2.1) s__law_cross (x := (p_chart, x5, ())) (rap_cons (rp_var (e := (eT eS)) rfl) (rap_cons (rp_var (e := (eP eI eI)) rfl) rap_nil)))) rfl (fun s6 z7 => tg_p) (fun s6 z7 x8 => (rs_last (rs_put2M (e := eS) (g := s6) rfl (re_if (rb_test (rm_binPL (g := fun a b => (decide (a = b))) (b := ("x" : PySem.Str)) (opp_eqS) (rm_binL (g := fun a b => (ix a b)) (b := x8.2) (op_ixL) (rm_bin (g := fun a b => (ix a b)) (a := s6) (b := x8.1) (op_ixL) (rp_varG (e := eS) rfl) (rp_var (e := eI) rfl)) (rp_var (e := eI) rfl)) (rp_c (e := eS) (a := "x")))) ((rp_c (e := eS) (a := "."))).re ((rp_c (e := eS) (a := "x"))).re) (rp_var (e := eI) rfl) (rp_var (e := eI) rfl) fun grid9 => (rs_endL rfl)))) fun s6 z7 => (rs_endL rfl)))) fun s3 z4 => (rs_last (rs_retF (re_fn (g := fun z => z) (fn_tupL (e := eS)) (re_borF (rm_cmp (ri_lstP (rp_varFG (e := eS) rfl)) tg_name (fun x12 => (rb_yes).rb) (fun x12 => (rm_joinL (rp_var (e := (eL eS)) rfl))))))))))
theorem s__law_press : SP sp__law_press (fun g : (List PySem.Str) × (List (Int × Int)) × Unit => [(eT eS) g.1, (eL (eP eI eI)) g.2.1]) (fun g => m__law_press g.1 g.2.1) (eT eS) cT := sp_mk fun g => t__law_press g.1 g.2.1
noncomputable def m_squares_of (p_chart : (List PySem.Str)) : M (List (Int × Int)) :=
  ((rng1 ((List.length p_chart : Nat) : Int)) >>= cmp2 (fun x1 => (pure true)) (fun x1 => (((ix p_chart (0 : Int)) >>= fun a => (lenS a)) >>= rng1)) (fun x1 y2 => (pure true)) (fun x1 y2 => (pure (x1, y2))))
theorem t_squares_of (p_chart : (List PySem.Str)) : RS b_squares_of [some (.val ((eT eS) p_chart)), none, none] (m_squares_of p_chart) (endF (eL (eP eI eI)) cF) := by
  unfold b_squares_of m_squares_of
  exact (rs_last (rs_retF (re_cmp2 (rm_rng1 (rp_fn (g := fun z => ((List.length z : Nat) : Int)) (a := p_chart) (fn_lenT) (rp_var (e := (eT eS)) rfl))) tg_name (fun x1 => (rb_yes).rb) (fun x1 => (ri_rng1 (re_fnS (g := fun z => (lenS z)) (fn_lenS) (rm_bin (g := fun a b => (ix a b)) (a := p_chart) (b := (0 : Int)) (op_ixT) (rp_var (e := (eT eS)) rfl) (rp_c (e := eI) (a := 0)))))) (fun x1 => tg_name) (fun x1 y2 => (rb_yes).rb) (fun x1 y2 => ((rp_tup (n := 2) (e := (eP eI eI)) (a := (x1, y2)) (rap_cons (rp_var (e := eI) rfl) (rap_cons (rp_var (e := eI) rfl) rap_nil)))).re))))
theorem s_squares_of : SP sp_squares_of (fun g : (List PySem.Str) × Unit => [(eT eS) g.1]) (fun g => m_squares_of g.1) (eL (eP eI eI)) cF := sp_mk fun g => t_squares_of g.1
noncomputable def m_is_square (p_chart : (List PySem.Str)) (p_square : (Int × Int)) : M Bool :=
  (if ((decide ((0 : Int) ≤ p_square.1)) && (decide (p_square.1 < ((List.length p_chart : Nat) : Int)))) = true then ((pure (0 : Int)) >>= fun a => (pure p_square.2) >>= fun b => if (decide (a ≤ b)) = true then ((ix p_chart (0 : Int)) >>= fun a => (lenS a)) >>= fun d => pure (decide (b < d)) else pure false) else pure false)
theorem t_is_square (p_chart : (List PySem.Str)) (p_square : (Int × Int)) : RS b_is_square [some (.val ((eT eS) p_chart)), some (.val ((eP eI eI) p_square)), none, none] (m_is_square p_chart p_square) (endF eB cT) := by
  unfold b_is_square m_is_square
  exact (rs_asgP (rp_var (e := (eP eI eI)) rfl) tg_p (rs_last (rs_retF (rm_and (rp_chain (g := fun a b => (decide (a ≤ b))) (g' := fun a b => (decide (a < b))) (a := (0 : Int)) (b := p_square.1) (d := ((List.length p_chart : Nat) : Int)) (opp_leI) (opp_ltI) (rp_c (e := eI) (a := 0)) (rp_var (e := eI) rfl) (rp_fn (g := fun z => ((List.length z : Nat) : Int)) (a := p_chart) (fn_lenT) (rp_var (e := (eT eS)) rfl))) (re_chain (g := fun a b => (decide (a ≤ b))) (g' := fun a b => (decide (a < b))) (opp_leI) (opp_ltI) ((rp_c (e := eI) (a := 0))).re ((rp_var (e := eI) rfl)).re (re_fnS (g := fun z => (lenS z)) (fn_lenS) (rm_bin (g := fun a b => (ix a b)) (a := p_chart) (b := (0 : Int)) (op_ixT) (rp_var (e := (eT eS)) rfl) (rp_c (e := eI) (a := 0)))))))))
theorem s_is_square : SP sp_is_square (fun g : (List PySem.Str) × (Int × Int) × Unit => [(eT eS) g.1, (eP eI eI) g.2.1]) (fun g => m_is_square g.1 g.2.1) eB cT := sp_mk fun g => t_is_square g.1 g.2.1
noncomputable def m_is_land (p_chart : (List PySem.Str)) (p_square : (Int × Int)) : M Bool :=
  (M.and (m_is_square p_chart p_square) (((ix p_chart p_square.1) >>= fun a => (six a p_square.2)) >>= fun a => pure (decide (a = ("x" : PySem.Str)))))
theorem t_is_land (p_chart : (List PySem.Str)) (p_square : (Int × Int)) : RS b_is_land [some (.val ((eT eS) p_chart)), some (.val ((eP eI eI) p_square))] (m_is_land p_chart p_square) (endF eB cT) := by
  unfold b_is_land m_is_land
  exact (rs_last (rs_retF (re_and (re_callP (m := fun g : (List PySem.Str) × (Int × Int) × Unit => m_is_square g.1 g.2.1) s_is_square (x := (p_chart, p_square, ())) (rap_cons (rp_var (e := (eT eS)) rfl) (rap_cons (rp_var (e := (eP eI eI)) rfl) rap_nil))) (rm_binPL (g := fun a b => (decide (a = b))) (b := ("x" : PySem.Str)) (opp_eqS) (rm_binL (g := fun a b => (six a b)) (b := p_square.2) (op_ixS) (rm_bin (g := fun a b => (ix a b)) (a := p_chart) (b := p_square.1) (op_ixT) (rp_var (e := (eT eS)) rfl) (rp_ixP0 (p := p_square) (rp_var (e := (eP eI eI)) rfl))) (rp_ixP1 (p := p_square) (rp_var (e := (eP eI eI)) rfl))) (rp_c (e := eS) (a := ("x" : PySem.Str)))))))
theorem s_is_land : SP sp_is_land (fun g : (List PySem.Str) × (Int × Int) × Unit => [(eT eS) g.1, (eP eI eI) g.2.1]) (fun g => m_is_land g.1 g.2.1) eB cT := sp_mk fun g => t_is_land g.1 g.2.1
noncomputable def m_is_odd (p_chart : (List PySem.Str)) (p_squares : (List ((Int × Int) × Bool))) : M Bool :=
  ((((cmp (fun x2 => (m_is_land p_chart x2)) (fun x2 => (pure (1 : Int))) (List.map (·.1) p_squares)) >>= fun a => pure ((List.length a : Nat) : Int)) >>= fun a => (modI a (2 : Int))) >>= fun a => pure (decide (a = (1 : Int))))
theorem t_is_odd (p_chart : (List PySem.Str)) (p_squares : (List ((Int × Int) × Bool))) : RS b_is_odd [some (.val ((eT eS) p_chart)), some (.val ((eD (eP eI eI) eB) p_squares)), none] (m_is_odd p_chart p_squares) (endF eB cT) := by
  unfold b_is_odd m_is_odd
  exact (rs_last (rs_retF (rm_binPL (g := fun a b => (decide (a = b))) (b := (1 : Int)) (opp_eqI) (rm_binL (g := fun a b => (modI a b)) (b := (2 : Int)) (op_modI) (re_fn (g := fun z => ((List.length z : Nat) : Int)) (fn_lenL) (rm_cmp (ri_keysP (rp_var (e := (eD (eP eI eI) eB)) rfl)) tg_name (fun x2 => (rb_test (re_callP (m := fun g : (List PySem.Str) × (Int × Int) × Unit => m_is_land g.1 g.2.1) s_is_land (x := (p_chart, x2, ())) (rap_cons (rp_var (e := (eT eS)) rfl) (rap_cons (rp_var (e := (eP eI eI)) rfl) rap_nil))))) (fun x2 => ((rp_c (e := eI) (a := 1))).re))) (rp_c (e := eI) (a := 2))) (rp_c (e := eI) (a := 1)))))
theorem s_is_odd : SP sp_is_odd (fun g : (List PySem.Str) × (List ((Int × Int) × Bool)) × Unit => [(eT eS) g.1, (eD (eP eI eI) eB) g.2.1]) (fun g => m_is_odd g.1 g.2.1) eB cT := sp_mk fun g => t_is_odd g.1 g.2.1
noncomputable def m_side_neighbours (p_square : (Int × Int)) : M (List (Int × Int)) :=
  (pure ([((p_square.1 - (1 : Int)), p_square.2), (p_square.1, (p_square.2 - (1 : Int))), (p_square.1, (p_square.2 + (1 : Int))), ((p_square.1 + (1 : Int)), p_square.2)] : (List (Int × Int))))
theorem t_side_neighbours (p_square : (Int × Int)) : RS b_side_neighbours [some (.val ((eP eI eI) p_square)), none, none] (m_side_neighbours p_square) (endF (eL (eP eI eI)) cF) := by
  unfold b_side_neighbours m_side_neighbours
  exact (rs_asgP (rp_var (e := (eP eI eI)) rfl) tg_p (rs_last (rs_retFP (rp_lst (n := 4) (e := (eL (eP eI eI))) (a := ([((p_square.1 - (1 : Int)), p_square.2), (p_square.1, (p_square.2 - (1 : Int))), (p_square.1, (p_square.2 + (1 : Int))), ((p_square.1 + (1 : Int)), p_square.2)] : (List (Int × Int)))) (rap_cons (rp_tup (n := 2) (e := (eP eI eI)) (a := ((p_square.1 - (1 : Int)), p_square.2)) (rap_cons (rp_bin (g := fun a b => (a - b)) (a := p_square.1) (b := (1 : Int)) (opp_subI) (rp_var (e := eI) rfl) (rp_c (e := eI) (a := 1))) (rap_cons (rp_var (e := eI) rfl) rap_nil))) (rap_cons (rp_tup (n := 2) (e := (eP eI eI)) (a := (p_square.1, (p_square.2 - (1 : Int)))) (rap_cons (rp_var (e := eI) rfl) (rap_cons (rp_bin (g := fun a b => (a - b)) (a := p_square.2) (b := (1 : Int)) (opp_subI) (rp_var (e := eI) rfl) (rp_c (e := eI) (a := 1))) rap_nil))) (rap_cons (rp_tup (n := 2) (e := (eP eI eI)) (a := (p_square.1, (p_square.2 + (1 : Int)))) (rap_cons (rp_var (e := eI) rfl) (rap_cons (rp_bin (g := fun a b => (a + b)) (a := p_square.2) (b := (1 : Int)) (opp_addI) (rp_var (e := eI) rfl) (rp_c (e := eI) (a := 1))) rap_nil))) (rap_cons (rp_tup (n := 2) (e := (eP eI eI)) (a := ((p_square.1 + (1 : Int)), p_square.2)) (rap_cons (rp_bin (g := fun a b => (a + b)) (a := p_square.1) (b := (1 : Int)) (opp_addI) (rp_var (e := eI) rfl) (rp_c (e := eI) (a := 1))) (rap_cons (rp_var (e := eI) rfl) rap_nil))) rap_nil))))))))
theorem s_side_neighbours : SP sp_side_neighbours (fun g : (Int × Int) × Unit => [(eP eI eI) g.1]) (fun g => m_side_neighbours g.1) (eL (eP eI eI)) cF := sp_mk fun g => t_side_neighbours g.1
noncomputable def m_cross (p_chart : (List PySem.Str)) (p_square : (Int × Int)) : M (List (Int × Int)) :=
  (((m_side_neighbours p_square) >>= cmp (fun x1 => (m_is_square p_chart x1)) (fun x1 => (pure x1))) >>= fun b => (cat ([p_square] : (List (Int × Int))) b))
theorem t_cross (p_chart : (List PySem.Str)) (p_square : (Int × Int)) : RS b_cross [some (.val ((eT eS) p_chart)), some (.val ((eP eI eI) p_square)), none] (m_cross p_chart p_square) (endF (eL (eP eI eI)) cF) := by
  unfold b_cross m_cross
  exact (rs_last (rs_retF (rm_binR (g := fun a b => (cat a b)) (a := ([p_square] : (List (Int × Int)))) (op_catL (by first | exact est_o rfl | exact est_f CFl.h) (by first | exact est_o rfl | exact est_f CFl.h)) (rp_lst (n := 1) (e := (eL (eP eI eI))) (a := ([p_square] : (List (Int × Int)))) (rap_cons (rp_var (e := (eP eI eI)) rfl) rap_nil)) (re_cmp (ri_lst (re_callP (m := fun g : (Int × Int) × Unit => m_side_neighbours g.1) s_side_neighbours (x := (p_square, ())) (rap_cons (rp_var (e := (eP eI eI)) rfl) rap_nil))) tg_name (fun x1 => (rb_test (re_callP (m := fun g : (List PySem.Str) × (Int × Int) × Unit => m_is_square g.1 g.2.1) s_is_square (x := (p_chart, x1, ())) (rap_cons (rp_var (e := (eT eS)) rfl) (rap_cons (rp_var (e := (eP eI eI)) rfl) rap_nil))))) (fun x1 => ((rp_var (e := (eP eI eI)) rfl)).re)))))
theorem s_cross : SP sp_cross (fun g : (List PySem.Str) × (Int × Int) × Unit => [(eT eS) g.1, (eP eI eI) g.2.1]) (fun g => m_cross g.1 g.2.1) (eL (eP eI eI)) cF := sp_mk fun g => t_cross g.1 g.2.1
noncomputable def m_without (p_one : (List ((Int × Int) × Bool))) (p_other : (List ((Int × Int) × Bool))) : M (List ((Int × Int) × Bool)) :=
  ((collD (fun x1 => (pure (!(lk p_other x1).isSome))) (fun x1 => (pure x1)) (fun x1 => (pure true)) [] (List.map (·.1) p_one)) >>= fun found2 => (forL (fun (s3 : (List ((Int × Int) × Bool))) x5 => (if (!(lk p_one x5).isSome) = true then ((pure true) >>= fun v7 => M.chk (List.length s3 < sizeLine) >>= fun _ => pure (kput s3 x5 v7) >>= fun found6 => (pure found6)) else (pure s3))) found2 (List.map (·.1) p_other) >>= (fun (s3 : (List ((Int × Int) × Bool))) => (pure s3))))
theorem t_without (p_one : (List ((Int × Int) × Bool))) (p_other : (List ((Int × Int) × Bool))) : RS b_without [some (.val ((eD (eP eI eI) eB) p_one)), some (.val ((eD (eP eI eI) eB) p_other)), none, none] (m_without p_one p_other) (endF (eD (eP eI eI) eB) cT) := by
  unfold b_without m_without
  exact (rs_newOwn (rm_dc (ri_keysP (rp_var (e := (eD (eP eI eI) eB)) rfl)) tg_name (fun x1 => ((rb_testP (rp_dnin (rp_var (e := (eP eI eI)) rfl) (rd_vP (rp_var (e := (eD (eP eI eI) eB)) rfl))))).rb) (fun x1 => ((rp_var (e := (eP eI eI)) rfl)).re) (fun x1 => ((rp_c (e := eB) (a := true))).re)) fun found2 => (rs_forLP (fun (s3 : (List ((Int × Int) × Bool))) z4 => [some (.val ((eD (eP eI eI) eB) p_one)), some (.val ((eD (eP eI eI) eB) p_other)), some (oD (eP eI eI) eB s3), z4 3]) found2 (ri_keysP (rp_var (e := (eD (eP eI eI) eB)) rfl)) rfl (fun s3 z4 => tg_name) (fun s3 z4 x5 => (rs_last (rs_ifP (rb_testP (rp_dnin (rp_var (e := (eP eI eI)) rfl) (rd_vP (rp_var (e := (eD (eP eI eI) eB)) rfl)))) (rs_dputP (ek := (eP eI eI)) (ev := eB) (l := s3) rfl ((rp_c (e := eB) (a := true))).re (rp_var (e := (eP eI eI)) rfl) fun found6 => (rs_endL rfl)) (rs_pass (rs_endL rfl))))) fun s3 z4 => (rs_frzM (ek := (eP eI eI)) (ev := eB) (i := 2) rfl (rs_last (rs_retFP (rp_var (e := (eD (eP eI eI) eB)) rfl))))))
theorem s_without : SP sp_without (fun g : (List ((Int × Int) × Bool)) × (List ((Int × Int) × Bool)) × Unit => [(eD (eP eI eI) eB) g.1, (eD (eP eI eI) eB) g.2.1]) (fun g => m_without g.1 g.2.1) (eD (eP eI eI) eB) cT := sp_mk fun g => t_without g.1 g.2.1
noncomputable def m_solved (p_chart : (List PySem.Str)) : M ((Option (List (Int × Int))) × (Option (List (Int × Int)))) :=
  ((m_squares_of p_chart) >>= fun l24 => forC (fun (s1 : (List ((Int × Int) × ((List ((Int × Int) × Bool)) × (List ((Int × Int) × Bool)))))) x3 => (((m_cross p_chart x3) >>= collD (fun x4 => (pure true)) (fun x4 => (pure x4)) (fun x4 => (pure true)) []) >>= fun sums5 => ((pure [(x3, true)]) >>= fun of6 => (forL (fun (s7 : (List ((Int × Int) × Bool)) × (List ((Int × Int) × Bool))) x10 => (if (lk s7.1 x10.1).isSome = true then ((m_without s7.1 x10.2.1) >>= fun sums11 => ((m_without s7.2 x10.2.2) >>= fun of12 => (pure (sums11, of12)))) else (pure (s7.1, s7.2)))) (sums5, of6) s1 >>= fun (s7 : (List ((Int × Int) × Bool)) × (List ((Int × Int) × Bool))) => (if (decide (((List.length s7.1 : Nat) : Int) > (0 : Int))) = true then ((minD (eP eI eI) (List.map (·.1) s7.1)) >>= fun lead13 => (forL (fun (s14 : (List ((Int × Int) × ((List ((Int × Int) × Bool)) × (List ((Int × Int) × Bool)))))) x16 => (if (lk x16.2.1 lead13).isSome = true then ((((m_without x16.2.1 s7.1) >>= fun a => ((m_without x16.2.2 s7.2) >>= fun a => (pure ()) >>= fun g => pure (a, g)) >>= fun g => pure (a, g)) >>= fun g => pure (g.1, g.2.1)) >>= fun v18 => M.chk (List.length s14 < sizeLine) >>= fun _ => pure (kput s14 x16.1 v18) >>= fun leading17 => (pure leading17)) else (pure s14))) s1 s1 >>= (fun (s14 : (List ((Int × Int) × ((List ((Int × Int) × Bool)) × (List ((Int × Int) × Bool)))))) => ((pure (s7.1, s7.2)) >>= fun v20 => M.chk (List.length s14 < sizeLine) >>= fun _ => pure (kput s14 lead13 v20) >>= fun leading19 => (pure (Ctl.nx leading19 : Ctl ((List ((Int × Int) × ((List ((Int × Int) × Bool)) × (List ((Int × Int) × Bool)))))) ((Option (List (Int × Int))) × (Option (List (Int × Int)))))))))) else ((m_is_odd p_chart s7.2) >>= fun b => if b = true then ((((pure (none : (Option (List (Int × Int))))) >>= fun a => (((srt (eP eI eI) (List.map (·.1) s7.2)) >>= fun a => pure (some a)) >>= fun a => (pure ()) >>= fun g => pure (a, g)) >>= fun g => pure (a, g)) >>= fun g => pure (g.1, g.2.1)) >>= fun a => (pure (Ctl.rt a : Ctl ((List ((Int × Int) × ((List ((Int × Int) × Bool)) × (List ((Int × Int) × Bool)))))) ((Option (List (Int × Int))) × (Option (List (Int × Int))))))) else (pure (Ctl.nx s1 : Ctl ((List ((Int × Int) × ((List ((Int × Int) × Bool)) × (List ((Int × Int) × Bool)))))) ((Option (List (Int × Int))) × (Option (List (Int × Int)))))))))))) ([] : (List ((Int × Int) × ((List ((Int × Int) × Bool)) × (List ((Int × Int) × Bool)))))) l24 >>= fun r => ctl r (fun (s1 : (List ((Int × Int) × ((List ((Int × Int) × Bool)) × (List ((Int × Int) × Bool)))))) => (((((cmp (fun x23 => (m_is_odd p_chart x23.2.2)) (fun x23 => (pure x23.1)) s1) >>= fun a => (srt (eP eI eI) a)) >>= fun a => pure (some a)) >>= fun a => ((pure (none : (Option (List (Int × Int))))) >>= fun a => (pure ()) >>= fun g => pure (a, g)) >>= fun g => pure (a, g)) >>= fun g => pure (g.1, g.2.1))) pure)
theorem t_solved (p_chart : (List PySem.Str)) : RS b_solved [some (.val ((eT eS) p_chart)), none, none, none, none, none, none, none] (m_solved p_chart) (endF (eP (eO (eL (eP eI eI))) (eO (eL (eP eI eI)))) cT) := by
  unfold b_solved m_solved
  exact (rs_newOwnN (ek := (eP eI eI)) (ev := (eP (eD (eP eI eI) eB) (eD (eP eI eI) eB))) (rs_forF (fun (s1 : (List ((Int × Int) × ((List ((Int × Int) × Bool)) × (List ((Int × Int) × Bool)))))) z2 => [some (.val ((eT eS) p_chart)), some (oD (eP eI eI) (eP (eD (eP eI eI) eB) (eD (eP eI eI) eB)) s1), z2 2, z2 3, z2 4, z2 5, z2 6, z2 7]) ([] : (List ((Int × Int) × ((List ((Int × Int) × Bool)) × (List ((Int × Int) × Bool)))))) (ri_lst (re_callP (m := fun g : (List PySem.Str) × Unit => m_squares_of g.1) s_squares_of (x := (p_chart, ())) (rap_cons (rp_var (e := (eT eS)) rfl) rap_nil))) rfl (fun s1 z2 => tg_name) (fun s1 z2 x3 => (rs_newOwn (rn_dc (ri_lst (re_callP (m := fun g : (List PySem.Str) × (Int × Int) × Unit => m_cross g.1 g.2.1) s_cross (x := (p_chart, x3, ())) (rap_cons (rp_var (e := (eT eS)) rfl) (rap_cons (rp_var (e := (eP eI eI)) rfl) rap_nil)))) tg_name (fun x4 => (rb_yes).rb) (fun x4 => ((rp_var (e := (eP eI eI)) rfl)).re) (fun x4 => ((rp_c (e := eB) (a := true))).re)) fun sums5 => (rs_frzM (ek := (eP eI eI)) (ev := eB) (i := 3) rfl (rs_set (re_newV (rm_disp1 (rp_var (e := (eP eI eI)) rfl) (rp_c (e := eB) (a := true)))) fun of6 => (rs_forLK (fun (s7 : (List ((Int × Int) × Bool)) × (List ((Int × Int) × Bool))) z8 => [some (.val ((eT eS) p_chart)), some (oD (eP eI eI) (eP (eD (eP eI eI) eB) (eD (eP eI eI) eB)) s1), some (.val ((eP eI eI) x3)), some (.val ((eD (eP eI eI) eB) s7.1)), some (.val ((eD (eP eI eI) eB) s7.2)), z8 5, z8 6, (z2 7)]) (sums5, of6) rfl (fun _ _ => rfl) rm_items (fun g9 s7 z8 => tg_p) (fun g9 s7 z8 x10 => (rs_last (rs_ifP (rb_testP (rp_din (rp_var (e := (eP eI eI)) rfl) (rd_vP (rp_var (e := (eD (eP eI eI) eB)) rfl)))) (rs_seq (rs_set (re_callP (m := fun g : (List ((Int × Int) × Bool)) × (List ((Int × Int) × Bool)) × Unit => m_without g.1 g.2.1) s_without (x := (s7.1, x10.2.1, ())) (rap_cons (rp_var (e := (eD (eP eI eI) eB)) rfl) (rap_cons (rp_ixP0 (p := x10.2) (rp_var (e := (eP (eD (eP eI eI) eB) (eD (eP eI eI) eB))) rfl)) rap_nil))) fun sums11 => (rs_set (re_callP (m := fun g : (List ((Int × Int) × Bool)) × (List ((Int × Int) × Bool)) × Unit => m_without g.1 g.2.1) s_without (x := (s7.2, x10.2.2, ())) (rap_cons (rp_var (e := (eD (eP eI eI) eB)) rfl) (rap_cons (rp_ixP1 (p := x10.2) (rp_var (e := (eP (eD (eP eI eI) eB) (eD (eP eI eI) eB))) rfl)) rap_nil))) fun of12 => (rs_endL rfl)))) (rs_pass (rs_endL rfl))))) fun s7 z8 => (rs_last (rs_ifP (rb_testP (rp_bin (g := fun a b => (decide (a > b))) (a := ((List.length s7.1 : Nat) : Int)) (b := (0 : Int)) (opp_gtI) (rp_dlen (rd_vP (rp_var (e := (eD (eP eI eI) eB)) rfl))) (rp_c (e := eI) (a := 0)))) (rs_seq (rs_set (rm_dmin (rd_vP (rp_var (e := (eD (eP eI eI) eB)) rfl))) fun lead13 => (rs_seq (rs_forLP (fun (s14 : (List ((Int × Int) × ((List ((Int × Int) × Bool)) × (List ((Int × Int) × Bool)))))) z15 => [some (.val ((eT eS) p_chart)), some (oD (eP eI eI) (eP (eD (eP eI eI) eB) (eD (eP eI eI) eB)) s14), some (.val ((eP eI eI) x3)), some (.val ((eD (eP eI eI) eB) s7.1)), some (.val ((eD (eP eI eI) eB) s7.2)), some (.val ((eP eI eI) lead13)), z15 6, z15 7]) s1 (ri_lstP (rp_ditems (rd_m (ek := (eP eI eI)) (ev := (eP (eD (eP eI eI) eB) (eD (eP eI eI) eB))) rfl))) rfl (fun s14 z15 => tg_p) (fun s14 z15 x16 => (rs_last (rs_ifP (rb_testP (rp_din (rp_var (e := (eP eI eI)) rfl) (rd_vP (rp_ixP0 (p := x16.2) (rp_var (e := (eP (eD (eP eI eI) eB) (eD (eP eI eI) eB))) rfl))))) (rs_dputP (ek := (eP eI eI)) (ev := (eP (eD (eP eI eI) eB) (eD (eP eI eI) eB))) (l := s14) rfl (re_tup (n := 2) (er := (eP (eD (eP eI eI) eB) (eD (eP eI eI) eB))) (x := fun g => (g.1, g.2.1)) (ra_cons (re_callP (m := fun g : (List ((Int × Int) × Bool)) × (List ((Int × Int) × Bool)) × Unit => m_without g.1 g.2.1) s_without (x := (x16.2.1, s7.1, ())) (rap_cons (rp_ixP0 (p := x16.2) (rp_var (e := (eP (eD (eP eI eI) eB) (eD (eP eI eI) eB))) rfl)) (rap_cons (rp_var (e := (eD (eP eI eI) eB)) rfl) rap_nil))) (ra_cons (re_callP (m := fun g : (List ((Int × Int) × Bool)) × (List ((Int × Int) × Bool)) × Unit => m_without g.1 g.2.1) s_without (x := (x16.2.2, s7.2, ())) (rap_cons (rp_ixP1 (p := x16.2) (rp_var (e := (eP (eD (eP eI eI) eB) (eD (eP eI eI) eB))) rfl)) (rap_cons (rp_var (e := (eD (eP eI eI) eB)) rfl) rap_nil))) ra_nil))) (rp_var (e := (eP eI eI)) rfl) fun leading17 => (rs_endL rfl)) (rs_pass (rs_endL rfl))))) fun s14 z15 => (rs_dputP (ek := (eP eI eI)) (ev := (eP (eD (eP eI eI) eB) (eD (eP eI eI) eB))) (l := s14) rfl ((rp_tup (n := 2) (e := (eP (eD (eP eI eI) eB) (eD (eP eI eI) eB))) (a := (s7.1, s7.2)) (rap_cons (rp_var (e := (eD (eP eI eI) eB)) rfl) (rap_cons (rp_var (e := (eD (eP eI eI) eB)) rfl) rap_nil)))).re (rp_var (e := (eP eI eI)) rfl) fun leading19 => (rs_endC rfl)))))) (rs_if (rb_test (re_callP (m := fun g : (List PySem.Str) × (List ((Int × Int) × Bool)) × Unit => m_is_odd g.1 g.2.1) s_is_odd (x := (p_chart, s7.2, ())) (rap_cons (rp_var (e := (eT eS)) rfl) (rap_cons (rp_var (e := (eD (eP eI eI) eB)) rfl) rap_nil)))) (rs_retC (re_tup (n := 2) (er := (eP (eO (eL (eP eI eI))) (eO (eL (eP eI eI))))) (x := fun g => (g.1, g.2.1)) (ra_cons ((rp_c (e := (eO (eL (eP eI eI)))) (a := none))).re (ra_cons ((rm_dsort (rd_vP (rp_var (e := (eD (eP eI eI) eB)) rfl)))).some ra_nil)))) (rs_pass (rs_pass (rs_endC rfl))))))))))) fun s1 z2 => (rs_frzM (ek := (eP eI eI)) (ev := (eP (eD (eP eI eI) eB) (eD (eP eI eI) eB))) (i := 1) rfl (rs_last (rs_retF (re_tup (n := 2) (er := (eP (eO (eL (eP eI eI))) (eO (eL (eP eI eI))))) (x := fun g => (g.1, g.2.1)) (ra_cons ((re_fnS (g := fun z => (srt (eP eI eI) z)) (fn_sort (e := (eP eI eI))) (rm_cmp (ri_itemsP (rp_var (e := (eD (eP eI eI) (eP (eD (eP eI eI) eB) (eD (eP eI eI) eB)))) rfl)) tg_p (fun x23 => (rb_test (re_callP (m := fun g : (List PySem.Str) × (List ((Int × Int) × Bool)) × Unit => m_is_odd g.1 g.2.1) s_is_odd (x := (p_chart, x23.2.2, ())) (rap_cons (rp_var (e := (eT eS)) rfl) (rap_cons (rp_ixP1 (p := x23.2) (rp_var (e := (eP (eD (eP eI eI) eB) (eD (eP eI eI) eB))) rfl)) rap_nil))))) (fun x23 => ((rp_var (e := (eP eI eI)) rfl)).re)))).some (ra_cons ((rp_c (e := (eO (eL (eP eI eI)))) (a := none))).re ra_nil))))))))
theorem s_solved : SP sp_solved (fun g : (List PySem.Str) × Unit => [(eT eS) g.1]) (fun g => m_solved g.1) (eP (eO (eL (eP eI eI))) (eO (eL (eP eI eI)))) cT := sp_mk fun g => t_solved g.1
noncomputable def m_pressing_paper (p_chart : (List PySem.Str)) : M (Option (List (Int × Int))) :=
  ((m_solved p_chart) >>= fun p => pure p.1)
theorem t_pressing_paper (p_chart : (List PySem.Str)) : RS b_pressing_paper [some (.val ((eT eS) p_chart))] (m_pressing_paper p_chart) (endF (eO (eL (eP eI eI))) cT) := by
  unfold b_pressing_paper m_pressing_paper
  exact (rs_last (rs_retF (re_ixP0 (re_callP (m := fun g : (List PySem.Str) × Unit => m_solved g.1) s_solved (x := (p_chart, ())) (rap_cons (rp_var (e := (eT eS)) rfl) rap_nil)))))
theorem s_pressing_paper : SP sp_pressing_paper (fun g : (List PySem.Str) × Unit => [(eT eS) g.1]) (fun g => m_pressing_paper g.1) (eO (eL (eP eI eI))) cT := sp_mk fun g => t_pressing_paper g.1
noncomputable def m_odd_paper (p_chart : (List PySem.Str)) : M (Option (List (Int × Int))) :=
  ((m_solved p_chart) >>= fun p => pure p.2)
theorem t_odd_paper (p_chart : (List PySem.Str)) : RS b_odd_paper [some (.val ((eT eS) p_chart))] (m_odd_paper p_chart) (endF (eO (eL (eP eI eI))) cT) := by
  unfold b_odd_paper m_odd_paper
  exact (rs_last (rs_retF (re_ixP1 (re_callP (m := fun g : (List PySem.Str) × Unit => m_solved g.1) s_solved (x := (p_chart, ())) (rap_cons (rp_var (e := (eT eS)) rfl) rap_nil)))))
theorem s_odd_paper : SP sp_odd_paper (fun g : (List PySem.Str) × Unit => [(eT eS) g.1]) (fun g => m_odd_paper g.1) (eO (eL (eP eI eI))) cT := sp_mk fun g => t_odd_paper g.1
noncomputable def m__law_all (p_chart : (List PySem.Str)) : M (List (Int × Int)) :=
  ((rng1 ((List.length p_chart : Nat) : Int)) >>= fun l8 => forL (fun (s1 : (List (Int × Int))) x3 => ((((ix p_chart (0 : Int)) >>= fun a => (lenS a)) >>= rng1) >>= fun l7 => forL (fun (s4 : (List (Int × Int))) x6 => (M.chk (List.length s4 < sizeLine) >>= fun _ => (pure (s4 ++ [(x3, x6)])))) s1 l7 >>= (fun (s4 : (List (Int × Int))) => (pure s4)))) ([] : (List (Int × Int))) l8 >>= (fun (s1 : (List (Int × Int))) => (pure s1)))
theorem t__law_all (p_chart : (List PySem.Str)) : RS b__law_all [some (.val ((eT eS) p_chart)), none, none, none] (m__law_all p_chart) (endF (eL (eP eI eI)) cF) := by
  unfold b__law_all m__law_all
  exact (rs_ownP (e := (eP eI eI)) (rp_lst (n := 0) (e := (eL (eP eI eI))) (a := ([] : (List (Int × Int)))) rap_nil) (rs_forL (fun (s1 : (List (Int × Int))) z2 => [some (.val ((eT eS) p_chart)), some (oL (eP eI eI) s1), z2 2, z2 3]) ([] : (List (Int × Int))) (rm_rng1 (rp_fn (g := fun z => ((List.length z : Nat) : Int)) (a := p_chart) (fn_lenT) (rp_var (e := (eT eS)) rfl))) rfl (fun s1 z2 => tg_name) (fun s1 z2 x3 => (rs_last (rs_forL (fun (s4 : (List (Int × Int))) z5 => [some (.val ((eT eS) p_chart)), some (oL (eP eI eI) s4), some (.val (eI x3)), z5 3]) s1 (ri_rng1 (re_fnS (g := fun z => (lenS z)) (fn_lenS) (rm_bin (g := fun a b => (ix a b)) (a := p_chart) (b := (0 : Int)) (op_ixT) (rp_var (e := (eT eS)) rfl) (rp_c (e := eI) (a := 0))))) rfl (fun s4 z5 => tg_name) (fun s4 z5 x6 => (rs_last (rs_appP (e := (eP eI eI)) (l := s4) rfl (rp_tup (n := 2) (e := (eP eI eI)) (a := (x3, x6)) (rap_cons (rp_var (e := eI) rfl) (rap_cons (rp_var (e := eI) rfl) rap_nil))) (rs_endL rfl)))) fun s4 z5 => (rs_endL rfl)))) fun s1 z2 => (rs_last (rs_retFP (rp_varL (e := (eP eI eI)) rfl)))))
theorem s__law_all : SP sp__law_all (fun g : (List PySem.Str) × Unit => [(eT eS) g.1]) (fun g => m__law_all g.1) (eL (eP eI eI)) cF := sp_mk fun g => t__law_all g.1
noncomputable def m_with_squares (p_chart : (List PySem.Str)) (p_squares : (List (Int × Int))) (p_land : Bool) : M (List PySem.Str) :=
  ((cmp (fun x1 => (pure true)) (fun x1 => (listS x1)) p_chart) >>= fun grid2 => (forL (fun (s3 : (List (List PySem.Str))) x5 => ((m_is_square p_chart x5) >>= fun b => if b = true then (setG s3 x5.1 x5.2 (if p_land = true then ("x" : PySem.Str) else ("." : PySem.Str)) >>= fun grid6 => (pure grid6)) else (pure s3))) grid2 p_squares >>= (fun (s3 : (List (List PySem.Str))) => ((cmp (fun x7 => (pure true)) (fun x7 => (joinM ("" : PySem.Str) x7)) s3) >>= fun a => pure a))))
theorem t_with_squares (p_chart : (List PySem.Str)) (p_squares : (List (Int × Int))) (p_land : Bool) : RS b_with_squares [some (.val ((eT eS) p_chart)), some (.val ((eL (eP eI eI)) p_squares)), some (.val (eB p_land)), none, none, none] (m_with_squares p_chart p_squares p_land) (endF (eT eS) cT) := by
  unfold b_with_squares m_with_squares
  exact (rs_ownG (e := eS) (rm_cmpG (ri_tupP (rp_var (e := (eT eS)) rfl)) tg_name (fun x1 => (rb_yes).rb) (fun x1 => (rm_fnS (g := fun z => (listS z)) (a := x1) (fn_listS) (rp_var (e := eS) rfl)))) fun grid2 => (rs_forLP (fun (s3 : (List (List PySem.Str))) z4 => [some (.val ((eT eS) p_chart)), some (.val ((eL (eP eI eI)) p_squares)), some (.val (eB p_land)), some (oG eS s3), z4 4, none]) grid2 (ri_lstP (rp_var (e := (eL (eP eI eI))) rfl)) rfl (fun s3 z4 => tg_name) (fun s3 z4 x5 => (rs_last (rs_if (rb_test (re_callP (m := fun g : (List PySem.Str) × (Int × Int) × Unit => m_is_square g.1 g.2.1) s_is_square (x := (p_chart, x5, ())) (rap_cons (rp_var (e := (eT eS)) rfl) (rap_cons (rp_var (e := (eP eI eI)) rfl) rap_nil)))) (rs_put2P (e := eS) (g := s3) rfl (rp_if (rb_testP (rp_var (e := eB) rfl)) (rp_c (e := eS) (a := ("x" : PySem.Str))) (rp_c (e := eS) (a := ("." : PySem.Str)))) (rp_ixP0 (p := x5) (rp_var (e := (eP eI eI)) rfl)) (rp_ixP1 (p := x5) (rp_var (e := (eP eI eI)) rfl)) fun grid6 => (rs_endL rfl)) (rs_pass (rs_endL rfl))))) fun s3 z4 => (rs_last (rs_retF (re_fn (g := fun z => z) (fn_tupL (e := eS)) (re_borF (rm_cmp (ri_lstP (rp_varFG (e := eS) rfl)) tg_name (fun x7 => (rb_yes).rb) (fun x7 => (rm_joinL (rp_var (e := (eL eS)) rfl))))))))))
theorem s_with_squares : SP sp_with_squares (fun g : (List PySem.Str) × (List (Int × Int)) × Bool × Unit => [(eT eS) g.1, (eL (eP eI eI)) g.2.1, eB g.2.2.1]) (fun g => m_with_squares g.1 g.2.1 g.2.2.1) (eT eS) cT := sp_mk fun g => t_with_squares g.1 g.2.1 g.2.2.1
noncomputable def m_pressed (p_chart : (List PySem.Str)) (p_squares : (List (Int × Int))) : M (List PySem.Str) :=
  (forL (fun (s1 : (List PySem.Str)) x3 => ((m_cross s1 x3) >>= fun around4 => ((cmp (fun x5 => ((m_is_land s1 x5) >>= fun x => pure (!x))) (fun x5 => (pure x5)) around4) >>= fun dry6 => ((cmp (fun x7 => (m_is_land s1 x7)) (fun x7 => (pure x7)) around4) >>= fun wet8 => ((((m_with_squares s1 dry6 true) >>= fun a => ((pure wet8) >>= fun a => ((pure false) >>= fun a => (pure ()) >>= fun g => pure (a, g)) >>= fun g => pure (a, g)) >>= fun g => pure (a, g)) >>= fun g => m_with_squares g.1 g.2.1 g.2.2.1) >>= fun chart9 => (pure chart9)))))) p_chart p_squares >>= (fun (s1 : (List PySem.Str)) => (pure s1)))
theorem t_pressed (p_chart : (List PySem.Str)) (p_squares : (List (Int × Int))) : RS b_pressed [some (.val ((eT eS) p_chart)), some (.val ((eL (eP eI eI)) p_squares)), none, none, none, none, none] (m_pressed p_chart p_squares) (endF (eT eS) cT) := by
  unfold b_pressed m_pressed
  exact (rs_forLP (fun (s1 : (List PySem.Str)) z2 => [some (.val ((eT eS) s1)), some (.val ((eL (eP eI eI)) p_squares)), z2 2, z2 3, z2 4, z2 5, none]) p_chart (ri_lstP (rp_var (e := (eL (eP eI eI))) rfl)) rfl (fun s1 z2 => tg_name) (fun s1 z2 x3 => (rs_set (re_callP (m := fun g : (List PySem.Str) × (Int × Int) × Unit => m_cross g.1 g.2.1) s_cross (x := (s1, x3, ())) (rap_cons (rp_var (e := (eT eS)) rfl) (rap_cons (rp_var (e := (eP eI eI)) rfl) rap_nil))) fun around4 => (rs_set (rm_cmp (ri_lstP (rp_var (e := (eL (eP eI eI))) rfl)) tg_name (fun x5 => (rb_not (rb_test (re_callP (m := fun g : (List PySem.Str) × (Int × Int) × Unit => m_is_land g.1 g.2.1) s_is_land (x := (s1, x5, ())) (rap_cons (rp_var (e := (eT eS)) rfl) (rap_cons (rp_var (e := (eP eI eI)) rfl) rap_nil)))))) (fun x5 => ((rp_var (e := (eP eI eI)) rfl)).re)) fun dry6 => (rs_set (rm_cmp (ri_lstP (rp_var (e := (eL (eP eI eI))) rfl)) tg_name (fun x7 => (rb_test (re_callP (m := fun g : (List PySem.Str) × (Int × Int) × Unit => m_is_land g.1 g.2.1) s_is_land (x := (s1, x7, ())) (rap_cons (rp_var (e := (eT eS)) rfl) (rap_cons (rp_var (e := (eP eI eI)) rfl) rap_nil))))) (fun x7 => ((rp_var (e := (eP eI eI)) rfl)).re)) fun wet8 => (rs_last (rs_set (re_call (m := fun g : (List PySem.Str) × (List (Int × Int)) × Bool × Unit => m_with_squares g.1 g.2.1 g.2.2.1) s_with_squares (ra_cons (re_callP (m := fun g : (List PySem.Str) × (List (Int × Int)) × Bool × Unit => m_with_squares g.1 g.2.1 g.2.2.1) s_with_squares (x := (s1, dry6, true, ())) (rap_cons (rp_var (e := (eT eS)) rfl) (rap_cons (rp_var (e := (eL (eP eI eI))) rfl) (rap_cons (rp_c (e := eB) (a := true)) rap_nil)))) (ra_cons ((rp_var (e := (eL (eP eI eI))) rfl)).re (ra_cons ((rp_c (e := eB) (a := false))).re ra_nil)))) fun chart9 => (rs_endL rfl))))))) fun s1 z2 => (rs_last (rs_retFP (rp_var (e := (eT eS)) rfl))))
theorem s_pressed : SP sp_pressed (fun g : (List PySem.Str) × (List (Int × Int)) × Unit => [(eT eS) g.1, (eL (eP eI eI)) g.2.1]) (fun g => m_pressed g.1 g.2.1) (eT eS) cT := sp_mk fun g => t_pressed g.1 g.2.1
noncomputable def m__law_bent (p_deal : Addr) (p_chart : (List PySem.Str)) (p_paper : (List (Int × Int))) : M (List (List (Int × Int))) :=
  ((((cat p_paper ([((0 : Int), (0 : Int))] : (List (Int × Int)))) >>= fun a => ((cat p_paper ([(((List.length p_chart : Nat) : Int), (0 : Int))] : (List (Int × Int)))) >>= fun a => ((cat p_paper ([((-(1 : Int)), (0 : Int))] : (List (Int × Int)))) >>= fun a => ((pure ([] : (List (Int × Int)))) >>= fun a => (pure ()) >>= fun g => pure (a, g)) >>= fun g => pure (a, g)) >>= fun g => pure (a, g)) >>= fun g => pure (a, g)) >>= fun g => pure [g.1, g.2.1, g.2.2.1, g.2.2.2.1]) >>= fun bent1 => ((if (decide (((List.length p_paper : Nat) : Int) > (0 : Int))) = true then ((takeM p_deal ((List.length p_paper : Nat) : Int)) >>= fun at6 => (((((cat (cutL p_paper none (some at6)) (cutL p_paper (some (at6 + (1 : Int))) none)) >>= fun a => (((((ix p_paper at6) >>= fun a => (pure ()) >>= fun g => pure (a, g)) >>= fun g => pure [g.1]) >>= fun b => (cat p_paper b)) >>= fun a => ((pure (List.reverse p_paper)) >>= fun a => (pure ()) >>= fun g => pure (a, g)) >>= fun g => pure (a, g)) >>= fun g => pure (a, g)) >>= fun g => pure [g.1, g.2.1, g.2.2.1]) >>= fun b => (cat bent1 b)) >>= fun bent7 => (pure bent7))) else (pure bent1)) >>= fun (s4 : (List (List (Int × Int)))) => (pure s4)))
theorem t__law_bent (p_deal : Addr) (p_chart : (List PySem.Str)) (p_paper : (List (Int × Int))) : RS b__law_bent [some (.val (eA p_deal)), some (.val ((eT eS) p_chart)), some (.val ((eL (eP eI eI)) p_paper)), none, none] (m__law_bent p_deal p_chart p_paper) (endF (eL (eL (eP eI eI))) cT) := by
  unfold b__law_bent m__law_bent
  exact (rs_set (re_lst (n := 4) (er := (eL (eL (eP eI eI)))) (x := fun g => [g.1, g.2.1, g.2.2.1, g.2.2.2.1]) (ra_cons (rm_bin (g := fun a b => (cat a b)) (a := p_paper) (b := ([((0 : Int), (0 : Int))] : (List (Int × Int)))) (op_catL (by first | exact est_o rfl | exact est_f CFl.h) (by first | exact est_o rfl | exact est_f CFl.h)) (rp_var (e := (eL (eP eI eI))) rfl) (rp_lst (n := 1) (e := (eL (eP eI eI))) (a := ([((0 : Int), (0 : Int))] : (List (Int × Int)))) (rap_cons (rp_tup (n := 2) (e := (eP eI eI)) (a := ((0 : Int), (0 : Int))) (rap_cons (rp_c (e := eI) (a := 0)) (rap_cons (rp_c (e := eI) (a := 0)) rap_nil))) rap_nil))) (ra_cons (rm_bin (g := fun a b => (cat a b)) (a := p_paper) (b := ([(((List.length p_chart : Nat) : Int), (0 : Int))] : (List (Int × Int)))) (op_catL (by first | exact est_o rfl | exact est_f CFl.h) (by first | exact est_o rfl | exact est_f CFl.h)) (rp_var (e := (eL (eP eI eI))) rfl) (rp_lst (n := 1) (e := (eL (eP eI eI))) (a := ([(((List.length p_chart : Nat) : Int), (0 : Int))] : (List (Int × Int)))) (rap_cons (rp_tup (n := 2) (e := (eP eI eI)) (a := (((List.length p_chart : Nat) : Int), (0 : Int))) (rap_cons (rp_fn (g := fun z => ((List.length z : Nat) : Int)) (a := p_chart) (fn_lenT) (rp_var (e := (eT eS)) rfl)) (rap_cons (rp_c (e := eI) (a := 0)) rap_nil))) rap_nil))) (ra_cons (rm_bin (g := fun a b => (cat a b)) (a := p_paper) (b := ([((-(1 : Int)), (0 : Int))] : (List (Int × Int)))) (op_catL (by first | exact est_o rfl | exact est_f CFl.h) (by first | exact est_o rfl | exact est_f CFl.h)) (rp_var (e := (eL (eP eI eI))) rfl) (rp_lst (n := 1) (e := (eL (eP eI eI))) (a := ([((-(1 : Int)), (0 : Int))] : (List (Int × Int)))) (rap_cons (rp_tup (n := 2) (e := (eP eI eI)) (a := ((-(1 : Int)), (0 : Int))) (rap_cons (rp_un (g := fun a => -a) (a := (1 : Int)) un_neg (rp_c (e := eI) (a := 1))) (rap_cons (rp_c (e := eI) (a := 0)) rap_nil))) rap_nil))) (ra_cons ((rp_lst (n := 0) (e := (eL (eP eI eI))) (a := ([] : (List (Int × Int)))) rap_nil)).re ra_nil))))) fun bent1 => (rs_joinP (fun (s4 : (List (List (Int × Int)))) z5 => [some (.val (eA p_deal)), some (.val ((eT eS) p_chart)), some (.val ((eL (eP eI eI)) p_paper)), some (.val ((eL (eL (eP eI eI))) s4)), z5 4]) (rb_testP (rp_bin (g := fun a b => (decide (a > b))) (a := ((List.length p_paper : Nat) : Int)) (b := (0 : Int)) (opp_gtI) (rp_fn (g := fun z => ((List.length z : Nat) : Int)) (a := p_paper) (fn_lenL) (rp_var (e := (eL (eP eI eI))) rfl)) (rp_c (e := eI) (a := 0)))) (rs_set (re_callP (m := fun g : Addr × Int × Unit => takeM g.1 g.2.1) s_take (x := (p_deal, ((List.length p_paper : Nat) : Int), ())) (rap_cons (rp_var (e := eA) rfl) (rap_cons (rp_fn (g := fun z => ((List.length z : Nat) : Int)) (a := p_paper) (fn_lenL) (rp_var (e := (eL (eP eI eI))) rfl)) rap_nil))) fun at6 => (rs_last (rs_set (rm_binR (g := fun a b => (cat a b)) (a := bent1) (op_catL (by first | exact est_o rfl | exact est_f CFl.h) (by first | exact est_o rfl | exact est_f CFl.h)) (rp_var (e := (eL (eL (eP eI eI)))) rfl) (re_lst (n := 3) (er := (eL (eL (eP eI eI)))) (x := fun g => [g.1, g.2.1, g.2.2.1]) (ra_cons (rm_bin (g := fun a b => (cat a b)) (a := (cutL p_paper none (some at6))) (b := (cutL p_paper (some (at6 + (1 : Int))) none)) (op_catL (by first | exact est_o rfl | exact est_f CFl.h) (by first | exact est_o rfl | exact est_f CFl.h)) (rp_slL (rp_var (e := (eL (eP eI eI))) rfl) rpt_n (rpt_s (rp_var (e := eI) rfl))) (rp_slL (rp_var (e := (eL (eP eI eI))) rfl) (rpt_s (rp_bin (g := fun a b => (a + b)) (a := at6) (b := (1 : Int)) (opp_addI) (rp_var (e := eI) rfl) (rp_c (e := eI) (a := 1)))) rpt_n)) (ra_cons (rm_binR (g := fun a b => (cat a b)) (a := p_paper) (op_catL (by first | exact est_o rfl | exact est_f CFl.h) (by first | exact est_o rfl | exact est_f CFl.h)) (rp_var (e := (eL (eP eI eI))) rfl) (re_lst (n := 1) (er := (eL (eP eI eI))) (x := fun g => [g.1]) (ra_cons (rm_bin (g := fun a b => (ix a b)) (a := p_paper) (b := at6) (op_ixL) (rp_var (e := (eL (eP eI eI))) rfl) (rp_var (e := eI) rfl)) ra_nil))) (ra_cons ((rp_rev (rp_var (e := (eL (eP eI eI))) rfl))).re ra_nil))))) fun bent7 => (rs_endN rfl)))) (rs_endN rfl) fun s4 z5 => (rs_last (rs_retFP (rp_var (e := (eL (eL (eP eI eI)))) rfl)))))
theorem s__law_bent : SP sp__law_bent (fun g : Addr × (List PySem.Str) × (List (Int × Int)) × Unit => [eA g.1, (eT eS) g.2.1, (eL (eP eI eI)) g.2.2.1]) (fun g => m__law_bent g.1 g.2.1 g.2.2.1) (eL (eL (eP eI eI))) cT := sp_mk fun g => t__law_bent g.1 g.2.1 g.2.2.1
noncomputable def m__law_doubled (p_many : Int) : M Int :=
  ((rng1 p_many) >>= fun l5 => forL (fun (s1 : Int) x3 => ((mulI s1 (2 : Int)) >>= fun number4 => (pure number4))) (1 : Int) l5 >>= (fun (s1 : Int) => (pure s1)))
theorem t__law_doubled (p_many : Int) : RS b__law_doubled [some (.val (eI p_many)), none, none] (m__law_doubled p_many) (endF eI cT) := by
  unfold b__law_doubled m__law_doubled
  exact (rs_setP (rp_c (e := eI) (a := 1)) (rs_forL (fun (s1 : Int) z2 => [some (.val (eI p_many)), some (.val (eI s1)), z2 2]) (1 : Int) (rm_rng1 (rp_var (e := eI) rfl)) rfl (fun s1 z2 => tg_name) (fun s1 z2 x3 => (rs_last (rs_set (rm_bin (g := fun a b => (mulI a b)) (a := s1) (b := (2 : Int)) (op_mulI) (rp_var (e := eI) rfl) (rp_c (e := eI) (a := 2))) fun number4 => (rs_endL rfl)))) fun s1 z2 => (rs_last (rs_retFP (rp_var (e := eI) rfl)))))
theorem s__law_doubled : SP sp__law_doubled (fun g : Int × Unit => [eI g.1]) (fun g => m__law_doubled g.1) eI cT := sp_mk fun g => t__law_doubled g.1
noncomputable def m__law_bits (p_code : Int) (p_many : Int) : M (List Int) :=
  ((rng1 p_many) >>= fun l6 => forL (fun (s1 : Int × (List Int)) x3 => ((modI s1.1 (2 : Int)) >>= fun a4 => M.chk (List.length s1.2 < sizeLine) >>= fun _ => ((divI s1.1 (2 : Int)) >>= fun code5 => (pure (code5, (s1.2 ++ [a4])))))) (p_code, ([] : (List Int))) l6 >>= (fun (s1 : Int × (List Int)) => (pure s1.2)))
theorem t__law_bits (p_code : Int) (p_many : Int) : RS b__law_bits [some (.val (eI p_code)), some (.val (eI p_many)), none, none] (m__law_bits p_code p_many) (endF (eL eI) cF) := by
  unfold b__law_bits m__law_bits
  exact (rs_ownP (e := eI) (rp_lst (n := 0) (e := (eL eI)) (a := ([] : (List Int))) rap_nil) (rs_forL (fun (s1 : Int × (List Int)) z2 => [some (.val (eI s1.1)), some (.val (eI p_many)), some (oL eI s1.2), z2 3]) (p_code, ([] : (List Int))) (rm_rng1 (rp_var (e := eI) rfl)) rfl (fun s1 z2 => tg_name) (fun s1 z2 x3 => (rs_app (e := eI) (l := s1.2) rfl (rm_bin (g := fun a b => (modI a b)) (a := s1.1) (b := (2 : Int)) (op_modI) (rp_var (e := eI) rfl) (rp_c (e := eI) (a := 2))) fun a4 => (rs_last (rs_set (rm_bin (g := fun a b => (divI a b)) (a := s1.1) (b := (2 : Int)) (op_divI) (rp_var (e := eI) rfl) (rp_c (e := eI) (a := 2))) fun code5 => (rs_endL rfl))))) fun s1 z2 => (rs_last (rs_retFP (rp_varL (e := eI) rfl)))))
theorem s__law_bits : SP sp__law_bits (fun g : Int × Int × Unit => [eI g.1, eI g.2.1]) (fun g => m__law_bits g.1 g.2.1) (eL eI) cF := sp_mk fun g => t__law_bits g.1 g.2.1
noncomputable def m__law_different (p_chart : (List PySem.Str)) (p_squares : (List (Int × Int))) : M Bool :=
  ((rng1 ((List.length p_squares : Nat) : Int)) >>= fun l4 => forC (fun (s1 : Unit) x3 => ((M.or ((ix p_squares x3) >>= fun a => pure (memB a (cutL p_squares none (some x3)))) ((ix p_squares x3) >>= fun a => (m__law_all p_chart) >>= fun b => pure (!memB a b))) >>= fun b => if b = true then (pure (Ctl.rt false : Ctl (Unit) Bool)) else (pure (Ctl.nx () : Ctl (Unit) Bool)))) () l4 >>= fun r => ctl r (fun (s1 : Unit) => (pure true)) pure)
theorem t__law_different (p_chart : (List PySem.Str)) (p_squares : (List (Int × Int))) : RS b__law_different [some (.val ((eT eS) p_chart)), some (.val ((eL (eP eI eI)) p_squares)), none] (m__law_different p_chart p_squares) (endF eB cT) := by
  unfold b__law_different m__law_different
  exact (rs_forF (fun (s1 : Unit) z2 => [some (.val ((eT eS) p_chart)), some (.val ((eL (eP eI eI)) p_squares)), z2 2]) () (rm_rng1 (rp_fn (g := fun z => ((List.length z : Nat) : Int)) (a := p_squares) (fn_lenL) (rp_var (e := (eL (eP eI eI))) rfl))) rfl (fun s1 z2 => tg_name) (fun s1 z2 x3 => (rs_last (rs_if (rb_or (rb_test (rm_binPL (g := fun a b => (memB a b)) (b := (cutL p_squares none (some x3))) (opp_inLt (e := (eP eI eI)) CInj.h CTot.h) (rm_bin (g := fun a b => (ix a b)) (a := p_squares) (b := x3) (op_ixL) (rp_var (e := (eL (eP eI eI))) rfl) (rp_var (e := eI) rfl)) (rp_slL (rp_var (e := (eL (eP eI eI))) rfl) rpt_n (rpt_s (rp_var (e := eI) rfl))))) (rb_test (re_binP (g := fun a b => (!memB a b)) (opp_ninLt (e := (eP eI eI)) CInj.h CTot.h) (rm_bin (g := fun a b => (ix a b)) (a := p_squares) (b := x3) (op_ixL) (rp_var (e := (eL (eP eI eI))) rfl) (rp_var (e := eI) rfl)) (re_callP (m := fun g : (List PySem.Str) × Unit => m__law_all g.1) s__law_all (x := (p_chart, ())) (rap_cons (rp_var (e := (eT eS)) rfl) rap_nil))))) (rs_retCP (rp_c (e := eB) (a := false))) (rs_pass (rs_endC rfl))))) fun s1 z2 => (rs_last (rs_retFP (rp_c (e := eB) (a := true)))))
theorem s__law_different : SP sp__law_different (fun g : (List PySem.Str) × (List (Int × Int)) × Unit => [(eT eS) g.1, (eL (eP eI eI)) g.2.1]) (fun g => m__law_different g.1 g.2.1) eB cT := sp_mk fun g => t__law_different g.1 g.2.1
noncomputable def m__law_dry (p_chart : (List PySem.Str)) : M (List (Int × Int)) :=
  ((m__law_all p_chart) >>= cmp (fun x1 => (((ix p_chart x1.1) >>= fun a => (six a x1.2)) >>= fun a => pure (decide (a = ("x" : PySem.Str))))) (fun x1 => (pure (x1.1, x1.2))))
theorem t__law_dry (p_chart : (List PySem.Str)) : RS b__law_dry [some (.val ((eT eS) p_chart)), none, none] (m__law_dry p_chart) (endF (eL (eP eI eI)) cF) := by
  unfold b__law_dry m__law_dry
  exact (rs_last (rs_retF (re_cmp (ri_lst (re_callP (m := fun g : (List PySem.Str) × Unit => m__law_all g.1) s__law_all (x := (p_chart, ())) (rap_cons (rp_var (e := (eT eS)) rfl) rap_nil))) tg_p (fun x1 => (rb_test (rm_binPL (g := fun a b => (decide (a = b))) (b := ("x" : PySem.Str)) (opp_eqS) (rm_binL (g := fun a b => (six a b)) (b := x1.2) (op_ixS) (rm_bin (g := fun a b => (ix a b)) (a := p_chart) (b := x1.1) (op_ixT) (rp_var (e := (eT eS)) rfl) (rp_var (e := eI) rfl)) (rp_var (e := eI) rfl)) (rp_c (e := eS) (a := "x"))))) (fun x1 => ((rp_tup (n := 2) (e := (eP eI eI)) (a := (x1.1, x1.2)) (rap_cons (rp_var (e := eI) rfl) (rap_cons (rp_var (e := eI) rfl) rap_nil)))).re))))
theorem s__law_dry : SP sp__law_dry (fun g : (List PySem.Str) × Unit => [(eT eS) g.1]) (fun g => m__law_dry g.1) (eL (eP eI eI)) cF := sp_mk fun g => t__law_dry g.1
noncomputable def m__law_presses (p_chart : (List PySem.Str)) (p_squares : (List (Int × Int))) : M Bool :=
  (M.and (m__law_different p_chart p_squares) (((((m__law_press p_chart p_squares) >>= fun a => (pure ()) >>= fun g => pure (a, g)) >>= fun g => m__law_dry g.1) >>= fun a => pure ((List.length a : Nat) : Int)) >>= fun a => pure (decide (a = (0 : Int)))))
theorem t__law_presses (p_chart : (List PySem.Str)) (p_squares : (List (Int × Int))) : RS b__law_presses [some (.val ((eT eS) p_chart)), some (.val ((eL (eP eI eI)) p_squares))] (m__law_presses p_chart p_squares) (endF eB cT) := by
  unfold b__law_presses m__law_presses
  exact (rs_last (rs_retF (re_and (re_callP (m := fun g : (List PySem.Str) × (List (Int × Int)) × Unit => m__law_different g.1 g.2.1) s__law_different (x := (p_chart, p_squares, ())) (rap_cons (rp_var (e := (eT eS)) rfl) (rap_cons (rp_var (e := (eL (eP eI eI))) rfl) rap_nil))) (rm_binPL (g := fun a b => (decide (a = b))) (b := (0 : Int)) (opp_eqI) (re_fn (g := fun z => ((List.length z : Nat) : Int)) (fn_lenL) (re_call (m := fun g : (List PySem.Str) × Unit => m__law_dry g.1) s__law_dry (ra_cons (re_callP (m := fun g : (List PySem.Str) × (List (Int × Int)) × Unit => m__law_press g.1 g.2.1) s__law_press (x := (p_chart, p_squares, ())) (rap_cons (rp_var (e := (eT eS)) rfl) (rap_cons (rp_var (e := (eL (eP eI eI))) rfl) rap_nil))) ra_nil))) (rp_c (e := eI) (a := 0))))))
theorem s__law_presses : SP sp__law_presses (fun g : (List PySem.Str) × (List (Int × Int)) × Unit => [(eT eS) g.1, (eL (eP eI eI)) g.2.1]) (fun g => m__law_presses g.1 g.2.1) eB cT := sp_mk fun g => t__law_presses g.1 g.2.1
noncomputable def m__law_some (p_chart : (List PySem.Str)) : M Bool :=
  ((m__law_all p_chart) >>= fun squares1 => (((m__law_doubled ((List.length squares1 : Nat) : Int)) >>= rng1) >>= fun l7 => forC (fun (s2 : Unit) x4 => ((m__law_bits x4 ((List.length squares1 : Nat) : Int)) >>= fun bits5 => ((((pure p_chart) >>= fun a => (((rng1 ((List.length squares1 : Nat) : Int)) >>= cmp (fun x6 => ((ix bits5 x6) >>= fun a => pure (decide (a = (1 : Int))))) (fun x6 => (ix squares1 x6))) >>= fun a => (pure ()) >>= fun g => pure (a, g)) >>= fun g => pure (a, g)) >>= fun g => m__law_presses g.1 g.2.1) >>= fun b => if b = true then (pure (Ctl.rt true : Ctl (Unit) Bool)) else (pure (Ctl.nx () : Ctl (Unit) Bool))))) () l7 >>= fun r => ctl r (fun (s2 : Unit) => (pure false)) pure))
theorem t__law_some (p_chart : (List PySem.Str)) : RS b__law_some [some (.val ((eT eS) p_chart)), none, none, none, none] (m__law_some p_chart) (endF eB cT) := by
  unfold b__law_some m__law_some
  exact (rs_set (re_callP (m := fun g : (List PySem.Str) × Unit => m__law_all g.1) s__law_all (x := (p_chart, ())) (rap_cons (rp_var (e := (eT eS)) rfl) rap_nil)) fun squares1 => (rs_forF (fun (s2 : Unit) z3 => [some (.val ((eT eS) p_chart)), some (.val ((eL (eP eI eI)) squares1)), z3 2, z3 3, none]) () (ri_rng1 (re_callP (m := fun g : Int × Unit => m__law_doubled g.1) s__law_doubled (x := (((List.length squares1 : Nat) : Int), ())) (rap_cons (rp_fn (g := fun z => ((List.length z : Nat) : Int)) (a := squares1) (fn_lenL) (rp_var (e := (eL (eP eI eI))) rfl)) rap_nil))) rfl (fun s2 z3 => tg_name) (fun s2 z3 x4 => (rs_set (re_callP (m := fun g : Int × Int × Unit => m__law_bits g.1 g.2.1) s__law_bits (x := (x4, ((List.length squares1 : Nat) : Int), ())) (rap_cons (rp_var (e := eI) rfl) (rap_cons (rp_fn (g := fun z => ((List.length z : Nat) : Int)) (a := squares1) (fn_lenL) (rp_var (e := (eL (eP eI eI))) rfl)) rap_nil))) fun bits5 => (rs_last (rs_if (rb_test (re_call (m := fun g : (List PySem.Str) × (List (Int × Int)) × Unit => m__law_presses g.1 g.2.1) s__law_presses (ra_cons ((rp_var (e := (eT eS)) rfl)).re (ra_cons (re_cmp (rm_rng1 (rp_fn (g := fun z => ((List.length z : Nat) : Int)) (a := squares1) (fn_lenL) (rp_var (e := (eL (eP eI eI))) rfl))) tg_name (fun x6 => (rb_test (rm_binPL (g := fun a b => (decide (a = b))) (b := (1 : Int)) (opp_eqI) (rm_bin (g := fun a b => (ix a b)) (a := bits5) (b := x6) (op_ixL) (rp_var (e := (eL eI)) rfl) (rp_var (e := eI) rfl)) (rp_c (e := eI) (a := 1))))) (fun x6 => (rm_bin (g := fun a b => (ix a b)) (a := squares1) (b := x6) (op_ixL) (rp_var (e := (eL (eP eI eI))) rfl) (rp_var (e := eI) rfl)))) ra_nil)))) (rs_retCP (rp_c (e := eB) (a := true))) (rs_pass (rs_endC rfl)))))) fun s2 z3 => (rs_last (rs_retFP (rp_c (e := eB) (a := false))))))
theorem s__law_some : SP sp__law_some (fun g : (List PySem.Str) × Unit => [(eT eS) g.1]) (fun g => m__law_some g.1) eB cT := sp_mk fun g => t__law_some g.1
noncomputable def m__law_odd (p_chart : (List PySem.Str)) (p_squares : (List (Int × Int))) : M Bool :=
  ((M.or ((m__law_different p_chart p_squares) >>= fun x => pure (!x)) ((((cmp (fun x2 => (((ix p_chart x2.1) >>= fun a => (six a x2.2)) >>= fun a => pure (decide (a = ("x" : PySem.Str))))) (fun x2 => (pure (1 : Int))) p_squares) >>= fun a => pure ((List.length a : Nat) : Int)) >>= fun a => (modI a (2 : Int))) >>= fun a => pure (decide (a = (0 : Int))))) >>= fun b => if b = true then (pure false) else ((m__law_all p_chart) >>= fun l8 => forC (fun (s3 : Unit) x5 => ((((((m__law_cross p_chart x5) >>= cmp (fun x7 => (pure (memB x7 p_squares))) (fun x7 => (pure (1 : Int)))) >>= fun a => pure ((List.length a : Nat) : Int)) >>= fun a => (modI a (2 : Int))) >>= fun a => pure (decide (a = (1 : Int)))) >>= fun b => if b = true then (pure (Ctl.rt false : Ctl (Unit) Bool)) else (pure (Ctl.nx () : Ctl (Unit) Bool)))) () l8 >>= fun r => ctl r (fun (s3 : Unit) => (pure true)) pure))
theorem t__law_odd (p_chart : (List PySem.Str)) (p_squares : (List (Int × Int))) : RS b__law_odd [some (.val ((eT eS) p_chart)), some (.val ((eL (eP eI eI)) p_squares)), none, none, none, none] (m__law_odd p_chart p_squares) (endF eB cT) := by
  unfold b__law_odd m__law_odd
  exact (rs_if (rb_or (rb_not (rb_test (re_callP (m := fun g : (List PySem.Str) × (List (Int × Int)) × Unit => m__law_different g.1 g.2.1) s__law_different (x := (p_chart, p_squares, ())) (rap_cons (rp_var (e := (eT eS)) rfl) (rap_cons (rp_var (e := (eL (eP eI eI))) rfl) rap_nil))))) (rb_test (rm_binPL (g := fun a b => (decide (a = b))) (b := (0 : Int)) (opp_eqI) (rm_binL (g := fun a b => (modI a b)) (b := (2 : Int)) (op_modI) (re_fn (g := fun z => ((List.length z : Nat) : Int)) (fn_lenL) (rm_cmp (ri_lstP (rp_var (e := (eL (eP eI eI))) rfl)) tg_p (fun x2 => (rb_test (rm_binPL (g := fun a b => (decide (a = b))) (b := ("x" : PySem.Str)) (opp_eqS) (rm_binL (g := fun a b => (six a b)) (b := x2.2) (op_ixS) (rm_bin (g := fun a b => (ix a b)) (a := p_chart) (b := x2.1) (op_ixT) (rp_var (e := (eT eS)) rfl) (rp_var (e := eI) rfl)) (rp_var (e := eI) rfl)) (rp_c (e := eS) (a := "x"))))) (fun x2 => ((rp_c (e := eI) (a := 1))).re))) (rp_c (e := eI) (a := 2))) (rp_c (e := eI) (a := 0))))) (rs_retFP (rp_c (e := eB) (a := false))) (rs_pass (rs_forF (fun (s3 : Unit) z4 => [some (.val ((eT eS) p_chart)), some (.val ((eL (eP eI eI)) p_squares)), z4 2, none, none, none]) () (ri_lst (re_callP (m := fun g : (List PySem.Str) × Unit => m__law_all g.1) s__law_all (x := (p_chart, ())) (rap_cons (rp_var (e := (eT eS)) rfl) rap_nil))) rfl (fun s3 z4 => tg_name) (fun s3 z4 x5 => (rs_last (rs_if (rb_test (rm_binPL (g := fun a b => (decide (a = b))) (b := (1 : Int)) (opp_eqI) (rm_binL (g := fun a b => (modI a b)) (b := (2 : Int)) (op_modI) (re_fn (g := fun z => ((List.length z : Nat) : Int)) (fn_lenL) (re_cmp (ri_lst (re_callP (m := fun g : (List PySem.Str) × (Int × Int) × Unit => m__law_cross g.1 g.2.1) s__law_cross (x := (p_chart, x5, ())) (rap_cons (rp_var (e := (eT eS)) rfl) (rap_cons (rp_var (e := (eP eI eI)) rfl) rap_nil)))) tg_name (fun x7 => ((rb_testP (rp_bin (g := fun a b => (memB a b)) (a := x7) (b := p_squares) (opp_inLt (e := (eP eI eI)) CInj.h CTot.h) (rp_var (e := (eP eI eI)) rfl) (rp_var (e := (eL (eP eI eI))) rfl)))).rb) (fun x7 => ((rp_c (e := eI) (a := 1))).re))) (rp_c (e := eI) (a := 2))) (rp_c (e := eI) (a := 1)))) (rs_retCP (rp_c (e := eB) (a := false))) (rs_pass (rs_endC rfl))))) fun s3 z4 => (rs_last (rs_retFP (rp_c (e := eB) (a := true)))))))
theorem s__law_odd : SP sp__law_odd (fun g : (List PySem.Str) × (List (Int × Int)) × Unit => [(eT eS) g.1, (eL (eP eI eI)) g.2.1]) (fun g => m__law_odd g.1 g.2.1) eB cT := sp_mk fun g => t__law_odd g.1 g.2.1
noncomputable def m_are_different_squares (p_chart : (List PySem.Str)) (p_squares : (List (Int × Int))) : M Bool :=
  ((rng1 ((List.length p_squares : Nat) : Int)) >>= fun l4 => forC (fun (s1 : Unit) x3 => ((M.or ((((pure p_chart) >>= fun a => ((ix p_squares x3) >>= fun a => (pure ()) >>= fun g => pure (a, g)) >>= fun g => pure (a, g)) >>= fun g => m_is_square g.1 g.2.1) >>= fun x => pure (!x)) ((ix p_squares x3) >>= fun a => pure (memB a (cutL p_squares none (some x3))))) >>= fun b => if b = true then (pure (Ctl.rt false : Ctl (Unit) Bool)) else (pure (Ctl.nx () : Ctl (Unit) Bool)))) () l4 >>= fun r => ctl r (fun (s1 : Unit) => (pure true)) pure)
theorem t_are_different_squares (p_chart : (List PySem.Str)) (p_squares : (List (Int × Int))) : RS b_are_different_squares [some (.val ((eT eS) p_chart)), some (.val ((eL (eP eI eI)) p_squares)), none] (m_are_different_squares p_chart p_squares) (endF eB cT) := by
  unfold b_are_different_squares m_are_different_squares
  exact (rs_forF (fun (s1 : Unit) z2 => [some (.val ((eT eS) p_chart)), some (.val ((eL (eP eI eI)) p_squares)), z2 2]) () (rm_rng1 (rp_fn (g := fun z => ((List.length z : Nat) : Int)) (a := p_squares) (fn_lenL) (rp_var (e := (eL (eP eI eI))) rfl))) rfl (fun s1 z2 => tg_name) (fun s1 z2 x3 => (rs_last (rs_if (rb_or (rb_not (rb_test (re_call (m := fun g : (List PySem.Str) × (Int × Int) × Unit => m_is_square g.1 g.2.1) s_is_square (ra_cons ((rp_var (e := (eT eS)) rfl)).re (ra_cons (rm_bin (g := fun a b => (ix a b)) (a := p_squares) (b := x3) (op_ixL) (rp_var (e := (eL (eP eI eI))) rfl) (rp_var (e := eI) rfl)) ra_nil))))) (rb_test (rm_binPL (g := fun a b => (memB a b)) (b := (cutL p_squares none (some x3))) (opp_inLt (e := (eP eI eI)) CInj.h CTot.h) (rm_bin (g := fun a b => (ix a b)) (a := p_squares) (b := x3) (op_ixL) (rp_var (e := (eL (eP eI eI))) rfl) (rp_var (e := eI) rfl)) (rp_slL (rp_var (e := (eL (eP eI eI))) rfl) rpt_n (rpt_s (rp_var (e := eI) rfl)))))) (rs_retCP (rp_c (e := eB) (a := false))) (rs_pass (rs_endC rfl))))) fun s1 z2 => (rs_last (rs_retFP (rp_c (e := eB) (a := true)))))
theorem s_are_different_squares : SP sp_are_different_squares (fun g : (List PySem.Str) × (List (Int × Int)) × Unit => [(eT eS) g.1, (eL (eP eI eI)) g.2.1]) (fun g => m_are_different_squares g.1 g.2.1) eB cT := sp_mk fun g => t_are_different_squares g.1 g.2.1
noncomputable def m_land_squares (p_chart : (List PySem.Str)) : M (List (Int × Int)) :=
  ((m_squares_of p_chart) >>= cmp (fun x1 => (m_is_land p_chart x1)) (fun x1 => (pure x1)))
theorem t_land_squares (p_chart : (List PySem.Str)) : RS b_land_squares [some (.val ((eT eS) p_chart)), none] (m_land_squares p_chart) (endF (eL (eP eI eI)) cF) := by
  unfold b_land_squares m_land_squares
  exact (rs_last (rs_retF (re_cmp (ri_lst (re_callP (m := fun g : (List PySem.Str) × Unit => m_squares_of g.1) s_squares_of (x := (p_chart, ())) (rap_cons (rp_var (e := (eT eS)) rfl) rap_nil))) tg_name (fun x1 => (rb_test (re_callP (m := fun g : (List PySem.Str) × (Int × Int) × Unit => m_is_land g.1 g.2.1) s_is_land (x := (p_chart, x1, ())) (rap_cons (rp_var (e := (eT eS)) rfl) (rap_cons (rp_var (e := (eP eI eI)) rfl) rap_nil))))) (fun x1 => ((rp_var (e := (eP eI eI)) rfl)).re))))
theorem s_land_squares : SP sp_land_squares (fun g : (List PySem.Str) × Unit => [(eT eS) g.1]) (fun g => m_land_squares g.1) (eL (eP eI eI)) cF := sp_mk fun g => t_land_squares g.1
noncomputable def m_shows_pressing (p_chart : (List PySem.Str)) (p_squares : (List (Int × Int))) : M Bool :=
  (M.and (m_are_different_squares p_chart p_squares) (((((m_pressed p_chart p_squares) >>= fun a => (pure ()) >>= fun g => pure (a, g)) >>= fun g => m_land_squares g.1) >>= fun a => pure ((List.length a : Nat) : Int)) >>= fun a => pure (decide (a = (0 : Int)))))
theorem t_shows_pressing (p_chart : (List PySem.Str)) (p_squares : (List (Int × Int))) : RS b_shows_pressing [some (.val ((eT eS) p_chart)), some (.val ((eL (eP eI eI)) p_squares))] (m_shows_pressing p_chart p_squares) (endF eB cT) := by
  unfold b_shows_pressing m_shows_pressing
  exact (rs_last (rs_retF (re_and (re_callP (m := fun g : (List PySem.Str) × (List (Int × Int)) × Unit => m_are_different_squares g.1 g.2.1) s_are_different_squares (x := (p_chart, p_squares, ())) (rap_cons (rp_var (e := (eT eS)) rfl) (rap_cons (rp_var (e := (eL (eP eI eI))) rfl) rap_nil))) (rm_binPL (g := fun a b => (decide (a = b))) (b := (0 : Int)) (opp_eqI) (re_fn (g := fun z => ((List.length z : Nat) : Int)) (fn_lenL) (re_call (m := fun g : (List PySem.Str) × Unit => m_land_squares g.1) s_land_squares (ra_cons (re_callP (m := fun g : (List PySem.Str) × (List (Int × Int)) × Unit => m_pressed g.1 g.2.1) s_pressed (x := (p_chart, p_squares, ())) (rap_cons (rp_var (e := (eT eS)) rfl) (rap_cons (rp_var (e := (eL (eP eI eI))) rfl) rap_nil))) ra_nil))) (rp_c (e := eI) (a := 0))))))
theorem s_shows_pressing : SP sp_shows_pressing (fun g : (List PySem.Str) × (List (Int × Int)) × Unit => [(eT eS) g.1, (eL (eP eI eI)) g.2.1]) (fun g => m_shows_pressing g.1 g.2.1) eB cT := sp_mk fun g => t_shows_pressing g.1 g.2.1
noncomputable def m_shows_odd (p_chart : (List PySem.Str)) (p_squares : (List (Int × Int))) : M Bool :=
  ((M.or ((m_are_different_squares p_chart p_squares) >>= fun x => pure (!x)) ((((cmp (fun x2 => (m_is_land p_chart x2)) (fun x2 => (pure (1 : Int))) p_squares) >>= fun a => pure ((List.length a : Nat) : Int)) >>= fun a => (modI a (2 : Int))) >>= fun a => pure (decide (a = (0 : Int))))) >>= fun b => if b = true then (pure false) else ((m_squares_of p_chart) >>= fun l8 => forC (fun (s3 : Unit) x5 => ((((((m_cross p_chart x5) >>= cmp (fun x7 => (pure (memB x7 p_squares))) (fun x7 => (pure x7))) >>= fun a => pure ((List.length a : Nat) : Int)) >>= fun a => (modI a (2 : Int))) >>= fun a => pure (decide (a = (1 : Int)))) >>= fun b => if b = true then (pure (Ctl.rt false : Ctl (Unit) Bool)) else (pure (Ctl.nx () : Ctl (Unit) Bool)))) () l8 >>= fun r => ctl r (fun (s3 : Unit) => (pure true)) pure))
theorem t_shows_odd (p_chart : (List PySem.Str)) (p_squares : (List (Int × Int))) : RS b_shows_odd [some (.val ((eT eS) p_chart)), some (.val ((eL (eP eI eI)) p_squares)), none, none] (m_shows_odd p_chart p_squares) (endF eB cT) := by
  unfold b_shows_odd m_shows_odd
  exact (rs_if (rb_or (rb_not (rb_test (re_callP (m := fun g : (List PySem.Str) × (List (Int × Int)) × Unit => m_are_different_squares g.1 g.2.1) s_are_different_squares (x := (p_chart, p_squares, ())) (rap_cons (rp_var (e := (eT eS)) rfl) (rap_cons (rp_var (e := (eL (eP eI eI))) rfl) rap_nil))))) (rb_test (rm_binPL (g := fun a b => (decide (a = b))) (b := (0 : Int)) (opp_eqI) (rm_binL (g := fun a b => (modI a b)) (b := (2 : Int)) (op_modI) (re_fn (g := fun z => ((List.length z : Nat) : Int)) (fn_lenL) (rm_cmp (ri_lstP (rp_var (e := (eL (eP eI eI))) rfl)) tg_name (fun x2 => (rb_test (re_callP (m := fun g : (List PySem.Str) × (Int × Int) × Unit => m_is_land g.1 g.2.1) s_is_land (x := (p_chart, x2, ())) (rap_cons (rp_var (e := (eT eS)) rfl) (rap_cons (rp_var (e := (eP eI eI)) rfl) rap_nil))))) (fun x2 => ((rp_c (e := eI) (a := 1))).re))) (rp_c (e := eI) (a := 2))) (rp_c (e := eI) (a := 0))))) (rs_retFP (rp_c (e := eB) (a := false))) (rs_pass (rs_forF (fun (s3 : Unit) z4 => [some (.val ((eT eS) p_chart)), some (.val ((eL (eP eI eI)) p_squares)), z4 2, none]) () (ri_lst (re_callP (m := fun g : (List PySem.Str) × Unit => m_squares_of g.1) s_squares_of (x := (p_chart, ())) (rap_cons (rp_var (e := (eT eS)) rfl) rap_nil))) rfl (fun s3 z4 => tg_name) (fun s3 z4 x5 => (rs_last (rs_if (rb_test (rm_binPL (g := fun a b => (decide (a = b))) (b := (1 : Int)) (opp_eqI) (rm_binL (g := fun a b => (modI a b)) (b := (2 : Int)) (op_modI) (re_fn (g := fun z => ((List.length z : Nat) : Int)) (fn_lenL) (re_cmp (ri_lst (re_callP (m := fun g : (List PySem.Str) × (Int × Int) × Unit => m_cross g.1 g.2.1) s_cross (x := (p_chart, x5, ())) (rap_cons (rp_var (e := (eT eS)) rfl) (rap_cons (rp_var (e := (eP eI eI)) rfl) rap_nil)))) tg_name (fun x7 => ((rb_testP (rp_bin (g := fun a b => (memB a b)) (a := x7) (b := p_squares) (opp_inLt (e := (eP eI eI)) CInj.h CTot.h) (rp_var (e := (eP eI eI)) rfl) (rp_var (e := (eL (eP eI eI))) rfl)))).rb) (fun x7 => ((rp_var (e := (eP eI eI)) rfl)).re))) (rp_c (e := eI) (a := 2))) (rp_c (e := eI) (a := 1)))) (rs_retCP (rp_c (e := eB) (a := false))) (rs_pass (rs_endC rfl))))) fun s3 z4 => (rs_last (rs_retFP (rp_c (e := eB) (a := true)))))))
theorem s_shows_odd : SP sp_shows_odd (fun g : (List PySem.Str) × (List (Int × Int)) × Unit => [(eT eS) g.1, (eL (eP eI eI)) g.2.1]) (fun g => m_shows_odd g.1 g.2.1) eB cT := sp_mk fun g => t_shows_odd g.1 g.2.1
noncomputable def m_law (ad : Addr) : M Bool :=
  ((((pure ad) >>= fun a => (((takeM ad (6 : Int)) >>= fun b => pure ((1 : Int) + b)) >>= fun a => (((takeM ad (6 : Int)) >>= fun b => pure ((1 : Int) + b)) >>= fun a => (pure ()) >>= fun g => pure (a, g)) >>= fun g => pure (a, g)) >>= fun g => pure (a, g)) >>= fun g => m__law_grid g.1 g.2.1 g.2.2.1) >>= fun chart1 => ((((takeM ad (3 : Int)) >>= fun a => pure (decide (a = (0 : Int)))) >>= fun b => if b = true then ((((pure ad) >>= fun a => (((takeM ad (2 : Int)) >>= fun b => pure ((1 : Int) + b)) >>= fun a => (((takeM ad (4 : Int)) >>= fun b => pure ((1 : Int) + b)) >>= fun a => (pure ()) >>= fun g => pure (a, g)) >>= fun g => pure (a, g)) >>= fun g => pure (a, g)) >>= fun g => m__law_grid g.1 g.2.1 g.2.2.1) >>= fun chart5 => (pure chart5)) else (pure chart1)) >>= fun (s3 : (List PySem.Str)) => (((m__law_all s3) >>= cmp (fun x6 => ((takeM ad (2 : Int)) >>= fun a => pure (decide (a = (0 : Int))))) (fun x6 => (pure x6))) >>= fun squares7 => (((((((pure s3) >>= fun a => ((cat squares7 (cutL squares7 none (some (2 : Int)))) >>= fun a => (pure ()) >>= fun g => pure (a, g)) >>= fun g => pure (a, g)) >>= fun g => m_pressed g.1 g.2.1) >>= fun a => ((((pure s3) >>= fun a => ((cat squares7 (cutL squares7 none (some (2 : Int)))) >>= fun a => (pure ()) >>= fun g => pure (a, g)) >>= fun g => pure (a, g)) >>= fun g => m__law_press g.1 g.2.1) >>= fun a => (pure ()) >>= fun g => pure (a, g)) >>= fun g => pure (a, g)) >>= fun g => sameM (eT eS) g.1 g.2.1) >>= fun x => pure (!x)) >>= fun b => if b = true then (pure false) else (((((cmp (fun x8 => (pure true)) (fun x8 => ((lenS x8) >>= fun b => (mulS ("." : PySem.Str) b))) s3) >>= fun a => pure a) >>= fun a => ((pure squares7) >>= fun a => (pure ()) >>= fun g => pure (a, g)) >>= fun g => pure (a, g)) >>= fun g => m__law_press g.1 g.2.1) >>= fun made9 => ((M.or ((m_odd_paper made9) >>= fun o => pure o.isSome) ((m_pressing_paper made9) >>= fun o => pure o.isNone)) >>= fun b => if b = true then (pure false) else (forC (fun (s10 : Unit) x12 => ((m_pressing_paper x12) >>= fun paper13 => ((m_odd_paper x12) >>= fun odd14 => (if (decide ((Option.isNone paper13) = (Option.isNone odd14))) = true then (pure (Ctl.rt false : Ctl (Unit) Bool)) else ((if (Option.isSome paper13) = true then (if (!(isiO "list" "list" paper13)) = true then pure true else ((((pure x12) >>= fun a => ((M.ofO paper13) >>= fun a => (pure ()) >>= fun g => pure (a, g)) >>= fun g => pure (a, g)) >>= fun g => m__law_presses g.1 g.2.1) >>= fun x => pure (!x))) else pure false) >>= fun b => if b = true then (pure (Ctl.rt false : Ctl (Unit) Bool)) else ((if (Option.isSome odd14) = true then (if (!(isiO "list" "list" odd14)) = true then pure true else ((((pure x12) >>= fun a => ((M.ofO odd14) >>= fun a => (pure ()) >>= fun g => pure (a, g)) >>= fun g => pure (a, g)) >>= fun g => m__law_odd g.1 g.2.1) >>= fun x => pure (!x))) else pure false) >>= fun b => if b = true then (pure (Ctl.rt false : Ctl (Unit) Bool)) else ((M.and (((m__law_all x12) >>= fun a => pure ((List.length a : Nat) : Int)) >>= fun a => pure (decide (a < (9 : Int)))) ((m__law_some x12) >>= fun b => pure (!decide ((Option.isSome paper13) = b)))) >>= fun b => if b = true then (pure (Ctl.rt false : Ctl (Unit) Bool)) else ((pure (if (Option.isNone odd14) = true then paper13 else odd14)) >>= fun given15 => (((((M.ofO given15) >>= fun a => (pure ()) >>= fun g => pure (a, g)) >>= fun g => pure [g.1]) >>= fun a => (((pure ad) >>= fun a => ((pure x12) >>= fun a => ((M.ofO given15) >>= fun a => (pure ()) >>= fun g => pure (a, g)) >>= fun g => pure (a, g)) >>= fun g => pure (a, g)) >>= fun g => m__law_bent g.1 g.2.1 g.2.2.1) >>= fun b => (cat a b)) >>= fun l19 => forC (fun (s16 : Unit) x18 => (((((m_shows_pressing x12 x18) >>= fun a => ((m__law_presses x12 x18) >>= fun a => (pure ()) >>= fun g => pure (a, g)) >>= fun g => pure (a, g)) >>= fun g => pure (decide (g.1 = g.2.1))) >>= fun x => pure (!x)) >>= fun b => if b = true then (pure (Ctl.rt false : Ctl (Unit) Bool)) else (((((m_shows_odd x12 x18) >>= fun a => ((m__law_odd x12 x18) >>= fun a => (pure ()) >>= fun g => pure (a, g)) >>= fun g => pure (a, g)) >>= fun g => pure (decide (g.1 = g.2.1))) >>= fun x => pure (!x)) >>= fun b => if b = true then (pure (Ctl.rt false : Ctl (Unit) Bool)) else (pure (Ctl.nx () : Ctl (Unit) Bool))))) () l19 >>= fun r => ctlC r (fun (s16 : Unit) => (pure (Ctl.nx () : Ctl (Unit) Bool)))))))))))) () ([s3, made9] : (List (List PySem.Str))) >>= fun r => ctl r (fun (s10 : Unit) => (pure true)) pure)))))))
theorem t_law (ns : List Int) (ad : Addr) : RS b_law (some (.val (.scr ns)) :: some (.val (eA ad)) :: List.replicate 10 none) (m_law ad) (endF eB cT) := by
  unfold b_law m_law
  exact (rs_set (re_call (m := fun g : Addr × Int × Int × Unit => m__law_grid g.1 g.2.1 g.2.2.1) s__law_grid (ra_cons ((rp_var (e := eA) rfl)).re (ra_cons (rm_binPR (g := fun a b => (a + b)) (a := (1 : Int)) (opp_addI) (rp_c (e := eI) (a := 1)) (re_callP (m := fun g : Addr × Int × Unit => takeM g.1 g.2.1) s_take (x := (ad, (6 : Int), ())) (rap_cons (rp_var (e := eA) rfl) (rap_cons (rp_c (e := eI) (a := 6)) rap_nil)))) (ra_cons (rm_binPR (g := fun a b => (a + b)) (a := (1 : Int)) (opp_addI) (rp_c (e := eI) (a := 1)) (re_callP (m := fun g : Addr × Int × Unit => takeM g.1 g.2.1) s_take (x := (ad, (6 : Int), ())) (rap_cons (rp_var (e := eA) rfl) (rap_cons (rp_c (e := eI) (a := 6)) rap_nil)))) ra_nil)))) fun chart1 => (rs_join (fun (s3 : (List PySem.Str)) z4 => [some (.val (.scr ns)), some (.val (eA ad)), some (.val ((eT eS) s3)), none, none, none, none, none, none, none, none, none]) (rb_test (rm_binPL (g := fun a b => (decide (a = b))) (b := (0 : Int)) (opp_eqI) (re_callP (m := fun g : Addr × Int × Unit => takeM g.1 g.2.1) s_take (x := (ad, (3 : Int), ())) (rap_cons (rp_var (e := eA) rfl) (rap_cons (rp_c (e := eI) (a := 3)) rap_nil))) (rp_c (e := eI) (a := 0)))) (rs_last (rs_set (re_call (m := fun g : Addr × Int × Int × Unit => m__law_grid g.1 g.2.1 g.2.2.1) s__law_grid (ra_cons ((rp_var (e := eA) rfl)).re (ra_cons (rm_binPR (g := fun a b => (a + b)) (a := (1 : Int)) (opp_addI) (rp_c (e := eI) (a := 1)) (re_callP (m := fun g : Addr × Int × Unit => takeM g.1 g.2.1) s_take (x := (ad, (2 : Int), ())) (rap_cons (rp_var (e := eA) rfl) (rap_cons (rp_c (e := eI) (a := 2)) rap_nil)))) (ra_cons (rm_binPR (g := fun a b => (a + b)) (a := (1 : Int)) (opp_addI) (rp_c (e := eI) (a := 1)) (re_callP (m := fun g : Addr × Int × Unit => takeM g.1 g.2.1) s_take (x := (ad, (4 : Int), ())) (rap_cons (rp_var (e := eA) rfl) (rap_cons (rp_c (e := eI) (a := 4)) rap_nil)))) ra_nil)))) fun chart5 => (rs_endN rfl))) (rs_endN rfl) fun s3 z4 => (rs_set (re_cmp (ri_lst (re_callP (m := fun g : (List PySem.Str) × Unit => m__law_all g.1) s__law_all (x := (s3, ())) (rap_cons (rp_var (e := (eT eS)) rfl) rap_nil))) tg_name (fun x6 => (rb_test (rm_binPL (g := fun a b => (decide (a = b))) (b := (0 : Int)) (opp_eqI) (re_callP (m := fun g : Addr × Int × Unit => takeM g.1 g.2.1) s_take (x := (ad, (2 : Int), ())) (rap_cons (rp_var (e := eA) rfl) (rap_cons (rp_c (e := eI) (a := 2)) rap_nil))) (rp_c (e := eI) (a := 0))))) (fun x6 => ((rp_var (e := (eP eI eI)) rfl)).re)) fun squares7 => (rs_if (rb_not (rb_test (re_call (m := fun g : (List PySem.Str) × (List PySem.Str) × Unit => sameM (eT eS) g.1 g.2.1) (s_same (e := (eT eS))) (ra_cons (re_call (m := fun g : (List PySem.Str) × (List (Int × Int)) × Unit => m_pressed g.1 g.2.1) s_pressed (ra_cons ((rp_var (e := (eT eS)) rfl)).re (ra_cons (rm_bin (g := fun a b => (cat a b)) (a := squares7) (b := (cutL squares7 none (some (2 : Int)))) (op_catL (by first | exact est_o rfl | exact est_f CFl.h) (by first | exact est_o rfl | exact est_f CFl.h)) (rp_var (e := (eL (eP eI eI))) rfl) (rp_slL (rp_var (e := (eL (eP eI eI))) rfl) rpt_n (rpt_s (rp_c (e := eI) (a := 2))))) ra_nil))) (ra_cons (re_call (m := fun g : (List PySem.Str) × (List (Int × Int)) × Unit => m__law_press g.1 g.2.1) s__law_press (ra_cons ((rp_var (e := (eT eS)) rfl)).re (ra_cons (rm_bin (g := fun a b => (cat a b)) (a := squares7) (b := (cutL squares7 none (some (2 : Int)))) (op_catL (by first | exact est_o rfl | exact est_f CFl.h) (by first | exact est_o rfl | exact est_f CFl.h)) (rp_var (e := (eL (eP eI eI))) rfl) (rp_slL (rp_var (e := (eL (eP eI eI))) rfl) rpt_n (rpt_s (rp_c (e := eI) (a := 2))))) ra_nil))) ra_nil))))) (rs_retFP (rp_c (e := eB) (a := false))) (rs_pass (rs_set (re_call (m := fun g : (List PySem.Str) × (List (Int × Int)) × Unit => m__law_press g.1 g.2.1) s__law_press (ra_cons (re_fn (g := fun z => z) (fn_tupL (e := eS)) (rm_cmp (ri_tupP (rp_var (e := (eT eS)) rfl)) tg_name (fun x8 => (rb_yes).rb) (fun x8 => (rm_binR (g := fun a b => (mulS a b)) (a := ("." : PySem.Str)) (op_mulS) (rp_c (e := eS) (a := ".")) (rm_fnS (g := fun z => (lenS z)) (a := x8) (fn_lenS) (rp_var (e := eS) rfl)))))) (ra_cons ((rp_var (e := (eL (eP eI eI))) rfl)).re ra_nil))) fun made9 => (rs_if (rb_or (rb_test (re_some (re_callP (m := fun g : (List PySem.Str) × Unit => m_odd_paper g.1) s_odd_paper (x := (made9, ())) (rap_cons (rp_var (e := (eT eS)) rfl) rap_nil)))) (rb_test (re_none (re_callP (m := fun g : (List PySem.Str) × Unit => m_pressing_paper g.1) s_pressing_paper (x := (made9, ())) (rap_cons (rp_var (e := (eT eS)) rfl) rap_nil))))) (rs_retFP (rp_c (e := eB) (a := false))) (rs_pass (rs_forFP (fun (s10 : Unit) z11 => [some (.val (.scr ns)), some (.val (eA ad)), some (.val ((eT eS) s3)), some (.val ((eL (eP eI eI)) squares7)), some (.val ((eT eS) made9)), z11 5, z11 6, z11 7, z11 8, z11 9, none, none]) () (ri_lstP (rp_lst (n := 2) (e := (eL (eT eS))) (a := ([s3, made9] : (List (List PySem.Str)))) (rap_cons (rp_var (e := (eT eS)) rfl) (rap_cons (rp_var (e := (eT eS)) rfl) rap_nil)))) rfl (fun s10 z11 => tg_name) (fun s10 z11 x12 => (rs_set (re_callP (m := fun g : (List PySem.Str) × Unit => m_pressing_paper g.1) s_pressing_paper (x := (x12, ())) (rap_cons (rp_var (e := (eT eS)) rfl) rap_nil)) fun paper13 => (rs_set (re_callP (m := fun g : (List PySem.Str) × Unit => m_odd_paper g.1) s_odd_paper (x := (x12, ())) (rap_cons (rp_var (e := (eT eS)) rfl) rap_nil)) fun odd14 => (rs_ifP (rb_testP (rp_bin (g := fun a b => (decide (a = b))) (a := (Option.isNone paper13)) (b := (Option.isNone odd14)) (opp_eqB) (rp_none (rp_var (e := (eO (eL (eP eI eI)))) rfl)) (rp_none (rp_var (e := (eO (eL (eP eI eI)))) rfl)))) (rs_retCP (rp_c (e := eB) (a := false))) (rs_pass (rs_if (rmb_and (rb_testP (rp_some (rp_var (e := (eO (eL (eP eI eI)))) rfl))) (rmb_or (rb_notP (rb_testP (rp_un (g := fun z => (isiO "list" "list" z)) (a := paper13) (un_isiO (e := (eL (eP eI eI))) (T := "list") (n := "list") fun _ => rfl) (rp_var (e := (eO (eL (eP eI eI)))) rfl)))) (rb_not (rb_test (re_call (m := fun g : (List PySem.Str) × (List (Int × Int)) × Unit => m__law_presses g.1 g.2.1) s__law_presses (ra_cons ((rp_var (e := (eT eS)) rfl)).re (ra_cons ((rp_var (e := (eO (eL (eP eI eI)))) rfl)).get ra_nil))))))) (rs_retCP (rp_c (e := eB) (a := false))) (rs_pass (rs_if (rmb_and (rb_testP (rp_some (rp_var (e := (eO (eL (eP eI eI)))) rfl))) (rmb_or (rb_notP (rb_testP (rp_un (g := fun z => (isiO "list" "list" z)) (a := odd14) (un_isiO (e := (eL (eP eI eI))) (T := "list") (n := "list") fun _ => rfl) (rp_var (e := (eO (eL (eP eI eI)))) rfl)))) (rb_not (rb_test (re_call (m := fun g : (List PySem.Str) × (List (Int × Int)) × Unit => m__law_odd g.1 g.2.1) s__law_odd (ra_cons ((rp_var (e := (eT eS)) rfl)).re (ra_cons ((rp_var (e := (eO (eL (eP eI eI)))) rfl)).get ra_nil))))))) (rs_retCP (rp_c (e := eB) (a := false))) (rs_pass (rs_if (rb_and (rb_test (rm_binPL (g := fun a b => (decide (a < b))) (b := (9 : Int)) (opp_ltI) (re_fn (g := fun z => ((List.length z : Nat) : Int)) (fn_lenL) (re_callP (m := fun g : (List PySem.Str) × Unit => m__law_all g.1) s__law_all (x := (x12, ())) (rap_cons (rp_var (e := (eT eS)) rfl) rap_nil))) (rp_c (e := eI) (a := 9)))) (rb_test (rm_binPR (g := fun a b => (!decide (a = b))) (a := (Option.isSome paper13)) (opp_neB) (rp_some (rp_var (e := (eO (eL (eP eI eI)))) rfl)) (re_callP (m := fun g : (List PySem.Str) × Unit => m__law_some g.1) s__law_some (x := (x12, ())) (rap_cons (rp_var (e := (eT eS)) rfl) rap_nil))))) (rs_retCP (rp_c (e := eB) (a := false))) (rs_pass (rs_set ((rp_if (rb_testP (rp_none (rp_var (e := (eO (eL (eP eI eI)))) rfl))) (rp_var (e := (eO (eL (eP eI eI)))) rfl) (rp_var (e := (eO (eL (eP eI eI)))) rfl))).re fun given15 => (rs_last (rs_forC (fun (s16 : Unit) z17 => [some (.val (.scr ns)), some (.val (eA ad)), some (.val ((eT eS) s3)), some (.val ((eL (eP eI eI)) squares7)), some (.val ((eT eS) made9)), some (.val ((eT eS) x12)), some (.val ((eO (eL (eP eI eI))) paper13)), some (.val ((eO (eL (eP eI eI))) odd14)), some (.val ((eO (eL (eP eI eI))) given15)), z17 9, none, none]) () (ri_lst (re_bin (g := fun a b => (cat a b)) (op_catL (by first | exact est_o rfl | exact est_f CFl.h) (by first | exact est_o rfl | exact est_f CFl.h)) (re_lst (n := 1) (er := (eL (eL (eP eI eI)))) (x := fun g => [g.1]) (ra_cons ((rp_var (e := (eO (eL (eP eI eI)))) rfl)).get ra_nil)) (re_call (m := fun g : Addr × (List PySem.Str) × (List (Int × Int)) × Unit => m__law_bent g.1 g.2.1 g.2.2.1) s__law_bent (ra_cons ((rp_var (e := eA) rfl)).re (ra_cons ((rp_var (e := (eT eS)) rfl)).re (ra_cons ((rp_var (e := (eO (eL (eP eI eI)))) rfl)).get ra_nil)))))) rfl (fun s16 z17 => tg_name) (fun s16 z17 x18 => (rs_if (rb_not (rb_test (re_call (m := fun g : Bool × Bool × Unit => pure (decide (g.1 = g.2.1))) s_bool (ra_cons (re_callP (m := fun g : (List PySem.Str) × (List (Int × Int)) × Unit => m_shows_pressing g.1 g.2.1) s_shows_pressing (x := (x12, x18, ())) (rap_cons (rp_var (e := (eT eS)) rfl) (rap_cons (rp_var (e := (eL (eP eI eI))) rfl) rap_nil))) (ra_cons (re_callP (m := fun g : (List PySem.Str) × (List (Int × Int)) × Unit => m__law_presses g.1 g.2.1) s__law_presses (x := (x12, x18, ())) (rap_cons (rp_var (e := (eT eS)) rfl) (rap_cons (rp_var (e := (eL (eP eI eI))) rfl) rap_nil))) ra_nil))))) (rs_retCP (rp_c (e := eB) (a := false))) (rs_pass (rs_last (rs_if (rb_not (rb_test (re_call (m := fun g : Bool × Bool × Unit => pure (decide (g.1 = g.2.1))) s_bool (ra_cons (re_callP (m := fun g : (List PySem.Str) × (List (Int × Int)) × Unit => m_shows_odd g.1 g.2.1) s_shows_odd (x := (x12, x18, ())) (rap_cons (rp_var (e := (eT eS)) rfl) (rap_cons (rp_var (e := (eL (eP eI eI))) rfl) rap_nil))) (ra_cons (re_callP (m := fun g : (List PySem.Str) × (List (Int × Int)) × Unit => m__law_odd g.1 g.2.1) s__law_odd (x := (x12, x18, ())) (rap_cons (rp_var (e := (eT eS)) rfl) (rap_cons (rp_var (e := (eL (eP eI eI))) rfl) rap_nil))) ra_nil))))) (rs_retCP (rp_c (e := eB) (a := false))) (rs_pass (rs_endC rfl))))))) fun s16 z17 => (rs_endC rfl))))))))))))))) fun s10 z11 => (rs_last (rs_retFP (rp_c (e := eB) (a := true)))))))))))))
end L79

namespace PL
open PySem PySem.Spec PyProof.Rows L2 VL
noncomputable def m_is_square (p_chart : (List PySem.Str)) (p_square : (Int × Int)) : M Bool :=
  (if ((decide ((0 : Int) ≤ p_square.1)) && (decide (p_square.1 < ((List.length p_chart : Nat) : Int)))) = true then ((pure (0 : Int)) >>= fun a => (pure p_square.2) >>= fun b => if (decide (a ≤ b)) = true then ((ix p_chart (0 : Int)) >>= fun a => (lenS a)) >>= fun d => pure (decide (b < d)) else pure false) else pure false)
noncomputable def m_is_land (p_chart : (List PySem.Str)) (p_square : (Int × Int)) : M Bool :=
  (M.and (m_is_square p_chart p_square) (((ix p_chart p_square.1) >>= fun a => (six a p_square.2)) >>= fun a => pure (decide (a = ("x" : PySem.Str)))))
noncomputable def m_squares_of (p_chart : (List PySem.Str)) : M (List (Int × Int)) :=
  ((rng1 ((List.length p_chart : Nat) : Int)) >>= cmp2 (fun x1 => (pure true)) (fun x1 => (((ix p_chart (0 : Int)) >>= fun a => (lenS a)) >>= rng1)) (fun x1 y2 => (pure true)) (fun x1 y2 => (pure (x1, y2))))
noncomputable def m_land_squares (p_chart : (List PySem.Str)) : M (List (Int × Int)) :=
  ((m_squares_of p_chart) >>= cmp (fun x1 => (m_is_land p_chart x1)) (fun x1 => (pure x1)))
noncomputable def m_side_neighbours (p_square : (Int × Int)) : M (List (Int × Int)) :=
  (pure ([((p_square.1 - (1 : Int)), p_square.2), (p_square.1, (p_square.2 - (1 : Int))), (p_square.1, (p_square.2 + (1 : Int))), ((p_square.1 + (1 : Int)), p_square.2)] : (List (Int × Int))))
noncomputable def m_with_squares (p_chart : (List PySem.Str)) (p_squares : (List (Int × Int))) (p_land : Bool) : M (List PySem.Str) :=
  ((cmp (fun x1 => (pure true)) (fun x1 => (listS x1)) p_chart) >>= fun grid2 => (forL (fun (s3 : (List (List PySem.Str))) x5 => ((m_is_square p_chart x5) >>= fun b => if b = true then (setG s3 x5.1 x5.2 (if p_land = true then ("x" : PySem.Str) else ("." : PySem.Str)) >>= fun grid6 => (pure grid6)) else (pure s3))) grid2 p_squares >>= (fun (s3 : (List (List PySem.Str))) => ((cmp (fun x7 => (pure true)) (fun x7 => (joinM ("" : PySem.Str) x7)) s3) >>= fun a => pure a))))
noncomputable def m__law_grid (p_deal : Addr) (p_rows : Int) (p_columns : Int) : M (List PySem.Str) :=
  ((takeM p_deal (6 : Int)) >>= fun style1 => (((takeM p_deal (4 : Int)) >>= fun b => (ix ([(2 : Int), (3 : Int), (4 : Int), (5 : Int)] : (List Int)) b)) >>= fun chance2 => ((rng1 p_rows) >>= fun l36 => forL (fun (s3 : (List (List PySem.Str))) x5 => ((rng1 p_columns) >>= fun l26 => forL (fun (s6 : (List PySem.Str)) x8 => (((takeM p_deal chance2) >>= fun a => pure (decide (a > (0 : Int)))) >>= fun land9 => ((if (decide (style1 = (1 : Int))) = true then (((takeM p_deal chance2) >>= fun a => pure (decide (a = (0 : Int)))) >>= fun land13 => (pure land13)) else (pure land9)) >>= fun (s11 : Bool) => ((if (decide (style1 = (2 : Int))) = true then (((modI (least4 x5 x8 ((p_rows - (1 : Int)) - x5) ((p_columns - (1 : Int)) - x8)) (2 : Int)) >>= fun a => pure (decide (a = (0 : Int)))) >>= fun land17 => (pure land17)) else (pure s11)) >>= fun (s15 : Bool) => ((if (decide (style1 = (3 : Int))) = true then (((modI (x5 + x8) (2 : Int)) >>= fun a => pure (decide (a = (0 : Int)))) >>= fun land21 => (pure land21)) else (pure s15)) >>= fun (s19 : Bool) => ((if (decide (style1 = (4 : Int))) = true then ((M.or ((modI x5 (2 : Int)) >>= fun a => pure (decide (a = (0 : Int)))) ((((divI x5 (2 : Int)) >>= fun a => (modI a (2 : Int))) >>= fun b => (ix ([(0 : Int), (p_columns - (1 : Int))] : (List Int)) b)) >>= fun b => pure (decide (x8 = b)))) >>= fun land25 => (pure land25)) else (pure s19)) >>= fun (s23 : Bool) => (M.chk (List.length s6 < sizeLine) >>= fun _ => (pure (s6 ++ [(if s23 = true then ("x" : PySem.Str) else ("." : PySem.Str))]))))))))) ([] : (List PySem.Str)) l26 >>= (fun (s6 : (List PySem.Str)) => (M.chk (List.length s3 < sizeLine) >>= fun _ => (pure (s3 ++ [s6])))))) ([] : (List (List PySem.Str))) l36 >>= (fun (s3 : (List (List PySem.Str))) => (((takeM p_deal (4 : Int)) >>= rng1) >>= fun l35 => forL (fun (s27 : (List (List PySem.Str))) x29 => ((takeM p_deal p_rows) >>= fun r30 => ((takeM p_deal p_columns) >>= fun c31 => (((((ix s27 r30) >>= fun a => (ix a c31)) >>= fun a => pure (decide (a = ("x" : PySem.Str)))) >>= fun x => if x = true then (pure ("." : PySem.Str)) else (pure ("x" : PySem.Str))) >>= fun a33 => setG s27 r30 c31 a33 >>= fun grid32 => (pure grid32))))) s3 l35 >>= (fun (s27 : (List (List PySem.Str))) => ((cmp (fun x34 => (pure true)) (fun x34 => (joinM ("" : PySem.Str) x34)) s27) >>= fun a => pure a)))))))
noncomputable def m__law_chart (p_deal : Addr) : M (List PySem.Str) :=
  (((takeM p_deal (7 : Int)) >>= fun b => pure ((1 : Int) + b)) >>= fun rows1 => (((takeM p_deal (7 : Int)) >>= fun b => pure ((1 : Int) + b)) >>= fun columns2 => ((((takeM p_deal (10 : Int)) >>= fun a => pure (decide (a = (0 : Int)))) >>= fun b => if b = true then (((takeM p_deal (12 : Int)) >>= fun b => pure ((1 : Int) + b)) >>= fun rows7 => (((takeM p_deal (12 : Int)) >>= fun b => pure ((1 : Int) + b)) >>= fun columns8 => (pure (rows7, columns8)))) else (pure (rows1, columns2))) >>= fun (s5 : Int × Int) => (m__law_grid p_deal s5.1 s5.2))))
noncomputable def m__law_at (p_chart : (List PySem.Str)) (p_r : Int) (p_c : Int) : M Bool :=
  (if ((decide ((0 : Int) ≤ p_r)) && (decide (p_r < ((List.length p_chart : Nat) : Int)))) = true then (M.and ((pure (0 : Int)) >>= fun a => (pure p_c) >>= fun b => if (decide (a ≤ b)) = true then ((ix p_chart (0 : Int)) >>= fun a => (lenS a)) >>= fun d => pure (decide (b < d)) else pure false) (((ix p_chart p_r) >>= fun a => (six a p_c)) >>= fun a => pure (decide (a = ("x" : PySem.Str))))) else pure false)
noncomputable def m__law_all (p_chart : (List PySem.Str)) : M (List (Int × Int)) :=
  ((rng1 ((List.length p_chart : Nat) : Int)) >>= fun l8 => forL (fun (s1 : (List (Int × Int))) x3 => ((((ix p_chart (0 : Int)) >>= fun a => (lenS a)) >>= rng1) >>= fun l7 => forL (fun (s4 : (List (Int × Int))) x6 => (M.chk (List.length s4 < sizeLine) >>= fun _ => (pure (s4 ++ [(x3, x6)])))) s1 l7 >>= (fun (s4 : (List (Int × Int))) => (pure s4)))) ([] : (List (Int × Int))) l8 >>= (fun (s1 : (List (Int × Int))) => (pure s1)))
noncomputable def m__law_dry (p_chart : (List PySem.Str)) : M (List (Int × Int)) :=
  ((m__law_all p_chart) >>= cmp (fun x1 => (((ix p_chart x1.1) >>= fun a => (six a x1.2)) >>= fun a => pure (decide (a = ("x" : PySem.Str))))) (fun x1 => (pure (x1.1, x1.2))))
end PL

/-! PL1: charts of land and water as functions; what the shared defs answer for them. -/
namespace PL
open PySem PySem.Spec PyProof.Rows L2 VL
/-! ### lists -/
section
variable {α β γ : Type}
theorem ixN_nat {n j : Nat} (h : j < n) : ixN n (j : Int) = some j := by
  unfold ixN
  rw [if_pos (by omega), if_pos (by omega)]; rfl
theorem ix_nat {l : List α} {j : Nat} {a : α} (h : l[j]? = some a) : ix l (j : Int) = pure a := by
  have hj : j < l.length := by
    rw [List.getElem?_eq_some_iff] at h; exact h.1
  unfold ix atI
  rw [ixN_nat hj]
  show M.ofO (l[j]?) = _
  rw [h]; rfl
theorem ix_int {l : List α} {i : Int} {a : α} (h0 : 0 ≤ i) (h : l[i.toNat]? = some a) : ix l i = pure a := by
  have e : i = (i.toNat : Int) := by omega
  rw [e]; exact ix_nat h
theorem setI_nat {l : List α} {j : Nat} {a : α} (h : j < l.length) : setI l (j : Int) a = pure (l.set j a) := by
  unfold setI
  rw [ixN_nat h]; rfl
theorem up_zero (n : Nat) : upI 0 n = (List.range n).map fun i : Nat => (i : Int) := by
  unfold upI
  exact List.map_congr_left fun i _ => Int.zero_add _
theorem rng1_nat {n : Nat} (h : n < 2 ^ 62 := by omega) : rng1 (n : Int) = pure ((List.range n).map fun i : Nat => (i : Int)) := by
  unfold rng1
  rw [M.chk_pos (by constructor <;> omega), pure_bind]
  rw [Int.toNat_natCast, up_zero]
theorem rng1_int {i : Int} (h0 : 0 ≤ i) (h : i < 2 ^ 62 := by omega) : rng1 i = pure ((List.range i.toNat).map fun i : Nat => (i : Int)) := by
  have e : i = (i.toNat : Int) := by omega
  rw [e]; exact rng1_nat (by omega)
theorem sl_small {n : Nat} (h : n ≤ 10000 := by omega) : n ≤ sizeLine := Nat.le_trans h (by decide)
theorem sl_lt {n : Nat} (h : n < 10000 := by omega) : n < sizeLine := Nat.lt_of_lt_of_le h (by decide)
theorem cmp_map {g : α → M β} {l : List α} {h : α → β} (hl : l.length ≤ 10000) (hg : ∀ x ∈ l, g x = pure (h x)) : cmp (fun _ => pure true) g l = pure (l.map h) := by
  unfold cmp
  rw [coll_map hg, lim_pure (by rw [List.length_map]; exact sl_small hl)]
theorem cmp_filter {f : α → M Bool} {g : α → M β} {l : List α} {p : α → Bool} {h : α → β} (hl : l.length ≤ 10000) (hf : ∀ x ∈ l, f x = pure (p x)) (hg : ∀ x ∈ l, p x = true → g x = pure (h x)) : cmp f g l = pure ((l.filter p).map h) := by
  unfold cmp
  rw [coll_filter hf hg, lim_pure]
  rw [List.length_map]
  exact sl_small (Nat.le_trans (List.length_filter_le _ _) hl)
theorem cmp_filter_id {f : α → M Bool} {l : List α} {p : α → Bool} (hl : l.length ≤ 10000) (hf : ∀ x ∈ l, f x = pure (p x)) : cmp f (fun x => pure x) l = pure (l.filter p) := by
  rw [cmp_filter (h := fun x => x) hl hf (fun _ _ _ => rfl), List.map_id']
theorem cat_ok {a b : List α} (h : a.length + b.length ≤ 10000) : cat a b = pure (a ++ b) := by
  unfold cat
  rw [M.chk_pos (sl_small h), pure_bind]
theorem forL_nil {S : Type} {f : S → α → M S} {s : S} : forL f s [] = pure s := rfl
theorem forL_cons {S : Type} {f : S → α → M S} {s : S} {x : α} {xs : List α} : forL f s (x :: xs) = f s x >>= fun s' => forL f s' xs := rfl
/-- a loop whose state is an encoded one -/
theorem forL_enc {S T : Type} {f : S → α → M S} {e : T → S} {g : T → α → T} : ∀ (l : List α) (t : T), (∀ t, ∀ x ∈ l, f (e t) x = pure (e (g t x))) → forL f (e t) l = pure (e (l.foldl g t))
  | [], t, _ => rfl
  | x :: xs, t, h => by
    rw [forL_cons, h t x (by simp), pure_bind, forL_enc xs _ fun t y m => h t y (by simp [m])]
    rfl
/-- a loop that leaves when something is met -/
theorem forC_any {ρ : Type} {f : Unit → α → M (Ctl Unit ρ)} {p : α → Bool} {r : ρ} : ∀ l : List α, (∀ x ∈ l, f () x = pure (if p x = true then Ctl.rt r else Ctl.nx ())) → forC f () l = pure (if l.any p = true then Ctl.rt r else Ctl.nx ())
  | [], _ => rfl
  | x :: xs, h => by
    unfold forC
    rw [h x (by simp), pure_bind, List.any_cons]
    cases q : p x with
    | true => simp
    | false =>
      simp only [Bool.false_or]
      exact forC_any xs fun y m => h y (by simp [m])
end

/-! ### charts -/
def sg (b : Bool) : Str := if b = true then "x" else "."
def rowS (C : Nat) (f : Nat → Bool) : Str := ⟨((List.range C).map fun c => if f c = true then 120 else 46).toArray⟩
/-- the chart of R rows, C columns with land where g says -/
def ch (R C : Nat) (g : Nat → Nat → Bool) : List Str := (List.range R).map fun r => rowS C (g r)
/-- .. as rows of one's own -/
def gch (R C : Nat) (g : Nat → Nat → Bool) : List (List Str) := (List.range R).map fun r => (List.range C).map fun c => sg (g r c)
variable {R C : Nat} {g : Nat → Nat → Bool} {f : Nat → Bool}
theorem ch_length : (ch R C g).length = R := by unfold ch; simp
theorem gch_length : (gch R C g).length = R := by unfold gch; simp
theorem ch_get {r : Nat} (h : r < R) : (ch R C g)[r]? = some (rowS C (g r)) := by unfold ch; simp [h]
theorem rowS_length : (rowS C f).length = C := by unfold rowS Str.length; simp
theorem lenS_row (h : C ≤ 10000) : lenS (rowS C f) = pure (C : Int) := by
  unfold lenS
  rw [rowS_length, M.chk_pos (sl_small h), pure_bind]
theorem sign_x (b : Bool) : VL.sign (if b = true then 120 else 46) = sg b := by cases b <;> rfl
theorem six_row {c : Nat} (h : c < C) (hC : C ≤ 10000) : six (rowS C f) (c : Int) = pure (sg (f c)) := by
  unfold six
  rw [rowS_length, M.chk_pos (sl_small hC), pure_bind]
  have e : (rowS C f).cps.toList = (List.range C).map fun c => if f c = true then 120 else 46 := by unfold rowS; simp
  have q : atI (rowS C f).cps.toList (c : Int) = some (if f c = true then 120 else 46) := by
    rw [e]
    unfold atI
    rw [List.length_map, List.length_range, ixN_nat h]
    simp [h]
  rw [q]
  show M.ofO (some (VL.sign _)) = _
  rw [sign_x]; rfl
theorem sg_x (b : Bool) : decide (sg b = ("x" : PySem.Str)) = b := by cases b <;> decide
theorem charsL_row : charsL (rowS C f) = (List.range C).map fun c => sg (f c) := by
  unfold charsL rowS
  simp only [List.toList_toArray, List.map_map]
  exact List.map_congr_left fun c _ => sign_x _
theorem listS_row (hC : C ≤ 10000) : listS (rowS C f) = pure ((List.range C).map fun c => sg (f c)) := by
  unfold listS
  rw [rowS_length, M.chk_pos (sl_small hC), pure_bind, charsL_row]
/-! ### rows joined -/
theorem join_cps : ∀ ts : List Str, (Str.join ("" : PySem.Str) ts).cps.toList = ts.flatMap fun t => t.cps.toList
  | [] => rfl
  | [x] => by
    show x.cps.toList = _
    simp
  | x :: y :: r => by
    show (x ++ ("" : PySem.Str) ++ Str.join ("" : PySem.Str) (y :: r)).cps.toList = _
    have e : (x ++ ("" : PySem.Str) ++ Str.join ("" : PySem.Str) (y :: r)).cps.toList = x.cps.toList ++ (Str.join ("" : PySem.Str) (y :: r)).cps.toList := by
      show ((x.cps ++ (("" : PySem.Str)).cps) ++ (Str.join ("" : PySem.Str) (y :: r)).cps).toList = _
      have e0 : (("" : PySem.Str)).cps = #[] := rfl
      rw [e0]
      simp
    rw [e, join_cps (y :: r)]
    simp [List.flatMap_cons]
theorem flat_one {α β : Type} (h : α → β) : ∀ l : List α, (l.flatMap fun x => [h x]) = l.map h
  | [] => rfl
  | x :: l => by rw [List.flatMap_cons, flat_one h l]; rfl
theorem sum_ones {α : Type} : ∀ l : List α, (l.map fun _ => 1).sum = l.length
  | [] => rfl
  | x :: l => by rw [List.map_cons, List.sum_cons, sum_ones l, List.length_cons]; omega
theorem sum_const {α : Type} (n : Nat) : ∀ l : List α, (l.map fun _ => n).sum = l.length * n
  | [] => by simp
  | x :: l => by rw [List.map_cons, List.sum_cons, sum_const n l, List.length_cons, Nat.succ_mul]; omega
theorem sg_cps (b : Bool) : (sg b).cps.toList = [if b = true then 120 else 46] := by cases b <;> rfl
theorem sg_length (b : Bool) : (sg b).length = 1 := by cases b <;> rfl
theorem join_row : Txt.join ("" : PySem.Str) ((List.range C).map fun c => sg (f c)) = rowS C f := by
  have e : Txt.join ("" : PySem.Str) ((List.range C).map fun c => sg (f c)) = Str.join ("" : PySem.Str) ((List.range C).map fun c => sg (f c)) := PySem.StrLaws.glued_eq_join _ _
  rw [e]
  have h : (Str.join ("" : PySem.Str) ((List.range C).map fun c => sg (f c))).cps.toList = (rowS C f).cps.toList := by
    rw [join_cps]
    unfold rowS
    simp only [List.toList_toArray, List.flatMap_map]
    rw [show (fun c => (sg (f c)).cps.toList) = fun c => [if f c = true then 120 else 46] from funext fun c => sg_cps _]
    exact flat_one _ _
  have key : ∀ a b : Str, a.cps.toList = b.cps.toList → a = b := fun a b h => by
    cases a; cases b
    congr 1
    exact Array.toList_inj.mp h
  exact key _ _ h
theorem joinM_row (hC : C ≤ 10000) : joinM ("" : PySem.Str) ((List.range C).map fun c => sg (f c)) = pure (rowS C f) := by
  unfold joinM
  have h : joinOk ("" : PySem.Str) ((List.range C).map fun c => sg (f c)) := by
    unfold joinOk
    rw [List.map_map, List.length_map, List.length_range]
    rw [show ((fun x => Str.length x) ∘ fun c => sg (f c)) = fun _ => 1 from funext fun c => sg_length _]
    have e0 : (("" : PySem.Str)).length = 0 := rfl
    rw [e0, sum_ones, List.length_range]
    omega
  rw [M.chk_pos h, pure_bind, join_row]
/-! ### squares -/
abbrev Sq := Int × Int
def inC (R C : Nat) (p : Sq) : Bool := (decide (0 ≤ p.1) && decide (p.1 < R)) && (decide (0 ≤ p.2) && decide (p.2 < C))
theorem inC_iff {p : Sq} : inC R C p = true ↔ (0 ≤ p.1 ∧ p.1 < R) ∧ 0 ≤ p.2 ∧ p.2 < C := by unfold inC; simp
def gt (R C : Nat) (g : Nat → Nat → Bool) (p : Sq) : Bool := inC R C p && g p.1.toNat p.2.toNat
def places (R C : Nat) : List Sq := (List.range R).flatMap fun r : Nat => (List.range C).map fun c : Nat => ((r : Int), (c : Int))
theorem mem_places {p : Sq} : p ∈ places R C ↔ inC R C p = true := by
  unfold places
  rw [inC_iff]
  simp only [List.mem_flatMap, List.mem_map, List.mem_range]
  constructor
  · rintro ⟨r, hr, c, hc, rfl⟩
    simp only
    omega
  · rintro ⟨⟨h1, h2⟩, h3, h4⟩
    exact ⟨p.1.toNat, by omega, p.2.toNat, by omega, Prod.ext (by simp only; omega) (by simp only; omega)⟩
theorem nodup_map {α β : Type} {f : α → β} (hf : ∀ a b, f a = f b → a = b) : ∀ {l : List α}, l.Nodup → (l.map f).Nodup
  | [], _ => List.nodup_nil
  | x :: l, h => by
    rw [List.nodup_cons] at h
    rw [List.map_cons, List.nodup_cons]
    refine ⟨fun m => ?_, nodup_map hf h.2⟩
    obtain ⟨y, hy, e⟩ := List.mem_map.mp m
    exact h.1 (hf _ _ e ▸ hy)
theorem nodup_flat {α β : Type} {f : α → List β} (h1 : ∀ a, (f a).Nodup) (h2 : ∀ a b x, x ∈ f a → x ∈ f b → a = b) : ∀ {l : List α}, l.Nodup → (l.flatMap f).Nodup
  | [], _ => List.nodup_nil
  | x :: l, h => by
    rw [List.nodup_cons] at h
    rw [List.flatMap_cons, List.nodup_append]
    refine ⟨h1 x, nodup_flat h1 h2 h.2, fun a ha b hb e => ?_⟩
    subst e
    obtain ⟨y, hy, hb⟩ := List.mem_flatMap.mp hb
    exact h.1 (h2 _ _ _ ha hb ▸ hy)
theorem nodup_places : (places R C).Nodup := by
  unfold places
  refine nodup_flat (fun r => nodup_map (fun a b h => ?_) List.nodup_range) (fun a b x h1 h2 => ?_) List.nodup_range
  · have := congrArg Prod.snd h
    simp only at this
    omega
  · obtain ⟨c, _, rfl⟩ := List.mem_map.mp h1
    obtain ⟨c', _, e⟩ := List.mem_map.mp h2
    have := congrArg Prod.fst e
    simp only at this
    omega
theorem places_length : (places R C).length = R * C := by
  unfold places
  rw [List.length_flatMap]
  simp only [List.length_map, List.length_range]
  rw [sum_const, List.length_range]
theorem head_ix (hR : 1 ≤ R) (hC : C ≤ 10000) : ((ix (ch R C g) (0 : Int)) >>= fun a => lenS a) = pure (C : Int) := by
  rw [show (0 : Int) = ((0 : Nat) : Int) from rfl, ix_nat (ch_get (by omega)), pure_bind, lenS_row hC]
theorem at_ix {p : Sq} (h : inC R C p = true) (hC : C ≤ 10000) : ((ix (ch R C g) p.1) >>= fun a => six a p.2) = pure (sg (g p.1.toNat p.2.toNat)) := by
  rw [inC_iff] at h
  have e1 : p.1 = (p.1.toNat : Int) := by omega
  have e2 : p.2 = (p.2.toNat : Int) := by omega
  have q : ((ix (ch R C g) (p.1.toNat : Int)) >>= fun a => six a (p.2.toNat : Int)) = pure (sg (g p.1.toNat p.2.toNat)) := by
    rw [ix_nat (ch_get (by omega)), pure_bind, six_row (by omega) hC]
  rw [← e1, ← e2] at q
  exact q
theorem is_square_ok (hC : C ≤ 10000) (p : Sq) : m_is_square (ch R C g) p = pure (inC R C p) := by
  unfold m_is_square inC
  rw [ch_length]
  by_cases h : (decide (0 ≤ p.1) && decide (p.1 < (R : Int))) = true
  · rw [if_pos h, h]
    simp only [Bool.and_eq_true, decide_eq_true_eq] at h
    rw [pure_bind, pure_bind]
    by_cases h2 : 0 ≤ p.2
    · rw [if_pos (decide_eq_true h2), head_ix (by omega) hC, pure_bind]
      simp [h2]
    · rw [if_neg (by simpa using h2)]
      simp [h2]
  · rw [if_neg h]
    simp only [Bool.not_eq_true] at h
    rw [h]; rfl
theorem is_land_ok (hC : C ≤ 10000) (p : Sq) : m_is_land (ch R C g) p = pure (gt R C g p) := by
  unfold m_is_land gt
  rw [is_square_ok hC, M.and_pure]
  by_cases h : inC R C p = true
  · rw [if_pos h, h, at_ix h hC, pure_bind, sg_x]; rfl
  · rw [if_neg h]
    simp only [Bool.not_eq_true] at h
    rw [h]; rfl
theorem squares_of_ok (hR : R ≤ 1000) (hC : C ≤ 1000) (hRC : R * C ≤ 10000) : m_squares_of (ch R C g) = pure (places R C) := by
  unfold m_squares_of
  rw [ch_length, rng1_nat, pure_bind]
  unfold cmp2
  rw [coll2_map (h := fun r : Int => (List.range C).map fun c : Nat => (r, (c : Int)))]
  · rw [List.flatMap_map]
    show lim (pure (places R C)) = _
    exact lim_pure (sl_small (by rw [places_length]; exact hRC))
  · intro r hr
    obtain ⟨j, hj, rfl⟩ := List.mem_map.mp hr
    rw [head_ix (by have := List.mem_range.mp hj; omega) (by omega), pure_bind, rng1_nat, pure_bind]
    rw [coll_map (h := fun c : Int => ((j : Int), c)) (fun _ _ => rfl), List.map_map]
    rfl
theorem land_squares_ok (hR : R ≤ 1000) (hC : C ≤ 1000) (hRC : R * C ≤ 10000) : m_land_squares (ch R C g) = pure ((places R C).filter (gt R C g)) := by
  unfold m_land_squares
  rw [squares_of_ok hR hC hRC, pure_bind, cmp_filter_id (by rw [places_length]; exact hRC) fun p _ => is_land_ok (by omega) p]
def nb (p : Sq) : List Sq := [(p.1 - 1, p.2), (p.1, p.2 - 1), (p.1, p.2 + 1), (p.1 + 1, p.2)]
theorem side_ok (p : Sq) : m_side_neighbours p = pure (nb p) := rfl
/-! ### rows of one's own -/
theorem gch_get {r : Nat} (h : r < R) : (gch R C g)[r]? = some ((List.range C).map fun c => sg (g r c)) := by unfold gch; simp [h]
theorem set_range {α : Type} {n k : Nat} {f : Nat → α} {v : α} : ((List.range n).map f).set k v = (List.range n).map (fun i => if i = k then v else f i) := by
  apply List.ext_getElem
  · simp
  intro i h1 h2
  rw [List.getElem_set]
  by_cases e : k = i
  · subst e; simp
  · have : ¬ i = k := fun z => e z.symm
    simp [e, this]
def put (g : Nat → Nat → Bool) (r c : Nat) (b : Bool) : Nat → Nat → Bool := fun x y => if x = r ∧ y = c then b else g x y
theorem gch_set {r c : Nat} {b : Bool} (hr : r < R) (hc : c < C) : setG (gch R C g) (r : Int) (c : Int) (sg b) = pure (gch R C (put g r c b)) := by
  unfold setG
  rw [ix_nat (gch_get hr), pure_bind, setI_nat (by simpa using hc), pure_bind, gch_length, ixN_nat hr]
  show M.ofO (some _) = _
  rw [M.ofO_some]
  congr 1
  unfold gch
  show ((List.range R).map fun r => (List.range C).map fun c => sg (g r c)).set r _ = _
  rw [set_range, set_range]
  refine List.map_congr_left fun x _ => ?_
  by_cases e : x = r
  · subst e
    rw [if_pos rfl]
    refine List.map_congr_left fun y _ => ?_
    unfold put
    by_cases e2 : y = c <;> simp [e2]
  · rw [if_neg e]
    refine List.map_congr_left fun y _ => ?_
    unfold put
    simp [e]
theorem gch_setI {p : Sq} {b : Bool} (h : inC R C p = true) : setG (gch R C g) p.1 p.2 (sg b) = pure (gch R C (put g p.1.toNat p.2.toNat b)) := by
  rw [inC_iff] at h
  have e1 : p.1 = (p.1.toNat : Int) := by omega
  have e2 : p.2 = (p.2.toNat : Int) := by omega
  have := gch_set (g := g) (b := b) (show p.1.toNat < R by omega) (show p.2.toNat < C by omega)
  rw [← e1, ← e2] at this
  exact this
theorem gch_ix {p : Sq} (h : inC R C p = true) : ((ix (gch R C g) p.1) >>= fun a => ix a p.2) = pure (sg (g p.1.toNat p.2.toNat)) := by
  rw [inC_iff] at h
  have e1 : p.1 = (p.1.toNat : Int) := by omega
  have e2 : p.2 = (p.2.toNat : Int) := by omega
  have q : ((ix (gch R C g) (p.1.toNat : Int)) >>= fun a => ix a (p.2.toNat : Int)) = pure (sg (g p.1.toNat p.2.toNat)) := by
    rw [ix_nat (gch_get (by omega)), pure_bind, ix_nat]
    rw [List.getElem?_map, List.getElem?_range (by omega)]; rfl
  rw [← e1, ← e2] at q
  exact q
theorem rows_own (hR : R ≤ 1000) (hC : C ≤ 1000) : cmp (fun _ => pure true) (fun x => listS x) (ch R C g) = pure (gch R C g) := by
  unfold ch gch
  rw [show (List.range R).map (fun r => (List.range C).map fun c => sg (g r c)) = ((List.range R).map fun r => rowS C (g r)).map charsL by
    rw [List.map_map]
    exact List.map_congr_left fun r _ => charsL_row.symm]
  refine cmp_map (by simp; omega) fun x hx => ?_
  obtain ⟨r, _, rfl⟩ := List.mem_map.mp hx
  rw [listS_row (by omega), charsL_row]
theorem rows_back (hR : R ≤ 1000) (hC : C ≤ 1000) : cmp (fun _ => pure true) (fun x => joinM ("" : PySem.Str) x) (gch R C g) = pure (ch R C g) := by
  have e : ch R C g = (gch R C g).map (Txt.join ("" : PySem.Str)) := by
    unfold ch gch
    rw [List.map_map]
    exact List.map_congr_left fun r _ => join_row.symm
  rw [e]
  refine cmp_map (by rw [gch_length]; omega) fun x hx => ?_
  unfold gch at hx
  obtain ⟨r, _, rfl⟩ := List.mem_map.mp hx
  rw [joinM_row (by omega), join_row]
theorem ch_congr {g' : Nat → Nat → Bool} (h : ∀ r < R, ∀ c < C, g r c = g' r c) : ch R C g = ch R C g' := by
  unfold ch
  refine List.map_congr_left fun r hr => ?_
  unfold rowS
  congr 2
  refine List.map_congr_left fun c hc => ?_
  rw [h r (List.mem_range.mp hr) c (List.mem_range.mp hc)]
theorem gch_congr {g' : Nat → Nat → Bool} (h : ∀ r < R, ∀ c < C, g r c = g' r c) : gch R C g = gch R C g' := by
  unfold gch
  refine List.map_congr_left fun r hr => List.map_congr_left fun c hc => ?_
  rw [h r (List.mem_range.mp hr) c (List.mem_range.mp hc)]
theorem at_back {p : Sq} (h : inC R C p = true) : ((p.1.toNat : Int), (p.2.toNat : Int)) = p := by
  rw [inC_iff] at h
  exact Prod.ext (by simp only; omega) (by simp only; omega)
theorem in_nat {r c : Nat} (hr : r < R) (hc : c < C) : inC R C ((r : Int), (c : Int)) = true := by rw [inC_iff]; simp only; omega
/-- squares set to land, or to water -/
theorem with_squares_ok (hR : R ≤ 1000) (hC : C ≤ 1000) (sqs : List Sq) (b : Bool) : m_with_squares (ch R C g) sqs b = pure (ch R C fun r c => if ((r : Int), (c : Int)) ∈ sqs then b else g r c) := by
  unfold m_with_squares
  rw [rows_own hR hC, pure_bind]
  have key : ∀ (l : List Sq) (g : Nat → Nat → Bool), forL (fun (s3 : (List (List PySem.Str))) x5 => ((m_is_square (ch R C g) x5) >>= fun b' => if b' = true then (setG s3 x5.1 x5.2 (if b = true then ("x" : PySem.Str) else ("." : PySem.Str)) >>= fun grid6 => (pure grid6)) else (pure s3))) (gch R C g) l = pure (gch R C fun r c => if ((r : Int), (c : Int)) ∈ l then b else g r c) := by
    intro l g0
    have : ∀ (l : List Sq) (g : Nat → Nat → Bool), forL (fun (s3 : (List (List PySem.Str))) x5 => ((m_is_square (ch R C g0) x5) >>= fun b' => if b' = true then (setG s3 x5.1 x5.2 (if b = true then ("x" : PySem.Str) else ("." : PySem.Str)) >>= fun grid6 => (pure grid6)) else (pure s3))) (gch R C g) l = pure (gch R C fun r c => if ((r : Int), (c : Int)) ∈ l then b else g r c) := by
      intro l
      induction l with
      | nil => intro g; rw [forL_nil]; simp
      | cons x xs ih =>
        intro g
        rw [forL_cons, is_square_ok (by omega), pure_bind]
        by_cases h : inC R C x = true
        · rw [if_pos h]
          have hs : setG (gch R C g) x.1 x.2 (if b = true then ("x" : PySem.Str) else ("." : PySem.Str)) = _ := gch_setI h
          rw [hs, pure_bind, pure_bind, ih]
          congr 1
          refine gch_congr fun r hr c hc => ?_
          unfold put
          have e := at_back h
          by_cases h2 : ((r : Int), (c : Int)) ∈ xs
          · simp [h2]
          · by_cases h3 : r = x.1.toNat ∧ c = x.2.toNat
            · have : ((r : Int), (c : Int)) = x := by rw [h3.1, h3.2]; exact e
              rw [if_neg h2, if_pos h3, if_pos (List.mem_cons.mpr (.inl this))]
            · have : ¬ ((r : Int), (c : Int)) = x := fun z => h3 (by rw [← z]; simp)
              rw [if_neg h2, if_neg h3, if_neg (by rw [List.mem_cons]; exact not_or.mpr ⟨this, h2⟩)]
        · rw [if_neg h, pure_bind, ih]
          congr 1
          refine gch_congr fun r hr c hc => ?_
          have : ¬ ((r : Int), (c : Int)) = x := fun z => h (by rw [← z]; exact in_nat hr hc)
          simp [this]
    exact this l g0
  rw [key, pure_bind]
  show (cmp (fun x7 => pure true) (fun x7 => joinM ("" : PySem.Str) x7) _ >>= fun a => pure a) = _
  rw [rows_back hR hC, pure_bind]
end PL

/-! PL2: all squares, drawn charts. -/
namespace PL
open PySem PySem.Spec PyProof.Rows L2 VL
section
variable {α β S : Type}
theorem forL_app {h : α → β} {f : List β → α → M (List β)} : ∀ (l : List α) (s : List β), (∀ s, ∀ x ∈ l, f s x = M.chk (s.length < sizeLine) >>= fun _ => pure (s ++ [h x])) → s.length + l.length ≤ 10000 → forL f s l = pure (s ++ l.map h)
  | [], s, _, _ => by rw [forL_nil]; simp
  | x :: xs, s, hf, hl => by
    rw [List.length_cons] at hl
    rw [forL_cons, hf s x (by simp), M.chk_pos (sl_lt (by omega)), pure_bind, pure_bind, forL_app xs _ (fun s y m => hf s y (by simp [m])) (by rw [List.length_append]; simp only [List.length_cons, List.length_nil]; omega)]
    simp
theorem forL_apps {h : α → List β} {f : List β → α → M (List β)} : ∀ (l : List α) (s : List β), (∀ s, ∀ x ∈ l, s.length + (h x).length ≤ 10000 → f s x = pure (s ++ h x)) → s.length + (l.flatMap h).length ≤ 10000 → forL f s l = pure (s ++ l.flatMap h)
  | [], s, _, _ => by rw [forL_nil]; simp
  | x :: xs, s, hf, hl => by
    rw [List.flatMap_cons, List.length_append] at hl
    rw [forL_cons, hf s x (by simp) (by omega), pure_bind, forL_apps xs _ (fun s y m => hf s y (by simp [m])) (by rw [List.length_append]; omega)]
    simp [List.flatMap_cons]
/-! ### draws -/
variable {d : Addr} {n n' : Nat} {P : α → Prop} {Q : β → Prop} {m : M α}
theorem Tk.forL_ind {f : S → α → M S} (P : Nat → S → Prop) : ∀ (l : List α) (k : Nat) (s : S), (∀ i x s, l[i]? = some x → P (k + i) s → Tk d n (f s x) (P (k + i + 1))) → P k s → Tk d (l.length * n) (forL f s l) (P (k + l.length))
  | [], k, s, _, h0 => by
    rw [forL_nil]
    exact Tk.mono (Tk.pure h0) (Nat.zero_le _) fun _ h => h
  | x :: xs, k, s, hf, h0 => by
    rw [forL_cons]
    refine Tk.mono (Tk.bind (hf 0 x s rfl h0) fun s' h' => forL_ind P xs (k + 1) s' (fun i y s hi hp => ?_) h') (by rw [List.length_cons, Nat.succ_mul]; omega) fun a h => by rw [List.length_cons]; rw [show k + (xs.length + 1) = k + 1 + xs.length from by omega]; exact h
    have := hf (i + 1) y s (by simpa using hi) (by rw [show k + (i + 1) = k + 1 + i from by omega]; exact hp)
    rw [show k + 1 + i + 1 = k + (i + 1) + 1 from by omega]
    exact this
theorem Tk.forL_inv {f : S → α → M S} (P : S → Prop) (l : List α) (s : S) (hf : ∀ x s, x ∈ l → P s → Tk d n (f s x) P) (h0 : P s) : Tk d (l.length * n) (forL f s l) P :=
  Tk.forL_ind (fun _ => P) l 0 s (fun i x s hi hp => hf x s (List.mem_of_getElem? hi) hp) h0
/-- nothing is drawn -/
theorem Tk.of_pure {a : α} (e : m = pure a) (h : P a) : Tk d n m P := by
  rw [e]; exact Tk.mono (Tk.pure h) (Nat.zero_le _) fun _ h => h
theorem Tk.coll {f : α → M Bool} {g : α → β} {l : List α} (hf : ∀ x ∈ l, Tk d n (f x) fun _ => True) : Tk d (l.length * n) (VL.coll f (fun x => Pure.pure (g x)) l) fun r => ∃ p : List α, p.Sublist l ∧ r = p.map g := by
  induction l with
  | nil => exact Tk.of_pure rfl ⟨[], .slnil, rfl⟩
  | cons x xs ih =>
    unfold VL.coll
    refine Tk.mono (Tk.bind (n' := xs.length * n) (hf x (by simp)) fun b _ => ?_) (by rw [List.length_cons, Nat.succ_mul]; omega) fun a h => h
    have ih := ih fun y m => hf y (by simp [m])
    by_cases h : b = true
    · rw [if_pos h, pure_bind]
      refine Tk.mono (Tk.bind (n' := 0) ih fun ys ⟨p, hp, e⟩ => Tk.pure ⟨x :: p, hp.cons₂ x, by rw [e]; rfl⟩) (by omega) fun a h => h
    · rw [if_neg h]
      exact Tk.mono ih (Nat.le_refl _) fun ys ⟨p, hp, e⟩ => ⟨p, hp.cons x, e⟩
theorem Tk.cmp {f : α → M Bool} {g : α → β} {l : List α} (hl : l.length ≤ 10000) (hf : ∀ x ∈ l, Tk d n (f x) fun _ => True) : Tk d (l.length * n) (VL.cmp f (fun x => Pure.pure (g x)) l) fun r => ∃ p : List α, p.Sublist l ∧ r = p.map g := by
  unfold VL.cmp VL.lim
  refine Tk.mono (Tk.bind (n' := 0) (Tk.coll hf) fun r ⟨p, hp, e⟩ => ?_) (by omega) fun a h => h
  refine Tk.of_pure ?_ ⟨p, hp, e⟩
  rw [M.chk_pos (sl_small (by rw [e, List.length_map]; exact Nat.le_trans hp.length_le hl)), pure_bind]
end
variable {R C : Nat} {g : Nat → Nat → Bool}
theorem law_all_ok (hR : R ≤ 1000) (hC : C ≤ 1000) (hRC : R * C ≤ 10000) : m__law_all (ch R C g) = pure (places R C) := by
  unfold m__law_all
  rw [ch_length, rng1_nat, pure_bind]
  have hp : ((List.range R).map fun i : Nat => (i : Int)).flatMap (fun r : Int => (List.range C).map fun c : Nat => (r, (c : Int))) = places R C := by
    rw [List.flatMap_map]; rfl
  rw [forL_apps (h := fun r : Int => (List.range C).map fun c : Nat => (r, (c : Int))), pure_bind]
  · rw [hp]; rfl
  · intro s x hx hl
    obtain ⟨j, hj, rfl⟩ := List.mem_map.mp hx
    rw [head_ix (by have := List.mem_range.mp hj; omega) (by omega), pure_bind, rng1_nat, pure_bind]
    rw [forL_app (h := fun c : Int => ((j : Int), c)) _ _ (fun _ _ _ => rfl) (by simpa using hl), pure_bind, List.map_map]
    rfl
  · rw [hp, places_length]
    simpa using hRC
theorem law_at_ok (hC : C ≤ 10000) (r c : Int) : m__law_at (ch R C g) r c = pure (gt R C g (r, c)) := by
  unfold m__law_at gt inC
  rw [ch_length]
  by_cases h : (decide (0 ≤ r) && decide (r < (R : Int))) = true
  · rw [if_pos h, h]
    simp only [Bool.and_eq_true, decide_eq_true_eq] at h
    rw [pure_bind, pure_bind]
    by_cases h2 : 0 ≤ c
    · rw [if_pos (decide_eq_true h2), head_ix (by omega) hC, pure_bind, M.and_pure]
      by_cases h3 : c < (C : Int)
      · rw [if_pos (decide_eq_true h3)]
        have := at_ix (R := R) (C := C) (g := g) (p := (r, c)) (by rw [inC_iff]; exact ⟨h, h2, h3⟩) hC
        simp only at this
        rw [this, pure_bind, sg_x]
        simp [h2, h3]
      · rw [if_neg (by simpa using h3)]
        simp [h2, h3]
    · rw [if_neg (by simpa using h2), M.and_pure, if_neg (by simp)]
      simp [h2]
  · rw [if_neg h]
    simp only [Bool.not_eq_true] at h
    rw [h]; rfl
theorem law_dry_ok (hR : R ≤ 1000) (hC : C ≤ 1000) (hRC : R * C ≤ 10000) : m__law_dry (ch R C g) = pure ((places R C).filter (gt R C g)) := by
  unfold m__law_dry
  rw [law_all_ok hR hC hRC, pure_bind, cmp_filter (h := fun x => x) (p := gt R C g) (by rw [places_length]; exact hRC), List.map_id']
  · intro x hx
    have h := mem_places.mp hx
    rw [at_ix h (by omega), pure_bind, sg_x]
    unfold gt
    rw [h]; rfl
  · intro x _ _; rfl
/-! ### a drawn chart -/
theorem snoc_row {i : Nat} {f : Nat → Bool} {b : Bool} : ((List.range i).map fun c => sg (f c)) ++ [sg b] = (List.range (i + 1)).map fun c => sg (if c = i then b else f c) := by
  rw [List.range_succ, List.map_append]
  congr 1
  · refine List.map_congr_left fun c hc => ?_
    have := List.mem_range.mp hc
    rw [if_neg (by omega)]
  · simp
theorem snoc_grid {i : Nat} {g : Nat → Nat → Bool} {f : Nat → Bool} : gch i C g ++ [(List.range C).map fun c => sg (f c)] = gch (i + 1) C fun r c => if r = i then f c else g r c := by
  unfold gch
  rw [List.range_succ, List.map_append]
  congr 1
  · refine List.map_congr_left fun r hr => ?_
    have := List.mem_range.mp hr
    have h : r ≠ i := by omega
    simp [h]
  · simp
theorem modI_two {a : Int} : modI a 2 = pure (a % 2) := by
  unfold modI
  rw [M.chk_pos (by decide), pure_bind]
theorem divI_two {a : Int} : divI a 2 = pure (a / 2) := by
  unfold divI
  rw [M.chk_pos (by unfold CDiv; decide), pure_bind]
theorem ix2 {a b : Int} {k : Int} (h : k % 2 = k) : ∃ v, ix [a, b] k = pure v := by
  have h0 : 0 ≤ k := by omega
  have h1 : k < 2 := by omega
  have : k.toNat = 0 ∨ k.toNat = 1 := by omega
  rcases this with e | e
  · exact ⟨a, ix_int h0 (by rw [e]; rfl)⟩
  · exact ⟨b, ix_int h0 (by rw [e]; rfl)⟩
theorem Tk.ex {α : Type} {d : Addr} {n : Nat} {m : M α} (h : ∃ v, m = pure v) : Tk d n m (fun _ => True) := by
  obtain ⟨v, e⟩ := h
  exact Tk.of_pure e trivial
theorem law_grid_tk {d : Addr} (hR : 1 ≤ R) (hR2 : R ≤ 1000) (hC : 1 ≤ C) (hC2 : C ≤ 1000) : Tk d (1 + (1 + (R * (C * 2) + (1 + 3 * 2)))) (m__law_grid d R C) fun c => ∃ g, c = ch R C g := by
  unfold m__law_grid
  refine Tk.bind (Tk.take (by decide)) fun style _ => ?_
  refine Tk.bind (n := 1) (P := fun k => 0 < k) (Tk.mono (Tk.bind (n' := 0) (Tk.take (by decide)) fun k hk => ?_) (Nat.le_refl _) fun _ h => h) fun chance hch => ?_
  · obtain ⟨h0, h4⟩ := hk
    have : k.toNat = 0 ∨ k.toNat = 1 ∨ k.toNat = 2 ∨ k.toNat = 3 := by omega
    rcases this with e | e | e | e
    · exact Tk.of_pure (ix_int (a := (2 : Int)) h0 (by rw [e]; rfl)) (by decide)
    · exact Tk.of_pure (ix_int (a := (3 : Int)) h0 (by rw [e]; rfl)) (by decide)
    · exact Tk.of_pure (ix_int (a := (4 : Int)) h0 (by rw [e]; rfl)) (by decide)
    · exact Tk.of_pure (ix_int (a := (5 : Int)) h0 (by rw [e]; rfl)) (by decide)
  rw [rng1_nat, pure_bind]
  have hl : ((List.range R).map fun i : Nat => (i : Int)).length = R := by simp
  refine Tk.bind (n := R * (C * 2)) (P := fun s => ∃ g, s = gch R C g) ?_ fun s ⟨g, hs⟩ => ?_
  · refine Tk.mono (Tk.forL_ind (n := C * 2) (fun i s => ∃ g, s = gch i C g) _ 0 _ (fun i x s hi hp => ?_) ⟨fun _ _ => false, rfl⟩) (by rw [hl]; exact Nat.le_refl _) fun s h => by rw [hl, Nat.zero_add] at h; exact h
    · obtain ⟨g, rfl⟩ := hp
      rw [rng1_nat, pure_bind]
      have hlC : ((List.range C).map fun i : Nat => (i : Int)).length = C := by simp
      have hi2 : i < R := by
        have := (List.getElem?_eq_some_iff.mp hi).1
        rw [hl] at this; exact this
      refine Tk.mono (Tk.bind (n := C * 2) (n' := 0) (P := fun r => ∃ f : Nat → Bool, r = (List.range C).map fun c => sg (f c)) ?_ fun r ⟨f, hr⟩ => ?_) (Nat.le_refl _) fun _ h => h
      · refine Tk.mono (Tk.forL_ind (n := 2) (fun i r => ∃ f : Nat → Bool, r = (List.range i).map fun c => sg (f c)) _ 0 _ (fun k y r hk hp => ?_) ⟨fun _ => false, rfl⟩) (by rw [hlC]; exact Nat.le_refl _) fun s h => by rw [hlC, Nat.zero_add] at h; exact h
        · obtain ⟨f, rfl⟩ := hp
          have hk2 : k < C := by
            have := (List.getElem?_eq_some_iff.mp hk).1
            rw [hlC] at this; exact this
          refine Tk.mono (n := 1 + (1 + (0 + (0 + (0 + 0))))) ?_ (Nat.le_refl _) fun _ h => h
          refine Tk.bind (P := fun _ => True) (Tk.mono (Tk.bind (n' := 0) (Tk.take hch) fun a _ => Tk.of_pure rfl trivial) (Nat.le_refl _) fun _ h => h) fun b1 _ => ?_
          refine Tk.bind (P := fun _ => True) ?_ fun b2 _ => ?_
          · by_cases h : decide (style = 1) = true
            · rw [if_pos h]
              exact Tk.mono (Tk.bind (n := 1) (n' := 0) (P := fun _ => True) (Tk.mono (Tk.bind (n' := 0) (Tk.take hch) fun a _ => Tk.of_pure rfl trivial) (Nat.le_refl _) fun _ h => h) fun _ _ => Tk.of_pure rfl trivial) (Nat.le_refl _) fun _ h => h
            · rw [if_neg h]; exact Tk.of_pure rfl trivial
          refine Tk.bind (P := fun _ => True) (Tk.ex ?_) fun b3 _ => ?_
          · by_cases h : decide (style = 2) = true
            · rw [if_pos h, modI_two]; exact ⟨_, rfl⟩
            · rw [if_neg h]; exact ⟨_, rfl⟩
          refine Tk.bind (P := fun _ => True) (Tk.ex ?_) fun b4 _ => ?_
          · by_cases h : decide (style = 3) = true
            · rw [if_pos h, modI_two]; exact ⟨_, rfl⟩
            · rw [if_neg h]; exact ⟨_, rfl⟩
          refine Tk.bind (P := fun _ => True) (Tk.ex ?_) fun b5 _ => ?_
          · by_cases h : decide (style = 4) = true
            · rw [if_pos h, modI_two, pure_bind, M.or_pure, divI_two, pure_bind, modI_two, pure_bind]
              obtain ⟨v, hv⟩ := ix2 (a := 0) (b := (C : Int) - 1) (k := x / 2 % 2) (by omega)
              rw [hv]
              split <;> exact ⟨_, rfl⟩
            · rw [if_neg h]; exact ⟨_, rfl⟩
          refine Tk.of_pure (a := (List.range (0 + k + 1)).map fun c => sg (if c = 0 + k then b5 else f c)) ?_ ⟨_, rfl⟩
          rw [M.chk_pos (sl_lt (by simp; omega)), pure_bind]
          have := snoc_row (i := 0 + k) (f := f) (b := b5)
          rw [← this]; rfl
      · refine Tk.of_pure (a := gch (0 + i + 1) C fun r c => if r = 0 + i then f c else g r c) ?_ ⟨_, rfl⟩
        rw [M.chk_pos (sl_lt (by rw [gch_length]; omega)), pure_bind, hr, snoc_grid]
  · subst hs
    refine Tk.bind (n := 1) (n' := 3 * 2) (P := fun l : List Int => l.length ≤ 3) (Tk.mono (Tk.bind (n' := 0) (Tk.take (by decide)) fun k hk => Tk.of_pure (rng1_int hk.1 (by omega)) (by simp; omega)) (Nat.le_refl _) fun _ h => h) fun l hl3 => ?_
    refine Tk.mono (Tk.bind (n := l.length * 2) (n' := 0) (P := fun s => ∃ g, s = gch R C g) (Tk.forL_inv _ l _ (fun x s _ hp => ?_) ⟨g, rfl⟩) fun s ⟨g', hs⟩ => ?_) (by omega) fun _ h => h
    · obtain ⟨g', rfl⟩ := hp
      refine Tk.mono (n := 1 + (1 + 0)) (Tk.bind (Tk.take (by omega)) fun r hr => Tk.bind (Tk.take (by omega)) fun c hc => ?_) (Nat.le_refl _) fun _ h => h
      have hin : inC R C (r, c) = true := by rw [inC_iff]; exact ⟨hr, hc⟩
      have h1 := gch_ix (g := g') hin
      simp only at h1
      rw [h1, pure_bind, pure_bind, sg_x]
      by_cases hb : g' r.toNat c.toNat = true
      · rw [if_pos hb, pure_bind]
        have e : setG (gch R C g') r c (sg false) = _ := gch_setI (p := (r, c)) hin
        refine Tk.of_pure (a := gch R C (put g' r.toNat c.toNat false)) ?_ ⟨_, rfl⟩
        show (setG (gch R C g') r c (sg false) >>= fun x => pure x) = _
        rw [e, pure_bind]
      · rw [if_neg hb, pure_bind]
        have e : setG (gch R C g') r c (sg true) = _ := gch_setI (p := (r, c)) hin
        refine Tk.of_pure (a := gch R C (put g' r.toNat c.toNat true)) ?_ ⟨_, rfl⟩
        show (setG (gch R C g') r c (sg true) >>= fun x => pure x) = _
        rw [e, pure_bind]
    · subst hs
      refine Tk.of_pure (a := ch R C g') ?_ ⟨_, rfl⟩
      show (cmp (fun x7 => pure true) (fun x7 => joinM ("" : PySem.Str) x7) _ >>= fun a => pure a) = _
      rw [rows_back hR2 hC2, pure_bind]
end PL

/-! K79a: presses; what the judges answer. -/
namespace L79
open PySem PySem.Spec PyProof.Rows L2 VL PL
/-! ### parities -/
def par : List Sq → (Sq → Bool) → Bool
  | [], _ => false
  | x :: l, p => (p x).xor (par l p)
theorem par_nil {p : Sq → Bool} : par [] p = false := rfl
theorem par_cons {p : Sq → Bool} {x : Sq} {l : List Sq} : par (x :: l) p = (p x).xor (par l p) := rfl
theorem par_append {p : Sq → Bool} : ∀ l m : List Sq, par (l ++ m) p = (par l p).xor (par m p)
  | [], m => by simp [par]
  | x :: l, m => by rw [List.cons_append, par_cons, par_cons, par_append l m, Bool.xor_assoc]
theorem par_congr {p q : Sq → Bool} : ∀ {l : List Sq}, (∀ x ∈ l, p x = q x) → par l p = par l q
  | [], _ => rfl
  | x :: l, h => by rw [par_cons, par_cons, h x (by simp), par_congr fun y m => h y (by simp [m])]
theorem par_false {p : Sq → Bool} : ∀ {l : List Sq}, (∀ x ∈ l, p x = false) → par l p = false
  | [], _ => rfl
  | x :: l, h => by rw [par_cons, h x (by simp), par_false fun y m => h y (by simp [m])]; rfl
theorem par_xor {p q : Sq → Bool} : ∀ l : List Sq, par l (fun x => (p x).xor (q x)) = (par l p).xor (par l q)
  | [] => rfl
  | x :: l => by
    rw [par_cons, par_cons, par_cons, par_xor l]
    cases p x <;> cases q x <;> cases par l p <;> cases par l q <;> rfl
theorem par_perm {p : Sq → Bool} {l m : List Sq} (h : l.Perm m) : par l p = par m p := by
  induction h with
  | nil => rfl
  | cons x _ ih => rw [par_cons, par_cons, ih]
  | swap x y l => rw [par_cons, par_cons, par_cons, par_cons]; cases p x <;> cases p y <;> simp
  | trans _ _ h1 h2 => rw [h1, h2]
theorem par_filter {p q : Sq → Bool} : ∀ l : List Sq, par (l.filter q) p = par l fun x => q x && p x
  | [] => rfl
  | x :: l => by
    rw [List.filter_cons, par_cons]
    cases h : q x with
    | true => rw [if_pos rfl, par_cons, par_filter l]; rfl
    | false => rw [if_neg (by simp), par_filter l]; simp
/-- sums in the other order -/
theorem par_swap {p : Sq → Sq → Bool} : ∀ l m : List Sq, par l (fun x => par m (p x)) = par m fun y => par l fun x => p x y
  | [], m => by
    rw [par_nil, par_false]
    intro x _; rfl
  | x :: l, m => by
    rw [par_cons, par_swap l m, ← par_xor]
    rfl
theorem odd_par {p : Sq → Bool} : ∀ l : List Sq, decide (((l.filter p).length : Int) % 2 = 1) = par l p
  | [] => rfl
  | x :: l => by
    rw [par_cons, ← odd_par l, List.filter_cons]
    cases h : p x with
    | true =>
      rw [if_pos rfl, List.length_cons]
      have : (((l.filter p).length + 1 : Nat) : Int) % 2 = 1 ↔ ¬ ((l.filter p).length : Int) % 2 = 1 := by omega
      by_cases z : ((l.filter p).length : Int) % 2 = 1
      · rw [decide_eq_true z, decide_eq_false (by rw [this]; exact fun h => h z)]; rfl
      · rw [decide_eq_false z, decide_eq_true (this.mpr z)]; rfl
    | false => rw [if_neg (by simp)]; simp
theorem even_par {p : Sq → Bool} (l : List Sq) : decide (((l.filter p).length : Int) % 2 = 0) = !par l p := by
  rw [← odd_par]
  by_cases z : ((l.filter p).length : Int) % 2 = 1
  · rw [decide_eq_true z, decide_eq_false (by omega)]; rfl
  · rw [decide_eq_false z, decide_eq_true (by omega)]; rfl
/-! ### who is beside whom -/
def full (p : Sq) : List Sq := p :: nb p
def adj (s q : Sq) : Bool := decide (q ∈ full s)
theorem full_nodup (p : Sq) : (full p).Nodup := by
  obtain ⟨a, b⟩ := p
  unfold full nb
  simp [List.nodup_cons, Prod.ext_iff]
  omega
theorem adj_symm (s q : Sq) : adj s q = adj q s := by
  unfold adj full nb
  obtain ⟨a, b⟩ := s
  obtain ⟨c, d⟩ := q
  apply decide_eq_decide.mpr
  simp [Prod.ext_iff]
  omega
variable {R C : Nat} {g : Nat → Nat → Bool}
def crs (R C : Nat) (p : Sq) : List Sq := p :: (nb p).filter (inC R C)
theorem mem_crs {p q : Sq} (h : inC R C q = true) : q ∈ crs R C p ↔ q ∈ full p := by
  unfold crs full
  simp [List.mem_cons, List.mem_filter, h]
theorem cross_ok (hC : C ≤ 1000) (p : Sq) : m_cross (ch R C g) p = pure (crs R C p) := by
  show (((PL.m_side_neighbours p) >>= cmp (fun x1 => (PL.m_is_square (ch R C g) x1)) (fun x1 => (pure x1))) >>= fun b => (cat ([p] : (List (Int × Int))) b)) = _
  rw [side_ok, pure_bind, cmp_filter_id (by unfold nb; simp) fun x _ => is_square_ok (by omega) x, pure_bind, cat_ok]
  · rfl
  · have := List.length_filter_le (fun x => inC R C x) (nb p)
    have e : (nb p).length = 4 := rfl
    simp only [List.length_cons, List.length_nil]
    omega
def fl (g : Nat → Nat → Bool) (s : Sq) : Nat → Nat → Bool := fun r c => (g r c).xor (adj s ((r : Int), (c : Int)))
/-- the chart behind presses -/
def PR (g : Nat → Nat → Bool) (l : List Sq) : Nat → Nat → Bool := fun r c => (g r c).xor (par l fun s => adj s ((r : Int), (c : Int)))
theorem fold_fl : ∀ (l : List Sq) (g : Nat → Nat → Bool), l.foldl fl g = PR g l
  | [], g => by
    funext r c
    unfold PR
    rw [List.foldl_nil, par_nil, Bool.xor_false]
  | x :: l, g => by
    rw [List.foldl_cons, fold_fl l]
    funext r c
    unfold PR fl
    rw [par_cons, Bool.xor_assoc]
theorem gt_nat {r c : Nat} (hr : r < R) (hc : c < C) : gt R C g ((r : Int), (c : Int)) = g r c := by
  unfold gt
  rw [in_nat hr hc]; rfl
theorem pressed_ok (hR : R ≤ 1000) (hC : C ≤ 1000) (l : List Sq) : m_pressed (ch R C g) l = pure (ch R C (PR g l)) := by
  rw [← fold_fl]
  show (forL (fun (s1 : (List PySem.Str)) x3 => ((m_cross s1 x3) >>= fun around4 => ((cmp (fun x5 => ((PL.m_is_land s1 x5) >>= fun x => pure (!x))) (fun x5 => (pure x5)) around4) >>= fun dry6 => ((cmp (fun x7 => (PL.m_is_land s1 x7)) (fun x7 => (pure x7)) around4) >>= fun wet8 => ((((PL.m_with_squares s1 dry6 true) >>= fun a => ((pure wet8) >>= fun a => ((pure false) >>= fun a => (pure ()) >>= fun g => pure (a, g)) >>= fun g => pure (a, g)) >>= fun g => pure (a, g)) >>= fun g => PL.m_with_squares g.1 g.2.1 g.2.2.1) >>= fun chart9 => (pure chart9)))))) (ch R C g) l >>= (fun (s1 : (List PySem.Str)) => (pure s1))) = _
  rw [forL_enc (e := ch R C) (g := fl) l g]
  · rfl
  · intro t x _
    have hl : (crs R C x).length ≤ 10000 := by
      have := List.length_filter_le (inC R C) (nb x)
      have e : (nb x).length = 4 := rfl
      unfold crs
      rw [List.length_cons]
      omega
    rw [cross_ok hC, pure_bind, cmp_filter_id (p := fun q => !gt R C t q) hl (fun q _ => by rw [is_land_ok (by omega)]; rfl), pure_bind,
      cmp_filter_id hl (fun q _ => is_land_ok (by omega) q), pure_bind, with_squares_ok hR hC]
    simp only [pure_bind]
    rw [with_squares_ok hR hC]
    simp only [pure_bind]
    congr 1
    refine ch_congr fun r hr c hc => ?_
    unfold fl adj
    have e := gt_nat (g := t) hr hc
    have m := mem_crs (p := x) (in_nat hr hc)
    simp only [List.mem_filter, m, e]
    by_cases h : ((r : Int), (c : Int)) ∈ full x
    · cases t r c <;> simp [h]
    · cases t r c <;> simp [h]
end L79

/-! K79b: the law's own presses; what the judges answer. -/
namespace L79
open PySem PySem.Spec PyProof.Rows L2 VL PL
variable {R C : Nat} {g : Nat → Nat → Bool}
def crsL (R C : Nat) (p : Sq) : List Sq := (full p).filter (inC R C)
theorem crsL_in {p : Sq} (h : inC R C p = true) : crsL R C p = crs R C p := by
  unfold crsL full crs
  rw [List.filter_cons, if_pos h]
theorem law_cross_ok (hC : C ≤ 1000) (p : Sq) : m__law_cross (ch R C g) p = pure (crsL R C p) := by
  show ((pure ([(p.1, p.2), ((p.1 - (1 : Int)), p.2), (p.1, (p.2 - (1 : Int))), (p.1, (p.2 + (1 : Int))), ((p.1 + (1 : Int)), p.2)] : (List (Int × Int)))) >>= fun around1 => (cmp (fun x2 => PL.m_is_square (ch R C g) x2) (fun x2 => (pure (x2.1, x2.2))) around1)) = _
  rw [pure_bind, cmp_filter (h := fun x => x) (p := inC R C) (by simp) (fun x _ => is_square_ok (by omega) x) (fun _ _ _ => rfl), List.map_id']
  rfl
def tog (g : Nat → Nat → Bool) (q : Sq) : Nat → Nat → Bool := put g q.1.toNat q.2.toNat (!g q.1.toNat q.2.toNat)
theorem fold_tog : ∀ (l : List Sq) (g : Nat → Nat → Bool), l.Nodup → (∀ q ∈ l, inC R C q = true) → ∀ r c : Nat, (l.foldl tog g) r c = (g r c).xor (decide (((r : Int), (c : Int)) ∈ l))
  | [], g, _, _, r, c => by simp
  | x :: l, g, hn, hi, r, c => by
    rw [List.nodup_cons] at hn
    rw [List.foldl_cons, fold_tog l _ hn.2 (fun q m => hi q (by simp [m]))]
    unfold tog put
    have e := at_back (hi x (by simp))
    by_cases h : r = x.1.toNat ∧ c = x.2.toNat
    · rw [if_pos h]
      have q : ((r : Int), (c : Int)) = x := by rw [h.1, h.2]; exact e
      rw [q, ← h.1, ← h.2]
      have : ¬ x ∈ l := hn.1
      simp [this]
    · rw [if_neg h]
      have q : ¬ ((r : Int), (c : Int)) = x := fun z => h (by rw [← z]; simp)
      congr 1
      exact decide_eq_decide.mpr ⟨fun m => List.mem_cons_of_mem _ m, fun m => (List.mem_cons.mp m).resolve_left q⟩
theorem law_press_ok (hR : R ≤ 1000) (hC : C ≤ 1000) (l : List Sq) : m__law_press (ch R C g) l = pure (ch R C (PR g l)) := by
  rw [← fold_fl]
  unfold m__law_press
  rw [rows_own hR hC, pure_bind]
  have key := forL_enc (f := fun (s3 : (List (List PySem.Str))) (x5 : Int × Int) => ((m__law_cross (ch R C g) x5) >>= fun l11 => forL (fun (s6 : (List (List PySem.Str))) x8 => (((((ix s6 x8.1) >>= fun a => (ix a x8.2)) >>= fun a => pure (decide (a = ("x" : PySem.Str)))) >>= fun x => if x = true then (pure ("." : PySem.Str)) else (pure ("x" : PySem.Str))) >>= fun a10 => setG s6 x8.1 x8.2 a10 >>= fun grid9 => (pure grid9))) s3 l11 >>= (fun (s6 : (List (List PySem.Str))) => (pure s6)))) (e := gch R C) (g := fl) l g (fun t x _ => by
    rw [law_cross_ok hC, pure_bind]
    have hin : ∀ q ∈ crsL R C x, inC R C q = true := fun q m => (List.mem_filter.mp m).2
    have inner : ∀ (l : List Sq) (t : Nat → Nat → Bool), (∀ q ∈ l, inC R C q = true) → forL (fun (s6 : (List (List PySem.Str))) (x8 : Int × Int) => (((((ix s6 x8.1) >>= fun a => (ix a x8.2)) >>= fun a => pure (decide (a = ("x" : PySem.Str)))) >>= fun x => if x = true then (pure ("." : PySem.Str)) else (pure ("x" : PySem.Str))) >>= fun a10 => setG s6 x8.1 x8.2 a10 >>= fun grid9 => (pure grid9))) (gch R C t) l = pure (gch R C (l.foldl tog t)) := by
      intro l
      induction l with
      | nil => intro t _; rfl
      | cons q l ih =>
        intro t hi
        have hq := hi q (by simp)
        rw [forL_cons, gch_ix hq, pure_bind, pure_bind, sg_x]
        have e : ((if t q.1.toNat q.2.toNat = true then (pure ("." : PySem.Str)) else (pure ("x" : PySem.Str))) : M PySem.Str) = pure (sg (!t q.1.toNat q.2.toNat)) := by
          cases t q.1.toNat q.2.toNat <;> rfl
        rw [e, pure_bind, gch_setI hq, pure_bind, pure_bind, ih _ fun q' m => hi q' (by simp [m])]
        rfl
    rw [inner _ _ hin, pure_bind]
    congr 1
    refine gch_congr fun r hr c hc => ?_
    rw [fold_tog (R := R) (C := C) _ _ (show (crsL R C x).Nodup from (full_nodup x).filter _) hin]
    unfold fl adj crsL
    congr 1
    refine decide_eq_decide.mpr ?_
    rw [List.mem_filter]
    exact ⟨fun h => h.1, fun h => ⟨h, in_nat hr hc⟩⟩)
  rw [key, pure_bind]
  show (cmp (fun x7 => pure true) (fun x7 => joinM ("" : PySem.Str) x7) _ >>= fun a => pure a) = _
  rw [rows_back hR hC, pure_bind]
/-! ### different squares of the chart -/
theorem cut_take {α : Type} {l : List α} {k : Nat} (h : k ≤ l.length) : cutL l none (some (k : Int)) = l.take k := by
  unfold cutL
  rw [HT.sIx_nat, HT.sIx_none, List.drop_zero, Nat.sub_zero, Nat.min_eq_left h]
theorem memB_iff {α : Type} [DecidableEq α] {a : α} {l : List α} : memB a l = true ↔ a ∈ l := by unfold memB; exact decide_eq_true_iff
def bad (R C : Nat) (l : List Sq) (k : Nat) : Bool := !inC R C (l.getD k (0, 0)) || memB (l.getD k (0, 0)) (l.take k)
def dif (R C : Nat) (l : List Sq) : Bool := !((List.range l.length).any fun k => bad R C l k)
theorem take_nodup {α : Type} : ∀ (l : List α), (∀ k x, l[k]? = some x → x ∉ l.take k) → l.Nodup := by
  intro l h
  refine List.pairwise_iff_getElem.mpr fun i j hi hj hij e => ?_
  refine h j _ (List.getElem?_eq_getElem hj) ?_
  rw [List.mem_take_iff_getElem]
  exact ⟨i, by omega, e⟩
theorem dif_iff {l : List Sq} : dif R C l = true ↔ (∀ p ∈ l, inC R C p = true) ∧ l.Nodup := by
  unfold dif bad
  rw [Bool.not_eq_true', List.any_eq_false]
  constructor
  · intro h
    have key : ∀ k x, l[k]? = some x → inC R C x = true ∧ x ∉ l.take k := fun k x hx => by
      have hk := (List.getElem?_eq_some_iff.mp hx).1
      have := h k (List.mem_range.mpr hk)
      rw [List.getD_eq_getElem?_getD, hx] at this
      simpa [memB_iff] using this
    refine ⟨fun p hp => ?_, take_nodup l fun k x hx => (key k x hx).2⟩
    obtain ⟨k, hk⟩ := List.mem_iff_getElem?.mp hp
    exact (key k p hk).1
  · rintro ⟨h1, h2⟩ k hk
    have hk := List.mem_range.mp hk
    have hx : l[k]? = some l[k] := List.getElem?_eq_getElem hk
    rw [List.getD_eq_getElem?_getD, hx]
    have a1 := h1 l[k] (List.getElem_mem hk)
    have a2 : l[k] ∉ l.take k := fun m => by
      rw [List.mem_take_iff_getElem] at m
      obtain ⟨i, hi, e⟩ := m
      exact List.pairwise_iff_getElem.mp h2 i k (by omega) hk (by omega) e
    simp [a1, a2, memB_iff]
theorem any_map {α β : Type} {f : α → β} {p : β → Bool} (l : List α) : (l.map f).any p = l.any fun x => p (f x) := by rw [List.any_map]; rfl
theorem ctl_if {b : Bool} [Decidable (b = true)] : ctl (if b = true then Ctl.rt false else Ctl.nx ()) (fun _ => pure true) pure = (pure (!b) : M Bool) := by
  cases b with
  | true => rw [if_pos rfl]; rfl
  | false => rw [if_neg (by simp)]; rfl
theorem nat_ix {l : List Sq} {x : Int} (hx : x ∈ (List.range l.length).map fun i : Nat => (i : Int)) : ∃ k : Nat, x = (k : Int) ∧ k < l.length ∧ ix l x = pure (l.getD k (0, 0)) := by
  obtain ⟨k, hk, rfl⟩ := List.mem_map.mp hx
  have hk := List.mem_range.mp hk
  refine ⟨k, rfl, hk, ix_nat ?_⟩
  rw [List.getD_eq_getElem?_getD, List.getElem?_eq_getElem hk]; rfl
theorem different_ok (hC : C ≤ 1000) {l : List Sq} (hl : l.length ≤ 10000) : m_are_different_squares (ch R C g) l = pure (dif R C l) := by
  unfold m_are_different_squares
  rw [rng1_nat, pure_bind, forC_any (p := fun x => bad R C l x.toNat) (r := false), pure_bind, ctl_if, any_map]
  · rfl
  · intro x hx
    obtain ⟨k, rfl, hk, e⟩ := nat_ix hx
    have q : M.or ((((pure (ch R C g)) >>= fun a => ((ix l (k : Int)) >>= fun a => (pure ()) >>= fun g => pure (a, g)) >>= fun g => pure (a, g)) >>= fun g => m_is_square g.1 g.2.1) >>= fun x => pure (!x)) ((ix l (k : Int)) >>= fun a => pure (memB a (cutL l none (some (k : Int))))) = pure (bad R C l k) := by
      simp only [e, pure_bind]
      rw [show m_is_square (ch R C g) (l.getD k (0, 0)) = pure (inC R C (l.getD k (0, 0))) from is_square_ok (by omega) _, pure_bind, M.or_pure, cut_take (by omega)]
      unfold bad
      cases inC R C (l.getD k (0, 0)) <;> simp
    rw [q, pure_bind, Int.toNat_natCast]
    cases bad R C l k <;> rfl
theorem law_different_ok (hR : R ≤ 1000) (hC : C ≤ 1000) (hRC : R * C ≤ 10000) {l : List Sq} (hl : l.length ≤ 10000) : m__law_different (ch R C g) l = pure (dif R C l) := by
  unfold m__law_different
  rw [rng1_nat, pure_bind, forC_any (p := fun x => bad R C l x.toNat) (r := false), pure_bind, ctl_if, any_map]
  · rfl
  · intro x hx
    obtain ⟨k, rfl, hk, e⟩ := nat_ix hx
    have q : M.or ((ix l (k : Int)) >>= fun a => pure (memB a (cutL l none (some (k : Int))))) ((ix l (k : Int)) >>= fun a => (m__law_all (ch R C g)) >>= fun b => pure (!memB a b)) = pure (bad R C l k) := by
      simp only [e, pure_bind]
      rw [show m__law_all (ch R C g) = pure (places R C) from law_all_ok hR hC hRC, pure_bind, M.or_pure, cut_take (by omega)]
      unfold bad
      have q : memB (l.getD k (0, 0)) (places R C) = inC R C (l.getD k (0, 0)) := Bool.eq_iff_iff.mpr (by rw [memB_iff]; exact mem_places)
      rw [q]
      cases memB (l.getD k (0, 0)) (l.take k) <;> simp
    rw [q, pure_bind, Int.toNat_natCast]
    cases bad R C l k <;> rfl

/-! ### what is pressed away -/
def allOff (R C : Nat) (g : Nat → Nat → Bool) : Bool := decide ((((places R C).filter (gt R C g)).length : Int) = 0)
theorem allOff_iff : allOff R C g = true ↔ ∀ p, inC R C p = true → gt R C g p = false := by
  unfold allOff
  rw [decide_eq_true_eq]
  have : (((places R C).filter (gt R C g)).length : Int) = 0 ↔ (places R C).filter (gt R C g) = [] := by
    rw [← List.length_eq_zero_iff]; omega
  rw [this, List.filter_eq_nil_iff]
  constructor
  · intro h p hp
    have := h p (mem_places.mpr hp)
    simpa using this
  · intro h p hp
    rw [h p (mem_places.mp hp)]; simp
def prsB (R C : Nat) (g : Nat → Nat → Bool) (l : List Sq) : Bool := dif R C l && allOff R C (PR g l)
theorem shows_pressing_ok (hR : R ≤ 1000) (hC : C ≤ 1000) (hRC : R * C ≤ 10000) {l : List Sq} (hl : l.length ≤ 10000) : m_shows_pressing (ch R C g) l = pure (prsB R C g l) := by
  unfold m_shows_pressing
  rw [different_ok hC hl, M.and_pure]
  simp only [pressed_ok hR hC, pure_bind]
  rw [show m_land_squares (ch R C (PR g l)) = pure ((places R C).filter (gt R C (PR g l))) from land_squares_ok hR hC hRC, pure_bind, pure_bind]
  unfold prsB
  cases dif R C l <;> rfl
theorem law_presses_ok (hR : R ≤ 1000) (hC : C ≤ 1000) (hRC : R * C ≤ 10000) {l : List Sq} (hl : l.length ≤ 10000) : m__law_presses (ch R C g) l = pure (prsB R C g l) := by
  unfold m__law_presses
  rw [law_different_ok hR hC hRC hl, M.and_pure]
  simp only [law_press_ok hR hC, pure_bind]
  rw [show m__law_dry (ch R C (PR g l)) = pure ((places R C).filter (gt R C (PR g l))) from law_dry_ok hR hC hRC, pure_bind, pure_bind]
  unfold prsB
  cases dif R C l <;> rfl
/-! ### odd sets -/
def evens (R C : Nat) (l : List Sq) : Bool := !((places R C).any fun q => par (crs R C q) fun x => memB x l)
def oddB (R C : Nat) (g : Nat → Nat → Bool) (l : List Sq) : Bool := (dif R C l && par l (gt R C g)) && evens R C l
theorem len_map_one {α β : Type} {l : List α} {f : α → β} : (l.map f).length = l.length := List.length_map ..
theorem crs_len {p : Sq} : (crs R C p).length ≤ 10000 := by
  have := List.length_filter_le (fun x => inC R C x) (nb p)
  have e : (nb p).length = 4 := rfl
  unfold crs
  rw [List.length_cons]
  have : ((nb p).filter (inC R C)).length ≤ 4 := this
  omega
theorem shows_odd_ok (hR : R ≤ 1000) (hC : C ≤ 1000) (hRC : R * C ≤ 10000) {l : List Sq} (hl : l.length ≤ 10000) : m_shows_odd (ch R C g) l = pure (oddB R C g l) := by
  unfold m_shows_odd
  rw [different_ok hC hl, pure_bind, M.or_pure, cmp_filter (f := fun x => m_is_land (ch R C g) x) (p := gt R C g) (h := fun _ => (1 : Int)) hl (fun x _ => is_land_ok (by omega) x) (fun _ _ _ => rfl), pure_bind, pure_bind, len_map_one, modI_two, pure_bind, even_par]
  unfold oddB
  cases hd : dif R C l with
  | false => rw [if_pos (show (!false) = true from rfl), pure_bind, if_pos rfl]; rfl
  | true =>
    rw [if_neg (by simp), pure_bind]
    cases hp : par l (gt R C g) with
    | false => rw [if_pos (show (!false) = true from rfl)]; rfl
    | true =>
      rw [if_neg (by simp)]
      rw [show m_squares_of (ch R C g) = pure (places R C) from squares_of_ok hR hC hRC, pure_bind, forC_any (p := fun q => par (crs R C q) fun x => memB x l) (r := false), pure_bind]
      · unfold evens
        cases (places R C).any fun q => par (crs R C q) fun x => memB x l <;> rfl
      · intro q _
        rw [cross_ok hC, pure_bind, cmp_filter_id (p := fun x => memB x l) crs_len (fun _ _ => rfl)]
        simp only [pure_bind, modI_two, odd_par]
        cases par (crs R C q) fun x => memB x l <;> rfl
theorem law_odd_ok (hR : R ≤ 1000) (hC : C ≤ 1000) (hRC : R * C ≤ 10000) {l : List Sq} (hl : l.length ≤ 10000) : m__law_odd (ch R C g) l = pure (oddB R C g l) := by
  unfold m__law_odd
  rw [law_different_ok hR hC hRC hl, pure_bind, M.or_pure]
  unfold oddB
  cases hd : dif R C l with
  | false => rw [if_pos (show (!false) = true from rfl), pure_bind, if_pos rfl]; rfl
  | true =>
    have hin := (dif_iff.mp hd).1
    rw [if_neg (by simp), cmp_filter (f := fun x2 => (((ix (ch R C g) x2.1) >>= fun a => (six a x2.2)) >>= fun a => pure (decide (a = ("x" : PySem.Str))))) (g := fun x2 => pure (1 : Int)) (p := gt R C g) (h := fun _ => (1 : Int)) hl (fun x m => by
      rw [at_ix (hin x m) (by omega), pure_bind, sg_x]
      unfold gt
      rw [hin x m]; rfl) (fun _ _ _ => rfl), pure_bind, pure_bind, len_map_one, modI_two, pure_bind, even_par, pure_bind]
    cases hp : par l (gt R C g) with
    | false => rw [if_pos (show (!false) = true from rfl)]; rfl
    | true =>
      rw [if_neg (by simp)]
      rw [show m__law_all (ch R C g) = pure (places R C) from law_all_ok hR hC hRC, pure_bind, forC_any (p := fun q => par (crs R C q) fun x => memB x l) (r := false), pure_bind]
      · unfold evens
        cases (places R C).any fun q => par (crs R C q) fun x => memB x l <;> rfl
      · intro q hq
        rw [law_cross_ok hC, pure_bind, crsL_in (mem_places.mp hq), cmp_filter (p := fun x => memB x l) (h := fun _ => (1 : Int)) crs_len (fun _ _ => rfl) (fun _ _ _ => rfl)]
        simp only [pure_bind, len_map_one, modI_two, odd_par]
        cases par (crs R C q) fun x => memB x l <;> rfl
end L79

/-! K79c: sets of squares, the equations reduced: the plain mathematics. -/
namespace L79
open PySem PySem.Spec PyProof.Rows L2 VL PL
variable {R C : Nat} {g : Nat → Nat → Bool}
def inA (R C : Nat) (l : List Sq) : Prop := l.Nodup ∧ ∀ q ∈ l, inC R C q = true
def sd (a b : List Sq) : List Sq := a.filter (fun x => !decide (x ∈ b)) ++ b.filter (fun x => !decide (x ∈ a))
theorem mem_sd {a b : List Sq} {q : Sq} : q ∈ sd a b ↔ (q ∈ a ∧ q ∉ b) ∨ (q ∈ b ∧ q ∉ a) := by
  unfold sd
  simp [List.mem_append, List.mem_filter]
theorem sd_in {a b : List Sq} (ha : inA R C a) (hb : inA R C b) : inA R C (sd a b) := by
  refine ⟨?_, fun q m => ?_⟩
  · unfold sd
    rw [List.nodup_append]
    refine ⟨ha.1.filter _, hb.1.filter _, fun x hx y hy e => ?_⟩
    subst e
    have h1 := List.mem_filter.mp hx
    have h2 := List.mem_filter.mp hy
    have := h1.2
    simp only [Bool.not_eq_true', decide_eq_false_iff_not] at this
    exact this h2.1
  · rcases mem_sd.mp m with h | h
    · exact ha.2 q h.1
    · exact hb.2 q h.1
theorem par_places {l : List Sq} (h : inA R C l) (x : Sq → Bool) : par l x = par (places R C) fun q => decide (q ∈ l) && x q := by
  rw [← par_filter]
  refine par_perm ((List.perm_ext_iff_of_nodup h.1 (nodup_places.filter _)).mpr fun q => ?_)
  rw [List.mem_filter, mem_places]
  exact ⟨fun m => ⟨h.2 q m, decide_eq_true m⟩, fun m => of_decide_eq_true m.2⟩
theorem par_sd {a b : List Sq} (ha : inA R C a) (hb : inA R C b) (x : Sq → Bool) : par (sd a b) x = (par a x).xor (par b x) := by
  rw [par_places (sd_in ha hb), par_places ha, par_places hb, ← par_xor]
  refine par_congr fun q _ => ?_
  have : decide (q ∈ sd a b) = (decide (q ∈ a)).xor (decide (q ∈ b)) := by
    by_cases h1 : q ∈ a <;> by_cases h2 : q ∈ b <;> simp [mem_sd, h1, h2]
  rw [this]
  cases decide (q ∈ a) <;> cases decide (q ∈ b) <;> cases x q <;> rfl
theorem par_single {p : Sq → Bool} {a : Sq} : ∀ {l : List Sq}, l.Nodup → a ∈ l → (∀ q ∈ l, q ≠ a → p q = false) → par l p = p a
  | [], _, h, _ => by cases h
  | x :: l, hn, hm, hz => by
    rw [List.nodup_cons] at hn
    rw [par_cons]
    by_cases e : x = a
    · subst e
      rw [par_false fun y m => hz y (by simp [m]) fun z => hn.1 (z ▸ m), Bool.xor_false]
    · rw [hz x (by simp) e, Bool.false_xor]
      exact par_single hn.2 ((List.mem_cons.mp hm).resolve_left fun z => e z.symm) fun q m => hz q (by simp [m])
theorem crs_in {p : Sq} (h : inC R C p = true) : inA R C (crs R C p) := by
  rw [← crsL_in h]
  exact ⟨(full_nodup p).filter _, fun q m => (List.mem_filter.mp m).2⟩
/-- the sum over a cross of a set is the set's sum over who is beside -/
theorem par_cross {l : List Sq} (hl : inA R C l) {q : Sq} (hq : inC R C q = true) : par (crs R C q) (fun x => decide (x ∈ l)) = par l (fun s => adj s q) := by
  rw [par_places (crs_in hq), par_places hl]
  refine par_congr fun x hx => ?_
  rw [Bool.and_comm]
  congr 1
  rw [adj_symm]
  unfold adj
  exact decide_eq_decide.mpr (mem_crs (mem_places.mp hx))
/-! ### equations -/
abbrev Ent := Sq × List Sq × List Sq
abbrev Tup := List Sq × List Sq
/-- a sum of equations -/
structure Eqn (R C : Nat) (t : Tup) : Prop where
  s : inA R C t.1
  o : inA R C t.2
  sum : ∀ q, inC R C q = true → par t.2 (fun s => adj s q) = decide (q ∈ t.1)
def Sol (g : Nat → Nat → Bool) (R C : Nat) (x : Sq → Bool) (t : Tup) : Prop := par t.1 x = par t.2 (gt R C g)
def add (t u : Tup) : Tup := (sd t.1 u.1, sd t.2 u.2)
theorem Eqn.add {t u : Tup} (h : Eqn R C t) (k : Eqn R C u) : Eqn R C (L79.add t u) :=
  ⟨sd_in h.s k.s, sd_in h.o k.o, fun q hq => by
    show par (sd t.2 u.2) _ = decide (q ∈ sd t.1 u.1)
    rw [par_sd h.o k.o, h.sum q hq, k.sum q hq]
    by_cases h1 : q ∈ t.1 <;> by_cases h2 : q ∈ u.1 <;> simp [mem_sd, h1, h2]⟩
theorem sol_add {t u : Tup} (h : Eqn R C t) (k : Eqn R C u) {x : Sq → Bool} (hu : Sol g R C x u) : Sol g R C x (add t u) ↔ Sol g R C x t := by
  unfold Sol at hu ⊢
  show par (sd t.1 u.1) x = par (sd t.2 u.2) _ ↔ _
  rw [par_sd h.s k.s, par_sd h.o k.o, hu]
  cases par t.1 x <;> cases par t.2 (gt R C g) <;> cases par u.2 (gt R C g) <;> simp
/-- one equation reduced by the leading ones -/
def stepR (t : Tup) (e : Ent) : Tup := if e.1 ∈ t.1 then add t e.2 else t
def red (l : List Ent) (t : Tup) : Tup := l.foldl stepR t
theorem red_eqn : ∀ (l : List Ent) (t : Tup), (∀ e ∈ l, Eqn R C e.2) → Eqn R C t → Eqn R C (red l t)
  | [], t, _, h => h
  | e :: l, t, hl, h => by
    refine red_eqn l _ (fun e m => hl e (by simp [m])) ?_
    unfold stepR
    split
    · exact h.add (hl e (by simp))
    · exact h
theorem red_sol {x : Sq → Bool} : ∀ (l : List Ent) (t : Tup), (∀ e ∈ l, Eqn R C e.2) → Eqn R C t → (∀ e ∈ l, Sol g R C x e.2) → (Sol g R C x (red l t) ↔ Sol g R C x t)
  | [], t, _, _, _ => Iff.rfl
  | e :: l, t, hl, h, hx => by
    have h2 : Eqn R C (stepR t e) := by
      unfold stepR
      split
      · exact h.add (hl e (by simp))
      · exact h
    refine (red_sol l _ (fun e m => hl e (by simp [m])) h2 fun e m => hx e (by simp [m])).trans ?_
    unfold stepR
    split
    · exact sol_add h (hl e (by simp)) (hx e (by simp))
    · exact Iff.rfl
/-- each leading square stands in its own equation alone -/
def Ech (l : List Ent) : Prop := (l.map (·.1)).Nodup ∧ ∀ e ∈ l, ∀ f ∈ l, f.1 ∈ e.2.1 ↔ f = e
theorem red_keep {q : Sq} : ∀ (l : List Ent) (t : Tup), (∀ e ∈ l, q ∉ e.2.1) → (q ∈ (red l t).1 ↔ q ∈ t.1)
  | [], t, _ => Iff.rfl
  | e :: l, t, h => by
    refine (red_keep l _ fun e m => h e (by simp [m])).trans ?_
    unfold stepR
    split
    · show q ∈ sd t.1 e.2.1 ↔ _
      have := h e (by simp)
      rw [mem_sd]; simp [this]
    · exact Iff.rfl
theorem red_gone : ∀ (l : List Ent) (t : Tup), Ech l → ∀ f ∈ l, f.1 ∉ (red l t).1
  | [], t, _, f, m => by cases m
  | e :: l, t, he, f, m => by
    have hn := he.1
    rw [List.map_cons, List.nodup_cons] at hn
    have he' : Ech l := ⟨hn.2, fun a ha b hb => he.2 a (by simp [ha]) b (by simp [hb])⟩
    rcases List.mem_cons.mp m with rfl | m
    · have hk : ∀ a ∈ l, f.1 ∉ a.2.1 := fun a ha z => by
        have := (he.2 a (by simp [ha]) f (by simp)).mp z
        subst this
        exact hn.1 (List.mem_map_of_mem ha)
      show f.1 ∉ (red l (stepR t f)).1
      rw [red_keep l _ hk]
      unfold stepR
      split
      · rename_i h
        have self := (he.2 f (by simp) f (by simp)).mpr rfl
        show f.1 ∉ sd t.1 f.2.1
        rw [mem_sd]; simp [h, self]
      · assumption
    · exact red_gone l _ he' f m
/-- what holds behind each square -/
structure Inv (g : Nat → Nat → Bool) (R C : Nat) (l : List Ent) (ps : List Sq) : Prop where
  ech : Ech l
  eqn : ∀ e ∈ l, Eqn R C e.2
  sol : ∀ x, (∀ e ∈ l, Sol g R C x e.2) → ∀ s ∈ ps, par (crs R C s) x = gt R C g s
def upd (lead : Sq) (t : Tup) (l : List Ent) : List Ent := l.map (fun e => if lead ∈ e.2.1 then (e.1, add e.2 t) else e) ++ [(lead, t)]
theorem one_eqn {s : Sq} (h : inC R C s = true) : Eqn R C (crs R C s, [s]) :=
  ⟨crs_in h, ⟨by simp, fun q m => by rw [List.mem_singleton.mp m]; exact h⟩, fun q hq => by
    show par [s] _ = decide (q ∈ crs R C s)
    rw [par_cons, par_nil, Bool.xor_false]
    unfold adj
    exact decide_eq_decide.mpr (mem_crs hq).symm⟩
theorem one_sol {s : Sq} {x : Sq → Bool} : Sol g R C x (crs R C s, [s]) ↔ par (crs R C s) x = gt R C g s := by
  unfold Sol
  show _ = par [s] _ ↔ _
  rw [par_cons, par_nil, Bool.xor_false]
theorem inv_nil : Inv g R C [] [] := ⟨⟨List.nodup_nil, fun e m => by cases m⟩, fun e m => (by cases m), fun x _ s m => by cases m⟩
theorem inv_zero {l : List Ent} {ps : List Sq} {s : Sq} (h : Inv g R C l ps) (hs : inC R C s = true) (h0 : (red l (crs R C s, [s])).1 = []) (ho : par (red l (crs R C s, [s])).2 (gt R C g) = false) : Inv g R C l (ps ++ [s]) :=
  ⟨h.ech, h.eqn, fun x hx q m => by
    rcases List.mem_append.mp m with m | m
    · exact h.sol x hx q m
    · rw [List.mem_singleton.mp m]
      refine one_sol.mp ((red_sol l _ h.eqn (one_eqn hs) hx).mp ?_)
      unfold Sol
      rw [h0, ho]; rfl⟩
theorem map_upd {lead : Sq} {t : Tup} {e : Ent} : (if lead ∈ e.2.1 then (e.1, add e.2 t) else e).1 = e.1 := by split <;> rfl
theorem inv_lead {l : List Ent} {ps : List Sq} {s lead : Sq} (h : Inv g R C l ps) (hs : inC R C s = true) (hm : lead ∈ (red l (crs R C s, [s])).1) : Inv g R C (upd lead (red l (crs R C s, [s])) l) (ps ++ [s]) := by
  have he : Eqn R C (red l (crs R C s, [s])) := red_eqn l _ h.eqn (one_eqn hs)
  have hg := red_gone l (crs R C s, [s]) h.ech
  have hrs := fun x => red_sol (g := g) (x := x) l _ h.eqn (one_eqn hs)
  revert hm he hg hrs
  generalize red l (crs R C s, [s]) = t
  intro hm he hg hrs
  have hk : lead ∉ l.map (·.1) := fun m => by
    obtain ⟨f, hf, e⟩ := List.mem_map.mp m
    exact hg f hf (by rw [show f.1 = lead from e]; exact hm)
  refine ⟨⟨?_, fun a ha b hb => ?_⟩, fun a ha => ?_, fun x hx q m => ?_⟩
  · unfold upd
    rw [List.map_append, List.map_map]
    have e : l.map ((·.1) ∘ fun e => if lead ∈ e.2.1 then (e.1, add e.2 t) else e) = l.map (·.1) := List.map_congr_left fun e _ => map_upd
    rw [e]
    rw [List.nodup_append]
    exact ⟨h.ech.1, by simp, fun x hx y hy e => by
      rw [List.map_cons, List.map_nil, List.mem_singleton] at hy
      subst e; rw [hy] at hx; exact hk hx⟩
  · -- who stands in whom
    have own : ∀ f ∈ l, ∀ e ∈ l, f.1 ∈ (if lead ∈ e.2.1 then (e.1, add e.2 t) else e : Ent).2.1 ↔ f = e := fun f hf e he' => by
      refine Iff.trans ?_ (h.ech.2 e he' f hf)
      split
      · show f.1 ∈ sd e.2.1 t.1 ↔ _
        have := hg f hf
        rw [mem_sd]; simp [this]
      · exact Iff.rfl
    have inj : ∀ e ∈ l, ∀ f ∈ l, e.1 = f.1 → e = f := fun e he' f hf q => (h.ech.2 f hf e he').mp (by rw [q]; exact (h.ech.2 f hf f hf).mpr rfl)
    unfold upd at ha hb
    rcases List.mem_append.mp ha with ha | ha <;> rcases List.mem_append.mp hb with hb | hb
    · obtain ⟨e, he', rfl⟩ := List.mem_map.mp ha
      obtain ⟨f, hf, rfl⟩ := List.mem_map.mp hb
      rw [map_upd, own f hf e he']
      constructor
      · intro z; rw [z]
      · intro z
        have := congrArg (·.1) z
        simp only [map_upd] at this
        exact inj f hf e he' this
    · obtain ⟨e, he', rfl⟩ := List.mem_map.mp ha
      rw [List.mem_singleton] at hb
      subst hb
      constructor
      · intro z
        exfalso
        split at z
        · rename_i w
          have z : lead ∈ sd e.2.1 t.1 := z
          rw [mem_sd] at z
          simp [w, hm] at z
        · exact absurd z ‹_›
      · intro z
        have := congrArg (·.1) z
        simp only [map_upd] at this
        exact absurd (List.mem_map_of_mem (f := (·.1)) he') (by rw [← this]; exact hk)
    · rw [List.mem_singleton] at ha
      subst ha
      obtain ⟨f, hf, rfl⟩ := List.mem_map.mp hb
      rw [map_upd]
      constructor
      · intro z; exact absurd z (hg f hf)
      · intro z
        have := congrArg (·.1) z
        simp only [map_upd] at this
        exact absurd (List.mem_map_of_mem (f := (·.1)) hf) (by rw [this]; exact hk)
    · rw [List.mem_singleton] at ha hb
      subst ha; subst hb
      exact ⟨fun _ => rfl, fun _ => hm⟩
  · unfold upd at ha
    rcases List.mem_append.mp ha with ha | ha
    · obtain ⟨e, he', rfl⟩ := List.mem_map.mp ha
      split
      · exact (h.eqn e he').add he
      · exact h.eqn e he'
    · rw [List.mem_singleton.mp ha]; exact he
  · have ht : Sol g R C x t := hx (lead, t) (by unfold upd; simp)
    have hold : ∀ e ∈ l, Sol g R C x e.2 := fun e he' => by
      have := hx (if lead ∈ e.2.1 then (e.1, add e.2 t) else e) (by unfold upd; exact List.mem_append_left _ (List.mem_map_of_mem he'))
      split at this
      · exact (sol_add (h.eqn e he') he ht).mp this
      · exact this
    rcases List.mem_append.mp m with m | m
    · exact h.sol x hold q m
    · rw [List.mem_singleton.mp m]
      exact one_sol.mp ((hrs x hold).mp ht)
/-! ### what comes out -/
theorem lead_sol {l : List Ent} (h : Inv g R C l (places R C)) (P : List Sq) (hP : ∀ q, q ∈ P ↔ ∃ e ∈ l, e.1 = q ∧ par e.2.2 (gt R C g) = true) (hn : P.Nodup) : prsB R C g P = true := by
  have hA : inA R C P := ⟨hn, fun q m => by
    obtain ⟨e, he, rfl, _⟩ := (hP q).mp m
    exact (h.eqn e he).s.2 _ ((h.ech.2 e he e he).mpr rfl)⟩
  unfold prsB
  rw [Bool.and_eq_true]
  refine ⟨dif_iff.mpr ⟨hA.2, hA.1⟩, allOff_iff.mpr fun q hq => ?_⟩
  have key := h.sol (fun q => decide (q ∈ P)) (fun e he => by
    unfold Sol
    have self := (h.ech.2 e he e he).mpr rfl
    rw [par_single (a := e.1) (h.eqn e he).s.1 self]
    · by_cases z : par e.2.2 (gt R C g) = true
      · rw [z]; exact decide_eq_true ((hP _).mpr ⟨e, he, rfl, z⟩)
      · rw [Bool.not_eq_true] at z
        rw [z]
        refine decide_eq_false fun m => ?_
        obtain ⟨f, hf, e1, e2⟩ := (hP _).mp m
        have : f = e := (h.ech.2 e he f hf).mp (by rw [e1]; exact self)
        subst this
        rw [z] at e2; cases e2
    · intro q hq ne
      refine decide_eq_false fun m => ?_
      obtain ⟨f, hf, rfl, _⟩ := (hP _).mp m
      exact ne (by rw [(h.ech.2 e he f hf).mp hq])) q (mem_places.mpr hq)
  rw [par_cross hA hq] at key
  have e : gt R C (PR g P) q = (gt R C g q).xor (par P fun s => adj s q) := by
    unfold gt PR
    rw [hq]
    have := at_back hq
    simp only [Bool.true_and]
    rw [this]
  rw [e, key]
  cases gt R C g q <;> rfl
theorem odd_set {t : Tup} (h : Eqn R C t) (h0 : t.1 = []) (ho : par t.2 (gt R C g) = true) {O : List Sq} (hO : O.Perm t.2) : oddB R C g O = true := by
  have hA : inA R C O := ⟨hO.nodup_iff.mpr h.o.1, fun q m => h.o.2 q (hO.mem_iff.mp m)⟩
  unfold oddB evens
  rw [Bool.and_eq_true, Bool.and_eq_true]
  refine ⟨⟨dif_iff.mpr ⟨hA.2, hA.1⟩, by rw [par_perm hO]; exact ho⟩, ?_⟩
  rw [Bool.not_eq_true', List.any_eq_false]
  intro q hq
  rw [Bool.not_eq_true]
  have hq := mem_places.mp hq
  have e : (fun x => memB x O) = fun x => decide (x ∈ O) := funext fun x => Bool.eq_iff_iff.mpr (by rw [memB_iff, decide_eq_true_iff])
  rw [e, par_cross hA hq, par_perm hO, h.sum q hq, h0]
  rfl
/-- never both -/
theorem not_both {P O : List Sq} (hP : prsB R C g P = true) (hO : oddB R C g O = true) : False := by
  unfold prsB at hP
  unfold oddB evens at hO
  rw [Bool.and_eq_true] at hP
  rw [Bool.and_eq_true, Bool.and_eq_true] at hO
  obtain ⟨p1, p2⟩ := hP
  obtain ⟨⟨o1, o2⟩, o3⟩ := hO
  have hA : inA R C P := ⟨(dif_iff.mp p1).2, (dif_iff.mp p1).1⟩
  have hB : inA R C O := ⟨(dif_iff.mp o1).2, (dif_iff.mp o1).1⟩
  have h1 : par O (gt R C g) = par O fun q => par P fun s => adj s q := par_congr fun q m => by
    have hq := hB.2 q m
    have := allOff_iff.mp p2 q hq
    unfold gt PR at this
    rw [hq] at this
    simp only [Bool.true_and] at this
    rw [at_back hq] at this
    unfold gt
    rw [hq, Bool.true_and]
    revert this
    cases g q.1.toNat q.2.toNat <;> cases (par P fun s => adj s q) <;> simp
  have h2 : par O (gt R C g) = false := by
    rw [h1, par_swap (p := fun q s => adj s q) O P]
    refine par_false fun s m => ?_
    have hs := hA.2 s m
    rw [Bool.not_eq_true', List.any_eq_false] at o3
    have := o3 s (mem_places.mpr hs)
    rw [Bool.not_eq_true] at this
    have e : (fun x => memB x O) = fun x => decide (x ∈ O) := funext fun x => Bool.eq_iff_iff.mpr (by rw [memB_iff, decide_eq_true_iff])
    rw [e, par_cross hB hs] at this
    rw [← this]
    exact par_congr fun q _ => adj_symm s q
  rw [h2] at o2
  cases o2
end L79

/-! K79d: solved: the equations in the order of the program. -/
namespace L79
open PySem PySem.Spec PyProof.Rows L2 VL PL
variable {R C : Nat} {g : Nat → Nat → Bool}
abbrev U := List (Sq × Bool)
/-- a dict that is a set -/
def un (l : List Sq) : U := l.map fun q => (q, true)
theorem un_keys (l : List Sq) : (un l).map (·.1) = l := by unfold un; rw [List.map_map]; exact List.map_id' l
theorem un_length (l : List Sq) : (un l).length = l.length := by unfold un; rw [List.length_map]
theorem lk_some {κ β : Type} [DecidableEq κ] {k : κ} : ∀ l : List (κ × β), (lk l k).isSome = decide (k ∈ l.map (·.1))
  | [] => rfl
  | p :: l => by
    rw [lk_cons]
    by_cases h : p.1 = k
    · rw [if_pos h]; simp [h]
    · have : ¬ k = p.1 := fun z => h z.symm
      rw [if_neg h, lk_some l]
      simp [this]
theorem lk_un {q : Sq} (l : List Sq) : (lk (un l) q).isSome = decide (q ∈ l) := by
  rw [lk_some]
  apply decide_eq_decide.mpr
  rw [un_keys]
theorem kput_new {κ β : Type} [DecidableEq κ] {k : κ} {v : β} {l : List (κ × β)} (h : k ∉ l.map (·.1)) : kput l k v = l ++ [(k, v)] := by
  unfold kput
  rw [if_neg]
  rw [lk_some]; simpa using h
theorem un_snoc (l : List Sq) (q : Sq) : un l ++ [(q, true)] = un (l ++ [q]) := by unfold un; rw [List.map_append]; rfl
/-- {x: True for x in xs if ..} -/
theorem collD_un {f : Sq → M Bool} {p : Sq → Bool} : ∀ (xs acc : List Sq), (∀ x ∈ xs, f x = pure (p x)) → xs.Nodup → (∀ x ∈ xs, x ∉ acc) → acc.length + xs.length ≤ 9000 → collD f (fun x => pure x) (fun _ => pure true) (un acc) xs = pure (un (acc ++ xs.filter p))
  | [], acc, _, _, _, _ => by
    unfold collD
    simp
  | x :: xs, acc, hf, hn, hd, hl => by
    rw [List.nodup_cons] at hn
    rw [List.length_cons] at hl
    unfold collD
    rw [hf x (by simp), pure_bind]
    cases h : p x with
    | true =>
      rw [if_pos rfl, pure_bind, pure_bind, M.chk_pos (sl_lt (by rw [un_length]; omega)), pure_bind, kput_new (by rw [un_keys]; exact hd x (by simp)), un_snoc]
      rw [collD_un xs _ (fun y m => hf y (by simp [m])) hn.2 (fun y m z => ?_) (by rw [List.length_append]; simp only [List.length_cons, List.length_nil]; omega)]
      · rw [List.filter_cons, if_pos h]; simp
      · rcases List.mem_append.mp z with z | z
        · exact hd y (by simp [m]) z
        · rw [List.mem_singleton] at z; exact hn.1 (z ▸ m)
    | false =>
      rw [if_neg (by simp), collD_un xs acc (fun y m => hf y (by simp [m])) hn.2 (fun y m => hd y (by simp [m])) (by omega), List.filter_cons, if_neg (by simp [h])]
theorem without_ok {a b : List Sq} (ha : a.Nodup) (hb : b.Nodup) (hl : a.length + b.length ≤ 5000) : m_without (un a) (un b) = pure (un (sd a b)) := by
  unfold m_without
  rw [un_keys, un_keys]
  have h1 := collD_un (f := fun x1 => (pure (!(lk (un b) x1).isSome))) (p := fun x => !decide (x ∈ b)) a [] (fun x _ => by rw [lk_un]) ha (fun x _ => by simp) (by simp; omega)
  rw [show (un [] : U) = [] from rfl, List.nil_append] at h1
  rw [h1, pure_bind]
  have h2 : ∀ (xs acc : List Sq), xs.Nodup → (∀ x ∈ xs, x ∉ a → x ∉ acc) → acc.length + xs.length ≤ 9000 → forL (fun (s3 : (List ((Int × Int) × Bool))) x5 => (if (!(lk (un a) x5).isSome) = true then ((pure true) >>= fun v7 => M.chk (List.length s3 < sizeLine) >>= fun _ => pure (kput s3 x5 v7) >>= fun found6 => (pure found6)) else (pure s3))) (un acc) xs = pure (un (acc ++ xs.filter fun x => !decide (x ∈ a))) := by
    intro xs
    induction xs with
    | nil => intro acc _ _ _; rw [forL_nil]; simp
    | cons x xs ih =>
      intro acc hn hd hl
      rw [List.nodup_cons] at hn
      rw [List.length_cons] at hl
      rw [forL_cons, lk_un]
      by_cases h : x ∈ a
      · rw [if_neg (by simp [h]), pure_bind, ih acc hn.2 (fun y m => hd y (by simp [m])) (by omega), List.filter_cons, if_neg (by simp [h])]
      · rw [if_pos (by simp [h]), pure_bind, M.chk_pos (sl_lt (by rw [un_length]; omega)), pure_bind, pure_bind, pure_bind, kput_new (by rw [un_keys]; exact hd x (by simp) h), un_snoc]
        rw [ih _ hn.2 (fun y m ya z => ?_) (by rw [List.length_append]; simp only [List.length_cons, List.length_nil]; omega), List.filter_cons, if_pos (by simp [h])]
        · simp
        · rcases List.mem_append.mp z with z | z
          · exact hd y (by simp [m]) ya z
          · rw [List.mem_singleton] at z; exact hn.1 (z ▸ m)
  rw [h2 b _ hb (fun x m xa z => xa (List.mem_filter.mp z).1) (by have := List.length_filter_le (fun x => !decide (x ∈ b)) a; omega), pure_bind]
  rfl
theorem is_odd_ok (hC : C ≤ 1000) {l : List Sq} (hl : l.length ≤ 10000) : m_is_odd (ch R C g) (un l) = pure (par l (gt R C g)) := by
  unfold m_is_odd
  rw [un_keys, cmp_filter (f := fun x => m_is_land (ch R C g) x) (p := gt R C g) (h := fun _ => (1 : Int)) hl (fun x _ => is_land_ok (by omega) x) (fun _ _ _ => rfl)]
  simp only [pure_bind, len_map_one, modI_two, odd_par]
/-! ### sorted, min -/
theorem py_sq (p : Sq) : py (eP eI eI p) = .tuple [.int p.1, .int p.2] := rfl
theorem sortOk_sq (l : List Sq) : SortOk (l.map (eP eI eI)) := by
  refine ⟨pyOks_of fun d m => ?_, fun d m d' m' => ?_, .inl fun d m => ?_, fun d m => ?_⟩
  · obtain ⟨p, _, rfl⟩ := List.mem_map.mp m
    rfl
  · rw [List.map_map] at m m'
    obtain ⟨p, _, rfl⟩ := List.mem_map.mp m
    obtain ⟨p', _, rfl⟩ := List.mem_map.mp m'
    rfl
  · rw [List.map_map] at m
    obtain ⟨p, _, rfl⟩ := List.mem_map.mp m
    exact ⟨_, _, rfl⟩
  · obtain ⟨p, _, rfl⟩ := List.mem_map.mp m
    rw [py_sq]
    simp [PyData.depth, PyData.depthAll]
open Classical in
theorem srt_sq (l : List Sq) : ∃ m, srt (eP eI eI) l = pure m ∧ m.Perm l := by
  refine ⟨srtE (eP eI eI) l, ?_, List.mergeSort_perm _ _⟩
  unfold srt
  rw [M.chk_pos (sortOk_sq l), pure_bind]
theorem min_in {e : Sq → D} : ∀ (ks : List Sq) (k : Sq), ks.foldl (fun a y => if ltD (e y) (e a) = true then y else a) k ∈ k :: ks
  | [], k => by simp
  | x :: ks, k => by
    rw [List.foldl_cons]
    have := min_in (e := e) ks (if ltD (e x) (e k) = true then x else k)
    rcases List.mem_cons.mp this with h | h
    · rw [h]; split <;> simp
    · simp [h]
open Classical in
theorem minD_sq {l : List Sq} (h : l ≠ []) : ∃ m, minD (eP eI eI) l = pure m ∧ m ∈ l := by
  cases l with
  | nil => exact absurd rfl h
  | cons k ks =>
    refine ⟨_, ?_, min_in (e := eP eI eI) ks k⟩
    · unfold minD
      rw [M.chk_pos (sortOk_sq _), pure_bind]
      rfl
/-! ### the leading equations -/
def ld (l : List Ent) : List (Sq × (U × U)) := l.map fun e => (e.1, (un e.2.1, un e.2.2))
theorem ld_keys (l : List Ent) : (ld l).map (·.1) = l.map (·.1) := by unfold ld; rw [List.map_map]; rfl
theorem ld_length (l : List Ent) : (ld l).length = l.length := by unfold ld; rw [List.length_map]
theorem in_length {l : List Sq} (h : inA R C l) : l.length ≤ R * C := by
  have : l.Perm ((places R C).filter fun q => decide (q ∈ l)) := (List.perm_ext_iff_of_nodup h.1 (nodup_places.filter _)).mpr fun q => by
    rw [List.mem_filter, mem_places]
    exact ⟨fun m => ⟨h.2 q m, decide_eq_true m⟩, fun m => of_decide_eq_true m.2⟩
  rw [this.length_eq, ← places_length (R := R) (C := C)]
  exact List.length_filter_le _ _
theorem red_ok (hRC : R * C ≤ 2500) : ∀ (l : List Ent) (t : Tup), (∀ e ∈ l, Eqn R C e.2) → Eqn R C t →
    forL (fun (s7 : U × U) (x10 : Sq × (U × U)) => (if (lk s7.1 x10.1).isSome = true then ((m_without s7.1 x10.2.1) >>= fun sums11 => ((m_without s7.2 x10.2.2) >>= fun of12 => (pure (sums11, of12)))) else (pure (s7.1, s7.2)))) (un t.1, un t.2) (ld l) = pure (un (red l t).1, un (red l t).2)
  | [], t, _, _ => rfl
  | e :: l, t, hl, h => by
    have he := hl e (by simp)
    have h2 : Eqn R C (stepR t e) := by
      unfold stepR
      split
      · exact h.add he
      · exact h
    have ih := red_ok hRC l (stepR t e) (fun e m => hl e (by simp [m])) h2
    have hs : (if (lk (un t.1) e.1).isSome = true then ((m_without (un t.1) (un e.2.1)) >>= fun sums11 => ((m_without (un t.2) (un e.2.2)) >>= fun of12 => (pure (sums11, of12)))) else (pure (un t.1, un t.2)) : M (U × U)) = pure (un (stepR t e).1, un (stepR t e).2) := by
      rw [lk_un]
      unfold stepR
      have i1 := in_length h.s
      have i2 := in_length he.s
      have i3 := in_length h.o
      have i4 := in_length he.o
      by_cases z : e.1 ∈ t.1
      · rw [if_pos (decide_eq_true z), if_pos z, without_ok h.s.1 he.s.1 (by omega), pure_bind, without_ok h.o.1 he.o.1 (by omega), pure_bind]
        rfl
      · rw [if_neg (by simpa using z), if_neg z]
    show forL _ _ ((e.1, (un e.2.1, un e.2.2)) :: ld l) = _
    rw [forL_cons]
    show ((if (lk (un t.1) e.1).isSome = true then ((m_without (un t.1) (un e.2.1)) >>= fun sums11 => ((m_without (un t.2) (un e.2.2)) >>= fun of12 => (pure (sums11, of12)))) else (pure (un t.1, un t.2)) : M (U × U)) >>= _) = _
    rw [hs, pure_bind]
    exact ih
theorem kput_mid {κ β : Type} [DecidableEq κ] {p q : List (κ × β)} {x : κ × β} {v : β} (h : ((p ++ x :: q).map (·.1)).Nodup) : kput (p ++ x :: q) x.1 v = p ++ (x.1, v) :: q := by
  rw [List.map_append, List.map_cons, List.nodup_append, List.nodup_cons] at h
  obtain ⟨_, ⟨h2, _⟩, h3⟩ := h
  unfold kput
  rw [if_pos (by rw [lk_some]; simp), List.map_append, List.map_cons, if_pos rfl]
  congr 1
  · conv => rhs; rw [← List.map_id' p]
    refine List.map_congr_left fun y m => ?_
    rw [if_neg]
    intro e
    exact h3 y.1 (List.mem_map_of_mem m) x.1 (by simp) e
  · congr 1
    conv => rhs; rw [← List.map_id' q]
    refine List.map_congr_left fun y m => ?_
    rw [if_neg]
    intro e
    exact h2 (e ▸ List.mem_map_of_mem m)
theorem kput_same {κ β : Type} [DecidableEq κ] {p q : List (κ × β)} {x : κ × β} (h : ((p ++ x :: q).map (·.1)).Nodup) : kput (p ++ x :: q) x.1 x.2 = p ++ x :: q := kput_mid h
theorem upd_ok (hRC : R * C ≤ 2500) {lead : Sq} {t : Tup} (ht : Eqn R C t) : ∀ (q p : List Ent), (∀ e ∈ q, Eqn R C e.2) → ((p ++ q).map (·.1)).Nodup → p.length + q.length ≤ 9000 →
    forL (fun (s14 : List (Sq × (U × U))) (x16 : Sq × (U × U)) => (if (lk x16.2.1 lead).isSome = true then ((((m_without x16.2.1 (un t.1)) >>= fun a => ((m_without x16.2.2 (un t.2)) >>= fun a => (pure ()) >>= fun g => pure (a, g)) >>= fun g => pure (a, g)) >>= fun g => pure (g.1, g.2.1)) >>= fun v18 => M.chk (List.length s14 < sizeLine) >>= fun _ => pure (kput s14 x16.1 v18) >>= fun leading17 => (pure leading17)) else (pure s14))) (ld (p ++ q)) (ld q) = pure (ld (p ++ q.map fun e => if lead ∈ e.2.1 then (e.1, add e.2 t) else e))
  | [], p, _, _, _ => rfl
  | e :: q, p, hq, hn, hl => by
    have he := hq e (by simp)
    rw [List.length_cons] at hl
    show forL _ _ ((e.1, (un e.2.1, un e.2.2)) :: ld q) = _
    rw [forL_cons]
    have hs : (if (lk (un e.2.1) lead).isSome = true then ((((m_without (un e.2.1) (un t.1)) >>= fun a => ((m_without (un e.2.2) (un t.2)) >>= fun a => (pure ()) >>= fun g => pure (a, g)) >>= fun g => pure (a, g)) >>= fun g => pure (g.1, g.2.1)) >>= fun v18 => M.chk (List.length (ld (p ++ e :: q)) < sizeLine) >>= fun _ => pure (kput (ld (p ++ e :: q)) e.1 v18) >>= fun leading17 => (pure leading17)) else (pure (ld (p ++ e :: q))) : M (List (Sq × (U × U)))) = pure (ld ((p ++ [if lead ∈ e.2.1 then (e.1, add e.2 t) else e]) ++ q)) := by
      rw [lk_un]
      have i1 := in_length ht.s
      have i2 := in_length he.s
      have i3 := in_length ht.o
      have i4 := in_length he.o
      by_cases z : lead ∈ e.2.1
      · rw [if_pos (decide_eq_true z), if_pos z, without_ok he.s.1 ht.s.1 (by omega), without_ok he.o.1 ht.o.1 (by omega)]
        simp only [pure_bind]
        rw [M.chk_pos (sl_lt (by rw [ld_length, List.length_append, List.length_cons]; omega)), pure_bind]
        have e1 : ld (p ++ e :: q) = ld p ++ (e.1, (un e.2.1, un e.2.2)) :: ld q := by unfold ld; rw [List.map_append]; rfl
        rw [e1, kput_mid (by rw [← e1, ld_keys]; exact hn)]
        unfold ld
        simp [add]
      · rw [if_neg (by simpa using z), if_neg z]
        simp
    show ((if (lk (un e.2.1) lead).isSome = true then ((((m_without (un e.2.1) (un t.1)) >>= fun a => ((m_without (un e.2.2) (un t.2)) >>= fun a => (pure ()) >>= fun g => pure (a, g)) >>= fun g => pure (a, g)) >>= fun g => pure (g.1, g.2.1)) >>= fun v18 => M.chk (List.length (ld (p ++ e :: q)) < sizeLine) >>= fun _ => pure (kput (ld (p ++ e :: q)) e.1 v18) >>= fun leading17 => (pure leading17)) else (pure (ld (p ++ e :: q))) : M (List (Sq × (U × U)))) >>= _) = _
    rw [hs, pure_bind]
    have ih := upd_ok hRC (lead := lead) ht q (p ++ [if lead ∈ e.2.1 then (e.1, add e.2 t) else e]) (fun e m => hq e (by simp [m])) (by
      rw [List.append_assoc, List.map_append, List.map_append]
      simp only [List.map_cons, List.map_nil, map_upd]
      rw [List.map_append, List.map_cons] at hn
      simpa using hn) (by rw [List.length_append]; simp only [List.length_cons, List.length_nil]; omega)
    rw [ih, List.map_cons]
    simp
end L79

/-! K79e: solved. -/
namespace L79
open PySem PySem.Spec PyProof.Rows L2 VL PL
variable {R C : Nat} {g : Nat → Nat → Bool}
abbrev Res := (Option (List (Int × Int))) × (Option (List (Int × Int)))
abbrev Ld := List (Sq × (U × U))
noncomputable def stF (p_chart : List PySem.Str) : Ld → Sq → M (Ctl Ld Res) := (fun (s1 : (List ((Int × Int) × ((List ((Int × Int) × Bool)) × (List ((Int × Int) × Bool)))))) x3 => (((m_cross p_chart x3) >>= collD (fun x4 => (pure true)) (fun x4 => (pure x4)) (fun x4 => (pure true)) []) >>= fun sums5 => ((pure [(x3, true)]) >>= fun of6 => (forL (fun (s7 : (List ((Int × Int) × Bool)) × (List ((Int × Int) × Bool))) x10 => (if (lk s7.1 x10.1).isSome = true then ((m_without s7.1 x10.2.1) >>= fun sums11 => ((m_without s7.2 x10.2.2) >>= fun of12 => (pure (sums11, of12)))) else (pure (s7.1, s7.2)))) (sums5, of6) s1 >>= fun (s7 : (List ((Int × Int) × Bool)) × (List ((Int × Int) × Bool))) => (if (decide (((List.length s7.1 : Nat) : Int) > (0 : Int))) = true then ((minD (eP eI eI) (List.map (·.1) s7.1)) >>= fun lead13 => (forL (fun (s14 : (List ((Int × Int) × ((List ((Int × Int) × Bool)) × (List ((Int × Int) × Bool)))))) x16 => (if (lk x16.2.1 lead13).isSome = true then ((((m_without x16.2.1 s7.1) >>= fun a => ((m_without x16.2.2 s7.2) >>= fun a => (pure ()) >>= fun g => pure (a, g)) >>= fun g => pure (a, g)) >>= fun g => pure (g.1, g.2.1)) >>= fun v18 => M.chk (List.length s14 < sizeLine) >>= fun _ => pure (kput s14 x16.1 v18) >>= fun leading17 => (pure leading17)) else (pure s14))) s1 s1 >>= (fun (s14 : (List ((Int × Int) × ((List ((Int × Int) × Bool)) × (List ((Int × Int) × Bool)))))) => ((pure (s7.1, s7.2)) >>= fun v20 => M.chk (List.length s14 < sizeLine) >>= fun _ => pure (kput s14 lead13 v20) >>= fun leading19 => (pure (Ctl.nx leading19 : Ctl ((List ((Int × Int) × ((List ((Int × Int) × Bool)) × (List ((Int × Int) × Bool)))))) ((Option (List (Int × Int))) × (Option (List (Int × Int)))))))))) else ((m_is_odd p_chart s7.2) >>= fun b => if b = true then ((((pure (none : (Option (List (Int × Int))))) >>= fun a => (((srt (eP eI eI) (List.map (·.1) s7.2)) >>= fun a => pure (some a)) >>= fun a => (pure ()) >>= fun g => pure (a, g)) >>= fun g => pure (a, g)) >>= fun g => pure (g.1, g.2.1)) >>= fun a => (pure (Ctl.rt a : Ctl ((List ((Int × Int) × ((List ((Int × Int) × Bool)) × (List ((Int × Int) × Bool)))))) ((Option (List (Int × Int))) × (Option (List (Int × Int))))))) else (pure (Ctl.nx s1 : Ctl ((List ((Int × Int) × ((List ((Int × Int) × Bool)) × (List ((Int × Int) × Bool)))))) ((Option (List (Int × Int))) × (Option (List (Int × Int))))))))))))
noncomputable def stK (p_chart : List PySem.Str) : Ld → M Res := (fun (s1 : (List ((Int × Int) × ((List ((Int × Int) × Bool)) × (List ((Int × Int) × Bool)))))) => (((((cmp (fun x23 => (m_is_odd p_chart x23.2.2)) (fun x23 => (pure x23.1)) s1) >>= fun a => (srt (eP eI eI) a)) >>= fun a => pure (some a)) >>= fun a => ((pure (none : (Option (List (Int × Int))))) >>= fun a => (pure ()) >>= fun g => pure (a, g)) >>= fun g => pure (a, g)) >>= fun g => pure (g.1, g.2.1)))
theorem solved_eq (p_chart : List PySem.Str) : m_solved p_chart = (m_squares_of p_chart >>= fun l24 => forC (stF p_chart) [] l24 >>= fun r => ctl r (stK p_chart) pure) := rfl
theorem filter_true {α : Type} (l : List α) : l.filter (fun _ => true) = l := by simp
theorem ech_length {l : List Ent} (h : Ech l) (he : ∀ e ∈ l, Eqn R C e.2) : l.length ≤ R * C := by
  have : inA R C (l.map (·.1)) := ⟨h.1, fun q m => by
    obtain ⟨e, me, rfl⟩ := List.mem_map.mp m
    exact (he e me).s.2 _ ((h.2 e me e me).mpr rfl)⟩
  have := in_length this
  rwa [List.length_map] at this
theorem step_ok (hR : R ≤ 1000) (hC : C ≤ 1000) (hRC : R * C ≤ 2500) {l : List Ent} {ps : List Sq} {s : Sq} (h : Inv g R C l ps) (hs : inC R C s = true) :
    (∃ l', stF (ch R C g) (ld l) s = pure (.nx (ld l')) ∧ Inv g R C l' (ps ++ [s])) ∨ (∃ O, stF (ch R C g) (ld l) s = pure (.rt (none, some O)) ∧ oddB R C g O = true) := by
  have e0 := one_eqn hs
  have e1 := red_eqn l _ h.eqn e0
  have i1 := in_length e1.s
  have i2 := in_length e1.o
  have i3 := in_length (crs_in hs)
  have i4 := ech_length h.ech h.eqn
  have hd : collD (fun x4 => (pure true)) (fun x4 => (pure x4)) (fun x4 => (pure true)) [] (crs R C s) = pure (un (crs R C s)) := by
    have := collD_un (f := fun _ => pure true) (p := fun _ => true) (crs R C s) [] (fun _ _ => rfl) (crs_in hs).1 (fun x _ => by simp) (by simp; omega)
    rw [filter_true, List.nil_append] at this
    exact this
  have hr := red_ok hRC l (crs R C s, [s]) h.eqn e0
  have hz : ∀ (a b : List Sq), a = (red l (crs R C s, [s])).1 → b = (red l (crs R C s, [s])).2 → True := fun _ _ _ _ => trivial
  unfold stF
  rw [cross_ok hC, pure_bind, hd, pure_bind, pure_bind]
  have hr' : forL (fun (s7 : U × U) (x10 : Sq × (U × U)) => (if (lk s7.1 x10.1).isSome = true then ((m_without s7.1 x10.2.1) >>= fun sums11 => ((m_without s7.2 x10.2.2) >>= fun of12 => (pure (sums11, of12)))) else (pure (s7.1, s7.2)))) (un (crs R C s), [(s, true)]) (ld l) = pure (un (red l (crs R C s, [s])).1, un (red l (crs R C s, [s])).2) := hr
  rw [hr', pure_bind]
  by_cases hne : (red l (crs R C s, [s])).1 = []
  · rw [if_neg (by rw [un_length, hne]; simp), is_odd_ok hC (by omega), pure_bind]
    cases ho : par (red l (crs R C s, [s])).2 (gt R C g) with
    | true =>
      right
      obtain ⟨O, hO, hp⟩ := srt_sq (red l (crs R C s, [s])).2
      refine ⟨O, ?_, odd_set e1 hne ho hp⟩
      rw [if_pos rfl, un_keys, hO]
      simp only [pure_bind]
    | false =>
      left
      refine ⟨l, ?_, inv_zero h hs hne ho⟩
      rw [if_neg (by simp)]
  · left
    obtain ⟨lead, hl, hm⟩ := minD_sq hne
    refine ⟨upd lead (red l (crs R C s, [s])) l, ?_, inv_lead h hs hm⟩
    have hpos : 0 < (red l (crs R C s, [s])).1.length := List.length_pos_iff.mpr hne
    rw [if_pos (by rw [un_length]; exact decide_eq_true (by omega)), un_keys, hl, pure_bind]
    have hu := upd_ok hRC (lead := lead) e1 l [] h.eqn (by rw [List.nil_append]; exact h.ech.1) (by simp; omega)
    rw [List.nil_append, List.nil_append] at hu
    rw [hu, pure_bind]
    simp only [pure_bind]
    rw [M.chk_pos (sl_lt (by rw [ld_length, List.length_map]; omega)), pure_bind]
    have hk : lead ∉ l.map (·.1) := fun m => by
      obtain ⟨f, hf, e⟩ := List.mem_map.mp m
      exact red_gone l _ h.ech f hf (by rw [show f.1 = lead from e]; exact hm)
    rw [kput_new]
    · unfold upd ld
      rw [List.map_append]; rfl
    · rw [ld_keys, List.map_map]
      rw [show l.map ((·.1) ∘ fun e => if lead ∈ e.2.1 then (e.1, add e.2 (red l (crs R C s, [s]))) else e) = l.map (·.1) from List.map_congr_left fun e _ => map_upd]
      exact hk
theorem forC_cons {α S ρ : Type} {f : S → α → M (Ctl S ρ)} {s : S} {x : α} {xs : List α} : forC f s (x :: xs) = f s x >>= fun r => match r with
    | .nx s' => forC f s' xs
    | .bk s' => pure (.nx s')
    | .rt a => pure (.rt a) := by
  rw [forC]
  congr 1
  funext r
  cases r <;> rfl
theorem all_ok (hR : R ≤ 1000) (hC : C ≤ 1000) (hRC : R * C ≤ 2500) : ∀ (qs ps : List Sq) (l : List Ent), Inv g R C l ps → (∀ q ∈ qs, inC R C q = true) →
    (∃ l', forC (stF (ch R C g)) (ld l) qs = pure (.nx (ld l')) ∧ Inv g R C l' (ps ++ qs)) ∨ (∃ O, forC (stF (ch R C g)) (ld l) qs = pure (.rt (none, some O)) ∧ oddB R C g O = true)
  | [], ps, l, h, _ => .inl ⟨l, rfl, by rw [List.append_nil]; exact h⟩
  | q :: qs, ps, l, h, hq => by
    rw [forC_cons]
    rcases step_ok hR hC hRC h (hq q (by simp)) with ⟨l', e, h'⟩ | ⟨O, e, hO⟩
    · rw [e, pure_bind]
      have := all_ok hR hC hRC qs (ps ++ [q]) l' h' fun x m => hq x (by simp [m])
      rw [List.append_assoc] at this
      exact this
    · right
      exact ⟨O, by rw [e, pure_bind], hO⟩
theorem solved_ok (hR : R ≤ 1000) (hC : C ≤ 1000) (hRC : R * C ≤ 2500) :
    (∃ P, m_solved (ch R C g) = pure (some P, none) ∧ prsB R C g P = true) ∨ (∃ O, m_solved (ch R C g) = pure (none, some O) ∧ oddB R C g O = true) := by
  rw [solved_eq, show m_squares_of (ch R C g) = pure (places R C) from squares_of_ok hR hC (by omega), pure_bind]
  rcases all_ok (g := g) hR hC hRC (places R C) [] [] inv_nil (fun q m => mem_places.mp m) with ⟨l, e, h⟩ | ⟨O, e, hO⟩
  · left
    rw [show ([] : Ld) = ld [] from rfl, e, pure_bind]
    rw [List.nil_append] at h
    have i4 := ech_length h.ech h.eqn
    have e2 : cmp (fun x23 => (m_is_odd (ch R C g) x23.2.2)) (fun x23 => (pure x23.1)) (ld l) = pure (((ld l).filter fun x => par (x.2.2.map (·.1)) (gt R C g)).map (·.1)) := by
      refine cmp_filter (by rw [ld_length]; omega) (fun x m => ?_) fun _ _ _ => rfl
      obtain ⟨e, me, rfl⟩ := List.mem_map.mp m
      have := in_length (h.eqn e me).o
      rw [is_odd_ok hC (by omega), un_keys]
    obtain ⟨P, hP, hp⟩ := srt_sq (((ld l).filter fun x => par (x.2.2.map (·.1)) (gt R C g)).map (·.1))
    refine ⟨P, ?_, lead_sol h P (fun q => ?_) ?_⟩
    · show stK (ch R C g) (ld l) = _
      unfold stK
      rw [e2, pure_bind, hP]
      simp only [pure_bind]
    · rw [hp.mem_iff]
      simp only [List.mem_map, List.mem_filter]
      constructor
      · rintro ⟨x, ⟨m, hx⟩, rfl⟩
        obtain ⟨e, me, rfl⟩ := List.mem_map.mp m
        rw [un_keys] at hx
        exact ⟨e, me, rfl, hx⟩
      · rintro ⟨e, me, rfl, hx⟩
        exact ⟨(e.1, (un e.2.1, un e.2.2)), ⟨List.mem_map_of_mem (f := fun e : Ent => (e.1, (un e.2.1, un e.2.2))) me, by rw [un_keys]; exact hx⟩, rfl⟩
    · refine hp.nodup_iff.mpr ?_
      refine List.Nodup.sublist (List.Sublist.map _ List.filter_sublist) ?_
      rw [ld_keys]
      exact h.ech.1
  · right
    refine ⟨O, ?_, hO⟩
    rw [show ([] : Ld) = ld [] from rfl, e, pure_bind]
    rfl
end L79

/-! K79f: all sets of presses; bent papers. -/
namespace L79
open PySem PySem.Spec PyProof.Rows L2 VL PL
variable {R C : Nat} {g : Nat → Nat → Bool}
theorem prsB_perm {l m : List Sq} (h : l.Perm m) : prsB R C g l = prsB R C g m := by
  have d : dif R C l = dif R C m := Bool.eq_iff_iff.mpr (by
    rw [dif_iff, dif_iff, h.nodup_iff]
    constructor
    · rintro ⟨a, b⟩; exact ⟨fun p m' => a p (h.mem_iff.mpr m'), b⟩
    · rintro ⟨a, b⟩; exact ⟨fun p m' => a p (h.mem_iff.mp m'), b⟩)
  have e : PR g l = PR g m := by
    funext r c
    unfold PR
    rw [par_perm h]
  unfold prsB
  rw [d, e]
/-! ### doubled, bits -/
theorem mul_two {a : Int} : mulI a 2 = pure (a * 2) := by
  unfold mulI
  rw [M.chk_pos (by unfold CMul; right; constructor <;> decide), pure_bind]
theorem doubled_ok (n : Nat) (h : n ≤ 1000) : m__law_doubled (n : Int) = pure ((2 ^ n : Nat) : Int) := by
  unfold m__law_doubled
  rw [rng1_nat, pure_bind]
  have key : ∀ (l : List Int) (a : Int), forL (fun (s1 : Int) (x3 : Int) => ((mulI s1 (2 : Int)) >>= fun number4 => (pure number4))) a l = pure (a * 2 ^ l.length) := by
    intro l
    induction l with
    | nil => intro a; rw [forL_nil]; simp
    | cons x l ih =>
      intro a
      rw [forL_cons, mul_two, pure_bind, pure_bind, ih, List.length_cons, Int.pow_succ']
      congr 1
      rw [Int.mul_assoc]
  rw [key, pure_bind]
  congr 1
  simp
def bs : Nat → Int → List Int
  | 0, _ => []
  | n + 1, c => c % 2 :: bs n (c / 2)
theorem bs_succ (n : Nat) (c : Int) : bs (n + 1) c = c % 2 :: bs n (c / 2) := rfl
theorem bs_length : ∀ (n : Nat) (c : Int), (bs n c).length = n
  | 0, _ => rfl
  | n + 1, c => by unfold bs; rw [List.length_cons, bs_length n]
theorem bits_ok (n : Nat) (h : n ≤ 1000) (c : Int) : m__law_bits c (n : Int) = pure (bs n c) := by
  unfold m__law_bits
  rw [rng1_nat, pure_bind]
  have key : ∀ (l : List Int) (c : Int) (acc : List Int), acc.length + l.length ≤ 9000 → forL (fun (s1 : Int × (List Int)) (x3 : Int) => ((modI s1.1 (2 : Int)) >>= fun a4 => M.chk (List.length s1.2 < sizeLine) >>= fun _ => ((divI s1.1 (2 : Int)) >>= fun code5 => (pure (code5, (s1.2 ++ [a4])))))) (c, acc) l = pure ((fun c => c) (l.foldl (fun c _ => c / 2) c), acc ++ bs l.length c) := by
    intro l
    induction l with
    | nil => intro c acc _; rw [forL_nil]; simp [bs]
    | cons x l ih =>
      intro c acc hl
      rw [List.length_cons] at hl
      rw [forL_cons, modI_two, pure_bind, M.chk_pos (sl_lt (by show acc.length < 10000; omega)), pure_bind, divI_two, pure_bind, pure_bind, ih _ _ (by rw [List.length_append]; simp only [List.length_cons, List.length_nil]; omega)]
      rw [List.length_cons, List.foldl_cons, bs_succ]
      simp
  rw [key _ _ _ (by simp; omega), pure_bind]
  simp
def cod : List Bool → Nat
  | [] => 0
  | b :: l => (if b = true then 1 else 0) + 2 * cod l
theorem cod_lt : ∀ l : List Bool, cod l < 2 ^ l.length
  | [] => by simp [cod]
  | b :: l => by
    have := cod_lt l
    unfold cod
    rw [List.length_cons, Nat.pow_succ]
    split <;> omega
theorem bs_cod : ∀ l : List Bool, bs l.length (cod l : Int) = l.map fun b => if b = true then 1 else 0
  | [] => rfl
  | b :: l => by
    rw [List.length_cons, List.map_cons]
    unfold bs cod
    have e1 : (((if b = true then 1 else 0) + 2 * cod l : Nat) : Int) % 2 = if b = true then 1 else 0 := by cases b <;> simp <;> omega
    have e2 : (((if b = true then 1 else 0) + 2 * cod l : Nat) : Int) / 2 = (cod l : Int) := by cases b <;> simp <;> omega
    rw [e1, e2, bs_cod l]
/-- the squares that a code picks -/
def sub (R C : Nat) (c : Int) : List Sq := ((((List.range (places R C).length).map fun i : Nat => (i : Int)).filter fun x => decide ((bs (places R C).length c).getD x.toNat 0 = 1)).map fun x => (places R C).getD x.toNat (0, 0))
theorem filter_range {α : Type} (d : α) (q : α → Bool) (l : List α) : ((List.range l.length).filter fun k => q (l.getD k d)).map (fun k => l.getD k d) = l.filter q := by
  have e : l = (List.range l.length).map fun k => l.getD k d := by
    apply List.ext_getElem
    · simp
    · intro i h1 h2
      simp [List.getD_eq_getElem?_getD, h1]
  conv => rhs; rw [e]
  rw [List.filter_map]
  rfl
theorem sub_some (P : List Sq) : sub R C (cod ((places R C).map fun q => decide (q ∈ P)) : Int) = (places R C).filter fun q => decide (q ∈ P) := by
  unfold sub
  have h := bs_cod ((places R C).map fun q => decide (q ∈ P))
  rw [List.length_map] at h
  rw [h, List.filter_map, List.map_map, ← filter_range (0, 0) (fun q => decide (q ∈ P))]
  have e : (List.range (places R C).length).filter ((fun x : Int => decide ((((places R C).map fun q => decide (q ∈ P)).map fun b => if b = true then (1 : Int) else 0).getD x.toNat 0 = 1)) ∘ fun i : Nat => (i : Int)) = (List.range (places R C).length).filter fun k => decide ((places R C).getD k (0, 0) ∈ P) := by
    refine List.filter_congr fun k hk => ?_
    have hk := List.mem_range.mp hk
    simp only [Function.comp, Int.toNat_natCast, List.getD_eq_getElem?_getD, List.getElem?_map, List.getElem?_eq_getElem hk, Option.map_some, Option.getD_some]
    by_cases z : (places R C)[k] ∈ P <;> simp [z]
  rw [e]
  rfl
theorem some_ok (hR : R ≤ 1000) (hC : C ≤ 1000) (hRC : R * C ≤ 8) : m__law_some (ch R C g) = pure ((((List.range (2 ^ (R * C))).map fun i : Nat => (i : Int)).any fun c => prsB R C g (sub R C c))) := by
  have hpl : (places R C).length = R * C := places_length
  have hp : 2 ^ (R * C) ≤ 256 := Nat.le_trans (Nat.pow_le_pow_right (by omega) hRC) (by decide)
  unfold m__law_some
  rw [show m__law_all (ch R C g) = pure (places R C) from law_all_ok hR hC (by omega), pure_bind, doubled_ok _ (by omega), pure_bind, hpl, rng1_nat (by omega), pure_bind, forC_any (p := fun c => prsB R C g (sub R C c)) (r := true), pure_bind]
  · cases ((List.range (2 ^ (R * C))).map fun i : Nat => (i : Int)).any fun c => prsB R C g (sub R C c) <;> rfl
  · intro c _
    have e : (rng1 ((R * C : Nat) : Int) >>= cmp (fun x6 => ((ix (bs (R * C) c) x6) >>= fun a => pure (decide (a = (1 : Int))))) (fun x6 => (ix (places R C) x6))) = pure (sub R C c) := by
      rw [rng1_nat (by omega), pure_bind]
      unfold sub
      rw [hpl]
      refine cmp_filter (by simp; omega) (fun x hx => ?_) (fun x hx _ => ?_)
      · obtain ⟨k, hk, rfl⟩ := List.mem_map.mp hx
        have hk := List.mem_range.mp hk
        rw [ix_nat (a := (bs (R * C) c).getD k 0), pure_bind, Int.toNat_natCast]
        rw [List.getD_eq_getElem?_getD, List.getElem?_eq_getElem (by rw [bs_length]; exact hk)]; rfl
      · obtain ⟨k, hk, rfl⟩ := List.mem_map.mp hx
        have hk := List.mem_range.mp hk
        rw [Int.toNat_natCast]
        refine ix_nat ?_
        rw [List.getD_eq_getElem?_getD, List.getElem?_eq_getElem (by rw [hpl]; exact hk)]; rfl
    have hl : (sub R C c).length ≤ 10000 := by
      unfold sub
      rw [List.length_map]
      refine Nat.le_trans (List.length_filter_le _ _) ?_
      rw [List.length_map, List.length_range, hpl]; omega
    rw [bits_ok _ (by omega), pure_bind, pure_bind, e]
    simp only [pure_bind]
    rw [law_presses_ok hR hC (by omega) hl, pure_bind]
    cases prsB R C g (sub R C c) <;> rfl
theorem some_iff : ((((List.range (2 ^ (R * C))).map fun i : Nat => (i : Int)).any fun c => prsB R C g (sub R C c))) = true ↔ ∃ P, prsB R C g P = true := by
  rw [List.any_eq_true]
  constructor
  · rintro ⟨c, _, h⟩
    exact ⟨_, h⟩
  · rintro ⟨P, h⟩
    refine ⟨(cod ((places R C).map fun q => decide (q ∈ P)) : Nat), List.mem_map.mpr ⟨_, List.mem_range.mpr ?_, rfl⟩, ?_⟩
    · have := cod_lt ((places R C).map fun q => decide (q ∈ P))
      rw [List.length_map, places_length] at this
      exact this
    · rw [sub_some]
      rw [← h]
      have hd : dif R C P = true := by
        unfold prsB at h
        rw [Bool.and_eq_true] at h
        exact h.1
      have hd := dif_iff.mp hd
      refine prsB_perm ((List.perm_ext_iff_of_nodup (nodup_places.filter _) hd.2).mpr fun q => ?_)
      rw [List.mem_filter, mem_places]
      exact ⟨fun m => of_decide_eq_true m.2, fun m => ⟨hd.1 q m, decide_eq_true m⟩⟩
/-! ### bent papers -/
theorem cut_length {α : Type} (l : List α) (lo hi : Option Int) : (cutL l lo hi).length ≤ l.length := by
  unfold cutL
  rw [List.length_take, List.length_drop]
  omega
theorem bent_tk {d : Addr} {chart : List PySem.Str} {paper : List Sq} (hl : paper.length ≤ 3000) : Tk d 1 (m__law_bent d chart paper) fun bl => bl.length ≤ 7 ∧ ∀ b ∈ bl, b.length ≤ 9000 := by
  unfold m__law_bent
  rw [cat_ok (by simp; omega), cat_ok (by simp; omega), cat_ok (by simp; omega)]
  simp only [pure_bind]
  by_cases h : decide (((List.length paper : Nat) : Int) > (0 : Int)) = true
  · rw [if_pos h]
    have h' := of_decide_eq_true h
    refine Tk.mono (n := 1 + 0) (Tk.bind (P := fun s : List (List Sq) => s.length ≤ 7 ∧ ∀ b ∈ s, b.length ≤ 9000) (Tk.mono (n := 1 + 0) (Tk.bind (Tk.take h') fun a ha => ?_) (Nat.le_refl _) fun _ h => h) fun s hs => Tk.of_pure rfl hs) (Nat.le_refl _) fun _ h => h
    have c1 := cut_length paper none (some a)
    have c2 := cut_length paper (some (a + 1)) none
    obtain ⟨v, hv⟩ : ∃ v, ix paper a = pure v := ⟨_, ix_int ha.1 (List.getElem?_eq_getElem (by omega))⟩
    rw [cat_ok (by omega), hv]
    simp only [pure_bind]
    rw [cat_ok (by simp; omega)]
    simp only [pure_bind]
    rw [cat_ok (by simp)]
    refine Tk.of_pure rfl ⟨by simp, fun b hb => ?_⟩
    simp only [List.mem_append, List.mem_cons, List.not_mem_nil, or_false] at hb
    rcases hb with (rfl | rfl | rfl | rfl) | (rfl | rfl | rfl)
    · simp; omega
    · simp; omega
    · simp; omega
    · simp
    · simp; omega
    · simp; omega
    · simp; omega
  · rw [if_neg h]
    refine Tk.of_pure rfl ⟨by simp, fun b hb => ?_⟩
    simp only [List.mem_cons, List.not_mem_nil, or_false] at hb
    rcases hb with rfl | rfl | rfl | rfl
    · simp; omega
    · simp; omega
    · simp; omega
    · simp
end L79

/-! K79g: the law. -/
namespace L79
open PySem PySem.Spec PyProof.Rows L2 VL PL
variable {R C : Nat} {g : Nat → Nat → Bool}
noncomputable def judF (x12 : List PySem.Str) : Unit → List Sq → M (Ctl Unit Bool) := (fun (s16 : Unit) x18 => (((((m_shows_pressing x12 x18) >>= fun a => ((m__law_presses x12 x18) >>= fun a => (pure ()) >>= fun g => pure (a, g)) >>= fun g => pure (a, g)) >>= fun g => pure (decide (g.1 = g.2.1))) >>= fun x => pure (!x)) >>= fun b => if b = true then (pure (Ctl.rt false : Ctl (Unit) Bool)) else (((((m_shows_odd x12 x18) >>= fun a => ((m__law_odd x12 x18) >>= fun a => (pure ()) >>= fun g => pure (a, g)) >>= fun g => pure (a, g)) >>= fun g => pure (decide (g.1 = g.2.1))) >>= fun x => pure (!x)) >>= fun b => if b = true then (pure (Ctl.rt false : Ctl (Unit) Bool)) else (pure (Ctl.nx () : Ctl (Unit) Bool)))))
noncomputable def oneF (ad : Addr) : Unit → List PySem.Str → M (Ctl Unit Bool) := (fun (s10 : Unit) x12 => ((m_pressing_paper x12) >>= fun paper13 => ((m_odd_paper x12) >>= fun odd14 => (if (decide ((Option.isNone paper13) = (Option.isNone odd14))) = true then (pure (Ctl.rt false : Ctl (Unit) Bool)) else ((if (Option.isSome paper13) = true then (if (!(isiO "list" "list" paper13)) = true then pure true else ((((pure x12) >>= fun a => ((M.ofO paper13) >>= fun a => (pure ()) >>= fun g => pure (a, g)) >>= fun g => pure (a, g)) >>= fun g => m__law_presses g.1 g.2.1) >>= fun x => pure (!x))) else pure false) >>= fun b => if b = true then (pure (Ctl.rt false : Ctl (Unit) Bool)) else ((if (Option.isSome odd14) = true then (if (!(isiO "list" "list" odd14)) = true then pure true else ((((pure x12) >>= fun a => ((M.ofO odd14) >>= fun a => (pure ()) >>= fun g => pure (a, g)) >>= fun g => pure (a, g)) >>= fun g => m__law_odd g.1 g.2.1) >>= fun x => pure (!x))) else pure false) >>= fun b => if b = true then (pure (Ctl.rt false : Ctl (Unit) Bool)) else ((M.and (((m__law_all x12) >>= fun a => pure ((List.length a : Nat) : Int)) >>= fun a => pure (decide (a < (9 : Int)))) ((m__law_some x12) >>= fun b => pure (!decide ((Option.isSome paper13) = b)))) >>= fun b => if b = true then (pure (Ctl.rt false : Ctl (Unit) Bool)) else ((pure (if (Option.isNone odd14) = true then paper13 else odd14)) >>= fun given15 => (((((M.ofO given15) >>= fun a => (pure ()) >>= fun g => pure (a, g)) >>= fun g => pure [g.1]) >>= fun a => (((pure ad) >>= fun a => ((pure x12) >>= fun a => ((M.ofO given15) >>= fun a => (pure ()) >>= fun g => pure (a, g)) >>= fun g => pure (a, g)) >>= fun g => pure (a, g)) >>= fun g => m__law_bent g.1 g.2.1 g.2.2.1) >>= fun b => (cat a b)) >>= fun l19 => forC (judF x12) () l19 >>= fun r => ctlC r (fun (s16 : Unit) => (pure (Ctl.nx () : Ctl (Unit) Bool))))))))))))
noncomputable def lawM (ad : Addr) : M Bool :=   ((((pure ad) >>= fun a => (((takeM ad (6 : Int)) >>= fun b => pure ((1 : Int) + b)) >>= fun a => (((takeM ad (6 : Int)) >>= fun b => pure ((1 : Int) + b)) >>= fun a => (pure ()) >>= fun g => pure (a, g)) >>= fun g => pure (a, g)) >>= fun g => pure (a, g)) >>= fun g => m__law_grid g.1 g.2.1 g.2.2.1) >>= fun chart1 => ((((takeM ad (3 : Int)) >>= fun a => pure (decide (a = (0 : Int)))) >>= fun b => if b = true then ((((pure ad) >>= fun a => (((takeM ad (2 : Int)) >>= fun b => pure ((1 : Int) + b)) >>= fun a => (((takeM ad (4 : Int)) >>= fun b => pure ((1 : Int) + b)) >>= fun a => (pure ()) >>= fun g => pure (a, g)) >>= fun g => pure (a, g)) >>= fun g => pure (a, g)) >>= fun g => m__law_grid g.1 g.2.1 g.2.2.1) >>= fun chart5 => (pure chart5)) else (pure chart1)) >>= fun (s3 : (List PySem.Str)) => (((m__law_all s3) >>= cmp (fun x6 => ((takeM ad (2 : Int)) >>= fun a => pure (decide (a = (0 : Int))))) (fun x6 => (pure x6))) >>= fun squares7 => (((((((pure s3) >>= fun a => ((cat squares7 (cutL squares7 none (some (2 : Int)))) >>= fun a => (pure ()) >>= fun g => pure (a, g)) >>= fun g => pure (a, g)) >>= fun g => m_pressed g.1 g.2.1) >>= fun a => ((((pure s3) >>= fun a => ((cat squares7 (cutL squares7 none (some (2 : Int)))) >>= fun a => (pure ()) >>= fun g => pure (a, g)) >>= fun g => pure (a, g)) >>= fun g => m__law_press g.1 g.2.1) >>= fun a => (pure ()) >>= fun g => pure (a, g)) >>= fun g => pure (a, g)) >>= fun g => sameM (eT eS) g.1 g.2.1) >>= fun x => pure (!x)) >>= fun b => if b = true then (pure false) else (((((cmp (fun x8 => (pure true)) (fun x8 => ((lenS x8) >>= fun b => (mulS ("." : PySem.Str) b))) s3) >>= fun a => pure a) >>= fun a => ((pure squares7) >>= fun a => (pure ()) >>= fun g => pure (a, g)) >>= fun g => pure (a, g)) >>= fun g => m__law_press g.1 g.2.1) >>= fun made9 => ((M.or ((m_odd_paper made9) >>= fun o => pure o.isSome) ((m_pressing_paper made9) >>= fun o => pure o.isNone)) >>= fun b => if b = true then (pure false) else (forC (oneF ad) () ([s3, made9] : (List (List PySem.Str))) >>= fun r => ctl r (fun (s10 : Unit) => (pure true)) pure)))))))
theorem law_eq (ad : Addr) : m_law ad = lawM ad := rfl
theorem judge_ok (hR : R ≤ 1000) (hC : C ≤ 1000) (hRC : R * C ≤ 2500) : ∀ l : List (List Sq), (∀ b ∈ l, b.length ≤ 9000) → forC (judF (ch R C g)) () l = pure (.nx ())
  | [], _ => rfl
  | b :: l, h => by
    have hb := h b (by simp)
    have e : judF (ch R C g) () b = pure (.nx ()) := by
      unfold judF
      rw [shows_pressing_ok hR hC (by omega) (by omega), law_presses_ok hR hC (by omega) (by omega), shows_odd_ok hR hC (by omega) (by omega), law_odd_ok hR hC (by omega) (by omega)]
      simp only [pure_bind, decide_true, Bool.not_true]
      rw [if_neg (by simp), if_neg (by simp)]
    rw [forC_cons, e, pure_bind]
    exact judge_ok hR hC hRC l fun b m => h b (by simp [m])
theorem Tk.forC_nx {α ρ : Type} {d : Addr} {n : Nat} {f : Unit → α → M (Ctl Unit ρ)} : ∀ l : List α, (∀ x ∈ l, Tk d n (f () x) fun r => r = .nx ()) → Tk d (l.length * n) (forC f () l) fun r => r = .nx ()
  | [], _ => Tk.of_pure rfl rfl
  | x :: xs, h => by
    rw [forC_cons]
    refine Tk.mono (Tk.bind (n' := xs.length * n) (h x (by simp)) fun r hr => ?_) (by rw [List.length_cons, Nat.succ_mul]; omega) fun _ h => h
    subst hr
    exact Tk.forC_nx xs fun y m => h y (by simp [m])
theorem prsB_length {P : List Sq} (h : prsB R C g P = true) : P.length ≤ R * C := by
  unfold prsB at h
  rw [Bool.and_eq_true] at h
  have hd := dif_iff.mp h.1
  exact in_length ⟨hd.2, hd.1⟩
theorem oddB_length {P : List Sq} (h : oddB R C g P = true) : P.length ≤ R * C := by
  unfold oddB at h
  rw [Bool.and_eq_true, Bool.and_eq_true] at h
  have hd := dif_iff.mp h.1.1
  exact in_length ⟨hd.2, hd.1⟩
theorem isi_list (P : List Sq) : isiO "list" "list" (some P) = true := rfl
/-- one chart -/
theorem one_tk {d : Addr} (hR : R ≤ 1000) (hC : C ≤ 1000) (hRC : R * C ≤ 2500) : Tk d 1 (oneF d () (ch R C g)) fun r => r = .nx () := by
  have third : ∀ b : Bool, (b = true ↔ ∃ P, prsB R C g P = true) → (M.and (((m__law_all (ch R C g)) >>= fun a => pure ((List.length a : Nat) : Int)) >>= fun a => pure (decide (a < (9 : Int)))) ((m__law_some (ch R C g)) >>= fun b' => pure (!decide (b = b')))) = pure false := fun b hb => by
    rw [show m__law_all (ch R C g) = pure (places R C) from law_all_ok hR hC (by omega), pure_bind, pure_bind, M.and_pure, places_length]
    by_cases h : ((R * C : Nat) : Int) < 9
    · rw [if_pos (decide_eq_true h), some_ok hR hC (by omega), pure_bind]
      have : b = _ := Bool.eq_iff_iff.mpr (hb.trans some_iff.symm)
      rw [← this]
      simp
    · rw [if_neg (by simpa using h)]
  have fin : ∀ paper : List Sq, paper.length ≤ 2500 → Tk d 1 ((((pure paper : M (List Sq)) >>= fun a => (pure ()) >>= fun g => pure (a, g)) >>= fun g => pure [g.1]) >>= fun a => (((pure d) >>= fun a => ((pure (ch R C g)) >>= fun a => ((pure paper : M (List Sq)) >>= fun a => (pure ()) >>= fun g => pure (a, g)) >>= fun g => pure (a, g)) >>= fun g => pure (a, g)) >>= fun g => m__law_bent g.1 g.2.1 g.2.2.1) >>= fun b => (cat a b)) (fun l => ∀ b ∈ l, b.length ≤ 9000) := fun paper hl => by
    simp only [pure_bind]
    refine Tk.mono (n := 1 + 0) (Tk.bind (bent_tk (by omega)) fun bl hb => ?_) (Nat.le_refl _) fun _ h => h
    have hb1 := hb.1
    refine Tk.of_pure (cat_ok (by simp; omega)) fun b m => ?_
    rcases List.mem_append.mp m with m | m
    · rw [List.mem_singleton.mp m]; omega
    · exact hb.2 b m
  unfold oneF
  rcases solved_ok (g := g) hR hC hRC with ⟨P, e, hP⟩ | ⟨O, e, hO⟩
  · have e1 : m_pressing_paper (ch R C g) = pure (some P) := by unfold m_pressing_paper; rw [e, pure_bind]
    have e2 : m_odd_paper (ch R C g) = pure none := by unfold m_odd_paper; rw [e, pure_bind]
    have hl := prsB_length hP
    rw [e1, pure_bind, e2, pure_bind, if_neg (show ¬ (decide (Option.isNone (some P) = Option.isNone (none : Option (List Sq)))) = true by simp)]
    rw [if_pos (show (Option.isSome (some P)) = true from rfl), if_neg (show ¬ (!(isiO "list" "list" (some P))) = true by rw [isi_list]; simp)]
    rw [if_neg (show ¬ (Option.isSome (none : Option (List Sq))) = true by simp)]
    rw [M.ofO_some]
    simp only [pure_bind]
    rw [law_presses_ok hR hC (by omega) (by omega), hP]
    simp only [pure_bind, Bool.not_true]
    rw [if_neg (by simp), if_neg (by simp), third (Option.isSome (some P)) ⟨fun _ => ⟨P, hP⟩, fun _ => rfl⟩, pure_bind, if_neg (by simp)]
    rw [if_pos (show (Option.isNone (none : Option (List Sq))) = true from rfl), M.ofO_some]
    refine Tk.mono (n := 1 + 0) (Tk.bind (fin P (by omega)) fun l hl' => ?_) (Nat.le_refl _) fun _ h => h
    rw [judge_ok hR hC hRC l hl', pure_bind]
    exact Tk.of_pure (a := Ctl.nx ()) rfl rfl
  · have e1 : m_pressing_paper (ch R C g) = pure none := by unfold m_pressing_paper; rw [e, pure_bind]
    have e2 : m_odd_paper (ch R C g) = pure (some O) := by unfold m_odd_paper; rw [e, pure_bind]
    have hl := oddB_length hO
    rw [e1, pure_bind, e2, pure_bind, if_neg (show ¬ (decide (Option.isNone (none : Option (List Sq)) = Option.isNone (some O))) = true by simp)]
    rw [if_neg (show ¬ (Option.isSome (none : Option (List Sq))) = true by simp)]
    rw [if_pos (show (Option.isSome (some O)) = true from rfl), if_neg (show ¬ (!(isiO "list" "list" (some O))) = true by rw [isi_list]; simp)]
    rw [M.ofO_some]
    simp only [pure_bind]
    rw [law_odd_ok hR hC (by omega) (by omega), hO]
    simp only [pure_bind, Bool.not_true]
    rw [if_neg (by simp), if_neg (by simp), third (Option.isSome (none : Option (List Sq))) ⟨(fun h => absurd h (by simp)), fun ⟨P, hP⟩ => (not_both hP hO).elim⟩, pure_bind, if_neg (by simp)]
    rw [if_neg (show ¬ (Option.isNone (some O)) = true by simp), M.ofO_some]
    refine Tk.mono (n := 1 + 0) (Tk.bind (fin O (by omega)) fun l hl' => ?_) (Nat.le_refl _) fun _ h => h
    rw [judge_ok hR hC hRC l hl', pure_bind]
    exact Tk.of_pure (a := Ctl.nx ()) rfl rfl
theorem row_false (hC : C ≤ 10000) : mulS ("." : PySem.Str) (C : Int) = pure (rowS C fun _ => false) := by
  have hl : (("." : PySem.Str)).length = 1 := rfl
  unfold mulS
  rw [M.chk_pos ⟨by omega, by omega, by rw [hl]; omega⟩, pure_bind]
  congr 1
  have e : (Txt.mul ⟨#[46]⟩ (C : Int)).cps.toList = (rowS C fun _ => false).cps.toList := by
    rw [PyProof.Rows.mul_one_list]
    unfold rowS
    simp only [List.toList_toArray, Bool.false_eq_true, if_false, Int.toNat_natCast]
    rw [List.map_const', List.length_range]
  have key : ∀ a b : Str, a.cps.toList = b.cps.toList → a = b := fun a b h => by
    cases a; cases b
    congr 1
    exact Array.toList_inj.mp h
  exact key _ _ e
theorem empty_ok (hR : R ≤ 1000) (hC : C ≤ 1000) : cmp (fun x8 => (pure true)) (fun x8 => ((lenS x8) >>= fun b => (mulS ("." : PySem.Str) b))) (ch R C g) = pure (ch R C fun _ _ => false) := by
  have e : ch R C (fun _ _ => false) = (ch R C g).map fun _ => rowS C fun _ => false := by
    unfold ch
    rw [List.map_map]; rfl
  rw [e]
  refine cmp_map (by rw [ch_length]; omega) fun x hx => ?_
  unfold ch at hx
  obtain ⟨r, _, rfl⟩ := List.mem_map.mp hx
  rw [lenS_row (by omega), pure_bind, row_false (by omega)]
theorem fits_ch (hR : R ≤ 1000) : fits true 5 (eT eS (ch R C g)) := by
  refine fits_tupM (n := 4) (by rw [ch_length]; omega) fun x hx => fits_str ?_
  unfold ch at hx
  obtain ⟨r, _, rfl⟩ := List.mem_map.mp hx
  unfold PyData.strOk rowS
  simp only [List.all_toArray, List.all_map]
  rw [List.all_eq_true]
  intro c _
  simp only [Function.comp]
  split <;> decide
theorem made_prs {l : List Sq} (hl : inA R C l) : prsB R C (PR (fun _ _ => false) l) l = true := by
  unfold prsB
  rw [Bool.and_eq_true]
  refine ⟨dif_iff.mpr ⟨hl.2, hl.1⟩, allOff_iff.mpr fun q hq => ?_⟩
  unfold gt PR
  rw [hq]
  simp
theorem law_tk (d : Addr) : Tk d 5000 (m_law d) fun r => r = true := by
  rw [law_eq]
  unfold lawM
  simp only [pure_bind]
  have grid : ∀ R C : Nat, 1 ≤ R → R ≤ 6 → 1 ≤ C → C ≤ 6 → Tk d 100 (m__law_grid d (R : Int) (C : Int)) fun c => ∃ R C g, 1 ≤ R ∧ R ≤ 6 ∧ 1 ≤ C ∧ C ≤ 6 ∧ c = ch R C g := fun R C h1 h2 h3 h4 => by
    have hRC : R * (C * 2) ≤ 6 * (6 * 2) := Nat.mul_le_mul h2 (by omega)
    refine Tk.mono (law_grid_tk (d := d) h1 (by omega) h3 (by omega)) (by omega) fun c ⟨g, e⟩ => ⟨R, C, g, h1, h2, h3, h4, e⟩
  have drawn : ∀ (m n : Int), 0 < m → m ≤ 6 → 0 < n → n ≤ 6 → ∀ (k : List PySem.Str → M Bool) (N : Nat), (∀ R C g, 1 ≤ R → R ≤ 6 → 1 ≤ C → C ≤ 6 → Tk d N (k (ch R C g)) fun r => r = true) → Tk d (102 + N) (takeM d m >>= fun x => takeM d n >>= fun y => m__law_grid d (1 + x) (1 + y) >>= k) fun r => r = true := fun m n hm hm6 hn hn6 k N hk => by
    refine Tk.mono (n := 1 + (1 + (100 + N))) ?_ (by omega) fun _ h => h
    refine Tk.bind (Tk.take hm) fun a ha => Tk.bind (Tk.take hn) fun b hb => ?_
    have := grid (1 + a).toNat (1 + b).toNat (by omega) (by omega) (by omega) (by omega)
    rw [Int.toNat_of_nonneg (by omega), Int.toNat_of_nonneg (by omega)] at this
    refine Tk.bind this fun c ⟨R, C, g, h1, h2, h3, h4, e⟩ => ?_
    subst e
    exact hk R C g h1 h2 h3 h4
  simp only [bind_assoc, pure_bind]
  refine Tk.mono (n := 102 + (1 + (102 + 200))) (drawn 6 6 (by decide) (by decide) (by decide) (by decide) _ _ fun R0 C0 g0 h1 h2 h3 h4 => ?_) (by omega) fun _ h => h
  refine Tk.bind (Tk.take (by decide)) fun x _ => ?_
  -- what is done with the chart
  have rest : ∀ R C g, 1 ≤ R → R ≤ 6 → 1 ≤ C → C ≤ 6 → Tk d 200 (m__law_all (ch R C g) >>= fun x => cmp (fun x6 => takeM d 2 >>= fun a => pure (decide (a = 0))) (fun x6 => pure x6) x >>= fun squares7 => cat squares7 (cutL squares7 none (some 2)) >>= fun x => m_pressed (ch R C g) x >>= fun x => cat squares7 (cutL squares7 none (some 2)) >>= fun x_2 => m__law_press (ch R C g) x_2 >>= fun x_3 => sameM (eT eS) x x_3 >>= fun x => if (!x) = true then pure false else
      cmp (fun x8 => pure true) (fun x8 => lenS x8 >>= fun b => mulS ("." : PySem.Str) b) (ch R C g) >>= fun x => m__law_press x squares7 >>= fun made9 => M.or (m_odd_paper made9 >>= fun o => pure o.isSome) (m_pressing_paper made9 >>= fun o => pure o.isNone) >>= fun b => if b = true then pure false else forC (oneF d) () [ch R C g, made9] >>= fun r => ctl r (fun s10 => pure true) pure) fun r => r = true := fun R C g h1 h2 h3 h4 => by
    have hRC : R * C ≤ 36 := Nat.mul_le_mul h2 h4
    rw [show m__law_all (ch R C g) = pure (places R C) from law_all_ok (by omega) (by omega) (by omega), pure_bind]
    refine Tk.mono (n := (places R C).length * 1 + 2) (Tk.bind (Tk.cmp (g := fun x => x) (by rw [places_length]; omega) fun x _ => Tk.mono (n := 1 + 0) (Tk.bind (Tk.take (by decide)) fun a _ => Tk.of_pure rfl trivial) (Nat.le_refl _) fun _ h => h) fun sq ⟨p, hp, e⟩ => ?_) (by rw [places_length]; omega) fun _ h => h
    rw [List.map_id'] at e
    subst e
    have hA : inA R C sq := ⟨hp.nodup nodup_places, fun q m => mem_places.mp (hp.subset m)⟩
    have hl := in_length hA
    have hc := cut_length sq none (some 2)
    rw [cat_ok (by omega)]
    simp only [pure_bind]
    rw [pressed_ok (by omega) (by omega), pure_bind, law_press_ok (by omega) (by omega), pure_bind, sameM_ok rfl (fits_ch (by omega)), pure_bind, if_neg (by simp)]
    rw [empty_ok (by omega) (by omega), pure_bind, law_press_ok (by omega) (by omega), pure_bind]
    have hm := made_prs hA
    have hs : ∃ P, m_solved (ch R C (PR (fun _ _ => false) sq)) = pure (some P, none) := by
      rcases solved_ok (g := PR (fun _ _ => false) sq) (show R ≤ 1000 by omega) (show C ≤ 1000 by omega) (by omega) with ⟨P, e, _⟩ | ⟨O, _, hO⟩
      · exact ⟨P, e⟩
      · exact (not_both hm hO).elim
    obtain ⟨P, hP⟩ := hs
    have e1 : m_pressing_paper (ch R C (PR (fun _ _ => false) sq)) = pure (some P) := by unfold m_pressing_paper; rw [hP, pure_bind]
    have e2 : m_odd_paper (ch R C (PR (fun _ _ => false) sq)) = pure none := by unfold m_odd_paper; rw [hP, pure_bind]
    rw [e1, e2, pure_bind, M.or_pure, if_neg (by simp), pure_bind, pure_bind, if_neg (by simp)]
    refine Tk.mono (n := 2 * 1 + 0) (Tk.bind (Tk.forC_nx [ch R C g, ch R C (PR (fun _ _ => false) sq)] fun y hy => ?_) fun r hr => ?_) (by omega) fun _ h => h
    · simp only [List.mem_cons, List.not_mem_nil, or_false] at hy
      rcases hy with rfl | rfl
      · exact one_tk (by omega) (by omega) (by omega)
      · exact one_tk (by omega) (by omega) (by omega)
    · subst hr
      exact Tk.of_pure rfl rfl
  by_cases hx : decide (x = 0) = true
  · rw [if_pos hx]
    simp only [bind_assoc, pure_bind]
    exact drawn 2 4 (by decide) (by decide) (by decide) (by decide) _ _ rest
  · rw [if_neg hx, pure_bind]
    exact Tk.mono (rest R0 C0 g0 h1 h2 h3 h4) (by omega) fun _ h => h
theorem law_holds : LawOk 10 b_law := law_of t_law fun a => ⟨5000, by decide, law_tk a⟩
end L79

open PySem PySem.W PyProof.Rows
set_option maxRecDepth 100000 in
set_option maxHeartbeats 0 in
theorem PySem.Challenge.cw_landandwater_k79_whole_pressed_or_odd_holds : PySem.Challenge.rw_landandwater_k79_whole_pressed_or_odd.Holds := by
  w_on; o_law; k_head; (case hw => w_witness2)
  k_fill
  refine L2.walk_of (l := PySem.Challenge.rw_landandwater_k79_whole_pressed_or_odd) (n := 63) (k := 7) (x := "script") (CX := fun _ => L2.CX0) (sp := fun w => VL.spLaw _) rfl (by decide) rfl ⟨rfl, by decide, by decide⟩ (fun w h Y => PySem.W.kIn_of Y) ?F (fun _ _ a ns hl _ hS => ⟨a, ns, rfl, hS, hl, fun _ => rfl⟩) (fun _ _ _ _ _ h => h)
  case F =>
    intro w mg fa h KX G hmg
    refine' L79.ok_law (L79.txt_mk KX G ?a0 ?l0 ?c0 ?k0 ?a1 ?l1 ?c1 ?k1 ?a2 ?l2 ?c2 ?k2 ?a3 ?l3 ?c3 ?k3 ?a4 ?l4 ?c4 ?k4 ?a5 ?l5 ?c5 ?k5 ?a6 ?l6 ?c6 ?k6 ?a7 ?l7 ?c7 ?k7 ?a8 ?l8 ?c8 ?k8 ?a9 ?l9 ?c9 ?k9 ?a10 ?l10 ?c10 ?k10 ?a11 ?l11 ?c11 ?k11 ?a12 ?l12 ?c12 ?k12 ?a13 ?l13 ?c13 ?k13 ?a14 ?l14 ?c14 ?k14 ?a15 ?l15 ?c15 ?k15 ?a16 ?l16 ?c16 ?k16 ?a17 ?l17 ?c17 ?k17 ?a18 ?l18 ?c18 ?k18 ?a19 ?l19 ?c19 ?k19 ?a20 ?l20 ?c20 ?k20 ?a21 ?l21 ?c21 ?k21 ?a22 ?l22 ?c22 ?k22 ?a23 ?l23 ?c23 ?k23 ?a24 ?l24 ?c24 ?k24 ?a25 ?l25 ?c25 ?k25 ?a26 ?l26 ?c26 ?k26 ?a27 ?l27 ?c27 ?k27 ?a28 ?l28 ?c28 ?k28 ?a29 ?l29 ?c29 ?k29 ?a30 ?l30 ?c30 ?k30 ?a31 ?l31 ?c31 ?k31 ?a32 ?l32 ?c32 ?k32 ?z_abs ?z_bool ?z_int ?z_isinstance ?z_len ?z_list ?z_min ?z_range ?z_sorted ?z_str ?z_sum ?z_tuple ?g_LAND ?g_WATER) hmg L79.law_holds
    (case a0 => k_is); (case l0 => k_is); (case c0 => k_is); (case k0 => k_is); (case a1 => k_is); (case l1 => k_is); (case c1 => k_is); (case k1 => k_is); (case a2 => k_is); (case l2 => k_is); (case c2 => k_is); (case k2 => k_is); (case a3 => k_is); (case l3 => k_is); (case c3 => k_is); (case k3 => k_is); (case a4 => k_is); (case l4 => k_is); (case c4 => k_is); (case k4 => k_is); (case a5 => k_is); (case l5 => k_is); (case c5 => k_is); (case k5 => k_is); (case a6 => k_is); (case l6 => k_is); (case c6 => k_is); (case k6 => k_is); (case a7 => k_is); (case l7 => k_is); (case c7 => k_is); (case k7 => k_is); (case a8 => k_is); (case l8 => k_is); (case c8 => k_is); (case k8 => k_is); (case a9 => k_is); (case l9 => k_is); (case c9 => k_is); (case k9 => k_is); (case a10 => k_is); (case l10 => k_is); (case c10 => k_is); (case k10 => k_is); (case a11 => k_is); (case l11 => k_is); (case c11 => k_is); (case k11 => k_is); (case a12 => k_is); (case l12 => k_is); (case c12 => k_is); (case k12 => k_is); (case a13 => k_is); (case l13 => k_is); (case c13 => k_is); (case k13 => k_is); (case a14 => k_is); (case l14 => k_is); (case c14 => k_is); (case k14 => k_is); (case a15 => k_is); (case l15 => k_is); (case c15 => k_is); (case k15 => k_is); (case a16 => k_is); (case l16 => k_is); (case c16 => k_is); (case k16 => k_is); (case a17 => k_is); (case l17 => k_is); (case c17 => k_is); (case k17 => k_is); (case a18 => k_is); (case l18 => k_is); (case c18 => k_is); (case k18 => k_is); (case a19 => k_is); (case l19 => k_is); (case c19 => k_is); (case k19 => k_is); (case a20 => k_is); (case l20 => k_is); (case c20 => k_is); (case k20 => k_is); (case a21 => k_is); (case l21 => k_is); (case c21 => k_is); (case k21 => k_is); (case a22 => k_is); (case l22 => k_is); (case c22 => k_is); (case k22 => k_is); (case a23 => k_is); (case l23 => k_is); (case c23 => k_is); (case k23 => k_is); (case a24 => k_is); (case l24 => k_is); (case c24 => k_is); (case k24 => k_is); (case a25 => k_is); (case l25 => k_is); (case c25 => k_is); (case k25 => k_is); (case a26 => k_is); (case l26 => k_is); (case c26 => k_is); (case k26 => k_is); (case a27 => k_is); (case l27 => k_is); (case c27 => k_is); (case k27 => k_is); (case a28 => k_is); (case l28 => k_is); (case c28 => k_is); (case k28 => k_is); (case a29 => k_is); (case l29 => k_is); (case c29 => k_is); (case k29 => k_is); (case a30 => k_is); (case l30 => k_is); (case c30 => k_is); (case k30 => k_is); (case a31 => k_is); (case l31 => k_is); (case c31 => k_is); (case k31 => k_is); (case a32 => k_is); (case l32 => k_is); (case c32 => k_is); (case k32 => k_is); (case z_abs => k_is); (case z_bool => k_is); (case z_int => k_is); (case z_isinstance => k_is); (case z_len => k_is); (case z_list => k_is); (case z_min => k_is); (case z_range => k_is); (case z_sorted => k_is); (case z_str => k_is); (case z_sum => k_is); (case z_tuple => k_is); (case g_LAND => k_is); (case g_WATER => k_is)

