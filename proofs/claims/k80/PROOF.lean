import PyProof.Rows.All
import Wide.All
import OpenK.AllK
import Wide.FinOn
import HandS.ForMost
import HandS.TupAny
import HandS.TupMul
import HandS.Flow
import HandS.Deep
import HandS.IsInst
import HandS.SortInts
import KE.DataMinMax
import HandS.NoneIn
import HandS.TupLe
import PySem.Challenge.RW_landandwater_k80_whole_sand_becomes_calm
set_option autoImplicit false
set_option Elab.async false
set_option linter.all false
set_option maxRecDepth 100000
/-! VL1: values as plain data; how data lie in the abstract heap; the state of a def as data. -/
namespace VL
open PySem PySem.Spec PyProof.Rows L2

inductive D where
  | non | bl (b : Bool) | int (i : Int) | str (x : Str)
  | tup (xs : List D) | lst (xs : List D) | dct (kvs : List (D × D)) | deal (a : Addr) | fn (a : Addr) | scr (ns : List Int)

/-- a law's own draws: where they lie, what they are, how many were taken -/
structure Tape where
  a : Addr
  c : Addr
  row : List Int
  tot : Int
  pos : Nat
abbrev Wd := Option Tape
/-- the same draws, another count of those taken -/
def WdLe : Wd → Wd → Prop
  | none, W => W = none
  | some t, W => ∃ q, W = some { t with pos := q }
theorem WdLe.refl (W : Wd) : WdLe W W := by
  cases W with
  | none => rfl
  | some t => exact ⟨t.pos, rfl⟩
theorem WdLe.trans {W W1 W2 : Wd} (a : WdLe W W1) (b : WdLe W1 W2) : WdLe W W2 := by
  cases W with
  | none => cases (show W1 = none from a); exact b
  | some t =>
    obtain ⟨q, rfl⟩ := a
    obtain ⟨q2, rfl⟩ := b
    exact ⟨q2, rfl⟩

/-- the heap without the counter of the draws -/
def Hm (H : Hp) : Wd → Hp
  | none => H
  | some t => fun b => if b = t.c then none else H b
/-- the heap without some addresses -/
def cut (H : Hp) (O : List Addr) : Hp := fun b => if b ∈ O then none else H b

theorem cut_some {H : Hp} {O : List Addr} {b : Addr} {o : HO} : cut H O b = some o ↔ H b = some o ∧ b ∉ O := by
  unfold cut
  split
  · rename_i h; exact ⟨fun e => (nomatch e), fun e => absurd h e.2⟩
  · rename_i h; exact ⟨fun e => ⟨e, h⟩, fun e => e.1⟩
theorem Same.cut {H H' : Hp} (e : Same H H') (O : List Addr) : Same (cut H O) (cut H' O) := fun b o h => by
  obtain ⟨h1, h2⟩ := cut_some.mp h
  exact cut_some.mpr ⟨e b o h1, h2⟩
theorem Same.cutl {H : Hp} {O O' : List Addr} (h : ∀ b, b ∈ O' → b ∈ O) : Same (VL.cut H O) (VL.cut H O') := fun b o e => by
  obtain ⟨h1, h2⟩ := cut_some.mp e
  exact cut_some.mpr ⟨h1, fun q => h2 (h b q)⟩
theorem Same.uncut {H : Hp} {O : List Addr} : Same (VL.cut H O) H := fun b o e => (cut_some.mp e).1
theorem cut_nil {H : Hp} : cut H [] = H := by
  funext b
  unfold cut
  rw [if_neg (by simp)]
theorem Hm_some {H : Hp} {t : Tape} {b : Addr} {o : HO} : Hm H (some t) b = some o ↔ H b = some o ∧ b ≠ t.c := by
  show (if b = t.c then none else H b) = some o ↔ _
  split
  · rename_i h; exact ⟨fun e => (nomatch e), fun e => absurd h e.2⟩
  · rename_i h; exact ⟨fun e => ⟨e, h⟩, fun e => e.1⟩
theorem Hm_of {H : Hp} {W : Wd} {b : Addr} {o : HO} (h : Hm H W b = some o) : H b = some o := by
  cases W with
  | none => exact h
  | some t => exact (Hm_some.mp h).1
theorem Same.unHm {H : Hp} {W : Wd} : Same (Hm H W) H := fun b o h => Hm_of h

theorem Same.seqT {K : PySem.W.Frag} {H H' : Hp} {a : Addr} {xs : List V} (e : Same H H') (h : SqT K H a xs) : SqT K H' a xs := by
  rcases h with (h | ⟨o, h⟩) | h
  · exact .inl (.inl (e _ _ h))
  · exact .inl (.inr ⟨o, e _ _ h⟩)
  · exact .inr h

/-! ### keys -/
def kOf : D → Option Key
  | .int i => some (.inl i)
  | .str x => some (.inr x)
  | _ => none
def ksOf : List D → Option (List Key)
  | [] => some []
  | d :: r => match kOf d, ksOf r with
    | some k, some ks => some (k :: ks)
    | _, _ => none
def tOf : D → Option (List Key)
  | .tup ds => ksOf ds
  | _ => none
/-- a dict's pairs as they stand in the heap: keys, values -/
inductive KsR {κ : Type} (f : D → Option κ) : List (D × D) → List (κ × V) → List V → Prop
  | nil : KsR f [] [] []
  | cons {k d : D} {r : List (D × D)} {q : κ} {v : V} {rs : List (κ × V)} {vs : List V} : f k = some q → KsR f r rs vs → KsR f ((k, d) :: r) ((q, v) :: rs) (v :: vs)
/-- an object that is the dict of these pairs, its values being vs -/
def DctO (o : HO) (kvs : List (D × D)) (vs : List V) : Prop :=
  (∃ ks, o = .dK ks ∧ KsR kOf kvs ks vs) ∨ (∃ ks, o = .dT ks ∧ KsR tOf kvs ks vs)

mutual
/-- the data d lie at v -/
def RepS (K : PySem.W.Frag) (H : Hp) : D → V → Prop
  | .non, v => v = .non
  | .bl b, v => v = .bl b
  | .int i, v => v = .int i
  | .str x, v => v = .str x
  | .tup ds, v => ∃ a xs, v = .ref a ∧ SqT K H a xs ∧ RepSs K H ds xs
  | .lst ds, v => ∃ a xs, v = .ref a ∧ H a = some (.lst xs) ∧ RepSs K H ds xs
  | .dct kvs, v => ∃ a o vs, v = .ref a ∧ H a = some o ∧ DctO o kvs vs ∧ RepVs K H kvs vs
  | .deal a, v => v = .ref a
  | .fn a, v => v = .ref a
  | .scr ns, v => ∃ a, v = .ref a ∧ SqL K H a (ns.map V.int) ∧ ns.length ≤ 63
def RepSs (K : PySem.W.Frag) (H : Hp) : List D → List V → Prop
  | [], xs => xs = []
  | d :: ds, xs => ∃ x r, xs = x :: r ∧ RepS K H d x ∧ RepSs K H ds r
def RepVs (K : PySem.W.Frag) (H : Hp) : List (D × D) → List V → Prop
  | [], xs => xs = []
  | (_, d) :: ds, xs => ∃ x r, xs = x :: r ∧ RepS K H d x ∧ RepVs K H ds r
end
section
variable {K : PySem.W.Frag} {H H' : Hp}
theorem Same.rd (e : Same H H') {a : Addr} {o : HO} (h : Rd H a o) : Rd H' a o := by
  rcases h with h | ⟨u, h⟩
  · exact .inl (e _ _ h)
  · exact .inr ⟨u, e _ _ h⟩
mutual
theorem RepS.mono (e : Same H H') : ∀ (d : D) (v : V), RepS K H d v → RepS K H' d v
  | .non, v, h => by simpa [RepS] using h
  | .bl b, v, h => by simpa [RepS] using h
  | .int i, v, h => by simpa [RepS] using h
  | .str x, v, h => by simpa [RepS] using h
  | .tup ds, v, h => by
    simp only [RepS] at h ⊢
    obtain ⟨a, xs, e1, h1, h2⟩ := h
    exact ⟨a, xs, e1, Same.seqT e h1, RepSs.mono e ds xs h2⟩
  | .lst ds, v, h => by
    simp only [RepS] at h ⊢
    obtain ⟨a, xs, e1, h1, h2⟩ := h
    exact ⟨a, xs, e1, e _ _ h1, RepSs.mono e ds xs h2⟩
  | .dct kvs, v, h => by
    simp only [RepS] at h ⊢
    obtain ⟨a, o, vs, e1, h1, h2, h3⟩ := h
    exact ⟨a, o, vs, e1, e _ _ h1, h2, RepVs.mono e kvs vs h3⟩
  | .deal a, v, h => by simpa [RepS] using h
  | .fn a, v, h => by simpa [RepS] using h
  | .scr ns, v, h => by
    simp only [RepS] at h ⊢
    obtain ⟨a, e1, h1, h2⟩ := h
    exact ⟨a, e1, e.seq h1, h2⟩
theorem RepSs.mono (e : Same H H') : ∀ (ds : List D) (vs : List V), RepSs K H ds vs → RepSs K H' ds vs
  | [], v, h => by simpa [RepSs] using h
  | d :: ds, v, h => by
    simp only [RepSs] at h ⊢
    obtain ⟨x, r, e1, h1, h2⟩ := h
    exact ⟨x, r, e1, RepS.mono e d x h1, RepSs.mono e ds r h2⟩
theorem RepVs.mono (e : Same H H') : ∀ (ds : List (D × D)) (vs : List V), RepVs K H ds vs → RepVs K H' ds vs
  | [], v, h => by simpa [RepVs] using h
  | (_, d) :: ds, v, h => by
    simp only [RepVs] at h ⊢
    obtain ⟨x, r, e1, h1, h2⟩ := h
    exact ⟨x, r, e1, RepS.mono e d x h1, RepVs.mono e ds r h2⟩
end
theorem RepSs.length : ∀ {ds : List D} {vs : List V}, RepSs K H ds vs → ds.length = vs.length
  | [], v, h => by simp only [RepSs] at h; rw [h]; rfl
  | d :: ds, v, h => by
    simp only [RepSs] at h
    obtain ⟨x, r, e1, h1, h2⟩ := h
    rw [e1, List.length_cons, List.length_cons, RepSs.length h2]
theorem RepSs.get : ∀ {ds : List D} {vs : List V} {i : Nat} {d : D}, RepSs K H ds vs → ds[i]? = some d → ∃ v, vs[i]? = some v ∧ RepS K H d v
  | [], v, i, d, h, q => by simp at q
  | d :: ds, v, 0, d', h, q => by
    simp only [RepSs] at h
    obtain ⟨x, r, e1, h1, h2⟩ := h
    simp at q; subst q; subst e1
    exact ⟨x, rfl, h1⟩
  | d :: ds, v, i + 1, d', h, q => by
    simp only [RepSs] at h
    obtain ⟨x, r, e1, h1, h2⟩ := h
    subst e1
    obtain ⟨v, h3, h4⟩ := RepSs.get h2 (i := i) (d := d') (by simpa using q)
    exact ⟨v, by simpa using h3, h4⟩
theorem RepSs.append : ∀ {ds es : List D} {vs us : List V}, RepSs K H ds vs → RepSs K H es us → RepSs K H (ds ++ es) (vs ++ us)
  | [], es, v, us, h, q => by simp only [RepSs] at h; subst h; exact q
  | d :: ds, es, v, us, h, q => by
    simp only [RepSs] at h
    obtain ⟨x, r, e1, h1, h2⟩ := h
    subst e1
    simp only [List.cons_append, RepSs]
    exact ⟨x, r ++ us, rfl, h1, RepSs.append h2 q⟩
theorem RepSs.take : ∀ {ds : List D} {vs : List V} (n : Nat), RepSs K H ds vs → RepSs K H (ds.take n) (vs.take n)
  | ds, vs, 0, h => by simp [RepSs]
  | [], vs, n + 1, h => by simp only [RepSs] at h; subst h; simp [RepSs]
  | d :: ds, v, n + 1, h => by
    simp only [RepSs] at h
    obtain ⟨x, r, e1, h1, h2⟩ := h
    subst e1
    simp only [List.take_succ_cons, RepSs]
    exact ⟨x, r.take n, rfl, h1, RepSs.take n h2⟩
theorem RepSs.drop : ∀ {ds : List D} {vs : List V} (n : Nat), RepSs K H ds vs → RepSs K H (ds.drop n) (vs.drop n)
  | ds, vs, 0, h => by simpa using h
  | [], vs, n + 1, h => by simp only [RepSs] at h; subst h; simp [RepSs]
  | d :: ds, v, n + 1, h => by
    simp only [RepSs] at h
    obtain ⟨x, r, e1, h1, h2⟩ := h
    subst e1
    simpa using RepSs.drop n h2
theorem RepSs.set : ∀ {ds : List D} {vs : List V} {d : D} {v : V} (i : Nat), RepSs K H ds vs → RepS K H d v → RepSs K H (ds.set i d) (vs.set i v)
  | [], vs, d, v, i, h, q => by simp only [RepSs] at h; subst h; simp [RepSs]
  | d :: ds, vs, d', v, 0, h, q => by
    simp only [RepSs] at h
    obtain ⟨x, r, e1, h1, h2⟩ := h
    subst e1
    simp only [List.set_cons_zero, RepSs]
    exact ⟨v, r, rfl, q, h2⟩
  | d :: ds, vs, d', v, i + 1, h, q => by
    simp only [RepSs] at h
    obtain ⟨x, r, e1, h1, h2⟩ := h
    subst e1
    simp only [List.set_cons_succ, RepSs]
    exact ⟨x, r.set i v, rfl, h1, RepSs.set i h2 q⟩
theorem RepSs.one {d : D} {v : V} (h : RepS K H d v) : RepSs K H [d] [v] := by
  simp only [RepSs]
  exact ⟨v, [], rfl, h, rfl⟩
theorem RepSs.rep {d : D} {v : V} (h : RepS K H d v) : ∀ n : Nat, RepSs K H (List.replicate n d) (List.replicate n v)
  | 0 => by simp [RepSs]
  | n + 1 => by
    simp only [List.replicate_succ, RepSs]
    exact ⟨v, _, rfl, h, RepSs.rep h n⟩
theorem RepSs.ints : ∀ {ns : List Int} {vs : List V}, RepSs K H (ns.map D.int) vs ↔ vs = ns.map V.int
  | [], vs => by simp [RepSs]
  | n :: ns, vs => by
    simp only [List.map_cons, RepSs, RepS]
    constructor
    · rintro ⟨x, r, e1, e2, h2⟩
      rw [RepSs.ints] at h2
      subst e2; subst h2; exact e1
    · intro e
      exact ⟨_, _, e, rfl, RepSs.ints.mpr rfl⟩
theorem RepSs.strs : ∀ {ns : List Str} {vs : List V}, RepSs K H (ns.map D.str) vs ↔ vs = ns.map V.str
  | [], vs => by simp [RepSs]
  | n :: ns, vs => by
    simp only [List.map_cons, RepSs, RepS]
    constructor
    · rintro ⟨x, r, e1, e2, h2⟩
      rw [RepSs.strs] at h2
      subst e2; subst h2; exact e1
    · intro e
      exact ⟨_, _, e, rfl, RepSs.strs.mpr rfl⟩
end

/-! ### data without lists and dicts: nothing in them can change -/
mutual
def flat : D → Bool
  | .lst _ => false
  | .dct _ => false
  | .scr _ => false
  | .tup ds => flats ds
  | _ => true
def flats : List D → Bool
  | [] => true
  | d :: ds => flat d && flats ds
end
/-- the tuples of a heap stand in another -/
def TupsIn (H G : Hp) : Prop := ∀ b u, (Rd H b (.tup u)) → Rd G b (.tup u)
section
variable {K : PySem.W.Frag} {H G : Hp}
theorem TupsIn.sq (e : TupsIn H G) {a : Addr} {xs : List V} (h : SqT K H a xs) : SqT K G a xs := by
  rcases h with h | h
  · exact .inl (e _ _ h)
  · exact .inr h
mutual
theorem RepS.flat (e : TupsIn H G) : ∀ (d : D) (v : V), flat d = true → RepS K H d v → RepS K G d v
  | .non, v, _, h => by simpa [RepS] using h
  | .bl b, v, _, h => by simpa [RepS] using h
  | .int i, v, _, h => by simpa [RepS] using h
  | .str x, v, _, h => by simpa [RepS] using h
  | .tup ds, v, f, h => by
    simp only [VL.flat] at f
    simp only [RepS] at h ⊢
    obtain ⟨a, xs, e1, h1, h2⟩ := h
    exact ⟨a, xs, e1, e.sq h1, RepSs.flat e ds xs f h2⟩
  | .lst ds, v, f, h => by simp [VL.flat] at f
  | .dct kvs, v, f, h => by simp [VL.flat] at f
  | .deal a, v, _, h => by simpa [RepS] using h
  | .fn a, v, _, h => by simpa [RepS] using h
  | .scr ns, v, f, h => by simp [VL.flat] at f
theorem RepSs.flat (e : TupsIn H G) : ∀ (ds : List D) (vs : List V), flats ds = true → RepSs K H ds vs → RepSs K G ds vs
  | [], v, _, h => by simpa [RepSs] using h
  | d :: ds, v, f, h => by
    simp only [flats, Bool.and_eq_true] at f
    simp only [RepSs] at h ⊢
    obtain ⟨x, r, e1, h1, h2⟩ := h
    exact ⟨x, r, e1, RepS.flat e d x f.1 h1, RepSs.flat e ds r f.2 h2⟩
end
end
end VL

/-! VL2: the state of a def as data; readings over it. -/
namespace VL
open PySem PySem.Spec PyProof.Rows L2

/-- what a name holds: data that stay; a list, a list of lists, a dict of one's own -/
inductive SV where
  | val (d : D) | ml (ds : List D) | mg (g : List (List D)) | md (kvs : List (D × D))
abbrev SG := List (Option SV)

/-- the lists of a list of lists -/
def RowsO (K : PySem.W.Frag) (G H : Hp) : List (List D) → List Addr → Prop
  | [], ps => ps = []
  | r :: g, ps => ∃ p qs xs, ps = p :: qs ∧ H p = some (.lst xs) ∧ RepSs K G r xs ∧ RowsO K G H g qs
/-- a list or a dict at p -/
def Node (K : PySem.W.Frag) (G H : Hp) (p : Addr) : D → Prop
  | .lst ds => ∃ xs, H p = some (.lst xs) ∧ RepSs K G ds xs
  | .dct kvs => ∃ o vs, H p = some o ∧ DctO o kvs vs ∧ RepVs K G kvs vs
  | _ => False
def RepO (K : PySem.W.Frag) (G H : Hp) : SV → V → List Addr → Prop
  | .val d, v, _ => RepS K G d v
  | .ml ds, v, A => ∃ p, v = .ref p ∧ A = [p] ∧ Node K G H p (.lst ds)
  | .md kvs, v, A => ∃ p, v = .ref p ∧ A = [p] ∧ Node K G H p (.dct kvs)
  | .mg g, v, A => ∃ p ps, v = .ref p ∧ A = p :: ps ∧ H p = some (.lst (ps.map V.ref)) ∧ RowsO K G H g ps
section
variable {K : PySem.W.Frag} {G G' H H' : Hp}
theorem Node.mono (g : Same G G') (h : Same H H') {p : Addr} : ∀ {d : D}, Node K G H p d → Node K G' H' p d
  | .lst ds, ⟨xs, e, q⟩ => ⟨xs, h _ _ e, RepSs.mono g _ _ q⟩
  | .dct kvs, ⟨o, vs, e, q, r⟩ => ⟨o, vs, h _ _ e, q, RepVs.mono g _ _ r⟩
theorem RowsO.mono (g : Same G G') (h : Same H H') : ∀ {r : List (List D)} {ps : List Addr}, RowsO K G H r ps → RowsO K G' H' r ps
  | [], ps, q => q
  | r :: rs, ps, ⟨p, qs, xs, e, e2, q, t⟩ => ⟨p, qs, xs, e, h _ _ e2, RepSs.mono g _ _ q, RowsO.mono g h t⟩
theorem RepO.mono (g : Same G G') (h : Same H H') {A : List Addr} {v : V} : ∀ {sv : SV}, RepO K G H sv v A → RepO K G' H' sv v A
  | .val d, q => RepS.mono g _ _ q
  | .ml ds, ⟨p, e, e2, q⟩ => ⟨p, e, e2, q.mono g h⟩
  | .md ds, ⟨p, e, e2, q⟩ => ⟨p, e, e2, q.mono g h⟩
  | .mg r, ⟨p, ps, e, e2, e3, q⟩ => ⟨p, ps, e, e2, h _ _ e3, q.mono g h⟩
/-- the lists stand in the frozen part as well -/
theorem RowsO.rep (h : Same G G') : ∀ {r : List (List D)} {ps : List Addr}, RowsO K G H r ps → (∀ p ∈ ps, ∀ o, H p = some o → G' p = some o) → RepSs K G' (r.map D.lst) (ps.map V.ref)
  | [], ps, q, _ => by
    cases (show ps = [] from q)
    simp [RepSs]
  | r :: rs, ps, ⟨p, qs, xs, e, e2, q, t⟩, hp => by
    subst e
    simp only [List.map_cons, RepSs, RepS]
    exact ⟨_, _, rfl, ⟨p, xs, rfl, hp p (by simp) _ e2, RepSs.mono h _ _ q⟩, RowsO.rep h t fun p' m => hp p' (List.mem_cons_of_mem _ m)⟩
end
def OwnO : HO → Prop
  | .lst _ => True
  | .dK _ => True
  | .dT _ => True
  | _ => False
theorem DctO.own {o : HO} {kvs : List (D × D)} {vs : List V} (h : DctO o kvs vs) : OwnO o := by
  rcases h with ⟨ks, e, _⟩ | ⟨ks, e, _⟩ <;> (subst e; trivial)

/-- what is asked of the counter: its list and its draws stand in G -/
def CellOk (G H : Hp) : Wd → Prop
  | none => True
  | some t => ∃ r, G t.a = some (.lst [.ref r, .ref t.c, .int t.tot]) ∧ G r = some (.lst (t.row.map V.int)) ∧ H t.c = some (.lst [.int t.pos])

/-- a def's frame: what stood before (it stays), what of it is others' own, the draws at its start -/
structure Frm where
  B : Hp
  X : List Addr
  W0 : Wd

structure Live (K : PySem.W.Frag) (F : Frm) (σ : SG) (W : Wd) (A : List (List Addr)) (s : List (Option V)) (H : Hp) : Prop where
  nd : A.flatten.Nodup
  al : A.length = σ.length
  sl : s.length = σ.length
  base : ∀ b o, F.B b = some o → Hm H W b = some o ∧ b ∉ A.flatten
  xb : ∀ b ∈ F.X, (F.B b).isSome = true
  trk : ∀ b ∈ A.flatten, ∃ o, Hm H W b = some o ∧ OwnO o
  cell : CellOk (cut (Hm H W) (A.flatten ++ F.X)) H W
  kc : WdLe F.W0 W
  slot : ∀ (i : Nat) (sv : SV), σ[i]? = some (some sv) → ∃ v Ai, s[i]? = some (some v) ∧ A[i]? = some Ai ∧ RepO K (cut (Hm H W) (A.flatten ++ F.X)) (Hm H W) sv v Ai

structure Ext (O : List Addr) (W : Wd) (H : Hp) (W' : Wd) (H' : Hp) : Prop where
  same : Same (Hm H W) (Hm H' W')
  cell : CellOk (cut (Hm H' W') O) H' W'
  kc : WdLe W W'
theorem Ext.trans {O : List Addr} {W W1 W2 : Wd} {H H1 H2 : Hp} (a : Ext O W H W1 H1) (b : Ext O W1 H1 W2 H2) : Ext O W H W2 H2 :=
  ⟨a.same.trans b.same, b.cell, a.kc.trans b.kc⟩
section
variable {K : PySem.W.Frag} {F : Frm} {σ : SG} {W W' : Wd} {A : List (List Addr)} {s : L2.St} {H H' : Hp}
theorem Live.ext0 (L : Live K F σ W A s H) : Ext (A.flatten ++ F.X) W H W H := ⟨.refl _, L.cell, .refl _⟩
theorem Live.step (L : Live K F σ W A s H) (e : Ext (A.flatten ++ F.X) W H W' H') : Live K F σ W' A s H' where
  nd := L.nd
  al := L.al
  sl := L.sl
  base := fun b o h => ⟨e.same _ _ (L.base b o h).1, (L.base b o h).2⟩
  xb := L.xb
  trk := fun b h => let ⟨o, q, r⟩ := L.trk b h; ⟨o, e.same _ _ q, r⟩
  cell := e.cell
  kc := L.kc.trans e.kc
  slot := fun i sv h => by
    obtain ⟨v, Ai, h1, h2, h3⟩ := L.slot i sv h
    exact ⟨v, Ai, h1, h2, h3.mono (Same.cut e.same _) e.same⟩
theorem Live.weak {B : Hp} (L : Live K { F with B := B } σ W A s H) (h : Same F.B B) (hx : ∀ b ∈ F.X, (F.B b).isSome = true) : Live K F σ W A s H :=
  ⟨L.nd, L.al, L.sl, fun b o q => L.base b o (h b o q), hx, L.trk, L.cell, L.kc, L.slot⟩
theorem Live.xt (L : Live K F σ W A s H) {b : Addr} (h : b ∈ A.flatten ++ F.X) : ∃ o, Hm H W b = some o := by
  rcases List.mem_append.mp h with h | h
  · obtain ⟨o, q, _⟩ := L.trk b h
    exact ⟨o, q⟩
  · obtain ⟨o, q⟩ := Option.isSome_iff_exists.mp (L.xb b h)
    exact ⟨o, (L.base b o q).1⟩
theorem Live.ax (L : Live K F σ W A s H) {b : Addr} (h : b ∈ A.flatten) : b ∉ F.X := fun q => by
  obtain ⟨o, e⟩ := Option.isSome_iff_exists.mp (L.xb b q)
  exact (L.base b o e).2 h
theorem Live.new (L : Live K F σ W A s H) {p : Addr} (h : Hm H W p = none) : p ∉ A.flatten ++ F.X := fun q => by
  obtain ⟨o, e⟩ := L.xt q
  rw [h] at e; cases e
end

/-! ### tags of values -/
inductive Tg where
  | st | fr | fr2 | b1 | b2
/-- data of this tag may be kept -/
def stoB : Tg → D → Bool
  | .st, _ => true
  | .fr, _ => true
  | .fr2, _ => true
  | .b1, d => flat d
  | .b2, d => flat d
def sto (t : Tg) (d : D) : Prop := stoB t d = true
/-- A: one's own; X: others' own; H0 ahead, H behind -/
def Post (K : PySem.W.Frag) (A X : List Addr) (H0 H : Hp) : Tg → D → V → Prop
  | .st, d, v => RepS K (cut H (A ++ X)) d v
  | .fr, d, v => ∃ p, v = .ref p ∧ H0 p = none ∧ Node K (cut H (p :: (A ++ X))) H p d
  | .fr2, d, v => ∃ p ps g, d = .lst (g.map D.lst) ∧ v = .ref p ∧ (p :: ps).Nodup ∧ (∀ q ∈ p :: ps, H0 q = none) ∧ H p = some (.lst (ps.map V.ref)) ∧ RowsO K (cut H ((p :: ps) ++ (A ++ X))) H g ps
  | .b1, d, v => ∃ p, v = .ref p ∧ p ∈ A ∧ Node K (cut H (A ++ X)) H p d
  | .b2, d, v => RepS K (cut H X) d v
section
variable {K : PySem.W.Frag} {A X : List Addr} {H0 H1 H2 : Hp} {d : D} {v : V}
theorem Post.mono (h : Same H1 H2) : ∀ {tg : Tg}, Post K A X H0 H1 tg d v → Post K A X H0 H2 tg d v
  | .st, q => RepS.mono (Same.cut h _) _ _ q
  | .fr, ⟨p, e, e2, q⟩ => ⟨p, e, e2, q.mono (Same.cut h _) h⟩
  | .fr2, ⟨p, ps, g, e, e2, e3, e4, e5, q⟩ => ⟨p, ps, g, e, e2, e3, e4, h _ _ e5, q.mono (Same.cut h _) h⟩
  | .b1, ⟨p, e, e2, q⟩ => ⟨p, e, e2, q.mono (Same.cut h _) h⟩
  | .b2, q => RepS.mono (Same.cut h _) _ _ q
theorem Post.back (h : Same H0 H1) : ∀ {tg : Tg}, Post K A X H1 H2 tg d v → Post K A X H0 H2 tg d v
  | .st, q => q
  | .fr, ⟨p, e, e2, q⟩ => ⟨p, e, h.free e2, q⟩
  | .fr2, ⟨p, ps, g, e, e2, e3, e4, e5, q⟩ => ⟨p, ps, g, e, e2, e3, fun q m => h.free (e4 q m), e5, q⟩
  | .b1, q => q
  | .b2, q => q
theorem Node.rep {G G' H : Hp} (g : Same G G') {p : Addr} (h : ∀ o, H p = some o → G' p = some o) : ∀ {d : D}, Node K G H p d → RepS K G' d (.ref p)
  | .lst ds, ⟨xs, e, q⟩ => by
    simp only [RepS]
    exact ⟨p, xs, rfl, h _ e, RepSs.mono g _ _ q⟩
  | .dct kvs, ⟨o, vs, e, q, r⟩ => by
    simp only [RepS]
    exact ⟨p, o, vs, rfl, h _ e, q, RepVs.mono g _ _ r⟩
/-- what is needed of the state ahead -/
structure Own (A X : List Addr) (H0 : Hp) : Prop where
  trk : ∀ b ∈ A, ∃ o, H0 b = some o ∧ OwnO o
  xt : ∀ b ∈ X, ∃ o, H0 b = some o
  ax : ∀ b ∈ A, b ∉ X
theorem Own.new (O : Own A X H0) {p : Addr} (h : H0 p = none) : p ∉ A ++ X := fun q => by
  rcases List.mem_append.mp q with q | q
  · obtain ⟨o, e, _⟩ := O.trk p q
    rw [h] at e; cases e
  · obtain ⟨o, e⟩ := O.xt p q
    rw [h] at e; cases e
theorem Own.step (O : Own A X H0) (h : Same H0 H1) : Own A X H1 :=
  ⟨fun b m => let ⟨o, e, q⟩ := O.trk b m; ⟨o, h _ _ e, q⟩, fun b m => let ⟨o, e⟩ := O.xt b m; ⟨o, h _ _ e⟩, O.ax⟩
theorem Live.own {K : PySem.W.Frag} {F : Frm} {σ : SG} {W : Wd} {A : List (List Addr)} {s : L2.St} {H : Hp} (L : Live K F σ W A s H) : Own A.flatten F.X (Hm H W) :=
  ⟨L.trk, fun b m => L.xt (List.mem_append_right _ m), fun b m => L.ax m⟩
theorem mem_snd {α : Type} {b : α} {A X : List α} (h : b ∈ X) : b ∈ A ++ X := List.mem_append_right _ h
theorem Post.rep (O : Own A X H0) (hs : Same H0 H2) : ∀ {tg : Tg}, Post K A X H0 H2 tg d v → RepS K (cut H2 X) d v
  | .st, q => RepS.mono (Same.cutl fun b => mem_snd) _ _ q
  | .fr, ⟨p, e, e2, q⟩ => by
    subst e
    exact q.rep (Same.cutl fun b m => List.mem_cons_of_mem _ (mem_snd m)) fun o h => cut_some.mpr ⟨h, fun z => O.new e2 (mem_snd z)⟩
  | .fr2, ⟨p, ps, g, e, e2, e3, e4, e5, q⟩ => by
    subst e; subst e2
    simp only [RepS]
    exact ⟨p, _, rfl, (cut_some.mpr ⟨e5, fun z => O.new (e4 p (by simp)) (mem_snd z)⟩), q.rep (Same.cutl fun b m => List.mem_append_right _ (mem_snd m)) fun p' m o h => cut_some.mpr ⟨h, fun z => O.new (e4 p' (List.mem_cons_of_mem _ m)) (mem_snd z)⟩⟩
  | .b1, ⟨p, e, e2, q⟩ => by
    subst e
    exact q.rep (Same.cutl fun b => mem_snd) fun o h => cut_some.mpr ⟨h, O.ax p e2⟩
  | .b2, q => q
theorem Own.tups (O : Own A X H0) (hs : Same H0 H2) : TupsIn (cut H2 X) (cut H2 (A ++ X)) := fun b u h => by
  have key : ∀ o, H2 b = some o → b ∈ A → OwnO o := fun o e m => by
    obtain ⟨o', e', q⟩ := O.trk b m
    rw [hs _ _ e'] at e; cases e
    exact q
  rcases h with h | ⟨o, h⟩
  · obtain ⟨h1, h2⟩ := cut_some.mp h
    exact .inl (cut_some.mpr ⟨h1, fun m => (List.mem_append.mp m).elim (fun m => key _ h1 m) h2⟩)
  · obtain ⟨h1, h2⟩ := cut_some.mp h
    exact .inr ⟨o, cut_some.mpr ⟨h1, fun m => (List.mem_append.mp m).elim (fun m => key _ h1 m) h2⟩⟩
theorem Post.keep (O : Own A X H0) (hs : Same H0 H2) : ∀ {tg : Tg}, sto tg d → Post K A X H0 H2 tg d v → RepS K (cut H2 (A ++ X)) d v
  | .st, _, q => q
  | .fr, _, ⟨p, e, e2, q⟩ => by
    subst e
    exact q.rep (Same.cutl fun b m => List.mem_cons_of_mem _ m) fun o h => cut_some.mpr ⟨h, fun z => O.new e2 z⟩
  | .fr2, _, ⟨p, ps, g, e, e2, e3, e4, e5, q⟩ => by
    subst e; subst e2
    simp only [RepS]
    exact ⟨p, _, rfl, (cut_some.mpr ⟨e5, fun z => O.new (e4 p (by simp)) z⟩), q.rep (Same.cutl fun b m => List.mem_append_right _ m) fun p' m o h => cut_some.mpr ⟨h, fun z => O.new (e4 p' (List.mem_cons_of_mem _ m)) z⟩⟩
  | .b1, f, q => RepS.flat (O.tups hs) _ _ f (Post.rep O hs (tg := .b1) q)
  | .b2, f, q => RepS.flat (O.tups hs) _ _ f (Post.rep O hs (tg := .b2) q)
end

/-! ### transformers over data, their readings -/
abbrev SE := SG → Wd → (Tg → D → Wd → Prop) → Prop
abbrev SB := SG → Wd → (Bool → Wd → Prop) → Prop
abbrev SA := SG → Wd → (List (Tg × D) → Wd → Prop) → Prop
structure SEnds where
  nx : SG → Wd → Prop
  rt : Tg → D → Wd → Prop
  bk : SG → Wd → Prop := fun _ _ => False
  ct : SG → Wd → Prop := fun _ _ => False
abbrev SS := SEnds → SG → Wd → Prop
structure SEnds.Le (D D' : SEnds) : Prop where
  nx : ∀ σ W, D.nx σ W → D'.nx σ W
  rt : ∀ t d W, D.rt t d W → D'.rt t d W
  bk : ∀ σ W, D.bk σ W → D'.bk σ W
  ct : ∀ σ W, D.ct σ W → D'.ct σ W
theorem SEnds.Le.refl (D : SEnds) : D.Le D := ⟨fun _ _ h => h, fun _ _ _ h => h, fun _ _ h => h, fun _ _ h => h⟩
def MonoE (t : SE) : Prop := ∀ σ W Q Q', (∀ tg d W', Q tg d W' → Q' tg d W') → t σ W Q → t σ W Q'
def MonoB (t : SB) : Prop := ∀ σ W Q Q', (∀ b W', Q b W' → Q' b W') → t σ W Q → t σ W Q'
def MonoA (t : SA) : Prop := ∀ σ W Q Q', (∀ b W', Q b W' → Q' b W') → t σ W Q → t σ W Q'
def MonoS (t : SS) : Prop := ∀ D D' σ W, D.Le D' → t D σ W → t D' σ W

def PostA (K : PySem.W.Frag) (A X : List Addr) (H0 H : Hp) : List (Tg × D) → List V → Prop
  | [], vs => vs = []
  | (tg, d) :: r, vs => ∃ v us, vs = v :: us ∧ Post K A X H0 H tg d v ∧ PostA K A X H0 H r us

/-- what a return hands out -/
def RetPost (K : PySem.W.Frag) (B : Hp) (X : List Addr) (H : Hp) : Tg → D → V → Prop
  | .fr, d, v => ∃ p, v = .ref p ∧ B p = none ∧ Node K (cut H (p :: X)) H p d
  | _, d, v => RepS K (cut H X) d v
structure RetP (K : PySem.W.Frag) (F : Frm) (W : Wd) (H : Hp) (tg : Tg) (d : D) (v : V) : Prop where
  same : Same F.B (Hm H W)
  cell : CellOk (cut (Hm H W) F.X) H W
  kc : WdLe F.W0 W
  post : RetPost K F.B F.X (Hm H W) tg d v

def rdE (K : PySem.W.Frag) (t : SE) : TE := fun s H Q => ∃ F σ W A, Live K F σ W A s H ∧ t σ W fun tg d W' => ∀ v H', Ext (A.flatten ++ F.X) W H W' H' → Post K A.flatten F.X (Hm H W) (Hm H' W') tg d v → Q v H'
def rdB (K : PySem.W.Frag) (t : SB) : TT := fun s H Q => ∃ F σ W A, Live K F σ W A s H ∧ t σ W fun b W' => ∀ H', Ext (A.flatten ++ F.X) W H W' H' → Q b H'
def rdA (K : PySem.W.Frag) (t : SA) : TA := fun s H Q => ∃ F σ W A, Live K F σ W A s H ∧ t σ W fun ds W' => ∀ vs H', Ext (A.flatten ++ F.X) W H W' H' → PostA K A.flatten F.X (Hm H W) (Hm H' W') ds vs → Q vs H'
def endsOf (K : PySem.W.Frag) (F : Frm) (Dn : Ends) : SEnds where
  nx := fun σ W => ∀ A s H, Live K F σ W A s H → Dn.nx s H
  rt := fun tg d W => ∀ v H, RetP K F W H tg d v → Dn.rt v H
  bk := fun σ W => ∀ A s H, Live K F σ W A s H → Dn.bk s H
  ct := fun σ W => ∀ A s H, Live K F σ W A s H → Dn.ct s H
def rdS (K : PySem.W.Frag) (t : SS) : TS := fun Dn s H => ∃ F σ W A, Live K F σ W A s H ∧ t (endsOf K F Dn) σ W

structure VE (X : Cx) (e : Expr) (t : SE) : Prop where
  pe : PE X e (rdE X.K t)
  mono : MonoE t
structure VT (X : Cx) (e : Expr) (t : SB) : Prop where
  pe : PT X e (rdB X.K t)
  mono : MonoB t
structure VW (X : Cx) (e : Expr) (t : SB) : Prop where
  pe : PW X e (rdB X.K t)
  mono : MonoB t
structure VA (X : Cx) (es : List Expr) (t : SA) : Prop where
  pe : PA X es (rdA X.K t)
  mono : MonoA t
structure VS (X : Cx) (st : Stmt) (t : SS) : Prop where
  pe : PS X st (rdS X.K t)
  mono : MonoS t
structure VSs (X : Cx) (sts : List Stmt) (t : SS) : Prop where
  pe : PSs X sts (rdS X.K t)
  mono : MonoS t
theorem peI {X : Cx} {e : Expr} {t t' : TE} (h : PE X e t) (i : ∀ s H Q, t' s H Q → t s H Q) : PE X e t' := ⟨fun pins s σ H Q I w => h.run pins s σ H Q I (i _ _ _ w)⟩
theorem ptI {X : Cx} {e : Expr} {t t' : TT} (h : PT X e t) (i : ∀ s H Q, t' s H Q → t s H Q) : PT X e t' := ⟨fun pins s σ H Q I w => h.run pins s σ H Q I (i _ _ _ w)⟩
theorem pwI {X : Cx} {e : Expr} {t t' : TT} (h : PW X e t) (i : ∀ s H Q, t' s H Q → t s H Q) : PW X e t' := ⟨fun wh pins s σ H Q I w => h.run wh pins s σ H Q I (i _ _ _ w)⟩
theorem paI {X : Cx} {e : List Expr} {t t' : TA} (h : PA X e t) (i : ∀ s H Q, t' s H Q → t s H Q) : PA X e t' := ⟨fun pos pins s σ H Q I w => h.run pos pins s σ H Q I (i _ _ _ w)⟩
theorem psI {X : Cx} {e : Stmt} {t t' : TS} (h : PS X e t) (i : ∀ D s H, t' D s H → t D s H) : PS X e t' := ⟨fun pins s σ H D I w => h.run pins s σ H D I (i _ _ _ w)⟩
theorem pssI {X : Cx} {e : List Stmt} {t t' : TS} (h : PSs X e t) (i : ∀ D s H, t' D s H → t D s H) : PSs X e t' := ⟨fun pins s σ H D I w => h.run pins s σ H D I (i _ _ _ w)⟩

section
variable {K : PySem.W.Frag} {F : Frm} {σ : SG} {W : Wd} {A : List (List Addr)} {s : L2.St} {H : Hp}
/-- one part, then what follows -/
theorem Live.one (L : Live K F σ W A s H) {ta : SE} (ma : MonoE ta) {R : Tg → D → Wd → Prop} {Q : V → Hp → Prop} (w : ta σ W R)
    (h : ∀ tg d W1 v H1, R tg d W1 → Live K F σ W1 A s H1 → Ext (A.flatten ++ F.X) W H W1 H1 → Post K A.flatten F.X (Hm H W) (Hm H1 W1) tg d v → Q v H1) : rdE K ta s H Q :=
  ⟨F, σ, W, A, L, ma _ _ _ _ (fun tg d W1 r v H1 e p => h tg d W1 v H1 r (L.step e) e p) w⟩
/-- two parts, from the left -/
theorem Live.two (L : Live K F σ W A s H) {ta tb : SE} (ma : MonoE ta) (mb : MonoE tb) {R : Tg → D → Tg → D → Wd → Prop} {Q : V → V → Hp → Prop}
    (w : ta σ W fun t1 x W1 => tb σ W1 fun t2 y W2 => R t1 x t2 y W2)
    (h : ∀ t1 x t2 y W2 v u H2, R t1 x t2 y W2 → Live K F σ W2 A s H2 → Ext (A.flatten ++ F.X) W H W2 H2 → Post K A.flatten F.X (Hm H W) (Hm H2 W2) t1 x v → Post K A.flatten F.X (Hm H W) (Hm H2 W2) t2 y u → Q v u H2) :
    rdE K ta s H fun v H1 => rdE K tb s H1 fun u H2 => Q v u H2 :=
  L.one ma w fun t1 x W1 v H1 r L1 e1 p1 => L1.one mb r fun t2 y W2 u H2 r2 L2 e2 p2 =>
    h t1 x t2 y W2 v u H2 r2 L2 (e1.trans e2) (p1.mono e2.same) (p2.back e1.same)
theorem Live.args (L : Live K F σ W A s H) {ta : SA} (ma : MonoA ta) {R : List (Tg × D) → Wd → Prop} {Q : List V → Hp → Prop} (w : ta σ W R)
    (h : ∀ ds W1 vs H1, R ds W1 → Live K F σ W1 A s H1 → Ext (A.flatten ++ F.X) W H W1 H1 → PostA K A.flatten F.X (Hm H W) (Hm H1 W1) ds vs → Q vs H1) : rdA K ta s H Q :=
  ⟨F, σ, W, A, L, ma _ _ _ _ (fun ds W1 r v H1 e p => h ds W1 v H1 r (L.step e) e p) w⟩
theorem Live.test (L : Live K F σ W A s H) {ta : SB} (ma : MonoB ta) {R : Bool → Wd → Prop} {Q : Bool → Hp → Prop} (w : ta σ W R)
    (h : ∀ b W1 H1, R b W1 → Live K F σ W1 A s H1 → Ext (A.flatten ++ F.X) W H W1 H1 → Q b H1) : rdB K ta s H Q :=
  ⟨F, σ, W, A, L, ma _ _ _ _ (fun b W1 r H1 e => h b W1 H1 r (L.step e) e) w⟩
theorem PostA.mono {A X : List Addr} {H0 H1 H2 : Hp} (h : Same H1 H2) : ∀ {ds : List (Tg × D)} {vs : List V}, PostA K A X H0 H1 ds vs → PostA K A X H0 H2 ds vs
  | [], _, q => q
  | (_, _) :: _, _, ⟨v, us, e, p, q⟩ => ⟨v, us, e, p.mono h, q.mono h⟩
theorem PostA.back {A X : List Addr} {H0 H1 H2 : Hp} (h : Same H0 H1) : ∀ {ds : List (Tg × D)} {vs : List V}, PostA K A X H1 H2 ds vs → PostA K A X H0 H2 ds vs
  | [], _, q => q
  | (_, _) :: _, _, ⟨v, us, e, p, q⟩ => ⟨v, us, e, p.back h, q.back h⟩
/-- a new object -/
theorem Ext.laid {O : List Addr} {W0 W : Wd} {H0 H : Hp} (e : Ext O W0 H0 W H) {p : Addr} (hp : H p = none) (o : HO) : Ext O W0 H0 W (upd H p o) := by
  have s : Same (Hm H W) (Hm (upd H p o) W) := fun b u h => by
    cases W with
    | none => exact (upd_ne (ne_of_none h hp)).trans h
    | some t =>
      obtain ⟨h1, h2⟩ := Hm_some.mp h
      exact Hm_some.mpr ⟨(upd_ne (ne_of_none h1 hp)).trans h1, h2⟩
  refine ⟨e.same.trans s, ?_, e.kc⟩
  cases W with
  | none => trivial
  | some t =>
    obtain ⟨r, h1, h2, h3⟩ := e.cell
    exact ⟨r, Same.cut s _ _ _ h1, Same.cut s _ _ _ h2, (upd_ne (ne_of_none h3 hp)).trans h3⟩
theorem Hm_none {W : Wd} {p : Addr} (hp : H p = none) : Hm H W p = none := by
  cases W with
  | none => exact hp
  | some t =>
    show (if p = t.c then none else H p) = none
    split
    · rfl
    · exact hp
theorem Hm_upd {O : List Addr} {W0 W : Wd} {H0 H : Hp} (e : Ext O W0 H0 W H) {p : Addr} (hp : H p = none) (o : HO) : Hm (upd H p o) W p = some o := by
  cases W with
  | none => exact upd_same
  | some t =>
    refine Hm_some.mpr ⟨upd_same, fun z => ?_⟩
    obtain ⟨r, h1, h2, h3⟩ := e.cell
    rw [← z, hp] at h3; cases h3
end
end VL

/-! VL3: expressions. -/
namespace VL
open PySem PySem.Spec PyProof.Rows L2

/-! ### reading parts of values -/
def el : Tg → Tg
  | .b2 => .b2
  | _ => .st
/-- the items of such a list may be kept -/
def est : Tg → List D → Prop
  | .b2, ds => flats ds = true
  | _, _ => True
section
variable {K : PySem.W.Frag} {A X : List Addr} {H0 H : Hp} {d : D} {v : V} {ds : List D}
theorem Post.lst (O : Own A X H0) (hs : Same H0 H) {t : Tg} (h : Post K A X H0 H t (.lst ds) v) : ∃ p xs, v = .ref p ∧ H p = some (.lst xs) ∧ RepSs K (cut H X) ds xs ∧ (est t ds → RepSs K (cut H (A ++ X)) ds xs) := by
  have c1 : ∀ b, b ∈ X → b ∈ A ++ X := fun b => mem_snd
  cases t with
  | st =>
    simp only [Post, RepS] at h
    obtain ⟨p, xs, e, h1, h2⟩ := h
    exact ⟨p, xs, e, Same.uncut _ _ h1, RepSs.mono (Same.cutl c1) _ _ h2, fun _ => h2⟩
  | fr =>
    obtain ⟨p, e, e2, xs, h1, h2⟩ := h
    exact ⟨p, xs, e, h1, RepSs.mono (Same.cutl fun b m => List.mem_cons_of_mem _ (c1 b m)) _ _ h2, fun _ => RepSs.mono (Same.cutl fun b m => List.mem_cons_of_mem _ m) _ _ h2⟩
  | fr2 =>
    obtain ⟨p, ps, g, e, e2, e3, e4, e5, h2⟩ := h
    injection e with e
    subst e
    refine ⟨p, _, e2, e5, ?_, fun _ => ?_⟩
    · exact h2.rep (Same.cutl fun b m => List.mem_append_right _ (c1 b m)) fun p' m o q => cut_some.mpr ⟨q, fun z => O.new (e4 p' (List.mem_cons_of_mem _ m)) (c1 _ z)⟩
    · exact h2.rep (Same.cutl fun b m => List.mem_append_right _ m) fun p' m o q => cut_some.mpr ⟨q, fun z => O.new (e4 p' (List.mem_cons_of_mem _ m)) z⟩
  | b1 =>
    obtain ⟨p, e, e2, xs, h1, h2⟩ := h
    exact ⟨p, xs, e, h1, RepSs.mono (Same.cutl c1) _ _ h2, fun _ => h2⟩
  | b2 =>
    simp only [Post, RepS] at h
    obtain ⟨p, xs, e, h1, h2⟩ := h
    exact ⟨p, xs, e, Same.uncut _ _ h1, h2, fun f => RepSs.flat (O.tups hs) _ _ f h2⟩
theorem Post.tup (O : Own A X H0) (hs : Same H0 H) {t : Tg} (h : Post K A X H0 H t (.tup ds) v) : ∃ p xs, v = .ref p ∧ SqT K H p xs ∧ RepSs K (cut H X) ds xs ∧ (est t ds → RepSs K (cut H (A ++ X)) ds xs) := by
  have c1 : ∀ b, b ∈ X → b ∈ A ++ X := fun b => mem_snd
  cases t with
  | st =>
    simp only [Post, RepS] at h
    obtain ⟨p, xs, e, h1, h2⟩ := h
    exact ⟨p, xs, e, Same.seqT Same.uncut h1, RepSs.mono (Same.cutl c1) _ _ h2, fun _ => h2⟩
  | fr => obtain ⟨p, e, e2, h1⟩ := h; exact h1.elim
  | fr2 => obtain ⟨p, ps, g, e, _⟩ := h; exact nomatch e
  | b1 => obtain ⟨p, e, e2, h1⟩ := h; exact h1.elim
  | b2 =>
    simp only [Post, RepS] at h
    obtain ⟨p, xs, e, h1, h2⟩ := h
    exact ⟨p, xs, e, Same.seqT Same.uncut h1, h2, fun f => RepSs.flat (O.tups hs) _ _ f h2⟩
theorem Post.elem (O : Own A X H0) (hs : Same H0 H) {t : Tg} {xs : List V} {i : Nat} (h1 : RepSs K (cut H X) ds xs) (h2 : est t ds → RepSs K (cut H (A ++ X)) ds xs) (hd : ds[i]? = some d) : ∃ x, xs[i]? = some x ∧ Post K A X H0 H (el t) d x := by
  cases t with
  | b2 =>
    obtain ⟨x, e, r⟩ := h1.get hd
    exact ⟨x, e, r⟩
  | st => obtain ⟨x, e, r⟩ := (h2 trivial).get hd; exact ⟨x, e, r⟩
  | fr => obtain ⟨x, e, r⟩ := (h2 trivial).get hd; exact ⟨x, e, r⟩
  | fr2 => obtain ⟨x, e, r⟩ := (h2 trivial).get hd; exact ⟨x, e, r⟩
  | b1 => obtain ⟨x, e, r⟩ := (h2 trivial).get hd; exact ⟨x, e, r⟩
theorem Post.int {t : Tg} {i : Int} (h : Post K A X H0 H t (.int i) v) : v = .int i := by
  cases t with
  | st => simpa [Post, RepS] using h
  | fr => obtain ⟨p, e, e2, h1⟩ := h; exact h1.elim
  | fr2 => obtain ⟨p, ps, g, e, _⟩ := h; exact nomatch e
  | b1 => obtain ⟨p, e, e2, h1⟩ := h; exact h1.elim
  | b2 => simpa [Post, RepS] using h
theorem Post.bl {t : Tg} {i : Bool} (h : Post K A X H0 H t (.bl i) v) : v = .bl i := by
  cases t with
  | st => simpa [Post, RepS] using h
  | fr => obtain ⟨p, e, e2, h1⟩ := h; exact h1.elim
  | fr2 => obtain ⟨p, ps, g, e, _⟩ := h; exact nomatch e
  | b1 => obtain ⟨p, e, e2, h1⟩ := h; exact h1.elim
  | b2 => simpa [Post, RepS] using h
theorem Post.str {t : Tg} {i : Str} (h : Post K A X H0 H t (.str i) v) : v = .str i := by
  cases t with
  | st => simpa [Post, RepS] using h
  | fr => obtain ⟨p, e, e2, h1⟩ := h; exact h1.elim
  | fr2 => obtain ⟨p, ps, g, e, _⟩ := h; exact nomatch e
  | b1 => obtain ⟨p, e, e2, h1⟩ := h; exact h1.elim
  | b2 => simpa [Post, RepS] using h
theorem Post.non {t : Tg} (h : Post K A X H0 H t .non v) : v = .non := by
  cases t with
  | st => simpa [Post, RepS] using h
  | fr => obtain ⟨p, e, e2, h1⟩ := h; exact h1.elim
  | fr2 => obtain ⟨p, ps, g, e, _⟩ := h; exact nomatch e
  | b1 => obtain ⟨p, e, e2, h1⟩ := h; exact h1.elim
  | b2 => simpa [Post, RepS] using h
theorem Post.ofInt {i : Int} : Post K A X H0 H .st (.int i) (.int i) := by simp [Post, RepS]
theorem Post.ofBl {i : Bool} : Post K A X H0 H .st (.bl i) (.bl i) := by simp [Post, RepS]
theorem Post.ofStr {i : Str} : Post K A X H0 H .st (.str i) (.str i) := by simp [Post, RepS]
theorem Post.ofNon : Post K A X H0 H .st .non .non := by simp [Post, RepS]
/-- a new list of data that stay -/
theorem Post.newL {W0 W : Wd} {H0 H : Hp} {xs : List V} (e : Ext (A ++ X) W0 H0 W H) (h : RepSs K (cut (Hm H W) (A ++ X)) ds xs) {p : Addr} (hp : H p = none) :
    Post K A X (Hm H0 W0) (Hm (upd H p (.lst xs)) W) .fr (.lst ds) (.ref p) := by
  have e2 := e.laid hp (.lst xs)
  refine ⟨p, rfl, e.same.free (Hm_none hp), xs, Hm_upd e hp _, RepSs.mono (fun b o q => ?_) _ _ h⟩
  obtain ⟨q1, q2⟩ := cut_some.mp q
  refine cut_some.mpr ⟨?_, fun z => ?_⟩
  · have q3 := Hm_of q1
    cases W with
    | none => exact (upd_ne (ne_of_none q3 hp)).trans q3
    | some t =>
      obtain ⟨_, q4⟩ := Hm_some.mp q1
      exact Hm_some.mpr ⟨(upd_ne (ne_of_none q3 hp)).trans q3, q4⟩
  · rcases List.mem_cons.mp z with z | z
    · subst z; rw [Hm_none hp] at q1; cases q1
    · exact q2 z
theorem Post.newT {W0 W : Wd} {H0 H : Hp} {xs : List V} (O : Own A X (Hm H0 W0)) (e : Ext (A ++ X) W0 H0 W H) (h : RepSs K (cut (Hm H W) (A ++ X)) ds xs) {p : Addr} (hp : H p = none) :
    Post K A X (Hm H0 W0) (Hm (upd H p (.tup xs)) W) .st (.tup ds) (.ref p) := by
  have e2 := e.laid hp (.tup xs)
  simp only [Post, RepS]
  refine ⟨p, xs, rfl, .of (cut_some.mpr ⟨Hm_upd e hp _, O.new (e.same.free (Hm_none hp))⟩), RepSs.mono (Same.cut (fun b o q => ?_) _) _ _ h⟩
  have q3 := Hm_of q
  cases W with
  | none => exact (upd_ne (ne_of_none q3 hp)).trans q3
  | some t =>
    obtain ⟨_, q4⟩ := Hm_some.mp q
    exact Hm_some.mpr ⟨(upd_ne (ne_of_none q3 hp)).trans q3, q4⟩
/-- .. of parts that do not all stay -/
theorem Post.newT2 {W0 W : Wd} {H0 H : Hp} {xs : List V} (O : Own A X (Hm H0 W0)) (e : Ext (A ++ X) W0 H0 W H) (h : RepSs K (cut (Hm H W) X) ds xs) {p : Addr} (hp : H p = none) :
    Post K A X (Hm H0 W0) (Hm (upd H p (.tup xs)) W) .b2 (.tup ds) (.ref p) := by
  have e2 := e.laid hp (.tup xs)
  simp only [Post, RepS]
  refine ⟨p, xs, rfl, .of (cut_some.mpr ⟨Hm_upd e hp _, fun z => O.new (e.same.free (Hm_none hp)) (mem_snd z)⟩), RepSs.mono (Same.cut (fun b o q => ?_) _) _ _ h⟩
  have q3 := Hm_of q
  cases W with
  | none => exact (upd_ne (ne_of_none q3 hp)).trans q3
  | some t =>
    obtain ⟨_, q4⟩ := Hm_some.mp q
    exact Hm_some.mpr ⟨(upd_ne (ne_of_none q3 hp)).trans q3, q4⟩
theorem Post.newL2 {W0 W : Wd} {H0 H : Hp} {xs : List V} (O : Own A X (Hm H0 W0)) (e : Ext (A ++ X) W0 H0 W H) (h : RepSs K (cut (Hm H W) X) ds xs) {p : Addr} (hp : H p = none) :
    Post K A X (Hm H0 W0) (Hm (upd H p (.lst xs)) W) .b2 (.lst ds) (.ref p) := by
  have e2 := e.laid hp (.lst xs)
  simp only [Post, RepS]
  refine ⟨p, xs, rfl, (cut_some.mpr ⟨Hm_upd e hp _, fun z => O.new (e.same.free (Hm_none hp)) (mem_snd z)⟩), RepSs.mono (Same.cut (fun b o q => ?_) _) _ _ h⟩
  have q3 := Hm_of q
  cases W with
  | none => exact (upd_ne (ne_of_none q3 hp)).trans q3
  | some t =>
    obtain ⟨_, q4⟩ := Hm_some.mp q
    exact Hm_some.mpr ⟨(upd_ne (ne_of_none q3 hp)).trans q3, q4⟩
end

/-! ### names, constants -/
def sv : SV → (Tg → D → Prop) → Prop
  | .val d, R => R .st d
  | .ml ds, R => R .b1 (.lst ds)
  | .md kvs, R => R .b1 (.dct kvs)
  | .mg g, R => R .b2 (.lst (g.map D.lst))
def sVar (i : Nat) : SE := fun σ W Q => match σ[i]? with
  | some (some x) => sv x fun t d => Q t d W
  | _ => False
def sC (d : D) : SE := fun _ W Q => Q .st d W
section
variable {X : Cx} {pos : Pos}
theorem mono_sVar (i : Nat) : MonoE (sVar i) := by
  intro σ W Q Q' h w
  unfold sVar at w ⊢
  split <;> rename_i e
  · rename_i x
    rw [e] at w
    cases x <;> exact h _ _ _ w
  · split at w
    · rename_i x e'; exact absurd e' (e x)
    · exact w
theorem mono_sC (d : D) : MonoE (sC d) := fun _ _ _ _ h w => h _ _ _ w
theorem flatten_get {A : List (List Addr)} {i : Nat} {a : List Addr} (h : A[i]? = some a) {b : Addr} (m : b ∈ a) : b ∈ A.flatten :=
  List.mem_flatten.mpr ⟨a, List.mem_of_getElem? h, m⟩
theorem sv_post {K : PySem.W.Frag} {F : Frm} {σ : SG} {W : Wd} {A : List (List Addr)} {s : L2.St} {H : Hp} (L : Live K F σ W A s H) {i : Nat} {x : SV} (hx : σ[i]? = some (some x)) {R : Tg → D → Prop} (w : sv x R) :
    ∃ v t d, s[i]? = some (some v) ∧ R t d ∧ Post K A.flatten F.X (Hm H W) (Hm H W) t d v := by
  obtain ⟨v, a, h1, h2, h3⟩ := L.slot i x hx
  cases x with
  | val d => exact ⟨v, _, _, h1, w, h3⟩
  | ml ds =>
    obtain ⟨p, e, e2, n⟩ := h3
    exact ⟨v, _, _, h1, w, p, e, flatten_get h2 (by rw [e2]; simp), n⟩
  | md ds =>
    obtain ⟨p, e, e2, n⟩ := h3
    exact ⟨v, _, _, h1, w, p, e, flatten_get h2 (by rw [e2]; simp), n⟩
  | mg g =>
    obtain ⟨p, ps, e, e2, e3, n⟩ := h3
    refine ⟨v, _, _, h1, w, ?_⟩
    subst e
    simp only [Post, RepS]
    exact ⟨p, _, rfl, (cut_some.mpr ⟨e3, L.ax (flatten_get h2 (by rw [e2]; simp))⟩), n.rep (Same.cutl fun b => mem_snd) fun p' m o q => cut_some.mpr ⟨q, L.ax (flatten_get h2 (by rw [e2]; simp [m]))⟩⟩
theorem vVar (i : Nat) {x : Str} (hN : X.N[i]? = some x := by rfl) (hv : Vis X.env.scope x := by first | exact Or.inl rfl | exact Or.inr (Or.inl rfl) | exact Or.inr (Or.inr rfl)) (hd : (x == ("__debug__" : Str)) = false := by decide)
    (hcd : (x == ("__classdict__" : Str)) = false := by decide) : VE X (.Name x pos) (sVar i) := by
  refine ⟨peI (pe_var hN hv hd hcd) fun s H Q ⟨F, σ, W, A, L, w⟩ => ?_, mono_sVar i⟩
  unfold sVar at w
  split at w
  · rename_i y e
    obtain ⟨v, t, d, h1, h2, h3⟩ := sv_post L e w
    exact ⟨v, h1, h2 v H L.ext0 h3⟩
  · exact w.elim
theorem vC {e : Expr} {v : V} {d : D} (h : PE X e (tC v)) (r : ∀ H, RepS X.K H d v) : VE X e (sC d) :=
  ⟨peI h fun s H Q ⟨F, σ, W, A, L, w⟩ => w v H L.ext0 (r _), mono_sC d⟩
theorem vInt {i : Int} {j : Nat} : VE X (.Constant (.int i) j pos) (sC (.int i)) := vC pe_int fun _ => by simp [RepS]
theorem vBl {b : Bool} {j : Nat} : VE X (.Constant (.bool b) j pos) (sC (.bl b)) := vC pe_bl fun _ => by simp [RepS]
theorem vNon {j : Nat} : VE X (.Constant .none j pos) (sC .non) := vC pe_non fun _ => by simp [RepS]
theorem vStr {x : Str} {j : Nat} : VE X (.Constant (.str x) j pos) (sC (.str x)) := vC pe_str fun _ => by simp [RepS]
/-- a constant of the module -/
theorem vGlob {x : Str} {v : V} {d : D} {u : Value} (hg : Gl X x) (hm : X.mg x = some u) (r : RelV v u) (hr : ∀ H, RepS X.K H d v) (hd : (x == ("__debug__" : Str)) = false := by decide) : VE X (.Name x pos) (sC d) :=
  vC (pe_glob hg hm r hd) hr
end

/-! ### operators by values -/
abbrev OpD := Tg → D → Tg → D → (Tg → D → Prop) → Prop
def MonoO (f : OpD) : Prop := ∀ t x u y R R', (∀ g d, R g d → R' g d) → f t x u y R → f t x u y R'
structure At (A X : List Addr) (W0 : Wd) (H0 : Hp) (W : Wd) (H : Hp) : Prop where
  own : Own A X (Hm H0 W0)
  ext : Ext (A ++ X) W0 H0 W H
def OpOk (K : PySem.W.Frag) (r : R2) (f : OpD) : Prop :=
  ∀ (A X : List Addr) (W0 : Wd) (H0 : Hp) (W : Wd) (H : Hp), At A X W0 H0 W H → ∀ (t : Tg) (x : D) (u : Tg) (y : D) (v w : V) (R : Tg → D → Prop) (Q : VK),
    Post K A X (Hm H0 W0) (Hm H W) t x v → Post K A X (Hm H0 W0) (Hm H W) u y w → f t x u y R →
    (∀ g d z H', Ext (A ++ X) W H W H' → Post K A X (Hm H0 W0) (Hm H' W) g d z → R g d → Q z H') → r v w H Q
def sBin (f : OpD) (ta tb : SE) : SE := fun σ W Q => ta σ W fun t x W1 => tb σ W1 fun u y W2 => f t x u y fun g d => Q g d W2
theorem mono_sBin {f : OpD} {ta tb : SE} (mf : MonoO f) (ma : MonoE ta) (mb : MonoE tb) : MonoE (sBin f ta tb) := fun σ W Q Q' h w =>
  ma _ _ _ _ (fun t x W1 w1 => mb _ _ _ _ (fun u y W2 w2 => mf _ _ _ _ _ _ (fun g d => h g d W2) w2) w1) w
section
variable {X : Cx} {pos : Pos} {a b c : Expr} {ta tb tc : SE}
theorem rdBin {K : PySem.W.Frag} {r : R2} {f : OpD} (hf : OpOk K r f) (ma : MonoE ta) (mb : MonoE tb) {s : L2.St} {H : Hp} {Q : VK} (h : rdE K (sBin f ta tb) s H Q) : tOp r (rdE K ta) (rdE K tb) s H Q := by
  obtain ⟨F, σ, W, A, L, w⟩ := h
  exact L.two ma mb w fun t x u y W2 v z H2 w2 L2 e p1 p2 => hf _ _ _ _ _ _ ⟨L.own, e⟩ _ _ _ _ _ _ _ _ p1 p2 w2 fun g d z' H' e' p' q => q z' H' (e.trans e') p'
theorem vBin {op : Operator} {r : R2} {f : OpD} (ho : OpR X (binaryOp op) r) (hf : OpOk X.K r f) (mf : MonoO f) (ha : VE X a ta) (hb : VE X b tb) : VE X (.BinOp a op b pos) (sBin f ta tb) :=
  ⟨peI (pe_op ho ha.pe hb.pe) fun s H Q h => rdBin hf ha.mono hb.mono h, mono_sBin mf ha.mono hb.mono⟩
theorem vCmp {op : CmpOp} {r : R2} {f : OpD} (ho : OpR X (compareOp op) r) (hf : OpOk X.K r f) (mf : MonoO f) (ha : VE X a ta) (hb : VE X b tb) (hm : behindInMarks op b = false := by first | exact nomark _ | rfl) : VE X (.Compare a [op] [b] pos) (sBin f ta tb) :=
  ⟨peI (pe_cmpR ho ha.pe hb.pe hm) fun s H Q h => rdBin hf ha.mono hb.mono h, mono_sBin mf ha.mono hb.mono⟩
/-- a test -/
def sTest (t : SE) : SB := fun σ W Q => t σ W fun _ d W1 => match d with
  | .bl b => Q b W1
  | _ => False
theorem mono_sTest {t : SE} (m : MonoE t) : MonoB (sTest t) := fun σ W Q Q' h w => m _ _ _ _ (fun g d W1 w1 => by
  cases d with
  | bl b => exact h _ _ w1
  | _ => exact w1) w
theorem rdTest {K : PySem.W.Frag} {t : SE} (m : MonoE t) {s : L2.St} {H : Hp} {Q : Bool → Hp → Prop} (h : rdB K (sTest t) s H Q) : rdE K t s H fun x H' => ∃ k, x = .bl k ∧ Q k H' := by
  obtain ⟨F, σ, W, A, L, w⟩ := h
  refine L.one m w fun g d W1 v H1 w1 L1 e p => ?_
  cases d with
  | bl b => exact ⟨b, p.bl, w1 H1 e⟩
  | _ => exact w1.elim
theorem vtCmp {op : CmpOp} {r : R2} {f : OpD} (ho : OpR X (compareOp op) r) (hf : OpOk X.K r f) (mf : MonoO f) (ha : VE X a ta) (hb : VE X b tb) (hm : behindInMarks op b = false := by first | exact nomark _ | rfl) : VT X (.Compare a [op] [b] pos) (sTest (sBin f ta tb)) := by
  refine ⟨ptI (pt_cmpR ho ha.pe hb.pe hm) fun s H Q h => ?_, mono_sTest (mono_sBin mf ha.mono hb.mono)⟩
  have q := rdTest (mono_sBin mf ha.mono hb.mono) h
  exact rdBin hf ha.mono hb.mono q
theorem vtVal (h : VE X a ta) (he : ∀ whole, isTrue a X.env whole = (do let v ← whole; standAt a.pos; holding [v] (truthy v)) := by intro _; rfl) : VT X a (sTest ta) :=
  ⟨ptI (pt_val h.pe he) fun s H Q q => rdTest h.mono q, mono_sTest h.mono⟩
/-- a op b op' c -/
def sChain (f f' : OpD) (ta tb tc : SE) : SE := fun σ W Q => ta σ W fun t x W1 => tb σ W1 fun u y W2 => f t x u y fun _ d => match d with
  | .bl true => tc σ W2 fun v z W3 => f' u y v z fun g e => Q g e W3
  | .bl false => Q .st (.bl false) W2
  | _ => False
theorem mono_sChain {f f' : OpD} (mf : MonoO f) (mf' : MonoO f') (ma : MonoE ta) (mb : MonoE tb) (mc : MonoE tc) : MonoE (sChain f f' ta tb tc) := fun σ W Q Q' h w =>
  ma _ _ _ _ (fun t x W1 w1 => mb _ _ _ _ (fun u y W2 w2 => mf _ _ _ _ _ _ (fun g d q => by
    cases d with
    | bl k =>
      cases k with
      | true => exact mc _ _ _ _ (fun v z W3 w3 => mf' _ _ _ _ _ _ (fun g e => h g e W3) w3) q
      | false => exact h _ _ _ q
    | _ => exact q) w2) w1) w
theorem rdChain {K : PySem.W.Frag} {r r' : R2} {f f' : OpD} (hf : OpOk K r f) (hf' : OpOk K r' f') (ma : MonoE ta) (mb : MonoE tb) (mc : MonoE tc) {s : L2.St} {H : Hp} {Q : VK} (h : rdE K (sChain f f' ta tb tc) s H Q) :
    tChain r r' (rdE K ta) (rdE K tb) (rdE K tc) s H Q := by
  obtain ⟨F, σ, W, A, L, w⟩ := h
  refine L.two ma mb w fun t x u y W2 v z H2 w2 L2 e p1 p2 => hf _ _ _ _ _ _ ⟨L.own, e⟩ _ _ _ _ _ _ _ _ p1 p2 w2 fun g d z' H' e' p' q => ?_
  cases d with
  | bl k =>
    refine ⟨k, p'.bl, ?_⟩
    cases k with
    | true =>
      rw [if_pos rfl]
      refine (L2.step e').one mc q fun g3 d3 W3 v3 H3 w3 L3 e3 p3 => ?_
      have ee := (e.trans e').trans e3
      exact hf' _ _ _ _ _ _ ⟨L.own, ee⟩ _ _ _ _ _ _ _ _ (Post.mono (e'.same.trans e3.same) p2) (p3.back (e.trans e').same) w3 fun g4 d4 z4 H4 e4 p4 q4 => q4 z4 H4 (ee.trans e4) p4
    | false =>
      rw [if_neg Bool.false_ne_true]
      exact q _ _ (e.trans e') (by simp [Post, RepS])
  | _ => exact q.elim
end
end VL

/-! VL4: operators. -/
namespace VL
open PySem PySem.Spec PyProof.Rows L2

/-! ### data as the model's own data -/
mutual
def py : D → PyData
  | .non => .none
  | .bl b => .bool b
  | .int i => .int i
  | .str x => .str x
  | .tup ds => .tuple (pys ds)
  | .lst ds => .list (pys ds)
  | _ => .none
def pys : List D → List PyData
  | [] => []
  | d :: ds => py d :: pys ds
end
mutual
def pyOk : D → Bool
  | .dct _ => false
  | .deal _ => false
  | .fn _ => false
  | .scr _ => false
  | .tup ds => pyOks ds
  | .lst ds => pyOks ds
  | _ => true
def pyOks : List D → Bool
  | [] => true
  | d :: ds => pyOk d && pyOks ds
end
theorem pys_map : ∀ ds : List D, pys ds = ds.map py
  | [] => by simp [pys]
  | d :: ds => by simp [pys, pys_map ds]
mutual
theorem RepS.dp {K : PySem.W.Frag} {H : Hp} : ∀ (d : D) (v : V), pyOk d = true → RepS K H d v → Dp K H v (py d)
  | .non, v, _, h => by simp only [RepS] at h; subst h; simp only [py]; exact .non
  | .bl b, v, _, h => by simp only [RepS] at h; subst h; simp only [py]; exact .bl b
  | .int i, v, _, h => by simp only [RepS] at h; subst h; simp only [py]; exact .int i
  | .str x, v, _, h => by simp only [RepS] at h; subst h; simp only [py]; exact .str x
  | .tup ds, v, f, h => by
    simp only [pyOk] at f
    simp only [RepS] at h
    obtain ⟨a, xs, e, h1, h2⟩ := h
    subst e
    simp only [py]
    exact .tup h1 (RepSs.dp ds xs f h2)
  | .lst ds, v, f, h => by
    simp only [pyOk] at f
    simp only [RepS] at h
    obtain ⟨a, xs, e, h1, h2⟩ := h
    subst e
    simp only [py]
    exact .lst (.of h1) (RepSs.dp ds xs f h2)
  | .dct kvs, v, f, h => by simp [pyOk] at f
  | .deal a, v, f, h => by simp [pyOk] at f
  | .fn a, v, f, h => by simp [pyOk] at f
  | .scr a, v, f, h => by simp [pyOk] at f
theorem RepSs.dp {K : PySem.W.Frag} {H : Hp} : ∀ (ds : List D) (vs : List V), pyOks ds = true → RepSs K H ds vs → DpAll K H vs (pys ds)
  | [], v, _, h => by simp only [RepSs] at h; subst h; simp only [pys]; exact .nil
  | d :: ds, v, f, h => by
    simp only [pyOks, Bool.and_eq_true] at f
    simp only [RepSs] at h
    obtain ⟨x, r, e, h1, h2⟩ := h
    subst e
    simp only [pys]
    exact .cons (RepS.dp d x f.1 h1) (RepSs.dp ds r f.2 h2)
end
/-- data that may be compared -/
def eqOk (d : D) : Prop := pyOk d = true ∧ SeqAt.shaped (py d) = true
def deq (x y : D) : Bool := PyData.eqv (py x) (py y)

section
variable {K : PySem.W.Frag} {A X : List Addr} {W0 W : Wd} {H0 H : Hp}
theorem Post.actual {t : Tg} {d : D} {v : V} (a : At A X W0 H0 W H) (h : Post K A X (Hm H0 W0) (Hm H W) t d v) : RepS K H d v :=
  RepS.mono (fun b o e => Same.unHm b o (Same.uncut b o e)) _ _ (h.rep a.own a.ext.same)
theorem At.refl (a : At A X W0 H0 W H) : Ext (A ++ X) W H W H := ⟨.refl _, a.ext.cell, .refl _⟩
theorem At.newL {R : Tg → D → Prop} {Q : VK} (a : At A X W0 H0 W H) {ds : List D} {xs : List V} (hr : RepSs K (cut (Hm H W) (A ++ X)) ds xs) (w : R .fr (.lst ds))
    (k : ∀ g d z H', Ext (A ++ X) W H W H' → Post K A X (Hm H0 W0) (Hm H' W) g d z → R g d → Q z H') : ∀ p, H p = none → Q (.ref p) (upd H p (.lst xs)) :=
  fun p hp => k _ _ _ _ (a.refl.laid hp _) (Post.newL a.ext hr hp) w
theorem At.newL2 {R : Tg → D → Prop} {Q : VK} (a : At A X W0 H0 W H) {ds : List D} {xs : List V} (hr : RepSs K (cut (Hm H W) X) ds xs) (w : R .b2 (.lst ds))
    (k : ∀ g d z H', Ext (A ++ X) W H W H' → Post K A X (Hm H0 W0) (Hm H' W) g d z → R g d → Q z H') : ∀ p, H p = none → Q (.ref p) (upd H p (.lst xs)) :=
  fun p hp => k _ _ _ _ (a.refl.laid hp _) (Post.newL2 a.own a.ext hr hp) w
theorem At.newT {R : Tg → D → Prop} {Q : VK} (a : At A X W0 H0 W H) {ds : List D} {xs : List V} (hr : RepSs K (cut (Hm H W) (A ++ X)) ds xs) (w : R .st (.tup ds))
    (k : ∀ g d z H', Ext (A ++ X) W H W H' → Post K A X (Hm H0 W0) (Hm H' W) g d z → R g d → Q z H') : ∀ p, H p = none → Q (.ref p) (upd H p (.tup xs)) :=
  fun p hp => k _ _ _ _ (a.refl.laid hp _) (Post.newT a.own a.ext hr hp) w
theorem At.newT2 {R : Tg → D → Prop} {Q : VK} (a : At A X W0 H0 W H) {ds : List D} {xs : List V} (hr : RepSs K (cut (Hm H W) X) ds xs) (w : R .b2 (.tup ds))
    (k : ∀ g d z H', Ext (A ++ X) W H W H' → Post K A X (Hm H0 W0) (Hm H' W) g d z → R g d → Q z H') : ∀ p, H p = none → Q (.ref p) (upd H p (.tup xs)) :=
  fun p hp => k _ _ _ _ (a.refl.laid hp _) (Post.newT2 a.own a.ext hr hp) w
theorem At.now {R : Tg → D → Prop} {Q : VK} (a : At A X W0 H0 W H) {g : Tg} {d : D} {z : V} (h : Post K A X (Hm H0 W0) (Hm H W) g d z) (w : R g d)
    (k : ∀ g d z H', Ext (A ++ X) W H W H' → Post K A X (Hm H0 W0) (Hm H' W) g d z → R g d → Q z H') : Q z H := k _ _ _ _ a.refl h w
end

/-! ### + -/
def dAdd : OpD := fun t x u y R => match x, y with
  | .int i, .int j => R .st (.int (i + j))
  | .str i, .str j => i.length + j.length ≤ sizeLine ∧ R .st (.str (i ++ j))
  | .lst a, .lst b => a.length + b.length ≤ sizeLine ∧ est t a ∧ est u b ∧ R .fr (.lst (a ++ b))
  | .tup a, .tup b => a.length + b.length ≤ sizeLine ∧ est t a ∧ est u b ∧ R .st (.tup (a ++ b))
  | _, _ => False
def rAdd2 (K : PySem.W.Frag) : R2 := fun x y H Q => ((rI0 (fun i j => .int (i + j)) x y H Q ∨ (∃ i j, x = .str i ∧ y = .str j ∧ i.length + j.length ≤ sizeLine ∧ Q (.str (i ++ j)) H)) ∨ rCat x y H Q) ∨ rCatA K x y H Q
theorem opAdd {X : Cx} : OpR X (binaryOp .Add) (rAdd2 X.K) := OpR.or (OpR.or (OpR.or op_add op_add_str) op_cat) op_catA
theorem mono_dAdd : MonoO dAdd := by
  intro t x u y R R' h w
  unfold dAdd at w ⊢
  split at w
  · exact h _ _ w
  · exact ⟨w.1, h _ _ w.2⟩
  · exact ⟨w.1, w.2.1, w.2.2.1, h _ _ w.2.2.2⟩
  · exact ⟨w.1, w.2.1, w.2.2.1, h _ _ w.2.2.2⟩
  · exact w.elim
theorem okAdd {K : PySem.W.Frag} : OpOk K (rAdd2 K) dAdd := by
  intro A X W0 H0 W H a t x u y v w R Q p1 p2 hw k
  unfold dAdd at hw
  split at hw
  · exact .inl (.inl (.inl ⟨_, _, p1.int, p2.int, a.now Post.ofInt hw k⟩))
  · exact .inl (.inl (.inr ⟨_, _, p1.str, p2.str, hw.1, a.now Post.ofStr hw.2 k⟩))
  · obtain ⟨h1, h2, h3, h4⟩ := hw
    obtain ⟨p, xs, e1, q1, r1, s1⟩ := p1.lst a.own a.ext.same
    obtain ⟨p', xs', e2, q2, r2, s2⟩ := p2.lst a.own a.ext.same
    exact .inl (.inr ⟨p, p', xs, xs', e1, e2, Hm_of q1, Hm_of q2, by rw [← r1.length, ← r2.length]; exact h1, a.newL ((s1 h2).append (s2 h3)) h4 k⟩)
  · rename_i ds es
    obtain ⟨h1, h2, h3, h4⟩ := hw
    obtain ⟨p, xs, e1, q1, r1, s1⟩ := p1.tup a.own a.ext.same
    obtain ⟨p', xs', e2, q2, r2, s2⟩ := p2.tup a.own a.ext.same
    have l1 := r1.length
    have l2 := r2.length
    refine .inr ⟨p, p', xs, xs', e1, e2, Same.seqT Same.unHm q1, Same.seqT Same.unHm q2, by rw [← l1, ← l2]; exact h1, fun z => ?_, fun z1 z2 => ?_, fun z1 z2 => a.newT ((s1 h2).append (s2 h3)) h4 k⟩
    · have z' : ds = [] := List.eq_nil_of_length_eq_zero (by rw [l1, z]; rfl)
      subst z'
      rw [e2] at p2
      have p3 : Post K A X (Hm H0 W0) (Hm H W) .st (.tup es) (.ref p') := by
        cases u with
        | st => exact p2
        | fr => obtain ⟨_, _, _, h⟩ := p2; exact h.elim
        | fr2 => obtain ⟨_, _, _, h, _⟩ := p2; exact nomatch h
        | b1 => obtain ⟨_, _, _, h⟩ := p2; exact h.elim
        | b2 => exact p2.keep a.own a.ext.same (by simp only [sto, flat]; exact h3)
      exact a.now p3 (by simpa using h4) k
    · have z' : es = [] := List.eq_nil_of_length_eq_zero (by rw [l2, z2]; rfl)
      subst z'
      rw [e1] at p1
      have p3 : Post K A X (Hm H0 W0) (Hm H W) .st (.tup ds) (.ref p) := by
        cases t with
        | st => exact p1
        | fr => obtain ⟨_, _, _, h⟩ := p1; exact h.elim
        | fr2 => obtain ⟨_, _, _, h, _⟩ := p1; exact nomatch h
        | b1 => obtain ⟨_, _, _, h⟩ := p1; exact h.elim
        | b2 => exact p1.keep a.own a.ext.same (by simp only [sto, flat]; exact h2)
      exact a.now p3 (by simpa using h4) k
  · exact hw.elim

/-! ### ints -/
/-- two ints, a condition, the answer -/
def dII (C : Int → Int → Prop) (g : Int → Int → D) : OpD := fun _ x _ y R => match x, y with
  | .int i, .int j => C i j ∧ R .st (g i j)
  | _, _ => False
theorem mono_dII {C : Int → Int → Prop} {g : Int → Int → D} : MonoO (dII C g) := by
  intro t x u y R R' h w
  unfold dII at w ⊢
  split at w
  · exact ⟨w.1, h _ _ w.2⟩
  · exact w.elim
theorem okII {K : PySem.W.Frag} {C : Int → Int → Prop} {g : Int → Int → D} {g' : Int → Int → V} (hg : ∀ i j H, RepS K H (g i j) (g' i j)) : OpOk K (rI C g') (dII C g) := by
  intro A X W0 H0 W H a t x u y v w R Q p1 p2 hw k
  unfold dII at hw
  split at hw
  · exact ⟨_, _, p1.int, p2.int, hw.1, a.now (g := .st) (hg _ _ _) hw.2 k⟩
  · exact hw.elim
def dI0 (g : Int → Int → D) : OpD := fun _ x _ y R => match x, y with
  | .int i, .int j => R .st (g i j)
  | _, _ => False
theorem mono_dI0 {g : Int → Int → D} : MonoO (dI0 g) := by
  intro t x u y R R' h w
  unfold dI0 at w ⊢
  split at w
  · exact h _ _ w
  · exact w.elim
theorem okI0 {K : PySem.W.Frag} {g : Int → Int → D} {g' : Int → Int → V} (hg : ∀ i j H, RepS K H (g i j) (g' i j)) : OpOk K (rI0 g') (dI0 g) := by
  intro A X W0 H0 W H a t x u y v w R Q p1 p2 hw k
  unfold dI0 at hw
  split at hw
  · exact ⟨_, _, p1.int, p2.int, a.now (g := .st) (hg _ _ _) hw k⟩
  · exact hw.elim
abbrev dSub : OpD := dI0 fun i j => .int (i - j)
abbrev dFdiv : OpD := dII CDiv fun i j => .int (i / j)
abbrev dMod : OpD := dII (fun _ j => 0 < j) fun i j => .int (i % j)
abbrev dPow : OpD := dII CPow fun i j => .int (i ^ j.toNat)
abbrev dLt : OpD := dI0 fun i j => .bl (decide (i < j))
abbrev dLe : OpD := dI0 fun i j => .bl (decide (i ≤ j))
abbrev dGt : OpD := dI0 fun i j => .bl (decide (j < i))
abbrev dGe : OpD := dI0 fun i j => .bl (decide (j ≤ i))
/-! ### * -/
def dMul : OpD := fun t x u y R => match x, y with
  | .int i, .int j => CMul i j ∧ R .st (.int (i * j))
  | .lst a, .int k => -(2 ^ 63) ≤ k ∧ k < 2 ^ 63 ∧ a.length * k.toNat ≤ sizeLine ∧ est t a ∧ R .fr (.lst (List.replicate k.toNat a).flatten)
  | .tup a, .int k => a ≠ [] ∧ 2 ≤ k ∧ k ≤ 1000 ∧ a.length ≤ 1000 ∧ est t a ∧ R .st (.tup (List.replicate k.toNat a).flatten)
  | _, _ => False
def rMul2 (K : PySem.W.Frag) : R2 := fun x y H Q => (rI CMul (fun i j => .int (i * j)) x y H Q ∨ rRep x y H Q) ∨ rRepT K x y H Q
theorem opMul {X : Cx} : OpR X (binaryOp .Mult) (rMul2 X.K) := OpR.or (OpR.or op_mul op_rep) op_repT
theorem mono_dMul : MonoO dMul := by
  intro t x u y R R' h w
  unfold dMul at w ⊢
  split at w
  · exact ⟨w.1, h _ _ w.2⟩
  · exact ⟨w.1, w.2.1, w.2.2.1, w.2.2.2.1, h _ _ w.2.2.2.2⟩
  · exact ⟨w.1, w.2.1, w.2.2.1, w.2.2.2.1, w.2.2.2.2.1, h _ _ w.2.2.2.2.2⟩
  · exact w.elim
theorem RepSs.flatRep {K : PySem.W.Frag} {H : Hp} {ds : List D} {xs : List V} (h : RepSs K H ds xs) : ∀ n : Nat, RepSs K H (List.replicate n ds).flatten (List.replicate n xs).flatten
  | 0 => by simp [RepSs]
  | n + 1 => by
    rw [List.replicate_succ, List.replicate_succ, List.flatten_cons, List.flatten_cons]
    exact h.append (RepSs.flatRep h n)
theorem okMul {K : PySem.W.Frag} : OpOk K (rMul2 K) dMul := by
  intro A X W0 H0 W H a t x u y v w R Q p1 p2 hw k
  unfold dMul at hw
  split at hw
  · exact .inl (.inl ⟨_, _, p1.int, p2.int, hw.1, a.now Post.ofInt hw.2 k⟩)
  · obtain ⟨h1, h2, h3, h4, h5⟩ := hw
    obtain ⟨p, xs, e1, q1, r1, s1⟩ := p1.lst a.own a.ext.same
    exact .inl (.inr ⟨p, _, xs, e1, p2.int, Hm_of q1, h1, h2, by rw [← r1.length]; exact h3, a.newL ((s1 h4).flatRep _) h5 k⟩)
  · obtain ⟨h0, h1, h2, h3, h4, h5⟩ := hw
    obtain ⟨p, xs, e1, q1, r1, s1⟩ := p1.tup a.own a.ext.same
    refine .inr ⟨p, _, xs, e1, p2.int, Same.seqT Same.unHm q1, fun z => h0 ?_, h1, h2, by rw [← r1.length]; exact h3, a.newT ((s1 h4).flatRep _) h5 k⟩
    exact List.eq_nil_of_length_eq_zero (by rw [r1.length, z]; rfl)
  · exact hw.elim

/-! ### ==, != -/
def dEqG (neg : Bool) : OpD := fun t x u y R => match x, y with
  | .int i, .int j => R .st (.bl (if neg then !decide (i = j) else decide (i = j)))
  | .str i, .str j => R .st (.bl (if neg then !decide (i = j) else decide (i = j)))
  | .bl i, .bl j => R .st (.bl (if neg then !decide (i = j) else decide (i = j)))
  | x, y => eqOk x ∧ eqOk y ∧ R .st (.bl (if neg then !deq x y else deq x y))
abbrev dEq : OpD := dEqG false
abbrev dNe : OpD := dEqG true
def rEq2 (K : PySem.W.Frag) : R2 := fun x y H Q => rEq x y H Q ∨ rEqD K x y H Q
def rNe2 (K : PySem.W.Frag) : R2 := fun x y H Q => rNe x y H Q ∨ rNeD K x y H Q
theorem opEq {X : Cx} (hu : X.A.units + 64 < cLine) : OpR X (compareOp .Eq) (rEq2 X.K) := OpR.or op_eq (op_eqD hu)
theorem opNe {X : Cx} (hu : X.A.units + 64 < cLine) : OpR X (compareOp .NotEq) (rNe2 X.K) := OpR.or op_ne (op_neD hu)
theorem mono_dEqG {neg : Bool} : MonoO (dEqG neg) := by
  intro t x u y R R' h w
  cases x <;> cases y <;> first | exact h _ _ w | exact ⟨w.1, w.2.1, h _ _ w.2.2⟩
theorem dec_inj {α β : Type} [DecidableEq α] [DecidableEq β] {f : α → β} (h : ∀ a b, f a = f b → a = b) (a b : α) : decide (f a = f b) = decide (a = b) := by
  by_cases e : a = b
  · subst e; simp
  · rw [decide_eq_false e, decide_eq_false fun q => e (h _ _ q)]
theorem okEq {K : PySem.W.Frag} : OpOk K (rEq2 K) dEq := by
  intro A X W0 H0 W H a t x u y v w R Q p1 p2 hw k
  unfold dEq dEqG at hw
  split at hw
  · refine .inl ?_
    rw [p1.int, p2.int]
    exact ⟨rfl, by rw [dec_inj fun _ _ e => V.int.inj e]; exact a.now Post.ofBl hw k⟩
  · refine .inl ?_
    rw [p1.str, p2.str]
    exact ⟨rfl, by rw [dec_inj fun _ _ e => V.str.inj e]; exact a.now Post.ofBl hw k⟩
  · refine .inl ?_
    rw [p1.bl, p2.bl]
    exact ⟨rfl, by rw [dec_inj fun _ _ e => V.bl.inj e]; exact a.now Post.ofBl hw k⟩
  · exact .inr ⟨_, _, RepS.dp _ _ hw.1.1 (p1.actual a), RepS.dp _ _ hw.2.1.1 (p2.actual a), hw.1.2, hw.2.1.2, a.now Post.ofBl hw.2.2 k⟩
theorem okNe {K : PySem.W.Frag} : OpOk K (rNe2 K) dNe := by
  intro A X W0 H0 W H a t x u y v w R Q p1 p2 hw k
  unfold dNe dEqG at hw
  split at hw
  · refine .inl ?_
    rw [p1.int, p2.int]
    exact ⟨rfl, by rw [dec_inj fun _ _ e => V.int.inj e]; exact a.now Post.ofBl hw k⟩
  · refine .inl ?_
    rw [p1.str, p2.str]
    exact ⟨rfl, by rw [dec_inj fun _ _ e => V.str.inj e]; exact a.now Post.ofBl hw k⟩
  · refine .inl ?_
    rw [p1.bl, p2.bl]
    exact ⟨rfl, by rw [dec_inj fun _ _ e => V.bl.inj e]; exact a.now Post.ofBl hw k⟩
  · exact .inr ⟨_, _, RepS.dp _ _ hw.1.1 (p1.actual a), RepS.dp _ _ hw.2.1.1 (p2.actual a), hw.1.2, hw.2.1.2, a.now Post.ofBl hw.2.2 k⟩

/-! ### is, is not -/
def isNon : D → Bool
  | .non => true
  | _ => false
def dIsG (neg : Bool) : OpD := fun t x u y R => match x, y with
  | x, .non => R .st (.bl (if neg then !isNon x else isNon x))
  | .bl i, .bl j => R .st (.bl (if neg then !decide (i = j) else decide (i = j)))
  | _, _ => False
abbrev dIs : OpD := dIsG false
abbrev dIsNot : OpD := dIsG true
theorem Post.isNon {K : PySem.W.Frag} {A X : List Addr} {H0 H : Hp} {t : Tg} {d : D} {v : V} (h : Post K A X H0 H t d v) : decide (v = .non) = VL.isNon d := by
  have key : ∀ G, RepS K G d v → decide (v = .non) = VL.isNon d := fun G q => by
    cases d <;> simp only [RepS] at q <;> (try subst q) <;> (try rfl)
    all_goals (obtain ⟨a, q⟩ := q)
    · obtain ⟨_, q, _⟩ := q; subst q; rfl
    · obtain ⟨_, q, _⟩ := q; subst q; rfl
    · obtain ⟨_, _, q, _⟩ := q; subst q; rfl
    · obtain ⟨q, _⟩ := q; subst q; rfl
  cases t with
  | st => exact key _ h
  | fr =>
    obtain ⟨p, e, e2, q⟩ := h
    subst e
    cases d <;> first | exact q.elim | rfl
  | fr2 =>
    obtain ⟨p, ps, g, e, e2, _⟩ := h
    subst e; subst e2
    rfl
  | b1 =>
    obtain ⟨p, e, e2, q⟩ := h
    subst e
    cases d <;> first | exact q.elim | rfl
  | b2 => exact key _ h
def rIs2 : R2 := fun x y H Q => (y = .non ∧ Q (.bl (decide (x = .non))) H) ∨ ∃ a b, x = .bl a ∧ y = .bl b ∧ Q (.bl (decide (a = b))) H
def rIsNot2 : R2 := fun x y H Q => (y = .non ∧ Q (.bl (!decide (x = .non))) H) ∨ ∃ a b, x = .bl a ∧ y = .bl b ∧ Q (.bl (!decide (a = b))) H
theorem mono_dIsG {neg : Bool} : MonoO (dIsG neg) := by
  intro t x u y R R' h w
  unfold dIsG at w ⊢
  cases y with
  | non => exact h _ _ w
  | bl j => cases x <;> first | exact w.elim | exact h _ _ w
  | _ => first | exact w.elim | (cases x <;> exact w.elim)
theorem okIs {K : PySem.W.Frag} : OpOk K rIs2 dIs := by
  intro A X W0 H0 W H a t x u y v w R Q p1 p2 hw k
  unfold dIs dIsG at hw
  cases y with
  | non => exact .inl ⟨p2.non, by rw [p1.isNon]; exact a.now Post.ofBl hw k⟩
  | bl j => cases x <;> first | exact hw.elim | exact .inr ⟨_, _, p1.bl, p2.bl, a.now Post.ofBl hw k⟩
  | _ => first | exact hw.elim | (cases x <;> exact hw.elim)
theorem okIsNot {K : PySem.W.Frag} : OpOk K rIsNot2 dIsNot := by
  intro A X W0 H0 W H a t x u y v w R Q p1 p2 hw k
  unfold dIsNot dIsG at hw
  cases y with
  | non => exact .inl ⟨p2.non, by rw [p1.isNon]; exact a.now Post.ofBl hw k⟩
  | bl j => cases x <;> first | exact hw.elim | exact .inr ⟨_, _, p1.bl, p2.bl, a.now Post.ofBl hw k⟩
  | _ => first | exact hw.elim | (cases x <;> exact hw.elim)

/-! ### in, not in -/
/-- the value at a key -/
def dlook : List (D × D) → D → Option D
  | [], _ => none
  | (k, d) :: r, x => if deq k x then some d else dlook r x
def isKey (d : D) : Prop := (kOf d).isSome = true ∨ (tOf d).isSome = true
def dInG (neg : Bool) : OpD := fun t x u y R => match y with
  | .lst ds => eqOk x ∧ eqOk (.lst ds) ∧ R .st (.bl (if neg then !ds.any fun z => deq z x else ds.any fun z => deq z x))
  | .tup ds => eqOk x ∧ eqOk (.tup ds) ∧ R .st (.bl (if neg then !ds.any fun z => deq z x else ds.any fun z => deq z x))
  | _ => False
abbrev dIn : OpD := dInG false
abbrev dNotIn : OpD := dInG true
section
variable {X : Cx}
def rInT (K : PySem.W.Frag) (neg : Bool) : R2 := fun x y H Q => ∃ d ds, Dp K H x d ∧ (Dp K H y (.list ds) ∨ Dp K H y (.tuple ds)) ∧ SeqAt.shaped d = true ∧ SeqAt.shaped (.list ds) = true ∧ Q (.bl (if neg then !ds.any fun z => PyData.eqv z d else ds.any fun z => PyData.eqv z d)) H
theorem opIn (hu : X.A.units + 65 < cLine) : OpR X (compareOp .In) (rInT X.K false) := by
  intro pins s σ H x y v u Q I rx ry h
  obtain ⟨d, ds, hd, he, sd, se, q⟩ := h
  obtain ⟨as, r1⟩ := Dp.reads I d x v hd rx
  have hl : PyData.canLayAll0 ds = true := SeqAt.canLay_of_shaped se
  rcases he with he | he
  · obtain ⟨bs, r2⟩ := Dp.reads I (.list ds) y u he ry
    exact SeqAt.in_list_reads r2 r1 hl (SeqAt.canLay_of_shaped sd) (room_in_shaped sd hu) ⟨.bl _, H, I, rfl, q⟩
  · obtain ⟨bs, r2⟩ := Dp.reads I (.tuple ds) y u he ry
    exact SeqAt.in_tuple_reads r2 r1 hl (SeqAt.canLay_of_shaped sd) (room_in_shaped sd hu) ⟨.bl _, H, I, rfl, q⟩
theorem opNotIn (hu : X.A.units + 65 < cLine) : OpR X (compareOp .NotIn) (rInT X.K true) := by
  intro pins s σ H x y v u Q I rx ry h
  obtain ⟨d, ds, hd, he, sd, se, q⟩ := h
  obtain ⟨as, r1⟩ := Dp.reads I d x v hd rx
  have hl : PyData.canLayAll0 ds = true := SeqAt.canLay_of_shaped se
  rcases he with he | he
  · obtain ⟨bs, r2⟩ := Dp.reads I (.list ds) y u he ry
    exact SeqAt.notIn_list_reads r2 r1 hl (SeqAt.canLay_of_shaped sd) (room_in_shaped sd hu) ⟨.bl _, H, I, rfl, q⟩
  · obtain ⟨bs, r2⟩ := Dp.reads I (.tuple ds) y u he ry
    exact SeqAt.notIn_tuple_reads r2 r1 hl (SeqAt.canLay_of_shaped sd) (room_in_shaped sd hu) ⟨.bl _, H, I, rfl, q⟩
end
theorem mono_dInG {neg : Bool} : MonoO (dInG neg) := by
  intro t x u y R R' h w
  unfold dInG at w ⊢
  cases y <;> first | exact w.elim | exact ⟨w.1, w.2.1, h _ _ w.2.2⟩
theorem anyPy (x : D) : ∀ ds : List D, ((pys ds).any fun z => PyData.eqv z (py x)) = ds.any fun z => deq z x
  | [] => by simp [pys]
  | d :: ds => by simp only [pys, List.any_cons, anyPy x ds]; rfl
theorem shaped_tl {ds : List PyData} (h : SeqAt.shaped (.tuple ds) = true) : SeqAt.shaped (.list ds) = true := by
  simpa [SeqAt.shaped, PyData.canLay0, PyData.depth] using h
theorem okIn {K : PySem.W.Frag} {neg : Bool} : OpOk K (rInT K neg) (dInG neg) := by
  intro A X W0 H0 W H a t x u y v w R Q p1 p2 hw k
  unfold dInG at hw
  cases y with
  | lst ds =>
    obtain ⟨h1, h2, h3⟩ := hw
    have q2 := RepS.dp _ _ h2.1 (p2.actual a)
    have s2 := h2.2
    simp only [py] at q2 s2
    refine ⟨_, _, RepS.dp _ _ h1.1 (p1.actual a), .inl q2, h1.2, s2, ?_⟩
    rw [anyPy]
    exact a.now Post.ofBl h3 k
  | tup ds =>
    obtain ⟨h1, h2, h3⟩ := hw
    have q2 := RepS.dp _ _ h2.1 (p2.actual a)
    have s2 := h2.2
    simp only [py] at q2 s2
    refine ⟨_, _, RepS.dp _ _ h1.1 (p1.actual a), .inr q2, h1.2, shaped_tl s2, ?_⟩
    rw [anyPy]
    exact a.now Post.ofBl h3 k
  | _ => exact hw.elim
end VL

/-! VL5: tests, subscripts, displays, arguments, calls. -/
namespace VL
open PySem PySem.Spec PyProof.Rows L2

section
variable {X : Cx} {pos : Pos} {a b c : Expr} {ta tb tc : SE} {ua ub : SB} {rest : List Expr}
/-! ### one value -/
abbrev UnD := Tg → D → (Tg → D → Prop) → Prop
def MonoU (f : UnD) : Prop := ∀ t x R R', (∀ g d, R g d → R' g d) → f t x R → f t x R'
def sUn (f : UnD) (ta : SE) : SE := fun σ W Q => ta σ W fun t x W1 => f t x fun g d => Q g d W1
theorem mono_sUn {f : UnD} (mf : MonoU f) (ma : MonoE ta) : MonoE (sUn f ta) := fun σ W Q Q' h w => ma _ _ _ _ (fun t x W1 w1 => mf _ _ _ _ (fun g d => h g d W1) w1) w
def UnOk (K : PySem.W.Frag) (r : V → Hp → VK → Prop) (f : UnD) : Prop :=
  ∀ (A X : List Addr) (W0 : Wd) (H0 : Hp) (W : Wd) (H : Hp), At A X W0 H0 W H → ∀ (t : Tg) (x : D) (v : V) (R : Tg → D → Prop) (Q : VK),
    Post K A X (Hm H0 W0) (Hm H W) t x v → f t x R →
    (∀ g d z H', Ext (A ++ X) W H W H' → Post K A X (Hm H0 W0) (Hm H' W) g d z → R g d → Q z H') → r v H Q
theorem rdUn {K : PySem.W.Frag} {r : V → Hp → VK → Prop} {f : UnD} (hf : UnOk K r f) (ma : MonoE ta) {s : L2.St} {H : Hp} {Q : VK} (h : rdE K (sUn f ta) s H Q) : rdE K ta s H fun x H1 => r x H1 Q := by
  obtain ⟨F, σ, W, A, L, w⟩ := h
  exact L.one ma w fun t x W1 v H1 w1 L1 e p => hf _ _ _ _ _ _ ⟨L.own, e⟩ _ _ _ _ _ p w1 fun g d z H' e' p' q => q z H' (e.trans e') p'
theorem vUn {op : UnaryOp} {r : V → Hp → VK → Prop} {f : UnD} (ho : UnR X (unaryOp op) r) (hf : UnOk X.K r f) (mf : MonoU f) (ha : VE X a ta) : VE X (.UnaryOp op a pos) (sUn f ta) :=
  ⟨peI (pe_un ho ha.pe) fun s H Q h => rdUn hf ha.mono h, mono_sUn mf ha.mono⟩
def dNeg : UnD := fun _ x R => match x with
  | .int i => R .st (.int (-i))
  | _ => False
theorem mono_dNeg : MonoU dNeg := by
  intro t x R R' h w
  cases x <;> first | exact h _ _ w | exact w
theorem vNeg (ha : VE X a ta) : VE X (.UnaryOp .USub a pos) (sUn dNeg ta) := vUn un_neg (fun A Y W0 H0 W H at' t x v R Q p w k => by
  cases x with
  | int i => exact ⟨i, p.int, at'.now Post.ofInt w k⟩
  | _ => exact w.elim) mono_dNeg ha

/-! ### and, or, not, if -/
def bAnd (t u : SB) : SB := fun σ W Q => t σ W fun c W1 => if c = true then u σ W1 Q else Q false W1
def bOr (t u : SB) : SB := fun σ W Q => t σ W fun c W1 => if c = true then Q true W1 else u σ W1 Q
def bNot (t : SB) : SB := fun σ W Q => t σ W fun c W1 => Q (!c) W1
theorem mono_bAnd (m : MonoB ua) (n : MonoB ub) : MonoB (bAnd ua ub) := fun σ W Q Q' h w => m _ _ _ _ (fun c W1 w1 => by
  cases c with
  | true => exact n _ _ _ _ h w1
  | false => exact h _ _ w1) w
theorem mono_bOr (m : MonoB ua) (n : MonoB ub) : MonoB (bOr ua ub) := fun σ W Q Q' h w => m _ _ _ _ (fun c W1 w1 => by
  cases c with
  | false => exact n _ _ _ _ h w1
  | true => exact h _ _ w1) w
theorem mono_bNot (m : MonoB ua) : MonoB (bNot ua) := fun σ W Q Q' h w => m _ _ _ _ (fun c W1 w1 => h _ _ w1) w
theorem VW.vt {e : Expr} {t : SB} (h : VW X e t) : VT X e t := ⟨h.pe.pt, h.mono⟩
theorem vwAnd1 (h : VT X a ua) : VW X (.BoolOp .And [a] pos) ua := ⟨pw_and1 h.pe, h.mono⟩
theorem vwOr1 (h : VT X a ua) : VW X (.BoolOp .Or [a] pos) ua := ⟨pw_or1 h.pe, h.mono⟩
theorem vwAnd (h : VT X a ua) (h' : VW X (.BoolOp .And (b :: rest) pos) ub) : VW X (.BoolOp .And (a :: b :: rest) pos) (bAnd ua ub) := by
  refine ⟨pwI (pw_and h.pe h'.pe) fun s H Q ⟨F, σ, W, A, L, w⟩ => ?_, mono_bAnd h.mono h'.mono⟩
  refine L.test h.mono w fun c W1 H1 w1 L1 e => ?_
  cases c with
  | true => exact L1.test h'.mono w1 fun d W2 H2 w2 L2 e2 => w2 H2 (e.trans e2)
  | false => exact w1 H1 e
theorem vwOr (h : VT X a ua) (h' : VW X (.BoolOp .Or (b :: rest) pos) ub) : VW X (.BoolOp .Or (a :: b :: rest) pos) (bOr ua ub) := by
  refine ⟨pwI (pw_or h.pe h'.pe) fun s H Q ⟨F, σ, W, A, L, w⟩ => ?_, mono_bOr h.mono h'.mono⟩
  refine L.test h.mono w fun c W1 H1 w1 L1 e => ?_
  cases c with
  | false => exact L1.test h'.mono w1 fun d W2 H2 w2 L2 e2 => w2 H2 (e.trans e2)
  | true => exact w1 H1 e
theorem vtNot (h : VT X a ua) : VT X (.UnaryOp .Not a pos) (bNot ua) :=
  ⟨ptI (pt_not h.pe) fun s H Q ⟨F, σ, W, A, L, w⟩ => L.test h.mono w fun c W1 H1 w1 L1 e => w1 H1 e, mono_bNot h.mono⟩
/-- .. as values -/
def sAnd (ta tb : SE) : SE := fun σ W Q => ta σ W fun _ x W1 => match x with
  | .bl true => tb σ W1 Q
  | .bl false => Q .st (.bl false) W1
  | _ => False
def sOr (ta tb : SE) : SE := fun σ W Q => ta σ W fun _ x W1 => match x with
  | .bl true => Q .st (.bl true) W1
  | .bl false => tb σ W1 Q
  | _ => False
def sNot (ta : SE) : SE := fun σ W Q => ta σ W fun _ x W1 => match x with
  | .bl c => Q .st (.bl (!c)) W1
  | _ => False
theorem mono_sAnd (m : MonoE ta) (n : MonoE tb) : MonoE (sAnd ta tb) := fun σ W Q Q' h w => m _ _ _ _ (fun t x W1 w1 => by
  cases x with
  | bl c => cases c <;> first | exact n _ _ _ _ h w1 | exact h _ _ _ w1
  | _ => exact w1) w
theorem mono_sOr (m : MonoE ta) (n : MonoE tb) : MonoE (sOr ta tb) := fun σ W Q Q' h w => m _ _ _ _ (fun t x W1 w1 => by
  cases x with
  | bl c => cases c <;> first | exact n _ _ _ _ h w1 | exact h _ _ _ w1
  | _ => exact w1) w
theorem mono_sNot (m : MonoE ta) : MonoE (sNot ta) := fun σ W Q Q' h w => m _ _ _ _ (fun t x W1 w1 => by
  cases x with
  | bl c => exact h _ _ _ w1
  | _ => exact w1) w
theorem vOne {op : BoolOp} (h : VE X a ta) : VE X (.BoolOp op [a] pos) ta := ⟨pe_one h.pe, h.mono⟩
theorem vAnd (h : VE X a ta) (h' : VE X (.BoolOp .And (b :: rest) pos) tb) : VE X (.BoolOp .And (a :: b :: rest) pos) (sAnd ta tb) := by
  refine ⟨peI (pe_and h.pe h'.pe) fun s H Q ⟨F, σ, W, A, L, w⟩ => ?_, mono_sAnd h.mono h'.mono⟩
  refine L.one h.mono w fun t x W1 v H1 w1 L1 e p => ?_
  cases x with
  | bl c =>
    refine ⟨c, p.bl, ?_⟩
    cases c with
    | true => exact L1.one h'.mono w1 fun t y W2 u H2 w2 L2 e2 p2 => w2 u H2 (e.trans e2) (p2.back e.same)
    | false => exact w1 _ H1 e Post.ofBl
  | _ => exact w1.elim
theorem vOr (h : VE X a ta) (h' : VE X (.BoolOp .Or (b :: rest) pos) tb) : VE X (.BoolOp .Or (a :: b :: rest) pos) (sOr ta tb) := by
  refine ⟨peI (pe_or h.pe h'.pe) fun s H Q ⟨F, σ, W, A, L, w⟩ => ?_, mono_sOr h.mono h'.mono⟩
  refine L.one h.mono w fun t x W1 v H1 w1 L1 e p => ?_
  cases x with
  | bl c =>
    refine ⟨c, p.bl, ?_⟩
    cases c with
    | false => exact L1.one h'.mono w1 fun t y W2 u H2 w2 L2 e2 p2 => w2 u H2 (e.trans e2) (p2.back e.same)
    | true => exact w1 _ H1 e Post.ofBl
  | _ => exact w1.elim
theorem vNot (h : VE X a ta) : VE X (.UnaryOp .Not a pos) (sNot ta) := by
  refine ⟨peI (pe_not h.pe) fun s H Q ⟨F, σ, W, A, L, w⟩ => ?_, mono_sNot h.mono⟩
  refine L.one h.mono w fun t x W1 v H1 w1 L1 e p => ?_
  cases x with
  | bl c => exact ⟨c, p.bl, w1 _ H1 e Post.ofBl⟩
  | _ => exact w1.elim
def sIf (u : SB) (ta tb : SE) : SE := fun σ W Q => u σ W fun c W1 => if c = true then ta σ W1 Q else tb σ W1 Q
theorem mono_sIf {u : SB} (m : MonoB u) (n : MonoE ta) (k : MonoE tb) : MonoE (sIf u ta tb) := fun σ W Q Q' h w => m _ _ _ _ (fun c W1 w1 => by
  cases c with
  | true => exact n _ _ _ _ h w1
  | false => exact k _ _ _ _ h w1) w
theorem vIf (hc : VT X c ua) (h : VE X a ta) (h' : VE X b tb) : VE X (.IfExp c a b pos) (sIf ua ta tb) := by
  refine ⟨peI (pe_ifExp hc.pe h.pe h'.pe) fun s H Q ⟨F, σ, W, A, L, w⟩ => ?_, mono_sIf hc.mono h.mono h'.mono⟩
  refine L.test hc.mono w fun k W1 H1 w1 L1 e => ?_
  cases k with
  | true => exact L1.one h.mono w1 fun t y W2 u H2 w2 L2 e2 p2 => w2 u H2 (e.trans e2) (p2.back e.same)
  | false => exact L1.one h'.mono w1 fun t y W2 u H2 w2 L2 e2 p2 => w2 u H2 (e.trans e2) (p2.back e.same)

theorem Post.scr {K : PySem.W.Frag} {A Y : List Addr} {W0 W : Wd} {H0 H : Hp} {t : Tg} {ns : List Int} {v : V} (h : Post K A Y (Hm H0 W0) (Hm H W) t (.scr ns) v) : ∃ p, v = .ref p ∧ SqL K H p (ns.map V.int) ∧ ns.length ≤ 63 := by
  cases t with
  | fr => obtain ⟨_, _, _, h⟩ := h; exact h.elim
  | fr2 => obtain ⟨_, _, _, h, _⟩ := h; exact nomatch h
  | b1 => obtain ⟨_, _, _, h⟩ := h; exact h.elim
  | st =>
    simp only [Post, RepS] at h
    obtain ⟨p, e, h1, h2⟩ := h
    exact ⟨p, e, Same.unHm.seq (Same.uncut.seq h1), h2⟩
  | b2 =>
    simp only [Post, RepS] at h
    obtain ⟨p, e, h1, h2⟩ := h
    exact ⟨p, e, Same.unHm.seq (Same.uncut.seq h1), h2⟩

/-! ### subscripts -/
def dIx : OpD := fun t x u y R => match x, y with
  | .lst ds, .int i => ∃ d, atI ds i = some d ∧ R (el t) d
  | .tup ds, .int i => ∃ d, atI ds i = some d ∧ R (el t) d
  | .str z, .int i => ∃ c, z.length ≤ sizeLine ∧ atI z.cps.toList i = some c ∧ R .st (.str ⟨#[c]⟩)
  | .scr ns, .int i => ∃ n, atI ns i = some n ∧ R .st (.int n)
  | _, _ => False
theorem mono_dIx : MonoO dIx := by
  intro t x u y R R' h w
  cases x <;> cases y <;> first | exact w.elim | (obtain ⟨d, e, q⟩ := w; exact ⟨d, e, h _ _ q⟩) | (obtain ⟨d, e, e2, q⟩ := w; exact ⟨d, e, e2, h _ _ q⟩)
theorem atI_j {α β : Type} {xs : List α} {ys : List β} {i : Int} {d : α} (hl : xs.length = ys.length) (h : atI xs i = some d) : ∃ j : Nat, xs[j]? = some d ∧ ∀ y, ys[j]? = some y → atI ys i = some y := by
  unfold atI at h ⊢
  cases e : ixN xs.length i with
  | none => rw [e] at h; cases h
  | some j =>
    rw [e] at h
    refine ⟨j, h, fun y hy => ?_⟩
    rw [← hl, e]
    exact hy
theorem okIx {K : PySem.W.Frag} : OpOk K (rIx K) dIx := by
  intro A X W0 H0 W H a t x u y v w R Q p1 p2 hw k
  cases x with
  | lst ds =>
    cases y with
    | int i =>
      obtain ⟨d, e, q⟩ := hw
      obtain ⟨p, xs, e1, q1, r1, s1⟩ := p1.lst a.own a.ext.same
      obtain ⟨j, hj, hk⟩ := atI_j r1.length e
      obtain ⟨z, hz, pz⟩ := Post.elem a.own a.ext.same r1 s1 hj
      exact .inl ⟨p, xs, i, z, e1, p2.int, .of (Hm_of q1), hk z hz, a.now pz q k⟩
    | _ => exact hw.elim
  | tup ds =>
    cases y with
    | int i =>
      obtain ⟨d, e, q⟩ := hw
      obtain ⟨p, xs, e1, q1, r1, s1⟩ := p1.tup a.own a.ext.same
      obtain ⟨j, hj, hk⟩ := atI_j r1.length e
      obtain ⟨z, hz, pz⟩ := Post.elem a.own a.ext.same r1 s1 hj
      exact .inr (.inl ⟨p, xs, i, z, e1, p2.int, Same.seqT Same.unHm q1, hk z hz, a.now pz q k⟩)
    | _ => exact hw.elim
  | str z =>
    cases y with
    | int i =>
      obtain ⟨d, e, e2, q⟩ := hw
      exact .inr (.inr ⟨z, i, d, p1.str, p2.int, e, e2, a.now Post.ofStr q k⟩)
    | _ => exact hw.elim
  | scr ns =>
    cases y with
    | int i =>
      obtain ⟨n, e, q⟩ := hw
      obtain ⟨p, e1, q1, _⟩ := p1.scr
      obtain ⟨j, hj, hk⟩ := atI_j (ys := ns.map V.int) (by rw [List.length_map]) e
      exact .inl ⟨p, _, i, .int n, e1, p2.int, q1, hk _ (by rw [List.getElem?_map, hj]; rfl), a.now Post.ofInt q k⟩
    | _ => exact hw.elim
  | _ => cases y <;> exact hw.elim
theorem vIx (ha : VE X a ta) (hb : VE X b tb) (hs : PlainIx b := by exact fun _ _ => rfl) : VE X (.Subscript a b pos) (sBin dIx ta tb) :=
  ⟨peI (pe_ix ix_seq ha.pe hb.pe hs) fun s H Q h => rdBin okIx ha.mono hb.mono h, mono_sBin mono_dIx ha.mono hb.mono⟩

/-! ### slices -/
abbrev SPt := SG → Wd → (Option Int → Wd → Prop) → Prop
def MonoP (t : SPt) : Prop := ∀ σ W Q Q', (∀ b W', Q b W' → Q' b W') → t σ W Q → t σ W Q'
def spN : SPt := fun _ W Q => Q none W
def spS (t : SE) : SPt := fun σ W Q => t σ W fun _ d W1 => match d with
  | .int i => Q (some i) W1
  | _ => False
def rdP (K : PySem.W.Frag) (t : SPt) : L2.St → Hp → (Option Int → Hp → Prop) → Prop := fun s H Q => ∃ F σ W A, Live K F σ W A s H ∧ t σ W fun i W' => ∀ H', Ext (A.flatten ++ F.X) W H W' H' → Q i H'
structure VO (X : Cx) (e : Option Expr) (t : SPt) : Prop where
  pe : PO X e (rdP X.K t)
  mono : MonoP t
theorem poI {e : Option Expr} {t t' : L2.St → Hp → (Option Int → Hp → Prop) → Prop} (h : PO X e t) (i : ∀ s H Q, t' s H Q → t s H Q) : PO X e t' := ⟨fun pins s σ H Q I w => h.run pins s σ H Q I (i _ _ _ w)⟩
theorem voN : VO X none spN := ⟨poI po_none fun s H Q ⟨F, σ, W, A, L, w⟩ => w H L.ext0, fun _ _ _ _ h w => h _ _ w⟩
theorem voS {e : Expr} (h : VE X e ta) : VO X (some e) (spS ta) := by
  refine ⟨poI (po_some h.pe) fun s H Q ⟨F, σ, W, A, L, w⟩ => ?_, fun σ W Q Q' h' w => h.mono _ _ _ _ (fun g d W1 w1 => ?_) w⟩
  · refine L.one h.mono w fun t x W1 v H1 w1 L1 e p => ?_
    cases x with
    | int i => exact ⟨i, p.int, w1 H1 e⟩
    | _ => exact w1.elim
  · cases d <;> first | exact h' _ _ w1 | exact w1
def cutD (xs : List D) (lo hi : Option Int) : List D := (xs.drop (HT.sIx xs.length 0 lo)).take (HT.sIx xs.length xs.length hi - HT.sIx xs.length 0 lo)
def dSl (t : Tg) (x : D) (lo hi : Option Int) (R : Tg → D → Prop) : Prop := match x with
  | .lst ds => est t ds ∧ R .fr (.lst (cutD ds lo hi))
  | .tup ds => est t ds ∧ R .st (.tup (cutD ds lo hi))
  | .str z => z.length ≤ sizeLine ∧ R .st (.str (cutS z lo hi))
  | _ => False
theorem mono_dSl {t : Tg} {x : D} {lo hi : Option Int} {R R' : Tg → D → Prop} (h : ∀ g d, R g d → R' g d) (w : dSl t x lo hi R) : dSl t x lo hi R' := by
  cases x <;> first | exact w.elim | exact ⟨w.1, h _ _ w.2⟩
def sSl (ta : SE) (lo hi : SPt) : SE := fun σ W Q => ta σ W fun t x W1 => lo σ W1 fun l W2 => hi σ W2 fun u W3 => dSl t x l u fun g d => Q g d W3
def rSl2 (K : PySem.W.Frag) : V → Option Int → Option Int → Hp → VK → Prop := fun x lo hi H Q => (rSlL K x lo hi H Q ∨ rSlA K x lo hi H Q) ∨ rSlS x lo hi H Q
theorem slAll : SlR X (rSl2 X.K) := SlR.or (SlR.or sl_list sl_tupA) sl_str
theorem RepSs.cut {K : PySem.W.Frag} {H : Hp} {ds : List D} {xs : List V} (h : RepSs K H ds xs) (lo hi : Option Int) : RepSs K H (cutD ds lo hi) (cutV xs lo hi) := by
  unfold cutD cutV
  rw [h.length]
  exact (h.drop _).take _
theorem cut_whole {xs : List D} {lo hi : Option Int} (h : HT.sIx xs.length 0 lo = 0 ∧ HT.sIx xs.length xs.length hi = xs.length) : cutD xs lo hi = xs := by
  unfold cutD
  rw [h.1, h.2]
  simp
theorem okSl {K : PySem.W.Frag} {A X : List Addr} {W0 W : Wd} {H0 H : Hp} (a : At A X W0 H0 W H) {t : Tg} {x : D} {v : V} {lo hi : Option Int} {R : Tg → D → Prop} {Q : VK}
    (p1 : Post K A X (Hm H0 W0) (Hm H W) t x v) (hw : dSl t x lo hi R) (k : ∀ g d z H', Ext (A ++ X) W H W H' → Post K A X (Hm H0 W0) (Hm H' W) g d z → R g d → Q z H') : rSl2 K v lo hi H Q := by
  cases x with
  | lst ds =>
    obtain ⟨f, q⟩ := hw
    obtain ⟨p, xs, e1, q1, r1, s1⟩ := p1.lst a.own a.ext.same
    exact .inl (.inl ⟨p, xs, e1, .of (Hm_of q1), a.newL ((s1 f).cut lo hi) q k⟩)
  | tup ds =>
    obtain ⟨f, q⟩ := hw
    obtain ⟨p, xs, e1, q1, r1, s1⟩ := p1.tup a.own a.ext.same
    refine .inl (.inr ⟨p, xs, e1, Same.seqT Same.unHm q1, fun h => ?_, fun _ => a.newT ((s1 f).cut lo hi) q k⟩)
    rw [← r1.length] at h
    rw [cut_whole h] at q
    have p3 : Post K A X (Hm H0 W0) (Hm H W) .st (.tup ds) v := by
      cases t with
      | st => exact p1
      | fr => obtain ⟨_, _, _, h⟩ := p1; exact h.elim
      | fr2 => obtain ⟨_, _, _, h, _⟩ := p1; exact nomatch h
      | b1 => obtain ⟨_, _, _, h⟩ := p1; exact h.elim
      | b2 => exact p1.keep a.own a.ext.same (by simp only [sto, stoB, flat]; exact f)
    rw [← e1]
    exact a.now p3 q k
  | str z => exact .inr ⟨z, p1.str, hw.1, a.now Post.ofStr hw.2 k⟩
  | _ => exact hw.elim
theorem vSl {lo hi : Option Expr} {l u : SPt} {p2 : Pos} (ha : VE X a ta) (hl : VO X lo l) (hu : VO X hi u) : VE X (.Subscript a (.Slice lo hi none p2) pos) (sSl ta l u) := by
  refine ⟨peI (pe_slice slAll ha.pe hl.pe hu.pe) fun s H Q ⟨F, σ, W, A, L, w⟩ => ?_, fun σ W Q Q' h w => ?_⟩
  · refine L.one ha.mono w fun t x W1 v H1 w1 L1 e1 p1 => ?_
    refine ⟨F, σ, W1, A, L1, hl.mono _ _ _ _ (fun i W2 w2 H2 e2 => ?_) w1⟩
    refine ⟨F, σ, W2, A, L1.step e2, hu.mono _ _ _ _ (fun j W3 w3 H3 e3 => ?_) w2⟩
    have ee := (e1.trans e2).trans e3
    exact okSl ⟨L.own, ee⟩ (p1.mono (e2.same.trans e3.same)) w3 fun g d z H' e' p' q => q z H' (ee.trans e') p'
  · exact ha.mono _ _ _ _ (fun t x W1 w1 => hl.mono _ _ _ _ (fun i W2 w2 => hu.mono _ _ _ _ (fun j W3 w3 => mono_dSl (fun g d => h g d W3) w3) w2) w1) w

/-! ### arguments, displays -/
variable {es : List Expr} {sa : SA}
def aNil : SA := fun _ W Q => Q [] W
def aCons (t : SE) (r : SA) : SA := fun σ W Q => t σ W fun g d W1 => r σ W1 fun ds W2 => Q ((g, d) :: ds) W2
theorem vaNil : VA X [] aNil := ⟨paI pa_nil fun s H Q ⟨F, σ, W, A, L, w⟩ => w [] H L.ext0 rfl, fun _ _ _ _ h w => h _ _ w⟩
theorem vaCons (ha : VE X a ta) (hr : VA X es sa) (hs : starEach (a :: es) X.env = (false, eval a X.env) :: starEach es X.env := by rfl) : VA X (a :: es) (aCons ta sa) := by
  refine ⟨paI (pa_cons ha.pe hr.pe hs) fun s H Q ⟨F, σ, W, A, L, w⟩ => ?_, fun σ W Q Q' h w => ha.mono _ _ _ _ (fun g d W1 w1 => hr.mono _ _ _ _ (fun ds W2 w2 => h _ _ w2) w1) w⟩
  refine L.one ha.mono w fun t x W1 v H1 w1 L1 e1 p1 => ?_
  exact L1.args hr.mono w1 fun ds W2 vs H2 w2 L2 e2 p2 => w2 _ H2 (e1.trans e2) ⟨v, vs, rfl, p1.mono e2.same, p2.back e1.same⟩
def allSto (ds : List (Tg × D)) : Bool := ds.all fun p => stoB p.1 p.2
theorem PostA.keep {K : PySem.W.Frag} {A X : List Addr} {H0 H : Hp} (O : Own A X H0) (hs : Same H0 H) : ∀ {ds : List (Tg × D)} {vs : List V}, PostA K A X H0 H ds vs → allSto ds = true → RepSs K (cut H (A ++ X)) (ds.map (·.2)) vs
  | [], vs, h, _ => by cases (show vs = [] from h); simp [RepSs]
  | (t, d) :: r, _, ⟨v, us, e, p, q⟩, f => by
    subst e
    simp only [allSto, List.all_cons, Bool.and_eq_true] at f
    simp only [List.map_cons, RepSs]
    exact ⟨v, us, rfl, p.keep O hs f.1, q.keep O hs f.2⟩
theorem PostA.rep {K : PySem.W.Frag} {A X : List Addr} {H0 H : Hp} (O : Own A X H0) (hs : Same H0 H) : ∀ {ds : List (Tg × D)} {vs : List V}, PostA K A X H0 H ds vs → RepSs K (cut H X) (ds.map (·.2)) vs
  | [], vs, h => by cases (show vs = [] from h); simp [RepSs]
  | (t, d) :: r, _, ⟨v, us, e, p, q⟩ => by
    subst e
    simp only [List.map_cons, RepSs]
    exact ⟨v, us, rfl, p.rep O hs, q.rep O hs⟩
theorem PostA.length {K : PySem.W.Frag} {A X : List Addr} {H0 H : Hp} : ∀ {ds : List (Tg × D)} {vs : List V}, PostA K A X H0 H ds vs → vs.length = ds.length
  | [], vs, h => by cases (show vs = [] from h); rfl
  | (t, d) :: r, _, ⟨v, us, e, p, q⟩ => by subst e; rw [List.length_cons, List.length_cons, PostA.length q]
/-- values given to a function of values -/
abbrev FnD := List (Tg × D) → (Tg → D → Prop) → Prop
def MonoF (f : FnD) : Prop := ∀ ds R R', (∀ g d, R g d → R' g d) → f ds R → f ds R'
def sFn (f : FnD) (ta : SA) : SE := fun σ W Q => ta σ W fun ds W1 => f ds fun g d => Q g d W1
theorem mono_sFn {f : FnD} (mf : MonoF f) (ma : MonoA sa) : MonoE (sFn f sa) := fun σ W Q Q' h w => ma _ _ _ _ (fun ds W1 w1 => mf _ _ _ (fun g d => h g d W1) w1) w
def FnDOk (K : PySem.W.Frag) (r : List V → Hp → VK → Prop) (f : FnD) : Prop :=
  ∀ (A X : List Addr) (W0 : Wd) (H0 : Hp) (W : Wd) (H : Hp), At A X W0 H0 W H → ∀ (ds : List (Tg × D)) (vs : List V) (R : Tg → D → Prop) (Q : VK),
    PostA K A X (Hm H0 W0) (Hm H W) ds vs → f ds R →
    (∀ g d z H', Ext (A ++ X) W H W H' → Post K A X (Hm H0 W0) (Hm H' W) g d z → R g d → Q z H') → r vs H Q
theorem rdFn {K : PySem.W.Frag} {r : List V → Hp → VK → Prop} {f : FnD} (hf : FnDOk K r f) (ma : MonoA sa) {s : L2.St} {H : Hp} {Q : VK} (h : rdE K (sFn f sa) s H Q) : rdA K sa s H fun vs H1 => r vs H1 Q := by
  obtain ⟨F, σ, W, A, L, w⟩ := h
  exact L.args ma w fun ds W1 vs H1 w1 L1 e p => hf _ _ _ _ _ _ ⟨L.own, e⟩ _ _ _ _ p w1 fun g d z H' e' p' q => q z H' (e.trans e') p'
def dTup : FnD := fun ds R => ds.length ≤ sizeLine ∧ R (if allSto ds = true then .st else .b2) (.tup (ds.map (·.2)))
def dLst : FnD := fun ds R => ds.length ≤ sizeLine ∧ R (if allSto ds = true then .fr else .b2) (.lst (ds.map (·.2)))
theorem mono_dTup : MonoF dTup := fun ds R R' h w => ⟨w.1, h _ _ w.2⟩
theorem mono_dLst : MonoF dLst := fun ds R R' h w => ⟨w.1, h _ _ w.2⟩
theorem vTup {n : Nat} (h : VA X es sa) : VE X (.Tuple es n pos) (sFn dTup sa) := by
  refine ⟨peI (pe_tup h.pe) fun s H Q q => ?_, mono_sFn mono_dTup h.mono⟩
  refine rdFn (r := fun xs H1 Q => xs.length ≤ sizeLine ∧ ∀ p, H1 p = none → Q (.ref p) (upd H1 p (.tup xs))) (fun A Y W0 H0 W H a ds vs R Q p w k => ?_) h.mono q
  obtain ⟨w1, w2⟩ := w
  refine ⟨by rw [p.length]; exact w1, ?_⟩
  by_cases f : allSto ds = true
  · rw [if_pos f] at w2
    exact a.newT (p.keep a.own a.ext.same f) w2 k
  · rw [if_neg f] at w2
    exact a.newT2 (p.rep a.own a.ext.same) w2 k
theorem vLst (h : VA X es sa) : VE X (.List es pos) (sFn dLst sa) := by
  refine ⟨peI (pe_lst h.pe) fun s H Q q => ?_, mono_sFn mono_dLst h.mono⟩
  refine rdFn (r := fun xs H1 Q => xs.length ≤ sizeLine ∧ ∀ p, H1 p = none → Q (.ref p) (upd H1 p (.lst xs))) (fun A Y W0 H0 W H a ds vs R Q p w k => ?_) h.mono q
  obtain ⟨w1, w2⟩ := w
  refine ⟨by rw [p.length]; exact w1, ?_⟩
  by_cases f : allSto ds = true
  · rw [if_pos f] at w2
    exact a.newL (p.keep a.own a.ext.same f) w2 k
  · rw [if_neg f] at w2
    exact a.newL2 (p.rep a.own a.ext.same) w2 k

/-! ### calls of built-ins -/
theorem vCB {id : String} {x : Str} {p : Pos} {r : List V → Hp → VK → Prop} {f : FnD} (hc : CallR X (.builtin id) r) (hf : FnDOk X.K r f) (mf : MonoF f) (hg : Gl X x) (hm : X.mg x = none) (hv : bootBuiltins x = some (.builtin id)) (ha : VA X (a :: es) sa)
    (hn : x ≠ "__name__" := by decide) (hdb : (x == ("__debug__" : Str)) = false := by decide) (he : starEach (a :: es) X.env = (false, eval a X.env) :: starEach es X.env := by rfl) (hpl : (backTo pos (starEach es X.env)).any (·.1) = false := by rfl) : VE X (.Call (.Name x p) (a :: es) [] pos) (sFn f sa) :=
  ⟨peI (pe_callB hc hg hm hv ha.pe hn hdb he hpl) fun s H Q q => rdFn hf ha.mono q, mono_sFn mf ha.mono⟩
theorem vCT {T : String} {x : Str} {p : Pos} {r : List V → Hp → VK → Prop} {f : FnD} (hc : CallR X (.type T) r) (hf : FnDOk X.K r f) (mf : MonoF f) (hg : Gl X x) (hm : X.mg x = none) (hv : bootBuiltins x = some (.type T)) (ha : VA X (a :: es) sa)
    (hn : x ≠ "__name__" := by decide) (hdb : (x == ("__debug__" : Str)) = false := by decide) (he : starEach (a :: es) X.env = (false, eval a X.env) :: starEach es X.env := by rfl) (hpl : (backTo pos (starEach es X.env)).any (·.1) = false := by rfl) : VE X (.Call (.Name x p) (a :: es) [] pos) (sFn f sa) :=
  ⟨peI (pe_callTy hc hg hm hv ha.pe hn hdb he hpl) fun s H Q q => rdFn hf ha.mono q, mono_sFn mf ha.mono⟩
end
end VL

/-! VL6: built-ins, calls of defs. -/
namespace VL
open PySem PySem.Spec PyProof.Rows L2

section
variable {X : Cx} {pos : Pos} {a b c : Expr} {ta tb tc : SE} {es : List Expr} {sa : SA}
theorem CallR.orr {f : Value} {r r' : List V → Hp → VK → Prop} (h : CallR X f r) (h' : CallR X f r') : CallR X f (fun xs H Q => r xs H Q ∨ r' xs H Q) := by
  intro pins s σ H xs us Q I rv q
  rcases q with q | q
  · exact h pins s σ H xs us Q I rv q
  · exact h' pins s σ H xs us Q I rv q
theorem PostA.one {K : PySem.W.Frag} {A Y : List Addr} {H0 H : Hp} {t : Tg} {x : D} {vs : List V} (h : PostA K A Y H0 H [(t, x)] vs) : ∃ v, vs = [v] ∧ Post K A Y H0 H t x v := by
  obtain ⟨v, us, e, p, q⟩ := h
  cases (show us = [] from q)
  exact ⟨v, e, p⟩
theorem PostA.two {K : PySem.W.Frag} {A Y : List Addr} {H0 H : Hp} {t u : Tg} {x y : D} {vs : List V} (h : PostA K A Y H0 H [(t, x), (u, y)] vs) : ∃ v w, vs = [v, w] ∧ Post K A Y H0 H t x v ∧ Post K A Y H0 H u y w := by
  obtain ⟨v, us, e, p, q⟩ := h
  obtain ⟨w, e2, q2⟩ := PostA.one q
  subst e2
  exact ⟨v, w, e, p, q2⟩
/-! ### len -/
def dLen : FnD := fun ds R => match ds with
  | [(_, .lst xs)] => R .st (.int xs.length)
  | [(_, .tup xs)] => R .st (.int xs.length)
  | [(_, .str z)] => z.length ≤ sizeLine ∧ R .st (.int z.length)
  | [(_, .scr ns)] => R .st (.int ns.length)
  | _ => False
theorem mono_dLen : MonoF dLen := by
  intro ds R R' h w
  unfold dLen at w ⊢
  split at w <;> first | exact h _ _ w | exact ⟨w.1, h _ _ w.2⟩ | exact w.elim
theorem okLen {K : PySem.W.Frag} : FnDOk K (fun xs H Q => ∃ x n, xs = [x] ∧ LenV K x H n ∧ Q (.int n) H) dLen := by
  intro A Y W0 H0 W H a ds vs R Q p w k
  unfold dLen at w
  split at w
  · obtain ⟨v, rfl, p1⟩ := p.one
    obtain ⟨q, xs, e1, q1, r1, _⟩ := p1.lst a.own a.ext.same
    refine ⟨v, _, rfl, ?_, a.now (Post.ofInt (i := ((_ : Nat) : Int))) w k⟩
    rw [e1]
    exact .inl ⟨xs, .of (Hm_of q1), r1.length⟩
  · obtain ⟨v, rfl, p1⟩ := p.one
    obtain ⟨q, xs, e1, q1, r1, _⟩ := p1.tup a.own a.ext.same
    refine ⟨v, _, rfl, ?_, a.now (Post.ofInt (i := ((_ : Nat) : Int))) w k⟩
    rw [e1]
    exact .inr ⟨xs, Same.seqT Same.unHm q1, r1.length⟩
  · obtain ⟨v, rfl, p1⟩ := p.one
    refine ⟨v, _, rfl, ?_, a.now (Post.ofInt (i := ((_ : Nat) : Int))) w.2 k⟩
    rw [p1.str]
    exact ⟨w.1, rfl⟩
  · obtain ⟨v, rfl, p1⟩ := p.one
    obtain ⟨q, e1, q1, _⟩ := p1.scr
    refine ⟨v, _, rfl, ?_, a.now (Post.ofInt (i := ((_ : Nat) : Int))) w k⟩
    rw [e1]
    exact .inl ⟨_, q1, by rw [List.length_map]⟩
  · exact w.elim
/-! ### list, tuple -/
def dList : FnD := fun ds R => match ds with
  | [(t, .lst xs)] => est t xs ∧ R .fr (.lst xs)
  | [(t, .tup xs)] => est t xs ∧ R .fr (.lst xs)
  | _ => False
theorem mono_dList : MonoF dList := by
  intro ds R R' h w
  unfold dList at w ⊢
  split at w <;> first | exact ⟨w.1, h _ _ w.2⟩ | exact w.elim
theorem okList {K : PySem.W.Frag} : FnDOk K (fun xs H Q => ∃ p ys, xs = [.ref p] ∧ (SqL K H p ys ∨ SqT K H p ys) ∧ ∀ l, H l = none → Q (.ref l) (upd H l (.lst ys))) dList := by
  intro A Y W0 H0 W H a ds vs R Q p w k
  unfold dList at w
  split at w
  · obtain ⟨v, rfl, p1⟩ := p.one
    obtain ⟨q, xs, e1, q1, r1, s1⟩ := p1.lst a.own a.ext.same
    exact ⟨q, xs, by rw [e1], .inl (.of (Hm_of q1)), a.newL (s1 w.1) w.2 k⟩
  · obtain ⟨v, rfl, p1⟩ := p.one
    obtain ⟨q, xs, e1, q1, r1, s1⟩ := p1.tup a.own a.ext.same
    exact ⟨q, xs, by rw [e1], .inr (Same.seqT Same.unHm q1), a.newL (s1 w.1) w.2 k⟩
  · exact w.elim
def dTuple : FnD := fun ds R => match ds with
  | [(t, .lst xs)] => est t xs ∧ R .st (.tup xs)
  | [(t, .tup xs)] => est t xs ∧ R .st (.tup xs)
  | _ => False
theorem mono_dTuple : MonoF dTuple := by
  intro ds R R' h w
  unfold dTuple at w ⊢
  split at w <;> first | exact ⟨w.1, h _ _ w.2⟩ | exact w.elim
theorem Post.tupSt {K : PySem.W.Frag} {A Y : List Addr} {H0 H : Hp} {t : Tg} {ds : List D} {v : V} (O : Own A Y H0) (hs : Same H0 H) (p : Post K A Y H0 H t (.tup ds) v) (e : est t ds) : Post K A Y H0 H .st (.tup ds) v := by
  cases t with
  | st => exact p
  | fr => obtain ⟨_, _, _, h⟩ := p; exact h.elim
  | fr2 => obtain ⟨_, _, _, h, _⟩ := p; exact nomatch h
  | b1 => obtain ⟨_, _, _, h⟩ := p; exact h.elim
  | b2 => exact p.keep O hs (by simp only [sto, stoB, flat]; exact e)
theorem okTuple {K : PySem.W.Frag} : FnDOk K (fun xs H Q => ∃ p ys, xs = [.ref p] ∧ ((SqL K H p ys ∧ ∀ l, H l = none → Q (.ref l) (upd H l (.tup ys))) ∨ (SqT K H p ys ∧ Q (.ref p) H))) dTuple := by
  intro A Y W0 H0 W H a ds vs R Q p w k
  unfold dTuple at w
  split at w
  · obtain ⟨v, rfl, p1⟩ := p.one
    obtain ⟨q, xs, e1, q1, r1, s1⟩ := p1.lst a.own a.ext.same
    exact ⟨q, xs, by rw [e1], .inl ⟨.of (Hm_of q1), a.newT (s1 w.1) w.2 k⟩⟩
  · obtain ⟨v, rfl, p1⟩ := p.one
    obtain ⟨q, xs, e1, q1, r1, s1⟩ := p1.tup a.own a.ext.same
    refine ⟨q, xs, by rw [e1], .inr ⟨Same.seqT Same.unHm q1, ?_⟩⟩
    rw [← e1]
    exact a.now (p1.tupSt a.own a.ext.same w.1) w.2 k
  · exact w.elim
/-! ### ints -/
def dF1 (f : Int → Int) : FnD := fun ds R => match ds with
  | [(_, .int i)] => R .st (.int (f i))
  | _ => False
theorem mono_dF1 {f : Int → Int} : MonoF (dF1 f) := by
  intro ds R R' h w
  unfold dF1 at w ⊢
  split at w <;> first | exact h _ _ w | exact w.elim
abbrev dAbs : FnD := dF1 fun i => if i < 0 then -i else i
abbrev dInt : FnD := dF1 fun i => i
theorem okAbs {K : PySem.W.Frag} : FnDOk K (fun xs H Q => ∃ i, xs = [.int i] ∧ Q (.int (if i < 0 then -i else i)) H) dAbs := by
  intro A Y W0 H0 W H a ds vs R Q p w k
  unfold dAbs dF1 at w
  split at w
  · obtain ⟨v, rfl, p1⟩ := p.one
    exact ⟨_, by rw [p1.int], a.now Post.ofInt w k⟩
  · exact w.elim
theorem okInt {K : PySem.W.Frag} : FnDOk K (fun xs H Q => (∃ i, xs = [.int i] ∧ Q (.int i) H) ∨ ∃ k, xs = [.bl k] ∧ Q (.int (if k then 1 else 0)) H) dInt := by
  intro A Y W0 H0 W H a ds vs R Q p w k
  unfold dInt dF1 at w
  split at w
  · obtain ⟨v, rfl, p1⟩ := p.one
    exact .inl ⟨_, by rw [p1.int], a.now Post.ofInt w k⟩
  · exact w.elim
def dF2 (f : Int → Int → Int) : FnD := fun ds R => match ds with
  | [(_, .int i), (_, .int j)] => R .st (.int (f i j))
  | _ => False
theorem mono_dF2 {f : Int → Int → Int} : MonoF (dF2 f) := by
  intro ds R R' h w
  unfold dF2 at w ⊢
  split at w <;> first | exact h _ _ w | exact w.elim
abbrev dMin2 : FnD := dF2 fun i j => if j < i then j else i
abbrev dMax2 : FnD := dF2 fun i j => if j > i then j else i
theorem okMin2 {K : PySem.W.Frag} : FnDOk K (fun xs H Q => ∃ i j, xs = [.int i, .int j] ∧ Q (.int (if j < i then j else i)) H) dMin2 := by
  intro A Y W0 H0 W H a ds vs R Q p w k
  unfold dMin2 dF2 at w
  split at w
  · obtain ⟨v, u, rfl, p1, p2⟩ := p.two
    exact ⟨_, _, by rw [p1.int, p2.int], a.now Post.ofInt w k⟩
  · exact w.elim
theorem okMax2 {K : PySem.W.Frag} : FnDOk K (fun xs H Q => ∃ i j, xs = [.int i, .int j] ∧ Q (.int (if j > i then j else i)) H) dMax2 := by
  intro A Y W0 H0 W H a ds vs R Q p w k
  unfold dMax2 dF2 at w
  split at w
  · obtain ⟨v, u, rfl, p1, p2⟩ := p.two
    exact ⟨_, _, by rw [p1.int, p2.int], a.now Post.ofInt w k⟩
  · exact w.elim
/-! ### sum, max, min of a list of ints -/
def dSum : FnD := fun ds R => match ds with
  | [(_, .lst xs)] => ∃ ns : List Int, xs = ns.map D.int ∧ R .st (.int ns.sum)
  | _ => False
theorem mono_dSum : MonoF dSum := by
  intro ds R R' h w
  unfold dSum at w ⊢
  split at w
  · obtain ⟨ns, e, q⟩ := w; exact ⟨ns, e, h _ _ q⟩
  · exact w.elim
theorem okSum {K : PySem.W.Frag} : FnDOk K (rSum K) dSum := by
  intro A Y W0 H0 W H a ds vs R Q p w k
  unfold dSum at w
  split at w
  · obtain ⟨ns, e, w⟩ := w
    subst e
    obtain ⟨v, rfl, p1⟩ := p.one
    obtain ⟨q, xs, e1, q1, r1, s1⟩ := p1.lst a.own a.ext.same
    rw [RepSs.ints] at r1
    subst r1
    exact ⟨q, ns, by rw [e1], .of (Hm_of q1), a.now Post.ofInt w k⟩
  · exact w.elim
/-- the greatest, by le; of a list or a tuple -/
def dBest (le : Int → Int → Prop) : FnD := fun ds R => match ds with
  | [(_, .lst xs)] => ∃ ns : List Int, xs = ns.map D.int ∧ 0 < ns.length ∧ ∀ m, m ∈ ns → (∀ y, y ∈ ns → le y m) → R .st (.int m)
  | [(_, .tup xs)] => ∃ ns : List Int, xs = ns.map D.int ∧ 0 < ns.length ∧ ∀ m, m ∈ ns → (∀ y, y ∈ ns → le y m) → R .st (.int m)
  | _ => False
theorem mono_dBest {le : Int → Int → Prop} : MonoF (dBest le) := by
  intro ds R R' h w
  unfold dBest at w ⊢
  split at w
  · obtain ⟨ns, e, e2, q⟩ := w; exact ⟨ns, e, e2, fun m h1 h2 => h _ _ (q m h1 h2)⟩
  · obtain ⟨ns, e, e2, q⟩ := w; exact ⟨ns, e, e2, fun m h1 h2 => h _ _ (q m h1 h2)⟩
  · exact w.elim
abbrev dMax1 : FnD := dBest fun y m => y ≤ m
abbrev dMin1 : FnD := dBest fun y m => m ≤ y
/-! ### isinstance(x, T) -/
def tyN : D → Option String
  | .non => some "NoneType"
  | .bl _ => some "bool"
  | .int _ => some "int"
  | .str _ => some "str"
  | .tup _ => some "tuple"
  | .lst _ => some "list"
  | .dct _ => some "dict"
  | _ => none
def isTy (n T : String) : Bool := n == T || (n == "bool" && T == "int")
def dIsi (T : String) : UnD := fun _ x R => match tyN x with
  | some n => R .st (.bl (isTy n T))
  | none => False
theorem mono_dIsi {T : String} : MonoU (dIsi T) := by
  intro t x R R' h w
  unfold dIsi at w ⊢
  split at w
  · exact h _ _ w
  · exact w
def tyAll : List String := ["NoneType", "bool", "int", "str", "tuple", "list", "dict"]
theorem kits : (tyAll.all fun n => ["bool", "int", "str", "tuple", "list", "dict"].all fun T => decide (kitB n T = some (isTy n T))) = true := by decide +kernel
theorem kit_at {n T : String} (h : n ∈ tyAll) (h' : T ∈ ["bool", "int", "str", "tuple", "list", "dict"]) : kitB n T = some (isTy n T) := by
  have q := kits
  rw [List.all_eq_true] at q
  have q2 := q n h
  rw [List.all_eq_true] at q2
  exact of_decide_eq_true (q2 T h')
theorem RepS.tyx {K : PySem.W.Frag} {H : Hp} {d : D} {v : V} {n : String} (h : RepS K H d v) (e : tyN d = some n) : n ∈ tyAll ∧ TyX K H v (.type n) := by
  cases d <;> simp only [tyN, Option.some.injEq] at e <;> (try cases e) <;> simp only [RepS] at h
  · subst h; exact ⟨by decide, .base .non⟩
  · subst h; exact ⟨by decide, .base (.bl _)⟩
  · subst h; exact ⟨by decide, .base (.int _)⟩
  · subst h; exact ⟨by decide, .base (.str _)⟩
  · obtain ⟨a, xs, rfl, h1, _⟩ := h
    refine ⟨by decide, ?_⟩
    rcases h1 with (h1 | ⟨o, h1⟩) | ⟨o, its, n, h1, h2, _⟩
    · exact .base (.tup h1)
    · exact .fTuple h1
    · exact .kTuple h1 h2
  · obtain ⟨a, xs, rfl, h1, _⟩ := h
    exact ⟨by decide, .base (.lst h1)⟩
  · obtain ⟨a, o, vs, rfl, h1, h2, _⟩ := h
    refine ⟨by decide, ?_⟩
    rcases h2 with ⟨ks, rfl, _⟩ | ⟨ks, rfl, _⟩
    · exact .base (.dK h1)
    · exact .base (.dT h1)
theorem okIsi {K : PySem.W.Frag} {T : String} (hT : T ∈ ["bool", "int", "str", "tuple", "list", "dict"]) : UnOk K (fun x H Q => rIsi K [x, .ty T] H Q) (dIsi T) := by
  intro A Y W0 H0 W H a t x v R Q p w k
  unfold dIsi at w
  split at w
  · rename_i n e
    obtain ⟨h1, h2⟩ := (p.actual a).tyx e
    exact ⟨v, .ty T, .type n, .type T, _, rfl, .ty T, h2, kit_ty (kit_at h1 hT), a.now Post.ofBl w k⟩
  · exact w.elim
theorem vIsi {y : Str} {p p2 : Pos} (T : String) (hg : Gl X "isinstance") (hm : X.mg "isinstance" = none) (hg2 : Gl X y) (hm2 : X.mg y = none) (hv2 : bootBuiltins y = some (.type T)) (ha : VE X a ta) (hT : T ∈ ["bool", "int", "str", "tuple", "list", "dict"] := by decide)
    (hv : bootBuiltins "isinstance" = some (.builtin "isinstance") := by decide +kernel) (hn : y ≠ "__name__" := by decide) (hdb : (y == ("__debug__" : Str)) = false := by decide)
    (he : starEach [a, .Name y p2] X.env = (false, eval a X.env) :: starEach [.Name y p2] X.env := by rfl) (hpl : (backTo pos (starEach [.Name y p2] X.env)).any (·.1) = false := by rfl) :
    VE X (.Call (.Name "isinstance" p) [a, .Name y p2] [] pos) (sUn (dIsi T) ta) :=
  ⟨peI (pe_callB call_isi hg hm hv (pa_cons ha.pe (pa_cons (pe_bltn (v := .ty T) hg2 hm2 hv2 rfl hn hdb) pa_nil) he) (by decide) (by decide) he hpl) fun s H Q h => rdUn (okIsi hT) ha.mono h, mono_sUn mono_dIsi ha.mono⟩
end

/-! ### calls of defs -/
abbrev DSp := List D → Wd → (Tg → D → Wd → Prop) → Prop
def MonoD (sp : DSp) : Prop := ∀ ds W Q Q', (∀ t d W', Q t d W' → Q' t d W') → sp ds W Q → sp ds W Q'
def toSp (K : PySem.W.Frag) (n : Nat) (sp : DSp) : Sp := fun vs H Q _ => vs.length = n ∧ ∃ ds W X, CellOk (cut (Hm H W) X) H W ∧ (∀ b ∈ X, (Hm H W b).isSome = true) ∧ RepSs K (cut (Hm H W) X) ds vs ∧
  sp ds W fun tg d W' => ∀ v H', RetP K ⟨Hm H W, X, W⟩ W' H' tg d v → Q v H'
/-- a def that stands at a name of the module -/
structure Callee (P : Program) (w : World) (K : PySem.W.Frag) (mg : Str → Option Value) (base : Heap) (x : Str) (k n : Nat) (sp : DSp) : Prop where
  ex : ∃ (f : Addr) (fd : FuncData) (ps : List Str), FnOk P w K mg base CX0 k f fd ps (toSp K n sp) ∧ mg x = some (.ref f) ∧ PySem.W.keepIn K (.ref f) = true ∧ Binds K fd ps []
  mono : MonoD sp
theorem Callee.up {P : Program} {w : World} {K : PySem.W.Frag} {mg : Str → Option Value} {base : Heap} {x : Str} {j k n : Nat} {sp : DSp} (C : Callee P w K mg base x j n sp) (h : j ≤ k) : Callee P w K mg base x k n sp :=
  ⟨let ⟨f, fd, ps, F, r⟩ := C.ex; ⟨f, fd, ps, F.mono h, r⟩, C.mono⟩
def callTag (all : Bool) : Tg → Tg
  | .fr => if all then .fr else .b2
  | _ => if all then .st else .b2
def sCall (n : Nat) (sp : DSp) (ta : SA) : SE := fun σ W Q => ta σ W fun ds W1 => ds.length = n ∧ sp (ds.map (·.2)) W1 fun tg d W2 => Q (callTag (allSto ds) tg) d W2
section
variable {X : Cx} {pos : Pos} {a b c : Expr} {ta tb tc : SE} {es : List Expr} {sa : SA}
theorem mono_sCall {n : Nat} {sp : DSp} (ms : MonoD sp) (ma : MonoA sa) : MonoE (sCall n sp sa) := fun σ W Q Q' h w => ma _ _ _ _ (fun ds W1 w1 => ⟨w1.1, ms _ _ _ _ (fun t d W2 w2 => h _ _ _ w2) w1.2⟩) w
theorem RetPost.rep {K : PySem.W.Frag} {B : Hp} {Y : List Addr} {H : Hp} {tg : Tg} {d : D} {v : V} (hY : ∀ b ∈ Y, (B b).isSome = true) (h : RetPost K B Y H tg d v) : RepS K (cut H Y) d v := by
  cases tg with
  | fr =>
    obtain ⟨p, e, hb, n⟩ := h
    subst e
    exact n.rep (Same.cutl fun b m => List.mem_cons_of_mem _ m) fun o h => cut_some.mpr ⟨h, fun z => by
      have q := hY p z
      rw [hb] at q; cases q⟩
  | st => exact h
  | fr2 => exact h
  | b1 => exact h
  | b2 => exact h
theorem call_run {K : PySem.W.Frag} {n : Nat} {sp : DSp} (ms : MonoD sp) (ma : MonoA sa) {s : L2.St} {H : Hp} {Q : VK} {E : XK} (h : rdE K (sCall n sp sa) s H Q) : tCall (toSp K n sp) [] E (rdA K sa) s H Q := by
  obtain ⟨F, σ, W, A, L, w⟩ := h
  refine L.args ma w fun ds W1 vs H1 w1 L1 e p => ?_
  rw [List.append_nil]
  refine ⟨by rw [p.length]; exact w1.1, ds.map (·.2), W1, ?_⟩
  have xt : ∀ b ∈ A.flatten ++ F.X, (Hm H1 W1 b).isSome = true := fun b m => by
    obtain ⟨o, q⟩ := L1.xt m
    rw [q]; rfl
  by_cases f : allSto ds = true
  · refine ⟨A.flatten ++ F.X, L1.cell, xt, p.keep L.own e.same f, ms _ _ _ _ (fun tg d W2 w2 v H' r => w2 v H' ?_ ?_) w1.2⟩
    · exact e.trans ⟨r.same, r.cell, r.kc⟩
    · rw [f]
      have r4 := r.post
      cases tg with
      | fr =>
        obtain ⟨q, e2, hb, nd⟩ := r4
        exact ⟨q, e2, e.same.free hb, nd⟩
      | st => exact r4
      | fr2 => exact r4
      | b1 => exact r4
      | b2 => exact r4
  · refine ⟨F.X, ?_, fun b m => xt b (List.mem_append_right _ m), p.rep L.own e.same, ms _ _ _ _ (fun tg d W2 w2 v H' r => w2 v H' ?_ ?_) w1.2⟩
    · have q := L1.cell
      cases W1 with
      | none => trivial
      | some t =>
        obtain ⟨r, q1, q2, q3⟩ := q
        exact ⟨r, Same.cutl (fun b => mem_snd) _ _ q1, Same.cutl (fun b => mem_snd) _ _ q2, q3⟩
    · have kc := r.kc
      refine e.trans ⟨r.same, ?_, kc⟩
      -- the counter's own list stays out of one's own
      have q0 := L1.cell
      have q1 := r.cell
      have sm := r.same
      cases W1 with
      | none => cases (show W2 = none from kc); trivial
      | some t =>
        obtain ⟨q, e2⟩ := kc
        subst e2
        obtain ⟨r1, a1, a2, a3⟩ := q0
        obtain ⟨r2, b1, b2, b3⟩ := q1
        have c1 := Same.cut sm _ _ _ a1
        have c2 := Same.cut sm _ _ _ a2
        exact ⟨r1, c1, c2, b3⟩
    · have ff : allSto ds = false := by simpa using f
      rw [ff]
      have r4 := r.post.rep fun b m => xt b (List.mem_append_right _ m)
      cases tg <;> exact r4
theorem vCall {x : Str} {p : Pos} {k n : Nat} {sp : DSp} (C : Callee X.prog X.w X.K X.mg X.base x k n sp) (hr : Room k X.A) (hg : Gl X x) (ha : VA X (a :: es) sa)
    (hdb : (x == ("__debug__" : Str)) = false := by decide) (he : starEach (a :: es) X.env = (false, eval a X.env) :: starEach es X.env := by rfl) (hpl : (backTo pos (starEach es X.env)).any (·.1) = false := by rfl) : VE X (.Call (.Name x p) (a :: es) [] pos) (sCall n sp sa) := by
  obtain ⟨f, fd, ps, F, hm, hk, hb⟩ := C.ex
  exact ⟨peI (pe_call F hr hg hm hk hb .nil pass0 ha.pe hdb he hpl) fun s H Q h => call_run C.mono ha.mono h, mono_sCall C.mono ha.mono⟩
end
end VL

/-! VL7: the state changed; statements without loops. -/
namespace VL
open PySem PySem.Spec PyProof.Rows L2

/-! ### lists of lists of addresses -/
theorem nodup_part : ∀ {A : List (List Addr)} {i : Nat} {a : List Addr}, A.flatten.Nodup → A[i]? = some a → a.Nodup
  | [], i, a, _, h => by simp at h
  | x :: A, 0, a, n, h => by
    rw [List.flatten_cons] at n
    simp at h; subst h
    exact (List.nodup_append.mp n).1
  | x :: A, i + 1, a, n, h => by
    rw [List.flatten_cons] at n
    exact nodup_part (List.nodup_append.mp n).2.1 (by simpa using h)
theorem nodup_apart : ∀ {A : List (List Addr)} {i j : Nat} {a b : List Addr} {p : Addr}, A.flatten.Nodup → A[i]? = some a → A[j]? = some b → i ≠ j → p ∈ a → p ∉ b
  | [], i, j, a, b, p, _, h, _, _, _ => by simp at h
  | x :: A, 0, 0, a, b, p, n, h, h2, ne, m => absurd rfl ne
  | x :: A, 0, j + 1, a, b, p, n, h, h2, ne, m => by
    rw [List.flatten_cons] at n
    simp at h; subst h
    exact fun q => (List.nodup_append.mp n).2.2 p m p (flatten_get (by simpa using h2) q) rfl
  | x :: A, i + 1, 0, a, b, p, n, h, h2, ne, m => by
    rw [List.flatten_cons] at n
    simp at h2; subst h2
    exact fun q => (List.nodup_append.mp n).2.2 p q p (flatten_get (by simpa using h) m) rfl
  | x :: A, i + 1, j + 1, a, b, p, n, h, h2, ne, m => by
    rw [List.flatten_cons] at n
    exact nodup_apart (List.nodup_append.mp n).2.1 (by simpa using h) (by simpa using h2) (fun e => ne (by rw [e])) m
theorem mem_setNil : ∀ {A : List (List Addr)} {i : Nat} {b : Addr}, b ∈ (A.set i []).flatten → b ∈ A.flatten
  | [], i, b, h => by simpa using h
  | x :: A, 0, b, h => by
    rw [List.set_cons_zero, List.flatten_cons] at h
    rw [List.flatten_cons]
    exact List.mem_append_right _ (by simpa using h)
  | x :: A, i + 1, b, h => by
    rw [List.set_cons_succ, List.flatten_cons] at h
    rw [List.flatten_cons]
    rcases List.mem_append.mp h with h | h
    · exact List.mem_append_left _ h
    · exact List.mem_append_right _ (mem_setNil h)
theorem nodup_setNil : ∀ {A : List (List Addr)} {i : Nat}, A.flatten.Nodup → (A.set i []).flatten.Nodup
  | [], i, n => by simpa using n
  | x :: A, 0, n => by
    rw [List.flatten_cons] at n
    rw [List.set_cons_zero, List.flatten_cons]
    simpa using (List.nodup_append.mp n).2.1
  | x :: A, i + 1, n => by
    rw [List.flatten_cons] at n
    rw [List.set_cons_succ, List.flatten_cons]
    obtain ⟨h1, h2, h3⟩ := List.nodup_append.mp n
    exact List.nodup_append.mpr ⟨h1, nodup_setNil h2, fun a m b q => h3 a m b (mem_setNil q)⟩
/-- new addresses in the place of the old ones -/
theorem mem_setNew : ∀ {A : List (List Addr)} {i : Nat} {ps : List Addr} {b : Addr}, b ∈ (A.set i ps).flatten → b ∈ ps ∨ b ∈ (A.set i []).flatten
  | [], i, ps, b, h => by simp at h
  | x :: A, 0, ps, b, h => by
    rw [List.set_cons_zero, List.flatten_cons] at h ⊢
    rcases List.mem_append.mp h with h | h
    · exact .inl h
    · exact .inr (by simpa using h)
  | x :: A, i + 1, ps, b, h => by
    rw [List.set_cons_succ, List.flatten_cons] at h ⊢
    rcases List.mem_append.mp h with h | h
    · exact .inr (List.mem_append_left _ h)
    · rcases mem_setNew h with h | h
      · exact .inl h
      · exact .inr (List.mem_append_right _ h)
theorem nodup_setNew : ∀ {A : List (List Addr)} {i : Nat} {ps : List Addr}, A.flatten.Nodup → ps.Nodup → (∀ p ∈ ps, p ∉ A.flatten) → (A.set i ps).flatten.Nodup
  | [], i, ps, n, _, _ => by simpa using n
  | x :: A, 0, ps, n, np, hp => by
    rw [List.flatten_cons] at n hp
    rw [List.set_cons_zero, List.flatten_cons]
    exact List.nodup_append.mpr ⟨np, (List.nodup_append.mp n).2.1, fun a m b q e => hp a m (List.mem_append_right _ (e ▸ q))⟩
  | x :: A, i + 1, ps, n, np, hp => by
    rw [List.flatten_cons] at n hp
    rw [List.set_cons_succ, List.flatten_cons]
    obtain ⟨h1, h2, h3⟩ := List.nodup_append.mp n
    refine List.nodup_append.mpr ⟨h1, nodup_setNew h2 np fun p m q => hp p m (List.mem_append_right _ q), fun a m b q e => ?_⟩
    rcases mem_setNew q with q | q
    · exact hp b q (List.mem_append_left _ (e ▸ m))
    · exact h3 a m b (mem_setNil q) e
theorem get_set {α : Type} {l : List α} {i j : Nat} {x y : α} (h : (l.set i x)[j]? = some y) : (i = j ∧ y = x ∧ i < l.length) ∨ (i ≠ j ∧ l[j]? = some y) := by
  by_cases e : i = j
  · subst e
    by_cases q : i < l.length
    · rw [List.getElem?_set_self q] at h
      exact .inl ⟨rfl, (Option.some.inj h).symm, q⟩
    · rw [List.getElem?_eq_none (by rw [List.length_set]; omega)] at h
      cases h
  · rw [List.getElem?_set_ne e] at h
    exact .inr ⟨e, h⟩
theorem RepO.off {K : PySem.W.Frag} {G H H' : Hp} {A : List Addr} {v : V} (h : ∀ b ∈ A, H' b = H b) : ∀ {sv : SV}, RepO K G H sv v A → RepO K G H' sv v A
  | .val d, q => q
  | .ml ds, ⟨p, e, e2, xs, q, r⟩ => ⟨p, e, e2, xs, (h p (by rw [e2]; simp)).trans q, r⟩
  | .md ds, ⟨p, e, e2, o, vs, q, r⟩ => ⟨p, e, e2, o, vs, (h p (by rw [e2]; simp)).trans q, r⟩
  | .mg g, ⟨p, ps, e, e2, q, r⟩ => by
    subst e2
    refine ⟨p, ps, e, rfl, (h p (by simp)).trans q, ?_⟩
    have h' : ∀ b ∈ ps, H' b = H b := fun b m => h b (List.mem_cons_of_mem _ m)
    clear h q
    induction g generalizing ps with
    | nil => exact r
    | cons x g ih =>
      obtain ⟨p', qs, xs, e3, e4, e5, r'⟩ := r
      subst e3
      exact ⟨p', qs, xs, rfl, (h' p' (by simp)).trans e4, e5, ih qs r' fun b m => h' b (List.mem_cons_of_mem _ m)⟩

section
variable {K : PySem.W.Frag} {F : Frm} {σ : SG} {W W' : Wd} {A : List (List Addr)} {s : L2.St} {H H' : Hp}
theorem Live.frozen (L : Live K F σ W A s H) {A' : List (List Addr)} (h : ∀ b, b ∈ A'.flatten → b ∈ A.flatten) : Same (cut (Hm H W) (A.flatten ++ F.X)) (cut (Hm H W) (A'.flatten ++ F.X)) :=
  Same.cutl fun b m => by
    rcases List.mem_append.mp m with m | m
    · exact List.mem_append_left _ (h b m)
    · exact List.mem_append_right _ m
theorem CellOk.mono {G G' H : Hp} {W : Wd} (h : Same G G') (c : CellOk G H W) : CellOk G' H W := by
  cases W with
  | none => trivial
  | some t =>
    obtain ⟨r, a, b, c⟩ := c
    exact ⟨r, h _ _ a, h _ _ b, c⟩
/-- a name is given data that stay -/
theorem Live.setVal (L : Live K F σ W A s H) (i : Nat) {d : D} {v : V} (r : RepS K (cut (Hm H W) (A.flatten ++ F.X)) d v) : Live K F (σ.set i (some (.val d))) W A (s.set i (some v)) H := by
  refine ⟨L.nd, by rw [List.length_set]; exact L.al, by rw [List.length_set, List.length_set]; exact L.sl, L.base, L.xb, L.trk, L.cell, L.kc, fun j sv h => ?_⟩
  rcases get_set h with ⟨rfl, e, hl⟩ | ⟨ne, h⟩
  · cases e
    have ha : A[i]? = some (A[i]'(by rw [L.al]; exact hl)) := List.getElem?_eq_getElem _
    exact ⟨v, _, List.getElem?_set_self (by rw [L.sl]; exact hl), ha, r⟩
  · obtain ⟨u, a, h1, h2, h3⟩ := L.slot j sv h
    exact ⟨u, a, by rw [List.getElem?_set_ne ne]; exact h1, h2, h3⟩
/-- a name forgotten -/
theorem Live.drop (L : Live K F σ W A s H) (i : Nat) (s' : Option V) : Live K F (σ.set i none) W A (s.set i s') H := by
  refine ⟨L.nd, by rw [List.length_set]; exact L.al, by rw [List.length_set, List.length_set]; exact L.sl, L.base, L.xb, L.trk, L.cell, L.kc, fun j sv h => ?_⟩
  rcases get_set h with ⟨rfl, e, hl⟩ | ⟨ne, h⟩
  · cases e
  · obtain ⟨u, a, h1, h2, h3⟩ := L.slot j sv h
    exact ⟨u, a, by rw [List.getElem?_set_ne ne]; exact h1, h2, h3⟩
/-- what was a name's own is let go -/
theorem Live.free (L : Live K F σ W A s H) (i : Nat) : Live K F (σ.set i none) W (A.set i []) s H := by
  have fz := L.frozen (A' := A.set i []) fun b => mem_setNil
  refine ⟨nodup_setNil L.nd, by rw [List.length_set, List.length_set]; exact L.al, by rw [List.length_set]; exact L.sl, fun b o h => ⟨(L.base b o h).1, fun m => (L.base b o h).2 (mem_setNil m)⟩, L.xb, fun b m => L.trk b (mem_setNil m), L.cell.mono fz, L.kc, fun j sv h => ?_⟩
  rcases get_set h with ⟨rfl, e, hl⟩ | ⟨ne, h⟩
  · cases e
  · obtain ⟨u, a, h1, h2, h3⟩ := L.slot j sv h
    exact ⟨u, a, h1, by rw [List.getElem?_set_ne ne]; exact h2, h3.mono fz (.refl _)⟩
/-- a name is given an object of its own, that was made just now: L ahead of it, e on the way -/
theorem Live.setOwn (L : Live K F σ W A s H) (e : Ext (A.flatten ++ F.X) W H W' H') (i : Nat) {sv : SV} {v : V} {ps : List Addr} (nd : ps.Nodup) (new : ∀ p ∈ ps, Hm H W p = none) (own : ∀ p ∈ ps, ∃ o, Hm H' W' p = some o ∧ OwnO o)
    (r : RepO K (cut (Hm H' W') (ps ++ (A.flatten ++ F.X))) (Hm H' W') sv v ps) : Live K F (σ.set i (some sv)) W' (A.set i ps) (s.set i (some v)) H' := by
  have out : ∀ p ∈ ps, p ∉ A.flatten ++ F.X := fun p m => L.new (new p m)
  have L' := L.step e
  -- what stood frozen ahead is not of the new ones
  have fz : Same (cut (Hm H W) (A.flatten ++ F.X)) (cut (Hm H' W') ((A.set i ps).flatten ++ F.X)) := fun b o h => by
    obtain ⟨h1, h2⟩ := cut_some.mp h
    refine cut_some.mpr ⟨e.same _ _ h1, fun m => ?_⟩
    rcases List.mem_append.mp m with m | m
    · rcases mem_setNew m with m | m
      · rw [new b m] at h1; cases h1
      · exact h2 (List.mem_append_left _ (mem_setNil m))
    · exact h2 (List.mem_append_right _ m)
  have fz2 : Same (cut (Hm H' W') (ps ++ (A.flatten ++ F.X))) (cut (Hm H' W') ((A.set i ps).flatten ++ F.X)) := Same.cutl fun b m => by
    rcases List.mem_append.mp m with m | m
    · rcases mem_setNew m with m | m
      · exact List.mem_append_left _ m
      · exact List.mem_append_right _ (List.mem_append_left _ (mem_setNil m))
    · exact List.mem_append_right _ (List.mem_append_right _ m)
  refine ⟨nodup_setNew L.nd nd fun p m q => out p m (List.mem_append_left _ q), by rw [List.length_set, List.length_set]; exact L.al, by rw [List.length_set, List.length_set]; exact L.sl, fun b o h => ⟨(L'.base b o h).1, fun m => ?_⟩, L.xb, fun b m => ?_, ?_, L'.kc, fun j sv' h => ?_⟩
  · rcases mem_setNew m with m | m
    · have q := (L.base b o h).1
      rw [new b m] at q; cases q
    · exact (L.base b o h).2 (mem_setNil m)
  · rcases mem_setNew m with m | m
    · exact own b m
    · exact L'.trk b (mem_setNil m)
  · have c0 := L.cell
    have c1 := L'.cell
    have kc := e.kc
    cases W with
    | none => cases (show W' = none from kc); trivial
    | some t =>
      obtain ⟨q, rfl⟩ := kc
      obtain ⟨r1, a1, a2, a3⟩ := c0
      obtain ⟨r2, b1, b2, b3⟩ := c1
      exact ⟨r1, fz _ _ a1, fz _ _ a2, b3⟩
  · rcases get_set h with ⟨rfl, e2, hl⟩ | ⟨ne, h⟩
    · cases e2
      exact ⟨v, ps, List.getElem?_set_self (by rw [L.sl]; exact hl), List.getElem?_set_self (by rw [L.al]; exact hl), r.mono fz2 (.refl _)⟩
    · obtain ⟨u, a, h1, h2, h3⟩ := L.slot j sv' h
      exact ⟨u, a, by rw [List.getElem?_set_ne ne]; exact h1, by rw [List.getElem?_set_ne ne]; exact h2, h3.mono fz e.same⟩
theorem Hm_upd_ne {p b : Addr} {o : HO} (h : b ≠ p) : Hm (upd H p o) W b = Hm H W b := by
  cases W with
  | none => exact upd_ne h
  | some t =>
    show (if b = t.c then none else upd H p o b) = (if b = t.c then none else H b)
    rw [upd_ne h]
theorem Hm_upd_eq {p : Addr} {o o' : HO} (h : Hm H W p = some o') : Hm (upd H p o) W p = some o := by
  cases W with
  | none => exact upd_same
  | some t => exact Hm_some.mpr ⟨upd_same, (Hm_some.mp h).2⟩
/-- one's own object is changed -/
theorem Live.wr (L : Live K F σ W A s H) {i : Nat} {v : V} {a : List Addr} {p : Addr} {o : HO} {sv : SV} (hs : s[i]? = some (some v)) (ha : A[i]? = some a) (hp : p ∈ a) (ho : OwnO o)
    (r : RepO K (cut (Hm H W) (A.flatten ++ F.X)) (Hm (upd H p o) W) sv v a) : Live K F (σ.set i (some sv)) W A s (upd H p o) := by
  have hpA := flatten_get ha hp
  obtain ⟨o0, e0, _⟩ := L.trk p hpA
  have ce : cut (Hm (upd H p o) W) (A.flatten ++ F.X) = cut (Hm H W) (A.flatten ++ F.X) := by
    funext b
    unfold cut
    split
    · rfl
    · rename_i h
      exact Hm_upd_ne fun (e : b = p) => h (by rw [e]; exact List.mem_append_left _ hpA)
  refine ⟨L.nd, by rw [List.length_set]; exact L.al, by rw [List.length_set]; exact L.sl, fun b o' h => ?_, L.xb, fun b m => ?_, ?_, L.kc, fun j sv' h => ?_⟩
  · obtain ⟨h1, h2⟩ := L.base b o' h
    exact ⟨(Hm_upd_ne fun (e : b = p) => h2 (by rw [e]; exact hpA)).trans h1, h2⟩
  · by_cases e : b = p
    · subst e; exact ⟨o, Hm_upd_eq e0, ho⟩
    · obtain ⟨o', h1, h2⟩ := L.trk b m
      exact ⟨o', (Hm_upd_ne e).trans h1, h2⟩
  · rw [ce]
    have c := L.cell
    cases W with
    | none => trivial
    | some t =>
      obtain ⟨q, a1, a2, a3⟩ := c
      exact ⟨q, a1, a2, (upd_ne (Ne.symm (Hm_some.mp e0).2)).trans a3⟩
  · rw [ce]
    rcases get_set h with ⟨rfl, e2, hl⟩ | ⟨ne, h⟩
    · cases e2
      exact ⟨v, a, hs, ha, r⟩
    · obtain ⟨u, a', h1, h2, h3⟩ := L.slot j sv' h
      exact ⟨u, a', h1, h2, h3.off fun b m => Hm_upd_ne fun (e : b = p) => nodup_apart L.nd ha h2 ne hp (by rw [← e]; exact m)⟩
end

/-! ### statements -/
section
variable {X : Cx} {st : Stmt} {rest : List Stmt} {t u : SS} {e : Expr} {te ta tb : SE} {pos : Pos}
def sNil : SS := fun D σ W => D.nx σ W
def sSeq (t u : SS) : SS := fun D σ W => t { D with nx := u D } σ W
theorem mono_sNil : MonoS sNil := fun D D' σ W h w => h.nx _ _ w
theorem mono_sSeq (m : MonoS t) (n : MonoS u) : MonoS (sSeq t u) := fun D D' σ W h w =>
  m { D with nx := u D } { D' with nx := u D' } σ W ⟨fun σ' W' q => n _ _ _ _ h q, h.rt, h.bk, h.ct⟩ w
theorem vsNil : VSs X [] sNil := ⟨pssI pss_nil fun Dn s H ⟨F, σ, W, A, L, w⟩ => w A s H L, mono_sNil⟩
theorem vsCons (h : VS X st t) (h' : VSs X rest u) : VSs X (st :: rest) (sSeq t u) := by
  refine ⟨pssI (pss_cons h.pe h'.pe) fun Dn s H ⟨F, σ, W, A, L, w⟩ => ?_, mono_sSeq h.mono h'.mono⟩
  refine ⟨F, σ, W, A, L, h.mono { endsOf X.K F Dn with nx := u (endsOf X.K F Dn) } _ σ W ⟨fun σ' W' q A' s' H' L' => ?_, fun _ _ _ q => q, fun _ _ q => q, fun _ _ q => q⟩ w⟩
  exact ⟨F, σ', W', A', L', q⟩
theorem vsOne (h : VS X st t) : VSs X [st] t := ⟨pss_one h.pe, h.mono⟩
/-- a step of the data alone: it changes what is one's own to what stays -/
def sGhost (g : SG → (SG → Prop) → Prop) (u : SS) : SS := fun D σ W => g σ fun σ' => u D σ' W
def frz (i : Nat) (σ : SG) (Q : SG → Prop) : Prop := match σ[i]? with
  | some (some (.ml ds)) => Q (σ.set i (some (.val (.lst ds))))
  | some (some (.md kvs)) => Q (σ.set i (some (.val (.dct kvs))))
  | some (some (.mg g)) => Q (σ.set i (some (.val (.lst (g.map D.lst)))))
  | some (some (.val d)) => Q (σ.set i (some (.val d)))
  | _ => False
theorem set_self {α : Type} : ∀ {l : List α} {i : Nat} {x : α}, l[i]? = some x → l.set i x = l
  | [], i, x, h => by simp at h
  | y :: l, 0, x, h => by simp at h; subst h; rfl
  | y :: l, i + 1, x, h => by rw [List.set_cons_succ, set_self (by simpa using h)]
theorem frz_live {K : PySem.W.Frag} {F : Frm} {σ : SG} {W : Wd} {A : List (List Addr)} {s : L2.St} {H : Hp} (L : Live K F σ W A s H) {i : Nat} {Q : SG → Prop} (w : frz i σ Q) : ∃ σ' A', Live K F σ' W A' s H ∧ Q σ' := by
  unfold frz at w
  have fz := L.frozen (A' := A.set i []) fun b => mem_setNil
  -- the freed ones stand in the frozen part behind
  have key : ∀ {sv : SV} {d : D}, σ[i]? = some (some sv) → (∀ v a, s[i]? = some (some v) → A[i]? = some a → RepO K (cut (Hm H W) (A.flatten ++ F.X)) (Hm H W) sv v a → RepS K (cut (Hm H W) ((A.set i []).flatten ++ F.X)) d v) →
      Q (σ.set i (some (.val d))) → ∃ σ' A', Live K F σ' W A' s H ∧ Q σ' := fun {sv d} hx hr q => by
    obtain ⟨v, a, h1, h2, h3⟩ := L.slot i sv hx
    have r := hr v a h1 h2 h3
    have L3 := (L.free i).setVal i (d := d) (v := v) r
    rw [set_self h1, List.set_set] at L3
    exact ⟨_, _, L3, q⟩
  have free : ∀ {a : List Addr} {p : Addr} {o : HO}, A[i]? = some a → p ∈ a → Hm H W p = some o → cut (Hm H W) ((A.set i []).flatten ++ F.X) p = some o := fun {a p o} h2 m q => by
    refine cut_some.mpr ⟨q, fun z => ?_⟩
    rcases List.mem_append.mp z with z | z
    · obtain ⟨b, hb, mb⟩ := List.mem_flatten.mp z
      obtain ⟨j, hj⟩ := List.mem_iff_getElem?.mp hb
      rcases get_set hj with ⟨rfl, e2, _⟩ | ⟨ne, h⟩
      · subst e2; cases mb
      · exact nodup_apart L.nd h2 h ne m mb
    · exact L.ax (flatten_get h2 m) z
  split at w
  · rename_i ds hx
    refine key hx (fun v a h1 h2 ⟨p, e, e2, n⟩ => ?_) w
    subst e
    exact n.rep fz fun o q => free h2 (by rw [e2]; simp) q
  · rename_i ds hx
    refine key hx (fun v a h1 h2 ⟨p, e, e2, n⟩ => ?_) w
    subst e
    exact n.rep fz fun o q => free h2 (by rw [e2]; simp) q
  · rename_i g hx
    refine key hx (fun v a h1 h2 ⟨p, ps, e, e2, e3, n⟩ => ?_) w
    subst e
    simp only [RepS]
    exact ⟨p, _, rfl, free h2 (by rw [e2]; simp) e3, n.rep fz fun p' m o q => free h2 (by rw [e2]; simp [m]) q⟩
  · rename_i d hx
    exact key hx (fun v a h1 h2 h3 => RepS.mono fz _ _ h3) w
  · exact w.elim
theorem mono_frz {i : Nat} {σ : SG} {Q Q' : SG → Prop} (h : ∀ σ', Q σ' → Q' σ') (w : frz i σ Q) : frz i σ Q' := by
  unfold frz at w ⊢
  split at w <;> first | exact h _ w | exact w.elim
theorem vsFrz (i : Nat) (h : VSs X rest u) : VSs X rest (sGhost (frz i) u) := by
  refine ⟨pssI h.pe fun Dn s H ⟨F, σ, W, A, L, w⟩ => ?_, fun D D' σ W l w => mono_frz (fun σ' q => h.mono _ _ _ _ l q) w⟩
  obtain ⟨σ', A', L', q⟩ := frz_live L w
  exact ⟨F, σ', W, A', L', q⟩
def sPass : SS := sNil
theorem vPass : VS X (.Pass pos) sNil := ⟨psI ps_pass fun Dn s H ⟨F, σ, W, A, L, w⟩ => w A s H L, mono_sNil⟩
def sBreak : SS := fun D σ W => D.bk σ W
def sCont : SS := fun D σ W => D.ct σ W
theorem vBreak : VS X (.Break pos) sBreak := ⟨psI ps_break fun Dn s H ⟨F, σ, W, A, L, w⟩ => w A s H L, fun D D' σ W h w => h.bk _ _ w⟩
theorem vContinue : VS X (.Continue pos) sCont := ⟨psI ps_continue fun Dn s H ⟨F, σ, W, A, L, w⟩ => w A s H L, fun D D' σ W h w => h.ct _ _ w⟩
def sIfS (c : SB) (t u : SS) : SS := fun D σ W => c σ W fun b W1 => if b = true then t D σ W1 else u D σ W1
theorem mono_sIfS {c : SB} (mc : MonoB c) (m : MonoS t) (n : MonoS u) : MonoS (sIfS c t u) := fun D D' σ W h w => mc _ _ _ _ (fun b W1 w1 => by
  cases b with
  | true => exact m _ _ _ _ h w1
  | false => exact n _ _ _ _ h w1) w
theorem vIfS {c : Expr} {tc : SB} {a b : List Stmt} (hc : VT X c tc) (h : VSs X a t) (h' : VSs X b u) : VS X (.If c a b pos) (sIfS tc t u) := by
  refine ⟨psI (ps_if hc.pe h.pe h'.pe) fun Dn s H ⟨F, σ, W, A, L, w⟩ => ?_, mono_sIfS hc.mono h.mono h'.mono⟩
  refine L.test hc.mono w fun k W1 H1 w1 L1 e => ?_
  cases k with
  | true => exact ⟨F, σ, W1, A, L1, w1⟩
  | false => exact ⟨F, σ, W1, A, L1, w1⟩
def retTag : Tg → Tg
  | .fr => .fr
  | .b1 => .fr
  | _ => .st
def sRet (t : SE) : SS := fun D σ W => t σ W fun g d W1 => D.rt (retTag g) d W1
theorem mono_sRet (m : MonoE te) : MonoS (sRet te) := fun D D' σ W h w => m _ _ _ _ (fun g d W1 q => h.rt _ _ _ q) w
theorem Live.ret {K : PySem.W.Frag} {F : Frm} {σ : SG} {W W1 : Wd} {A : List (List Addr)} {s : L2.St} {H H1 : Hp} (L : Live K F σ W A s H) (e : Ext (A.flatten ++ F.X) W H W1 H1) {g : Tg} {d : D} {v : V} (p : Post K A.flatten F.X (Hm H W) (Hm H1 W1) g d v) : RetP K F W1 H1 (retTag g) d v := by
  have L1 := L.step e
  have bs : ∀ {p : Addr}, (∀ o, F.B p ≠ some o) → F.B p = none := fun {p} h => by
    cases q : F.B p with
    | none => rfl
    | some o => exact absurd q (h o)
  have c1 : ∀ b, b ∈ F.X → b ∈ A.flatten ++ F.X := fun b => mem_snd
  refine ⟨fun b o h => (L1.base b o h).1, L1.cell.mono (Same.cutl c1), L1.kc, ?_⟩
  cases g with
  | st => exact Post.rep L.own e.same p
  | b2 => exact Post.rep L.own e.same p
  | fr2 => exact Post.rep L.own e.same p
  | fr =>
    obtain ⟨q, e1, e2, n⟩ := p
    refine ⟨q, e1, bs fun o h => ?_, n.mono (Same.cutl fun b m => ?_) (.refl _)⟩
    · have h2 := (L.base q o h).1
      rw [e2] at h2; cases h2
    · rcases List.mem_cons.mp m with m | m
      · subst m; exact List.mem_cons_self
      · exact List.mem_cons_of_mem _ (c1 b m)
  | b1 =>
    obtain ⟨q, e1, e2, n⟩ := p
    refine ⟨q, e1, bs fun o h => (L.base q o h).2 e2, n.mono (Same.cutl fun b m => ?_) (.refl _)⟩
    rcases List.mem_cons.mp m with m | m
    · subst m; exact List.mem_append_left _ e2
    · exact c1 b m
theorem vRet (h : VE X e te) : VS X (.Return (some e) pos) (sRet te) := by
  refine ⟨psI (ps_ret h.pe) fun Dn s H ⟨F, σ, W, A, L, w⟩ => ?_, mono_sRet h.mono⟩
  refine L.one h.mono w fun g d W1 v H1 w1 L1 e1 p => ?_
  exact w1 v H1 (L.ret e1 p)
def sRetN : SS := fun D σ W => D.rt .st .non W
theorem vRetN : VS X (.Return none pos) sRetN := by
  refine ⟨psI ps_retN fun Dn s H ⟨F, σ, W, A, L, w⟩ => ?_, fun D D' σ W h w => h.rt _ _ _ w⟩
  exact w _ H (L.ret (g := .st) L.ext0 Post.ofNon)
/-- an expression as a statement -/
def sDrop (t : SE) : SS := fun D σ W => t σ W fun _ _ W1 => D.nx σ W1
theorem vDrop (h : VE X e te) (hs : swapsWith e none pos.line X.env = pure false := by rfl) : VS X (.Expr e pos) (sDrop te) := by
  refine ⟨psI (ps_expr h.pe hs) fun Dn s H ⟨F, σ, W, A, L, w⟩ => ?_, fun D D' σ W l w => h.mono _ _ _ _ (fun g d W1 q => l.nx _ _ q) w⟩
  exact L.one h.mono w fun g d W1 v H1 w1 L1 e1 p => w1 A s H1 L1

/-! ### names given -/
def sSet (i : Nat) (t : SE) : SS := fun D σ W => t σ W fun g d W1 => sto g d ∧ D.nx (σ.set i (some (.val d))) W1
theorem mono_sSet {i : Nat} (m : MonoE te) : MonoS (sSet i te) := fun D D' σ W h w => m _ _ _ _ (fun g d W1 q => ⟨q.1, h.nx _ _ q.2⟩) w
theorem rd_set {K : PySem.W.Frag} {i : Nat} (m : MonoE te) {Dn : Ends} {s : L2.St} {H : Hp} (h : rdS K (sSet i te) Dn s H) : tAsg (rdE K te) (gName i) Dn s H := by
  obtain ⟨F, σ, W, A, L, w⟩ := h
  exact L.one m w fun g d W1 v H1 w1 L1 e1 p => w1.2 _ _ _ (L1.setVal i (p.keep L.own e1.same w1.1))
theorem vSet {i : Nat} {x : Str} {p : Pos} (hN : X.N.Nodup) (hi : X.N[i]? = some x) (hx : Loc X.env.scope x) (h : VE X e te) (hs : swapsWith e (some (.Name x p)) pos.line X.env = pure false := by rfl) (hf : X.fn x = true ∨ X.env.scope.names.lookup x = some .local := by first | exact .inl rfl | exact .inr rfl | assumption) :
    VS X (.Assign [.Name x p] e pos) (sSet i te) := ⟨psI (ps_set hN hi hx h.pe hs hf) fun Dn s H q => rd_set h.mono q, mono_sSet h.mono⟩
/-- an object of one's own -/
def ownOf (g : Tg) (d : D) (Q : SV → Prop) : Prop := match g, d with
  | .fr, .lst ds => Q (.ml ds)
  | .fr, .dct kvs => Q (.md kvs)
  | .fr2, .lst rs => ∃ rows : List (List D), rs = rows.map D.lst ∧ Q (.mg rows)
  | _, _ => False
def sOwn (i : Nat) (t : SE) : SS := fun D σ W => t σ W fun g d W1 => ownOf g d fun sv => D.nx (σ.set i (some sv)) W1
theorem mono_ownOf {g : Tg} {d : D} {Q Q' : SV → Prop} (h : ∀ x, Q x → Q' x) (w : ownOf g d Q) : ownOf g d Q' := by
  unfold ownOf at w ⊢
  split at w
  · exact h _ w
  · exact h _ w
  · obtain ⟨r, e, q⟩ := w; exact ⟨r, e, h _ q⟩
  · exact w.elim
theorem mono_sOwn {i : Nat} (m : MonoE te) : MonoS (sOwn i te) := fun D D' σ W h w => m _ _ _ _ (fun g d W1 q => mono_ownOf (fun sv q => h.nx _ _ q) q) w
theorem map_lst_inj : ∀ {a b : List (List D)}, a.map D.lst = b.map D.lst → a = b
  | [], [], _ => rfl
  | [], _ :: _, h => by simp at h
  | _ :: _, [], h => by simp at h
  | x :: a, y :: b, h => by
    simp only [List.map_cons, List.cons.injEq, D.lst.injEq] at h
    rw [h.1, map_lst_inj h.2]
theorem RowsO.own {K : PySem.W.Frag} {G H : Hp} : ∀ {g : List (List D)} {ps : List Addr}, RowsO K G H g ps → ∀ p ∈ ps, ∃ o, H p = some o ∧ OwnO o
  | [], ps, h, p, m => by cases (show ps = [] from h); cases m
  | r :: g, ps, ⟨p', qs, xs, e, e2, _, t⟩, p, m => by
    subst e
    rcases List.mem_cons.mp m with m | m
    · subst m; exact ⟨_, e2, trivial⟩
    · exact t.own p m
theorem rd_own {K : PySem.W.Frag} {i : Nat} (m : MonoE te) {Dn : Ends} {s : L2.St} {H : Hp} (h : rdS K (sOwn i te) Dn s H) : tAsg (rdE K te) (gName i) Dn s H := by
  obtain ⟨F, σ, W, A, L, w⟩ := h
  refine L.one m w fun g d W1 v H1 w1 L1 e1 p => ?_
  unfold ownOf at w1
  split at w1
  · obtain ⟨q, e, e2, n⟩ := p
    obtain ⟨xs, e3, _⟩ := id n
    exact w1 _ _ _ (L.setOwn e1 i (ps := [q]) (by simp) (fun p m => by simp at m; subst m; exact e2) (fun p m => by simp at m; subst m; exact ⟨_, e3, trivial⟩) ⟨q, e, rfl, n⟩)
  · obtain ⟨q, e, e2, n⟩ := p
    obtain ⟨o, vs, e3, e4, _⟩ := id n
    exact w1 _ _ _ (L.setOwn e1 i (ps := [q]) (by simp) (fun p m => by simp at m; subst m; exact e2) (fun p m => by simp at m; subst m; exact ⟨_, e3, e4.own⟩) ⟨q, e, rfl, n⟩)
  · obtain ⟨rows, e0, q1⟩ := w1
    obtain ⟨q, ps, g2, e, e2, e3, e4, e5, n⟩ := p
    subst e0
    injection e with e
    have e6 := map_lst_inj e
    subst e6
    refine q1 _ _ _ (L.setOwn e1 i (ps := q :: ps) e3 e4 (fun p m => ?_) ⟨q, ps, e2, rfl, e5, n⟩)
    rcases List.mem_cons.mp m with m | m
    · subst m; exact ⟨_, e5, trivial⟩
    · exact n.own p m
  · exact w1.elim
theorem vOwn {i : Nat} {x : Str} {p : Pos} (hN : X.N.Nodup) (hi : X.N[i]? = some x) (hx : Loc X.env.scope x) (h : VE X e te) (hs : swapsWith e (some (.Name x p)) pos.line X.env = pure false := by rfl) (hf : X.fn x = true ∨ X.env.scope.names.lookup x = some .local := by first | exact .inl rfl | exact .inr rfl | assumption) :
    VS X (.Assign [.Name x p] e pos) (sOwn i te) := ⟨psI (ps_set hN hi hx h.pe hs hf) fun Dn s H q => rd_own h.mono q, mono_sOwn h.mono⟩
end
end VL

/-! VL8: targets, stores into one's own objects, loops. -/
namespace VL
open PySem PySem.Spec PyProof.Rows L2

/-! ### targets -/
inductive TgF where
  | name (i : Nat) | tup (is : List Nat)
def setsV : L2.St → List Nat → List V → L2.St
  | s, i :: is, v :: vs => setsV (s.set i (some v)) is vs
  | s, _, _ => s
def setsD : SG → List Nat → List D → SG
  | s, i :: is, v :: vs => setsD (s.set i (some (.val v))) is vs
  | s, _, _ => s
def tgV (K : PySem.W.Frag) : TgF → TG
  | .name i => gName i
  | .tup is => fun v σ H Q => ∃ a xs, v = .ref a ∧ (SqT K H a xs ∨ SqL K H a xs) ∧ xs.length = is.length ∧ Q (setsV σ is xs) H
def tgD (f : TgF) (g : Tg) (d : D) (σ : SG) (Q : SG → Prop) : Prop := match f with
  | .name i => sto g d ∧ Q (σ.set i (some (.val d)))
  | .tup is => match d with
    | .tup ds => ds.length = is.length ∧ est g ds ∧ Q (setsD σ is ds)
    | .lst ds => ds.length = is.length ∧ est g ds ∧ Q (setsD σ is ds)
    | _ => False
theorem mono_tgD {f : TgF} {g : Tg} {d : D} {σ : SG} {Q Q' : SG → Prop} (h : ∀ σ', Q σ' → Q' σ') (w : tgD f g d σ Q) : tgD f g d σ Q' := by
  cases f with
  | name i => exact ⟨w.1, h _ w.2⟩
  | tup is => cases d <;> first | exact w.elim | exact ⟨w.1, w.2.1, h _ w.2.2⟩
def VG (X : Cx) (tg : Expr) (f : TgF) : Prop := PG X tg (tgV X.K f)
def gNames (is : List Nat) : TGs := fun vs σ H Q => vs.length = is.length ∧ Q (setsV σ is vs) H
section
variable {X : Cx} {pos : Pos}
theorem pgI {tg : Expr} {t t' : TG} (h : PG X tg t) (i : ∀ v s H Q, t' v s H Q → t v s H Q) : PG X tg t' := ⟨fun pins s σ H v u Q I r w => h.run pins s σ H v u Q I r (i _ _ _ _ w)⟩
theorem pgsI {tg : List Expr} {t t' : TGs} (h : PGs X tg t) (i : ∀ v s H Q, t' v s H Q → t v s H Q) : PGs X tg t' := ⟨fun pins s σ H v u Q I r w => h.run pins s σ H v u Q I r (i _ _ _ _ w)⟩
theorem vgName {i : Nat} {x : Str} (hN : X.N.Nodup) (hi : X.N[i]? = some x) (hx : Loc X.env.scope x) (hf : X.fn x = true ∨ X.env.scope.names.lookup x = some .local := by first | exact .inl rfl | exact .inr rfl | assumption) : VG X (.Name x pos) (.name i) := pg_name hN hi hx hf
theorem vgNil : PGs X [] (gNames []) := pgsI pgs_nil fun vs s H Q ⟨h, q⟩ => by
  have e := List.eq_nil_of_length_eq_zero h
  subst e
  exact ⟨rfl, q⟩
theorem vgCons {e : Expr} {es : List Expr} {i : Nat} {is : List Nat} (h : VG X e (.name i)) (h' : PGs X es (gNames is))
    (hs : (assignEach (e :: es) X.env).map (·.2) = assign e X.env :: (assignEach es X.env).map (·.2) := by rfl) : PGs X (e :: es) (gNames (i :: is)) := pgsI (pgs_cons h h' hs) fun vs s H Q ⟨hl, q⟩ => by
  cases vs with
  | nil => cases hl
  | cons v vs => exact ⟨v, vs, rfl, by simpa using hl, q⟩
theorem vgTup {es : List Expr} {k : Nat} {is : List Nat} (hc : X.calm = true) (h : PGs X es (gNames is)) (hn : (assignEach es X.env).length = is.length := by rfl) (hst : (assignEach es X.env).findIdx? (·.1) = none := by rfl) : VG X (.Tuple es k pos) (.tup is) := by
  have h1 := pg_tup (k := k) (pos := pos) hc h hn hst
  have h2 := pg_unl (k := k) (pos := pos) hc h hn hst
  refine ⟨fun pins s σ H v u Q I r w => ?_⟩
  obtain ⟨a, xs, e, hq | hq, hl, q⟩ := w
  · exact h1.run pins s σ H v u Q I r ⟨a, xs, e, hq, hl, hl, q⟩
  · exact h2.run pins s σ H v u Q I r ⟨a, xs, e, hq, hl, hl, q⟩
end
section
variable {K : PySem.W.Frag} {F : Frm} {W : Wd} {H : Hp}
theorem Live.setVals : ∀ {is : List Nat} {ds : List D} {vs : List V} {σ : SG} {A : List (List Addr)} {s : L2.St}, Live K F σ W A s H → RepSs K (cut (Hm H W) (A.flatten ++ F.X)) ds vs → Live K F (setsD σ is ds) W A (setsV s is vs) H
  | [], ds, vs, σ, A, s, L, r => by cases ds <;> cases vs <;> exact L
  | i :: is, [], vs, σ, A, s, L, r => by
    simp only [RepSs] at r
    subst r
    exact L
  | i :: is, d :: ds, vs, σ, A, s, L, r => by
    simp only [RepSs] at r
    obtain ⟨v, us, e, h1, h2⟩ := r
    subst e
    exact Live.setVals (is := is) (ds := ds) (vs := us) (L.setVal i h1) h2
def TgF.slots : TgF → List Nat
  | .name i => [i]
  | .tup is => is
theorem wipe_none (s : L2.St) : ∀ {vs : List Nat} {i : Nat}, i ∈ vs → i < s.length → (wipe s vs)[i]? = some none
  | [], i, h, _ => by cases h
  | v :: vs, i, h, hl => by
    unfold wipe
    by_cases e : v = i
    · subst e
      rw [List.getElem?_set_self (by rw [wipe_length]; exact hl)]
    · rw [List.getElem?_set_ne e]
      rcases List.mem_cons.mp h with h | h
      · exact absurd h.symm e
      · exact wipe_none s h hl
theorem wipe_set (s : L2.St) {i : Nat} {x : Option V} : ∀ {vs : List Nat}, i ∈ vs → wipe (s.set i x) vs = wipe s vs
  | [], h => by cases h
  | v :: vs, h => by
    unfold wipe
    by_cases m : i ∈ vs
    · rw [wipe_set s m]
    · have e : i = v := by
        rcases List.mem_cons.mp h with h | h
        · exact h
        · exact absurd h m
      subst e
      clear h
      have key : ∀ {ws : List Nat}, i ∉ ws → wipe (s.set i x) ws = (wipe s ws).set i x := by
        intro ws
        induction ws with
        | nil => intro _; rfl
        | cons w ws ih =>
          intro hw
          unfold wipe
          rw [ih fun q => hw (List.mem_cons_of_mem _ q), List.set_comm _ _ (fun e : i = w => hw (by rw [e]; simp))]
      rw [key m, List.set_set]
theorem wipe_sets : ∀ {is : List Nat} {xs : List V} {s : L2.St} {vs : List Nat}, (∀ i ∈ is, i ∈ vs) → wipe (setsV s is xs) vs = wipe s vs
  | [], xs, s, vs, _ => by cases xs <;> rfl
  | i :: is, [], s, vs, _ => rfl
  | i :: is, x :: xs, s, vs, h => by
    show wipe (setsV (s.set i (some x)) is xs) vs = wipe s vs
    rw [wipe_sets fun j m => h j (List.mem_cons_of_mem _ m), wipe_set s (h i (by simp))]
theorem wipe_wipe (s : L2.St) : ∀ (vs ws : List Nat), (∀ i ∈ ws, i ∈ vs) → wipe (wipe s ws) vs = wipe s vs
  | vs, [], _ => rfl
  | vs, w :: ws, h => by
    show wipe ((wipe s ws).set w none) vs = wipe s vs
    rw [wipe_set _ (h w (by simp)), wipe_wipe s vs ws fun i m => h i (List.mem_cons_of_mem _ m)]
theorem Live.tgt {σ : SG} {A : List (List Addr)} {s : L2.St} {W0 : Wd} {H0 : Hp} (L : Live K F σ W A s H) (O : Own A.flatten F.X (Hm H0 W0)) (hs : Same (Hm H0 W0) (Hm H W)) {f : TgF} {g : Tg} {d : D} {v : V} {Q : SG → Prop} {R : L2.St → Hp → Prop}
    (p : Post K A.flatten F.X (Hm H0 W0) (Hm H W) g d v) (w : tgD f g d σ Q) (h : ∀ σ' s', Live K F σ' W A s' H → (∀ vs, (∀ i ∈ f.slots, i ∈ vs) → wipe s' vs = wipe s vs) → Q σ' → R s' H) : tgV K f v s H R := by
  cases f with
  | name i => exact h _ _ (L.setVal i (p.keep O hs w.1)) (fun vs m => wipe_set _ (m i (by simp [TgF.slots]))) w.2
  | tup is =>
    cases d with
    | tup ds =>
      obtain ⟨w1, w2, w3⟩ := w
      obtain ⟨a, xs, e, h1, r, r2⟩ := p.tup O hs
      have L' := L.setVals (is := is) (r2 w2)
      exact ⟨a, xs, e, .inl (Same.seqT Same.unHm h1), by rw [← r.length]; exact w1, h _ _ L' (fun vs m => wipe_sets m) w3⟩
    | lst ds =>
      obtain ⟨w1, w2, w3⟩ := w
      obtain ⟨a, xs, e, h1, r, r2⟩ := p.lst O hs
      have L' := L.setVals (is := is) (r2 w2)
      exact ⟨a, xs, e, .inr (.of (Hm_of h1)), by rw [← r.length]; exact w1, h _ _ L' (fun vs m => wipe_sets m) w3⟩
    | _ => exact w.elim
end
section
variable {X : Cx} {pos : Pos} {e : Expr} {te tk ta tb : SE}
/-- a target is given a value -/
def sAsg (f : TgF) (t : SE) : SS := fun D σ W => t σ W fun g d W1 => tgD f g d σ fun σ' => D.nx σ' W1
theorem vAsg {tg : Expr} {f : TgF} (hg : VG X tg f) (h : VE X e te) (hs : swapsWithSole [tg] e pos.line X.env = pure false := by rfl) (hw : swappedStores [tg] e X.env = pure none := by rfl)
    (h1 : (assignEach [tg] X.env).map (·.2) = [assign tg X.env] := by rfl) : VS X (.Assign [tg] e pos) (sAsg f te) := by
  refine ⟨psI (ps_asg h.pe hg hs hw h1) fun Dn s H ⟨F, σ, W, A, L, w⟩ => ?_, fun D D' σ W l w => h.mono _ _ _ _ (fun g d W1 q => mono_tgD (fun σ' q => l.nx _ _ q) q) w⟩
  refine L.one h.mono w fun g d W1 v H1 w1 L1 e1 p => ?_
  exact L1.tgt L.own e1.same p w1 fun σ' s' L' _ q => q A s' H1 L'

/-! ### x.append(e) -/
def sApp (i : Nat) (t : SE) : SS := fun D σ W => match σ[i]? with
  | some (some (.ml ds)) => t σ W fun g d W1 => sto g d ∧ ds.length < sizeLine ∧ D.nx (σ.set i (some (.ml (ds ++ [d])))) W1
  | _ => False
theorem mono_sApp {i : Nat} (m : MonoE te) : MonoS (sApp i te) := by
  intro D D' σ W l w
  unfold sApp at w ⊢
  split at w
  · exact m _ _ _ _ (fun g d W1 q => ⟨q.1, q.2.1, l.nx _ _ q.2.2⟩) w
  · exact w.elim
theorem vApp {i : Nat} {x : Str} {p apos cpos : Pos} (hN : X.N[i]? = some x) (hv : Vis X.env.scope x) (h : VE X e te)
    (hd : (x == ("__debug__" : Str)) = false := by decide) (hcd : (x == ("__classdict__" : Str)) = false := by decide)
    (hbase : attributeBase (.Name x p) "append" X.env (eval (.Name x p) X.env) = eval (.Name x p) X.env := by rfl)
    (hfew : ((backTo cpos (starEach [e] X.env)).all (fun x => !x.1) && (backToKw cpos (keywordEach [] X.env)).all (fun x => x.1.isSome)
      && decide (([e] : List Expr).length + ([] : List Keyword).length + (if ([] : List Keyword).isEmpty then 0 else 1) < 30)) = true := by rfl)
    (hline : (apos.endLine == cpos.line) = true := by rfl) (hse : starEach [e] X.env = (false, eval e X.env) :: starEach [] X.env := by rfl) (hplain : (backTo cpos (starEach [] X.env)).any (·.1) = false := by rfl)
    (hs : swapsWith (.Call (.Attribute (.Name x p) "append" apos) [e] [] cpos) none pos.line X.env = pure false := by rfl) :
    VS X (.Expr (.Call (.Attribute (.Name x p) "append" apos) [e] [] cpos) pos) (sApp i te) := by
  refine ⟨psI (ps_expr (pe_bm PySem.F.plainAttrs_list PySem.F.slot_list_append PySem.F.type_list_append mt_append (pe_var hN hv hd hcd) (pa_cons h.pe pa_nil hse) hbase hfew hline hse hplain) hs) fun Dn s H ⟨F, σ, W, A, L, w⟩ => ?_, mono_sApp h.mono⟩
  unfold sApp at w
  split at w
  · rename_i ds hx
    obtain ⟨v, a, h1, h2, q, e1, e2, xs, e3, r⟩ := L.slot i _ hx
    refine ⟨v, h1, ?_, ?_⟩
    · subst e1; exact .inl ⟨rfl, xs, .of (Hm_of e3)⟩
    · refine L.one h.mono w fun g d W1 u H1 w1 L1 ee p => ?_
      obtain ⟨w2, w3, w4⟩ := w1
      have e4 := ee.same _ _ e3
      have ru := p.keep L.own ee.same w2
      have rx := RepSs.mono (Same.cut ee.same (A.flatten ++ F.X)) _ _ r
      refine ⟨q, xs, u, e1, rfl, Hm_of e4, by rw [← r.length]; exact w3, w4 A s _ (L1.wr h1 h2 (by rw [e2]; simp) trivial ⟨q, e1, e2, _, Hm_upd_eq e4, rx.append (RepSs.one ru)⟩)⟩
  · exact w.elim
/-- x.append(y), y a list of one's own, gone behind it -/
def sAppMv (i j : Nat) : SS := fun D σ W => match σ[i]?, σ[j]? with
  | some (some (.mg g)), some (some (.ml ds)) => g.length < sizeLine ∧ i ≠ j ∧ D.nx ((σ.set i (some (.mg (g ++ [ds])))).set j none) W
  | some (some (.ml [])), some (some (.ml ds)) => i ≠ j ∧ D.nx ((σ.set i (some (.mg [ds]))).set j none) W
  | _, _ => False

/-! ### x[k] = e -/
def putML (ds : List D) (k d : D) (Q : List D → Prop) : Prop := match k with
  | .int n => ∃ j, ixN ds.length n = some j ∧ Q (ds.set j d)
  | _ => False
def sPut (i : Nat) (tk tv : SE) : SS := fun D σ W => match σ[i]? with
  | some (some (.ml ds)) => tv σ W fun g d W1 => tk σ W1 fun _ k W2 => sto g d ∧ putML ds k d fun ds' => D.nx (σ.set i (some (.ml ds'))) W2
  | _ => False
theorem mono_sPut {i : Nat} (m : MonoE tk) (n : MonoE te) : MonoS (sPut i tk te) := by
  intro D D' σ W l w
  unfold sPut at w ⊢
  split at w
  · refine n _ _ _ _ (fun g d W1 q => m _ _ _ _ (fun _ k W2 q => ⟨q.1, ?_⟩) q) w
    obtain ⟨_, q⟩ := q
    unfold putML at q ⊢
    split at q
    · obtain ⟨j, h, q⟩ := q; exact ⟨j, h, l.nx _ _ q⟩
    · exact q.elim
  · exact w.elim
theorem vPut {i : Nat} {x : Str} {k : Expr} {p ps : Pos} (hN : X.N[i]? = some x) (hv : Vis X.env.scope x) (hk : VE X k tk) (h : VE X e te)
    (hd : (x == ("__debug__" : Str)) = false := by decide) (hcd : (x == ("__classdict__" : Str)) = false := by decide)
    (ha : ∀ v, assign (.Subscript (.Name x p) k ps) X.env v = (do
      let ov ← holding [v] (eval (.Name x p) X.env)
      let iv ← holding [v, ov] (eval k X.env)
      standAt ps
      holding [v, ov, iv] (setItem ov iv v)
      release [v, ov, iv] []) := by intro _; rfl)
    (hs : swapsWithSole [.Subscript (.Name x p) k ps] e pos.line X.env = pure false := by rfl) (hw : swappedStores [.Subscript (.Name x p) k ps] e X.env = pure none := by rfl)
    (h1 : (assignEach [.Subscript (.Name x p) k ps] X.env).map (·.2) = [assign (.Subscript (.Name x p) k ps) X.env] := by rfl) :
    VS X (.Assign [.Subscript (.Name x p) k ps] e pos) (sPut i tk te) := by
  refine ⟨psI (ps_asg h.pe (pg_sub (pe_var hN hv hd hcd) hk.pe set_list ha) hs hw h1) fun Dn s H ⟨F, σ, W, A, L, w⟩ => ?_, mono_sPut hk.mono h.mono⟩
  unfold sPut at w
  split at w
  · rename_i ds hx
    obtain ⟨v, a, q1, q2, q, e1, e2, xs, e3, r⟩ := L.slot i _ hx
    refine L.one h.mono w fun g d W1 u H1 w1 L1 ee p => ⟨v, q1, ?_⟩
    refine L1.one hk.mono w1 fun g2 d2 W2 u2 H2 w2 L2 ee2 p2 => ?_
    obtain ⟨w3, w4⟩ := w2
    unfold putML at w4
    split at w4
    · obtain ⟨j, hj, w5⟩ := w4
      have e4 := ee2.same _ _ (ee.same _ _ e3)
      have ru := RepS.mono (Same.cut ee2.same (A.flatten ++ F.X)) _ _ (p.keep L.own ee.same w3)
      have rx := RepSs.mono (Same.cut (ee.same.trans ee2.same) (A.flatten ++ F.X)) _ _ r
      exact ⟨q, xs, _, j, e1, p2.int, Hm_of e4, by rw [← r.length]; exact hj, w5 A s _ (L2.wr q1 q2 (by rw [e2]; simp) trivial ⟨q, e1, e2, _, Hm_upd_eq e4, rx.set j ru⟩)⟩
    · exact w4.elim
  · exact w.elim
/-- x[r][c] = e -/
def atRow (g : List (List D)) (r : D) (Q : Nat → List D → Prop) : Prop := match r with
  | .int a => ∃ j row, ixN g.length a = some j ∧ g[j]? = some row ∧ Q j row
  | _ => False
def sPut2 (i : Nat) (tr tc tv : SE) : SS := fun D σ W => match σ[i]? with
  | some (some (.mg g)) => tv σ W fun t d W1 => tr σ W1 fun _ r W2 => atRow g r fun j row => tc σ W2 fun _ c W3 => sto t d ∧ putML row c d fun row' => D.nx (σ.set i (some (.mg (g.set j row')))) W3
  | _ => False
theorem mono_putML {ds : List D} {k d : D} {Q Q' : List D → Prop} (h : ∀ x, Q x → Q' x) (w : putML ds k d Q) : putML ds k d Q' := by
  unfold putML at w ⊢
  split at w
  · obtain ⟨j, e, q⟩ := w; exact ⟨j, e, h _ q⟩
  · exact w.elim
theorem mono_atRow {g : List (List D)} {r : D} {Q Q' : Nat → List D → Prop} (h : ∀ j x, Q j x → Q' j x) (w : atRow g r Q) : atRow g r Q' := by
  unfold atRow at w ⊢
  split at w
  · obtain ⟨j, row, e, e2, q⟩ := w; exact ⟨j, row, e, e2, h _ _ q⟩
  · exact w.elim
theorem mono_sPut2 {i : Nat} (m : MonoE ta) (m' : MonoE tb) (n : MonoE te) : MonoS (sPut2 i ta tb te) := by
  intro D D' σ W l w
  unfold sPut2 at w ⊢
  split at w
  · exact n _ _ _ _ (fun g d W1 q => m _ _ _ _ (fun _ k W2 q => mono_atRow (fun j row q => m' _ _ _ _ (fun _ k2 W3 q => ⟨q.1, mono_putML (fun x q => l.nx _ _ q) q.2⟩) q) q) q) w
  · exact w.elim
theorem RowsO.get {K : PySem.W.Frag} {G H : Hp} : ∀ {g : List (List D)} {ps : List Addr} {j : Nat} {row : List D}, RowsO K G H g ps → g[j]? = some row → ∃ p xs, ps[j]? = some p ∧ H p = some (.lst xs) ∧ RepSs K G row xs
  | [], _, _, _, _, h => by simp at h
  | r :: g, ps, 0, row, ⟨p, qs, xs, e, e2, q, t⟩, h => by
    simp at h; subst h; subst e
    exact ⟨p, xs, rfl, e2, q⟩
  | r :: g, ps, j + 1, row, ⟨p, qs, xs, e, e2, q, t⟩, h => by
    subst e
    obtain ⟨p', xs', h1, h2, h3⟩ := RowsO.get t (by simpa using h)
    exact ⟨p', xs', by simpa using h1, h2, h3⟩
theorem RowsO.length {K : PySem.W.Frag} {G H : Hp} : ∀ {g : List (List D)} {ps : List Addr}, RowsO K G H g ps → g.length = ps.length
  | [], ps, h => by cases (show ps = [] from h); rfl
  | r :: g, ps, ⟨p, qs, xs, e, e2, q, t⟩ => by subst e; rw [List.length_cons, List.length_cons, RowsO.length t]
theorem RowsO.set {K : PySem.W.Frag} {G H H' : Hp} : ∀ {g : List (List D)} {ps : List Addr} {j : Nat} {p : Addr} {row : List D} {xs : List V}, RowsO K G H g ps → ps.Nodup → ps[j]? = some p → H' p = some (.lst xs) → RepSs K G row xs → (∀ b ∈ ps, b ≠ p → H' b = H b) → RowsO K G H' (g.set j row) ps
  | [], ps, j, p, row, xs, h, nd, hp, _, _, _ => by cases (show ps = [] from h); simp at hp
  | r :: g, ps, 0, p, row, xs, ⟨p', qs, ys, e, e2, q, t⟩, nd, hp, h1, h2, h3 => by
    subst e
    simp at hp; subst hp
    refine ⟨p', qs, xs, rfl, h1, h2, ?_⟩
    have nd2 := List.nodup_cons.mp nd
    have hb : ∀ b ∈ qs, H' b = H b := fun b m => h3 b (List.mem_cons_of_mem _ m) fun e => nd2.1 (e ▸ m)
    clear h3 nd
    induction g generalizing qs with
    | nil => exact t
    | cons x g ih =>
      obtain ⟨p2, qs2, zs, e3, e4, e5, t2⟩ := t
      subst e3
      exact ⟨p2, qs2, zs, rfl, (hb p2 (by simp)).trans e4, e5, ih qs2 t2 ⟨fun m => nd2.1 (List.mem_cons_of_mem _ m), (List.nodup_cons.mp nd2.2).2⟩ fun b m => hb b (List.mem_cons_of_mem _ m)⟩
  | r :: g, ps, j + 1, p, row, xs, ⟨p', qs, ys, e, e2, q, t⟩, nd, hp, h1, h2, h3 => by
    subst e
    have nd2 := List.nodup_cons.mp nd
    have hm : p ∈ qs := List.mem_of_getElem? (by simpa using hp)
    exact ⟨p', qs, ys, rfl, (h3 p' (by simp) fun e => nd2.1 (e ▸ hm)).trans e2, q, RowsO.set t nd2.2 (by simpa using hp) h1 h2 fun b m => h3 b (List.mem_cons_of_mem _ m)⟩
theorem vPut2 {i : Nat} {x : Str} {r c : Expr} {p ps ps2 : Pos} (hN : X.N[i]? = some x) (hv : Vis X.env.scope x) (hr : VE X r ta) (hc : VE X c tb) (h : VE X e te)
    (hd : (x == ("__debug__" : Str)) = false := by decide) (hcd : (x == ("__classdict__" : Str)) = false := by decide) (hix : PlainIx r := by exact fun _ _ => rfl)
    (ha : ∀ v, assign (.Subscript (.Subscript (.Name x p) r ps2) c ps) X.env v = (do
      let ov ← holding [v] (eval (.Subscript (.Name x p) r ps2) X.env)
      let iv ← holding [v, ov] (eval c X.env)
      standAt ps
      holding [v, ov, iv] (setItem ov iv v)
      release [v, ov, iv] []) := by intro _; rfl)
    (hs : swapsWithSole [.Subscript (.Subscript (.Name x p) r ps2) c ps] e pos.line X.env = pure false := by rfl) (hw : swappedStores [.Subscript (.Subscript (.Name x p) r ps2) c ps] e X.env = pure none := by rfl)
    (h1 : (assignEach [.Subscript (.Subscript (.Name x p) r ps2) c ps] X.env).map (·.2) = [assign (.Subscript (.Subscript (.Name x p) r ps2) c ps) X.env] := by rfl) :
    VS X (.Assign [.Subscript (.Subscript (.Name x p) r ps2) c ps] e pos) (sPut2 i ta tb te) := by
  refine ⟨psI (ps_asg h.pe (pg_sub (pe_ix ix_list (pe_var hN hv hd hcd) hr.pe hix) hc.pe set_list ha) hs hw h1) fun Dn s H ⟨F, σ, W, A, L, w⟩ => ?_, mono_sPut2 hr.mono hc.mono h.mono⟩
  unfold sPut2 at w
  split at w
  · rename_i g hx
    obtain ⟨v, a, q1, q2, q, qs, e1, e2, e3, rr⟩ := L.slot i _ hx
    refine L.one h.mono w fun t d W1 u H1 w1 L1 ee p => ⟨v, q1, ?_⟩
    refine L1.one hr.mono w1 fun t2 d2 W2 u2 H2 w2 L2 ee2 p2 => ?_
    -- what stands where
    have keep2 : Same (Hm H W) (Hm H2 W2) := ee.same.trans ee2.same
    have rr2 := rr.mono (Same.cut keep2 (A.flatten ++ F.X)) keep2
    unfold atRow at w2
    split at w2
    · obtain ⟨j, row, z1, z2, w3⟩ := w2
      obtain ⟨pj, xs, z3, z4, z5⟩ := rr2.get z2
      have e4 := keep2 _ _ e3
      have zj : (qs.map V.ref)[j]? = some (.ref pj) := by rw [List.getElem?_map, z3]; rfl
      obtain ⟨j1, i1, i2⟩ := atI_j (xs := g) (ys := qs.map V.ref) (i := _) (d := row) (by rw [List.length_map]; exact rr2.length) (by unfold atI; rw [z1]; exact z2)
      refine ⟨q, qs.map V.ref, _, .ref pj, e1, p2.int, .of (Hm_of e4), ?_, ?_⟩
      · unfold atI
        rw [List.length_map, ← rr2.length, z1]
        exact zj
      · refine L2.one hc.mono w3 fun g3 d3 W3 u3 H3 w4 L3 ee3 p3 => ?_
        obtain ⟨w5, w6⟩ := w4
        unfold putML at w6
        split at w6
        · obtain ⟨k, hk, w7⟩ := w6
          have keep3 := keep2.trans ee3.same
          have rr3 := rr.mono (Same.cut keep3 (A.flatten ++ F.X)) keep3
          have ru := RepS.mono (Same.cut (ee2.same.trans ee3.same) (A.flatten ++ F.X)) _ _ (p.keep L.own ee.same w5)
          have rx := RepSs.mono (Same.cut ee3.same (A.flatten ++ F.X)) _ _ z5
          have z6 := ee3.same _ _ z4
          have nd := nodup_part L.nd q2
          rw [e2] at nd
          have nd2 := List.nodup_cons.mp nd
          have hm : pj ∈ qs := List.mem_of_getElem? z3
          refine ⟨pj, xs, _, k, rfl, p3.int, Hm_of z6, by rw [← z5.length]; exact hk, w7 A s _ (L3.wr q1 q2 (by rw [e2]; exact List.mem_cons_of_mem _ hm) trivial ⟨q, qs, e1, e2, ?_, ?_⟩)⟩
          · exact (Hm_upd_ne fun (e : q = pj) => nd2.1 (by rw [e]; exact hm)).trans (keep3 _ _ e3)
          · exact rr3.set nd2.2 z3 (Hm_upd_eq z6) (rx.set k ru) fun b m ne => Hm_upd_ne ne
        · exact w6.elim
    · exact w2.elim
  · exact w.elim
end
end VL

/-! VL9: what is walked; for, while; list comprehensions; a def. -/
namespace VL
open PySem PySem.Spec PyProof.Rows L2

/-! ### what is walked -/
abbrev SI := SG → Wd → (List D → Wd → Prop) → Prop
def MonoI (t : SI) : Prop := ∀ σ W Q Q', (∀ b W', Q b W' → Q' b W') → t σ W Q → t σ W Q'
/-- the item has come: nothing new, or a new tuple -/
def ItemOk (K : PySem.W.Frag) (G H H' : Hp) (d : D) (x : V) : Prop :=
  (H' = H ∧ RepS K G d x) ∨ ∃ p xs ds, H p = none ∧ H' = upd H p (.tup xs) ∧ d = .tup ds ∧ x = .ref p ∧ RepSs K G ds xs
def ItOk (K : PySem.W.Frag) (G : Hp) (J : It) (items : List D) : Prop :=
  ∀ H, Same G H → (∀ (i : Nat) (d : D), items[i]? = some d → J.go i H ∧ ∀ x H', J.yld i H x H' → ItemOk K G H H' d x) ∧ ∀ i, items.length ≤ i → J.stop i H
def rdI (K : PySem.W.Frag) (t : SI) : TI := fun s H R => ∃ F σ W A, Live K F σ W A s H ∧ t σ W fun items W1 => ∀ J H1, Ext (A.flatten ++ F.X) W H W1 H1 → ItOk K (cut (Hm H1 W1) (A.flatten ++ F.X)) J items → R J H1
structure VI (X : Cx) (tg iter : Expr) (t : SI) : Prop where
  pe : PI X tg iter (rdI X.K t)
  mono : MonoI t
theorem piI {X : Cx} {tg e : Expr} {t t' : TI} (h : PI X tg e t) (i : ∀ s H Q, t' s H Q → t s H Q) : PI X tg e t' := ⟨fun pins s σ H R I w => h.run pins s σ H R I (i _ _ _ w)⟩
/-- a list, a tuple or a text, as it is met -/
def iSeq (K : PySem.W.Frag) (tl : TE) : TI := fun σ H R => tl σ H fun x H1 => (∃ a xs, x = .ref a ∧ SqL K H1 a xs ∧ R (Itl K a) H1) ∨ (∃ a xs, x = .ref a ∧ SqT K H1 a xs ∧ R (Itt K a) H1) ∨ ∃ z, x = .str z ∧ R (Its z) H1
theorem pi_seq {X : Cx} {tg l : Expr} {tl : TE} (hl : PE X l tl) : PI X tg l (iSeq X.K tl) := by
  constructor
  intro pins s σ H R I h
  refine thn (hl.run pins s σ H _ I h) fun v s1 hh => ?_
  obtain ⟨x, H1, I1, r1, q1⟩ := hh
  rcases q1 with ⟨a, xs, rfl, hq, q⟩ | ⟨a, xs, rfl, hq, q⟩ | ⟨z, rfl, q⟩
  · cases r1
    obtain ⟨its, _, pl, _⟩ := I1.list hq
    exact wpAny_pyIter_list pl.isList (pi_one (tk := s1.toks) I1 _ (turn_list a _) ⟨_, Heap.get?_push_size _ rfl, rfl, rfl⟩ q)
  · cases r1
    obtain ⟨its, _, pt, _⟩ := I1.tuple hq
    exact wpAny_pyIter_tuple (show s1.heap.IsTuple a its.toArray from pt) (pi_one (tk := s1.toks) I1 _ (turn_tuple a _) ⟨_, Heap.get?_push_size _ rfl, rfl, rfl⟩ q)
  · obtain ⟨t, rfl⟩ := r1
    cases ha : z.cps.all (· < 128)
    · exact wpAny_pyIter_wide ha (pi_one (tk := s1.toks) I1 _ (turn_str _ z t "str_iterator" (.inr rfl)) ⟨_, Heap.get?_push_size _ rfl, rfl, rfl⟩ q)
    · exact wpAny_pyIter_ascii ha (pi_one (tk := s1.toks) I1 _ (turn_str _ z t "str_ascii_iterator" (.inl rfl)) ⟨_, Heap.get?_push_size _ rfl, rfl, rfl⟩ q)
def frozenTg : Tg → Bool
  | .b1 => false
  | .b2 => false
  | _ => true
def signsD (z : Str) : List D := z.cps.toList.map fun c => .str ⟨#[c]⟩
def itemsOf (g : Tg) (d : D) (Q : List D → Prop) : Prop := match d with
  | .lst ds => frozenTg g = true ∧ Q ds
  | .tup ds => est g ds ∧ Q ds
  | .str z => Q (signsD z)
  | _ => False
def sIter (t : SE) : SI := fun σ W R => t σ W fun g d W1 => itemsOf g d fun ds => R ds W1
theorem mono_itemsOf {g : Tg} {d : D} {Q Q' : List D → Prop} (h : ∀ x, Q x → Q' x) (w : itemsOf g d Q) : itemsOf g d Q' := by
  cases d <;> first | exact w.elim | exact h _ w | exact ⟨w.1, h _ w.2⟩
section
variable {X : Cx} {pos : Pos} {tg a b c : Expr} {ta : SE} {es : List Expr} {sa : SA}
theorem vIter (h : VE X a ta) : VI X tg a (sIter ta) := by
  refine ⟨piI (pi_seq h.pe) fun s H R ⟨F, σ, W, A, L, w⟩ => ?_, fun σ W Q Q' l w => h.mono _ _ _ _ (fun g d W1 q => mono_itemsOf (fun x q => l _ _ q) q) w⟩
  refine L.one h.mono w fun g d W1 v H1 w1 L1 e p => ?_
  cases d with
  | lst ds =>
    obtain ⟨f, w2⟩ := w1
    have st : sto g (.lst ds) := by cases g <;> first | rfl | cases f
    have r := p.keep L.own e.same st
    simp only [RepS] at r
    obtain ⟨q, xs, e1, e2, r2⟩ := r
    refine .inl ⟨q, xs, e1, .of (Hm_of (Same.uncut _ _ e2)), w2 _ _ e fun H2 sm => ⟨fun i d hi => ?_, fun i hi => ⟨xs, .of (sm _ _ e2), by rw [← r2.length]; exact hi⟩⟩⟩
    obtain ⟨x, hx, rx⟩ := r2.get hi
    refine ⟨⟨xs, x, .of (sm _ _ e2), hx⟩, fun y H' ⟨eh, hy⟩ => .inl ⟨eh, ?_⟩⟩
    have hyx := hy xs (.of (sm _ _ e2))
    rw [hx] at hyx
    cases hyx
    exact rx
  | tup ds =>
    obtain ⟨f, w2⟩ := w1
    have r := p.tupSt L.own e.same f
    simp only [Post, RepS] at r
    obtain ⟨q, xs, e1, e2, r2⟩ := r
    refine .inr (.inl ⟨q, xs, e1, Same.seqT Same.unHm (Same.seqT Same.uncut e2), w2 _ _ e fun H2 sm => ⟨fun i d hi => ?_, fun i hi => ⟨xs, Same.seqT sm e2, by rw [← r2.length]; exact hi⟩⟩⟩)
    obtain ⟨x, hx, rx⟩ := r2.get hi
    refine ⟨⟨xs, x, Same.seqT sm e2, hx⟩, fun y H' ⟨eh, hy⟩ => .inl ⟨eh, ?_⟩⟩
    have hyx := hy xs (Same.seqT sm e2)
    rw [hx] at hyx
    cases hyx
    exact rx
  | str z =>
    refine .inr (.inr ⟨z, p.str, w1 _ _ e fun H2 sm => ⟨fun i d hi => ?_, fun i hi => ?_⟩⟩)
    · unfold signsD at hi
      rw [List.getElem?_map] at hi
      cases hc : z.cps.toList[i]? with
      | none => rw [hc] at hi; cases hi
      | some c =>
        rw [hc] at hi
        cases hi
        have hc2 : z.cps[i]? = some c := by simpa using hc
        have hlt : i < z.cps.size := by
          obtain ⟨q, _⟩ := Array.getElem?_eq_some_iff.mp hc2
          exact q
        refine ⟨hlt, fun y H' ⟨eh, c', hc', ey⟩ => .inl ⟨eh, ?_⟩⟩
        rw [hc2] at hc'
        cases hc'
        subst ey
        simp [RepS]
    · unfold signsD at hi
      rw [List.length_map] at hi
      show z.cps.size ≤ i
      simpa using hi
  | _ => exact w1.elim
/-! ### ranges -/
def upTo (lo : Int) (n : Nat) : List D := (List.range n).map fun i => .int (lo + (i : Nat))
def downTo (hi : Int) (n : Nat) : List D := (List.range n).map fun i => .int (hi - (i : Nat))
def sRng1 (ta : SA) : SI := fun σ W R => ta σ W fun ds W1 => match ds with
  | [(_, .int j)] => -(2 ^ 62) ≤ j ∧ j < 2 ^ 62 ∧ R (upTo 0 j.toNat) W1
  | _ => False
def sRng2 (ta : SA) : SI := fun σ W R => ta σ W fun ds W1 => match ds with
  | [(_, .int i), (_, .int j)] => (-(2 ^ 62) ≤ i ∧ i < 2 ^ 62 ∧ -(2 ^ 62) ≤ j ∧ j < 2 ^ 62) ∧ R (upTo i (j - i).toNat) W1
  | _ => False
def sRngD (ta : SA) : SI := fun σ W R => ta σ W fun ds W1 => match ds with
  | [(_, .int i), (_, .int j), (_, .int (-1))] => (-(2 ^ 62) ≤ i ∧ i < 2 ^ 62 ∧ -(2 ^ 62) ≤ j ∧ j < 2 ^ 62) ∧ R (downTo i (i - j).toNat) W1
  | _ => False
theorem itr_ok {K : PySem.W.Frag} {G : Hp} {lo : Int} {n : Nat} : ItOk K G (Itr lo n) (upTo lo n) := fun H sm => ⟨fun i d hi => by
    unfold upTo at hi
    rw [List.getElem?_map] at hi
    cases hr : (List.range n)[i]? with
    | none => rw [hr] at hi; cases hi
    | some k =>
      rw [hr] at hi
      cases hi
      obtain ⟨h1, h2⟩ := List.getElem?_eq_some_iff.mp hr
      rw [List.length_range] at h1
      rw [List.getElem_range] at h2
      subst h2
      refine ⟨h1, fun x H' ⟨e, ex⟩ => .inl ⟨e, ?_⟩⟩
      subst ex
      simp [RepS], fun i hi => by
    unfold upTo at hi
    rw [List.length_map, List.length_range] at hi
    exact hi⟩
theorem itc_ok {K : PySem.W.Frag} {G : Hp} {lo : Int} {n : Nat} : ItOk K G (Itc lo (-1) n) (downTo lo n) := fun H sm => ⟨fun i d hi => by
    unfold downTo at hi
    rw [List.getElem?_map] at hi
    cases hr : (List.range n)[i]? with
    | none => rw [hr] at hi; cases hi
    | some k =>
      rw [hr] at hi
      cases hi
      obtain ⟨h1, h2⟩ := List.getElem?_eq_some_iff.mp hr
      rw [List.length_range] at h1
      rw [List.getElem_range] at h2
      subst h2
      refine ⟨h1, fun x H' ⟨e, ex⟩ => .inl ⟨e, ?_⟩⟩
      subst ex
      simp only [RepS]
      congr 1
      omega, fun i hi => by
    unfold downTo at hi
    rw [List.length_map, List.length_range] at hi
    exact hi⟩
theorem vRng1 {p : Pos} (hg : Gl X "range") (hm : X.mg "range" = none) (ha : VA X [a] sa) (hs : starEach [a] X.env = [(false, eval a X.env)] := by rfl) : VI X tg (.Call (.Name "range" p) [a] [] pos) (sRng1 sa) := by
  refine ⟨piI (pi_range1 hg hm ha.pe hs) fun s H R ⟨F, σ, W, A, L, w⟩ => ?_, fun σ W Q Q' l w => ha.mono _ _ _ _ (fun ds W1 q => ?_) w⟩
  · refine L.args ha.mono w fun ds W1 vs H1 w1 L1 e p => ?_
    split at w1
    · obtain ⟨v, rfl, p1⟩ := p.one
      exact ⟨_, by rw [p1.int], w1.1, w1.2.1, w1.2.2 _ _ e itr_ok⟩
    · exact w1.elim
  · split at q
    · exact ⟨q.1, q.2.1, l _ _ q.2.2⟩
    · exact q.elim
theorem vRng2 {p : Pos} (hg : Gl X "range") (hm : X.mg "range" = none) (ha : VA X [a, b] sa) (hs : starEach [a, b] X.env = [(false, eval a X.env), (false, eval b X.env)] := by rfl) (hs2 : starEach [b] X.env = [(false, eval b X.env)] := by rfl) : VI X tg (.Call (.Name "range" p) [a, b] [] pos) (sRng2 sa) := by
  refine ⟨piI (pi_range2 hg hm ha.pe hs hs2) fun s H R ⟨F, σ, W, A, L, w⟩ => ?_, fun σ W Q Q' l w => ha.mono _ _ _ _ (fun ds W1 q => ?_) w⟩
  · refine L.args ha.mono w fun ds W1 vs H1 w1 L1 e p => ?_
    split at w1
    · obtain ⟨v, u, rfl, p1, p2⟩ := p.two
      exact ⟨_, _, by rw [p1.int, p2.int], w1.1, w1.2 _ _ e itr_ok⟩
    · exact w1.elim
  · split at q
    · exact ⟨q.1, l _ _ q.2⟩
    · exact q.elim
theorem PostA.three {K : PySem.W.Frag} {A Y : List Addr} {H0 H : Hp} {t u w : Tg} {x y z : D} {vs : List V} (h : PostA K A Y H0 H [(t, x), (u, y), (w, z)] vs) : ∃ v1 v2 v3, vs = [v1, v2, v3] ∧ Post K A Y H0 H t x v1 ∧ Post K A Y H0 H u y v2 ∧ Post K A Y H0 H w z v3 := by
  obtain ⟨v, us, e, p, q⟩ := h
  obtain ⟨v2, v3, e2, q2, q3⟩ := PostA.two q
  subst e2
  exact ⟨v, v2, v3, e, p, q2, q3⟩
theorem vRngD {p : Pos} (hg : Gl X "range") (hm : X.mg "range" = none) (ha : VA X [a, b, c] sa) (hs : starEach [a, b, c] X.env = (false, eval a X.env) :: starEach [b, c] X.env := by rfl) (hpl : (backTo pos (starEach [b, c] X.env)).any (·.1) = false := by rfl) : VI X tg (.Call (.Name "range" p) [a, b, c] [] pos) (sRngD sa) := by
  refine ⟨piI (pi_range3 hg hm ha.pe hs hpl) fun s H R ⟨F, σ, W, A, L, w⟩ => ?_, fun σ W Q Q' l w => ha.mono _ _ _ _ (fun ds W1 q => ?_) w⟩
  · refine L.args ha.mono w fun ds W1 vs H1 w1 L1 e p => ?_
    split at w1
    · obtain ⟨v, u, z, rfl, p1, p2, p3⟩ := p.three
      exact ⟨_, _, _, _, by rw [p1.int, p2.int, p3.int], RgC.neg w1.1.1 w1.1.2.1 w1.1.2.2.1 w1.1.2.2.2, w1.2 _ _ e itc_ok⟩
    · exact w1.elim
  · split at q
    · exact ⟨q.1, l _ _ q.2⟩
    · exact q.elim
end

/-! ### for, while -/
def forD (f : TgF) (body : SS) : List D → SEnds → SG → Wd → Prop
  | [], D, σ, W => D.nx σ W
  | x :: xs, D, σ, W => tgD f .st x σ fun σ' => body { nx := forD f body xs D, ct := forD f body xs D, bk := D.nx, rt := D.rt } σ' W
def sFor (it : SI) (f : TgF) (body : SS) : SS := fun D σ W => it σ W fun items W1 => forD f body items D σ W1
theorem mono_forD {f : TgF} {body : SS} (m : MonoS body) : ∀ {items : List D} {D D' : SEnds} {σ : SG} {W : Wd}, D.Le D' → forD f body items D σ W → forD f body items D' σ W
  | [], D, D', σ, W, l, w => l.nx _ _ w
  | x :: xs, D, D', σ, W, l, w => mono_tgD (fun σ' q => m { nx := forD f body xs D, ct := forD f body xs D, bk := D.nx, rt := D.rt } { nx := forD f body xs D', ct := forD f body xs D', bk := D'.nx, rt := D'.rt } _ _ ⟨fun _ _ q => mono_forD m l q, l.rt, l.nx, fun _ _ q => mono_forD m l q⟩ q) w
theorem Live.item {K : PySem.W.Frag} {F : Frm} {σ : SG} {W : Wd} {A : List (List Addr)} {s : L2.St} {H H' : Hp} {G : Hp} {d : D} {x : V} (L : Live K F σ W A s H) (g : Same G (cut (Hm H W) (A.flatten ++ F.X))) (i : ItemOk K G H H' d x) :
    Live K F σ W A s H' ∧ Ext (A.flatten ++ F.X) W H W H' ∧ Post K A.flatten F.X (Hm H' W) (Hm H' W) .st d x := by
  rcases i with ⟨rfl, r⟩ | ⟨p, xs, ds, hp, rfl, rfl, rfl, r⟩
  · exact ⟨L, L.ext0, RepS.mono g _ _ r⟩
  · have e := L.ext0.laid hp (.tup xs)
    have q := Post.newT (X := F.X) L.own L.ext0 (RepSs.mono g _ _ r) hp
    exact ⟨L.step e, e, q⟩
theorem vFor {X : Cx} {tg iter : Expr} {body : List Stmt} {it : SI} {f : TgF} {tb : SS} {pos : Pos} (hp : PassesOwn (model X.prog X.w) X.A X.env X.xe) (hc : X.calm = true) (hi : VI X tg iter it) (hg : VG X tg f) (hb : VSs X body tb)
    (hs : ∀ x, foldedSetIterable iter X.env x = pure x := by intro _; rfl) : VS X (.For tg iter body [] pos) (sFor it f tb) := by
  refine ⟨psI (ps_for hp hc hi.pe hg hb.pe hs) fun Dn s H ⟨F, σ, W, A, L, w⟩ => ?_, fun D D' σ W l w => hi.mono _ _ _ _ (fun items W1 q => mono_forD hb.mono l q) w⟩
  refine ⟨F, σ, W, A, L, hi.mono _ _ _ _ (fun items W1 q J H1 e ok => ?_) w⟩
  have L1 := L.step e
  -- all that is not one's own stays through the loop
  generalize hB : cut (Hm H1 W1) A.flatten = B
  have hFB : Same F.B B := fun b o h => by
    rw [← hB]
    exact cut_some.mpr (L1.base b o h)
  have hGB : Same (cut (Hm H1 W1) (A.flatten ++ F.X)) B := by
    rw [← hB]
    exact Same.cutl fun b m => List.mem_append_left _ m
  have hXB : ∀ b ∈ F.X, (B b).isSome = true := fun b m => by
    obtain ⟨o, h⟩ := Option.isSome_iff_exists.mp (L.xb b m)
    rw [hFB b o h]; rfl
  have hG : ∀ {σ' : SG} {W' : Wd} {A' : List (List Addr)} {s' : L2.St} {H' : Hp}, Live X.K {F with B := B} σ' W' A' s' H' → Same (cut (Hm H1 W1) (A.flatten ++ F.X)) (cut (Hm H' W') (A'.flatten ++ F.X)) := fun {σ' W' A' s' H'} L' b o h => by
    obtain ⟨h1, h2⟩ := L'.base b o (hGB b o h)
    refine cut_some.mpr ⟨h1, fun m => (List.mem_append.mp m).elim h2 fun m => ?_⟩
    exact (cut_some.mp h).2 (List.mem_append_right _ m)
  have back : ∀ {σ' : SG} {W' : Wd} {A' : List (List Addr)} {s' : L2.St} {H' : Hp}, Live X.K {F with B := B} σ' W' A' s' H' → Live X.K F σ' W' A' s' H' := fun L' => Live.weak L' hFB L.xb
  have L1' : Live X.K {F with B := B} σ W1 A s H1 := ⟨L1.nd, L1.al, L1.sl, fun b o h => by rw [← hB] at h; exact cut_some.mp h, hXB, L1.trk, L1.cell, L1.kc, L1.slot⟩
  refine ⟨fun i m s' H' => i + m = items.length ∧ ∃ σ' W' A', Live X.K {F with B := B} σ' W' A' s' H' ∧ forD f tb (items.drop i) (endsOf X.K F Dn) σ' W', ⟨items.length, by omega, σ, W1, A, L1', by simpa using q⟩, fun i m s' H' ⟨hm, σ', W', A', L', w'⟩ => ?_⟩
  have okH := ok H' ((hG L').trans (fun b o h => Same.unHm _ _ (Same.uncut _ _ h)))
  by_cases hlt : i < items.length
  · have hd : items[i]? = some items[i] := List.getElem?_eq_getElem hlt
    rw [List.drop_eq_getElem_cons hlt] at w'
    obtain ⟨go, yl⟩ := okH.1 i _ hd
    refine .inr ⟨go, fun s2 H2 => ∃ σ2 W2 A2, Live X.K {F with B := B} σ2 W2 A2 s2 H2 ∧ forD f tb (items.drop (i + 1)) (endsOf X.K F Dn) σ2 W2, fun s2 H2 ⟨σ2, W2, A2, L2', w2⟩ => ⟨m - 1, by omega, by omega, σ2, W2, A2, L2', w2⟩, fun x H2 y => ?_⟩
    obtain ⟨L3, e3, p3⟩ := L'.item (hG L') (yl x H2 y)
    refine L3.tgt (W0 := W') (H0 := H2) L3.own (.refl _) p3 w' fun σ4 s4 L4 _ w4 => ?_
    refine ⟨{F with B := B}, σ4, W', A', L4, hb.mono { nx := forD f tb (items.drop (i + 1)) (endsOf X.K F Dn), ct := forD f tb (items.drop (i + 1)) (endsOf X.K F Dn), bk := (endsOf X.K F Dn).nx, rt := (endsOf X.K F Dn).rt } _ _ _ ⟨fun σ5 W5 q5 A5 s5 H5 L5 => ⟨σ5, W5, A5, L5, q5⟩, fun tg d W5 q5 v H5 r => q5 v H5 ?_, fun σ5 W5 q5 A5 s5 H5 L5 => q5 A5 s5 H5 (back L5), fun σ5 W5 q5 A5 s5 H5 L5 => ⟨σ5, W5, A5, L5, q5⟩⟩ w4⟩
    refine ⟨hFB.trans r.same, r.cell, r.kc, ?_⟩
    have r4 := r.post
    cases tg with
    | fr =>
      obtain ⟨q, e2, hb', nd⟩ := r4
      exact ⟨q, e2, hFB.free hb', nd⟩
    | st => exact r4
    | fr2 => exact r4
    | b1 => exact r4
    | b2 => exact r4
  · rw [List.drop_eq_nil_of_le (by omega)] at w'
    exact .inl ⟨okH.2 i (by omega), w' A' s' H' (back L')⟩
def sWhile (c : SB) (body : SS) : SS := fun D σ W => ∃ I : Nat → SG → Wd → Prop, (∃ m, I m σ W) ∧ ∀ m σ W, I m σ W → c σ W fun b W1 => if b = true then
  body { D with nx := fun σ' W' => ∃ m', m' < m ∧ I m' σ' W', ct := fun σ' W' => ∃ m', m' < m ∧ I m' σ' W', bk := D.nx } σ W1 else D.nx σ W1
theorem vWhile {X : Cx} {c : Expr} {body : List Stmt} {tc : SB} {tb : SS} {pos : Pos} (hp : PassesOwn (model X.prog X.w) X.A X.env X.xe) (hc : VT X c tc) (hb : VSs X body tb) : VS X (.While c body [] pos) (sWhile tc tb) := by
  refine ⟨psI (ps_while hp hc.pe hb.pe) fun Dn s H ⟨F, σ, W, A, L, I, ⟨m0, w0⟩, turn⟩ => ?_, fun D D' σ W l ⟨I, h0, turn⟩ => ⟨I, h0, fun m σ W w => hc.mono _ _ _ _ (fun b W1 q => ?_) (turn m σ W w)⟩⟩
  · refine ⟨fun m s' H' => ∃ σ' W' A', Live X.K F σ' W' A' s' H' ∧ I m σ' W', ⟨m0, σ, W, A, L, w0⟩, fun m s' H' ⟨σ', W', A', L', w'⟩ => ?_⟩
    refine L'.test hc.mono (turn m σ' W' w') fun b W1 H1 w1 L1 e => ?_
    cases b with
    | true => exact ⟨fun s2 H2 => ∃ σ2 W2 A2, Live X.K F σ2 W2 A2 s2 H2 ∧ ∃ m', m' < m ∧ I m' σ2 W2, fun s2 H2 ⟨σ2, W2, A2, L2', m', hm, w2⟩ => ⟨m', hm, σ2, W2, A2, L2', w2⟩, F, σ', W1, A', L1,
        hb.mono { endsOf X.K F Dn with nx := fun σ' W' => ∃ m', m' < m ∧ I m' σ' W', ct := fun σ' W' => ∃ m', m' < m ∧ I m' σ' W', bk := (endsOf X.K F Dn).nx } _ _ _ ⟨fun σ5 W5 q5 A5 s5 H5 L5 => ⟨σ5, W5, A5, L5, q5⟩, fun _ _ _ q => q, fun _ _ q => q, fun σ5 W5 q5 A5 s5 H5 L5 => ⟨σ5, W5, A5, L5, q5⟩⟩ w1⟩
    | false => exact w1 A' s' H1 L1
  · cases b with
    | true => exact hb.mono { D with nx := fun σ' W' => ∃ m', m' < m ∧ I m' σ' W', ct := fun σ' W' => ∃ m', m' < m ∧ I m' σ' W', bk := D.nx } { D' with nx := fun σ' W' => ∃ m', m' < m ∧ I m' σ' W', ct := fun σ' W' => ∃ m', m' < m ∧ I m' σ' W', bk := D'.nx } _ _ ⟨fun _ _ q => q, l.rt, l.nx, fun _ _ q => q⟩ q
    | false => exact l.nx _ _ q
end VL

/-! VL10: list comprehensions. -/
namespace VL
open PySem PySem.Spec PyProof.Rows L2

def wipeD (σ : SG) : List Nat → SG
  | [] => σ
  | v :: vs => (wipeD σ vs).set v none
/-- a comprehension's tests -/
structure VTs (X : Cx) (ifs : List Expr) (t : SB) : Prop where
  pe : PTs X ifs (rdB X.K t)
  mono : MonoB t
def bYes : SB := fun _ W Q => Q true W
theorem ptsI {X : Cx} {e : List Expr} {t t' : TT} (h : PTs X e t) (i : ∀ s H Q, t' s H Q → t s H Q) : PTs X e t' := ⟨fun pins s σ H Q I w => h.run pins s σ H Q I (i _ _ _ w)⟩
theorem vtsNil {X : Cx} : VTs X [] bYes := ⟨ptsI pts_nil fun s H Q ⟨F, σ, W, A, L, w⟩ => w H L.ext0, fun _ _ _ _ h w => h _ _ w⟩
theorem vtsOne {X : Cx} {c : Expr} {t : SB} (h : VT X c t) : VTs X [c] t := ⟨pts_one h.pe, h.mono⟩

/-- the items of a comprehension, one after another -/
def compD (f : TgF) (tt : SB) (te : SE) (ok : Tg → D → Prop) : List D → SG → List D → Wd → (List D → Wd → Prop) → Prop
  | [], _, acc, W, Q => Q acc W
  | x :: xs, σ, acc, W, Q => tgD f .st x σ fun σ2 => tt σ2 W fun b W1 => if b = true then te σ2 W1 fun g d W2 => ok g d ∧ acc.length < sizeLine ∧ compD f tt te ok xs σ (acc ++ [d]) W2 Q
    else compD f tt te ok xs σ acc W1 Q
def okC (two : Bool) (g : Tg) (d : D) : Prop := if two = true then g = .fr ∧ ∃ row, d = .lst row else sto g d
def sLc (two : Bool) (it : SI) (f : TgF) (tt : SB) (te : SE) (vs : List Nat) : SE := fun σ W Q => it σ W fun items W1 => compD f tt te (okC two) items (wipeD σ vs) [] W1 fun ds W2 => Q (if two = true then .fr2 else .fr) (.lst ds) W2
theorem mono_compD {f : TgF} {tt : SB} {te : SE} {ok : Tg → D → Prop} (mt : MonoB tt) (me : MonoE te) : ∀ {items : List D} {σ : SG} {acc : List D} {W : Wd} {Q Q' : List D → Wd → Prop}, (∀ ds W', Q ds W' → Q' ds W') → compD f tt te ok items σ acc W Q → compD f tt te ok items σ acc W Q'
  | [], σ, acc, W, Q, Q', h, w => h _ _ w
  | x :: xs, σ, acc, W, Q, Q', h, w => mono_tgD (fun σ2 q => mt _ _ _ _ (fun b W1 q => by
      cases b with
      | true => exact me _ _ _ _ (fun g d W2 q => ⟨q.1, q.2.1, mono_compD mt me h q.2.2⟩) q
      | false => exact mono_compD mt me h q) q) w
theorem mono_sLc {two : Bool} {it : SI} {f : TgF} {tt : SB} {te : SE} {vs : List Nat} (mi : MonoI it) (mt : MonoB tt) (me : MonoE te) : MonoE (sLc two it f tt te vs) := fun σ W Q Q' h w => mi _ _ _ _ (fun items W1 q => mono_compD mt me (fun ds W2 q => h _ _ _ q) q) w

/-! ### within the block -/
def CellV (H : Hp) : Wd → Prop
  | none => True
  | some t => H t.c = some (.lst [.int t.pos])
theorem CellOk.v {G H : Hp} {W : Wd} (c : CellOk G H W) : CellV H W := by
  cases W with
  | none => trivial
  | some t => obtain ⟨_, _, _, h⟩ := c; exact h
theorem CellOk.carry {O O' : List Addr} {W W' : Wd} {H H' : Hp} (c : CellOk (cut (Hm H W) O) H W) (sm : Same (Hm H W) (Hm H' W')) (kc : WdLe W W') (v : CellV H' W') (hO : ∀ b o, Hm H W b = some o → b ∉ O → b ∉ O') : CellOk (cut (Hm H' W') O') H' W' := by
  cases W with
  | none => cases (show W' = none from kc); trivial
  | some t =>
    obtain ⟨q, rfl⟩ := kc
    obtain ⟨r, a, b, d⟩ := c
    have k : ∀ {x : Addr} {o : HO}, cut (Hm H (some t)) O x = some o → cut (Hm H' (some { t with pos := q })) O' x = some o := fun {x o} h => by
      obtain ⟨h1, h2⟩ := cut_some.mp h
      exact cut_some.mpr ⟨sm _ _ h1, hO _ _ h1 h2⟩
    exact ⟨r, k a, k b, v⟩
section
variable {K : PySem.W.Frag} {F : Frm} {σ : SG} {W W' : Wd} {A : List (List Addr)} {s : L2.St} {H H' : Hp}
/-- new objects at ps that are in the making -/
def Frm.plus (F : Frm) (ps : List Addr) (H : Hp) : Frm := { F with B := fun b => if b ∈ ps then H b else F.B b, X := ps ++ F.X }
theorem Live.inside (L : Live K F σ W A s H) (sm : Same (Hm H W) (Hm H' W')) (kc : WdLe W W') (cv : CellV H' W') {ps : List Addr} (new : ∀ p ∈ ps, Hm H W p = none) (tr : ∀ p ∈ ps, ∃ o, Hm H' W' p = some o) : Live K (F.plus ps (Hm H' W')) σ W' A s H' := by
  have fz : Same (cut (Hm H W) (A.flatten ++ F.X)) (cut (Hm H' W') (A.flatten ++ (ps ++ F.X))) := fun b o h => by
    obtain ⟨h1, h2⟩ := cut_some.mp h
    refine cut_some.mpr ⟨sm _ _ h1, fun m => ?_⟩
    rcases List.mem_append.mp m with m | m
    · exact h2 (List.mem_append_left _ m)
    · rcases List.mem_append.mp m with m | m
      · rw [new b m] at h1; cases h1
      · exact h2 (List.mem_append_right _ m)
  refine ⟨L.nd, L.al, L.sl, fun b o h => ?_, fun b m => ?_, fun b m => let ⟨o, q, r⟩ := L.trk b m; ⟨o, sm _ _ q, r⟩, ?_, L.kc.trans kc, fun i sv h => ?_⟩
  · have h' : (if b ∈ ps then Hm H' W' b else F.B b) = some o := h
    by_cases m : b ∈ ps
    · rw [if_pos m] at h'
      refine ⟨h', fun z => ?_⟩
      obtain ⟨o', q, _⟩ := L.trk b z
      rw [new b m] at q; cases q
    · rw [if_neg m] at h'
      exact ⟨sm _ _ (L.base b o h').1, (L.base b o h').2⟩
  · show (if b ∈ ps then Hm H' W' b else F.B b).isSome = true
    by_cases m' : b ∈ ps
    · rw [if_pos m']
      obtain ⟨o, q⟩ := tr b m'
      rw [q]; rfl
    · rw [if_neg m']
      exact L.xb b ((List.mem_append.mp m).resolve_left m')
  · refine L.cell.carry sm kc cv fun b o h1 h2 m => ?_
    rcases List.mem_append.mp m with m | m
    · exact h2 (List.mem_append_left _ m)
    · rcases List.mem_append.mp m with m | m
      · rw [new b m] at h1; cases h1
      · exact h2 (List.mem_append_right _ m)
  · obtain ⟨v, a, h1, h2, h3⟩ := L.slot i sv h
    exact ⟨v, a, h1, h2, h3.mono fz sm⟩
theorem Live.wipe (L : Live K F σ W A s H) : ∀ vs : List Nat, Live K F (wipeD σ vs) W A (L2.wipe s vs) H
  | [] => L
  | v :: vs => (Live.wipe L vs).drop v none
theorem same_updN {p : Addr} {o : HO} (h : Same (Hm H W) (Hm H' W')) (hp : Hm H W p = none) : Same (Hm H W) (Hm (upd H' p o) W') := fun b u e => by
  have ne : b ≠ p := fun z => by rw [z, hp] at e; cases e
  rw [Hm_upd_ne ne]
  exact h b u e
theorem CellV.upd {p : Addr} {o o' : HO} (h : CellV H' W') (hp : Hm H' W' p = some o') : CellV (upd H' p o) W' := by
  cases W' with
  | none => trivial
  | some t => exact (upd_ne (Ne.symm (Hm_some.mp hp).2)).trans h
theorem CellV.new {p : Addr} {o : HO} (h : CellV H' W') (hp : H' p = none) : CellV (L2.upd H' p o) W' := by
  cases W' with
  | none => trivial
  | some t => exact (upd_ne fun (e : t.c = p) => by
      have h' : H' t.c = some (.lst [.int t.pos]) := h
      rw [e, hp] at h'; cases h').trans h
theorem RowsO.add {G : Hp} : ∀ {g : List (List D)} {ps : List Addr} {row : List D} {q : Addr} {xs : List V}, RowsO K G H g ps → H q = some (.lst xs) → RepSs K G row xs → RowsO K G H (g ++ [row]) (ps ++ [q])
  | [], ps, row, q, xs, h, e, r => by
    cases (show ps = [] from h)
    exact ⟨q, [], xs, rfl, e, r, rfl⟩
  | r :: g, ps, row, q, xs, ⟨p, qs, ys, e, e2, h, t⟩, e3, h3 => by
    subst e
    exact ⟨p, qs ++ [q], ys, rfl, e2, h, RowsO.add t e3 h3⟩
end
/-- what was gathered: qs, the new lists among it -/
def AccOk (K : PySem.W.Frag) (two : Bool) (O : List Addr) (Dd : Addr) (H : Hp) (acc : List D) (accV : List V) (qs : List Addr) : Prop :=
  if two = true then ∃ rows, acc = rows.map D.lst ∧ accV = qs.map V.ref ∧ RowsO K (cut H ((Dd :: qs) ++ O)) H rows qs else qs = [] ∧ RepSs K (cut H ((Dd :: qs) ++ O)) acc accV
/-- the state between two turns -/
structure AccIn (K : PySem.W.Frag) (two : Bool) (O : List Addr) (Dd : Addr) (W1 : Wd) (H1 : Hp) (W : Wd) (H : Hp) (acc : List D) : Prop where
  ex : ∃ accV qs, Hm H W Dd = some (.lst accV) ∧ accV.length = acc.length ∧ (Dd :: qs).Nodup ∧ (∀ p ∈ Dd :: qs, Hm H1 W1 p = none ∧ ∃ o, Hm H W p = some o) ∧ AccOk K two O Dd (Hm H W) acc accV qs
  same : Same (Hm H1 W1) (Hm H W)
  kc : WdLe W1 W
  cv : CellV H W
section
variable {K : PySem.W.Frag} {two : Bool} {F : Frm} {σ : SG} {W1 W : Wd} {A : List (List Addr)} {s : L2.St} {H1 H : Hp} {Dd : Addr} {acc : List D}
theorem AccIn.post (L1 : Live K F σ W1 A s H1) (a : AccIn K two (A.flatten ++ F.X) Dd W1 H1 W H acc) : Ext (A.flatten ++ F.X) W1 H1 W H ∧ Post K A.flatten F.X (Hm H1 W1) (Hm H W) (if two = true then .fr2 else .fr) (.lst acc) (.ref Dd) := by
  obtain ⟨accV, qs, h1, hl, nd, h2, h3⟩ := a.ex
  refine ⟨⟨a.same, L1.cell.carry a.same a.kc a.cv fun _ _ _ h => h, a.kc⟩, ?_⟩
  cases two with
  | true =>
    obtain ⟨rows, e1, e2, r⟩ := (show ∃ rows, _ from h3)
    exact ⟨Dd, qs, rows, by rw [e1], rfl, nd, fun q m => (h2 q m).1, by rw [h1, e2], r⟩
  | false =>
    obtain ⟨e, r⟩ := (show qs = [] ∧ _ from h3)
    subst e
    exact ⟨Dd, rfl, (h2 Dd (by simp)).1, accV, h1, r⟩
theorem AccIn.start (L1 : Live K F σ W1 A s H1) (hD : H1 Dd = none) : AccIn K two (A.flatten ++ F.X) Dd W1 H1 W1 (upd H1 Dd (.lst [])) [] := by
  have n := Hm_none (W := W1) hD
  have u := Hm_upd L1.ext0 hD (.lst [])
  refine ⟨⟨[], [], u, rfl, by simp, fun p m => ?_, ?_⟩, same_updN (.refl _) n, .refl _, L1.cell.v.new hD⟩
  · have e : p = Dd := by simpa using m
    subst e
    exact ⟨n, _, u⟩
  · cases two with
    | true => exact ⟨[], rfl, rfl, rfl⟩
    | false => exact ⟨rfl, by simp [RepSs]⟩
/-- the heap grows, nothing else -/
theorem AccIn.grow {W2 : Wd} {H2 : Hp} (a : AccIn K two (A.flatten ++ F.X) Dd W1 H1 W H acc) (sm : Same (Hm H W) (Hm H2 W2)) (kc : WdLe W W2) (cv : CellV H2 W2) : AccIn K two (A.flatten ++ F.X) Dd W1 H1 W2 H2 acc := by
  obtain ⟨accV, qs, h1, hl, nd, h2, h3⟩ := a.ex
  refine ⟨⟨accV, qs, sm _ _ h1, hl, nd, fun p m => ⟨(h2 p m).1, let ⟨o, q⟩ := (h2 p m).2; ⟨o, sm _ _ q⟩⟩, ?_⟩, a.same.trans sm, a.kc.trans kc, cv⟩
  cases two with
  | true =>
    obtain ⟨rows, e1, e2, r⟩ := (show ∃ rows, _ from h3)
    exact ⟨rows, e1, e2, r.mono (Same.cut sm _) sm⟩
  | false =>
    obtain ⟨e, r⟩ := (show qs = [] ∧ _ from h3)
    exact ⟨e, RepSs.mono (Same.cut sm _) _ _ r⟩
/-- the state in the block -/
theorem AccIn.live (L1 : Live K F σ W1 A s H1) (a : AccIn K two (A.flatten ++ F.X) Dd W1 H1 W H acc) : ∃ qs, Live K (F.plus (Dd :: qs) (Hm H W)) σ W A s H ∧ (∀ p ∈ Dd :: qs, Hm H1 W1 p = none) ∧ (two = false → qs = []) ∧
    ∀ (W2 : Wd) (H2 : Hp) (g : Tg) (d : D) (y : V), Ext (A.flatten ++ ((Dd :: qs) ++ F.X)) W H W2 H2 → Post K A.flatten ((Dd :: qs) ++ F.X) (Hm H W) (Hm H2 W2) g d y → okC two g d → acc.length < sizeLine →
      ∃ accV, H2 Dd = some (.lst accV) ∧ accV.length < sizeLine ∧ AccIn K two (A.flatten ++ F.X) Dd W1 H1 W2 (upd H2 Dd (.lst (accV ++ [y]))) (acc ++ [d]) := by
  obtain ⟨accV, qs, h1, hl, nd, h2, h3⟩ := a.ex
  have Li := L1.inside a.same a.kc a.cv (ps := Dd :: qs) (fun p m => (h2 p m).1) (fun p m => (h2 p m).2)
  refine ⟨qs, Li, fun p m => (h2 p m).1, fun et => ?_, fun W2 H2 g d y e p ok hz => ?_⟩
  · subst et
    exact (show qs = [] ∧ _ from h3).1
  have e1 := e.same _ _ h1
  have eD := (h2 Dd (by simp)).1
  have ceq : ∀ {O : List Addr}, Dd ∈ O → cut (Hm (upd H2 Dd (.lst (accV ++ [y]))) W2) O = cut (Hm H2 W2) O := fun {O} m => by
    funext b
    unfold cut
    split
    · rfl
    · rename_i h
      exact Hm_upd_ne fun (z : b = Dd) => h (by rw [z]; exact m)
  have perm : ∀ b, b ∈ A.flatten ++ ((Dd :: qs) ++ F.X) ↔ b ∈ (Dd :: qs) ++ (A.flatten ++ F.X) := fun b => by
    simp only [List.mem_append]
    constructor <;> (intro h; rcases h with h | h | h <;> simp [h])
  have cperm : ∀ {H : Hp}, cut H (A.flatten ++ ((Dd :: qs) ++ F.X)) = cut H ((Dd :: qs) ++ (A.flatten ++ F.X)) := fun {H} => by
    funext b
    unfold cut
    by_cases h : b ∈ A.flatten ++ ((Dd :: qs) ++ F.X)
    · rw [if_pos h, if_pos ((perm b).mp h)]
    · rw [if_neg h, if_neg fun z => h ((perm b).mpr z)]
  refine ⟨accV, Hm_of e1, by rw [hl]; exact hz, ?_, same_updN (a.same.trans e.same) eD, a.kc.trans e.kc, e.cell.v.upd e1⟩
  cases two with
  | false =>
    obtain ⟨eq, r⟩ := (show qs = [] ∧ _ from h3)
    subst eq
    have st : sto g d := ok
    refine ⟨accV ++ [y], [], Hm_upd_eq e1, by simp [hl], nd, fun p m => ?_, rfl, ?_⟩
    · have e : p = Dd := by simpa using m
      subst e
      exact ⟨eD, _, Hm_upd_eq e1⟩
    · rw [ceq (by simp)]
      have py := p.keep Li.own e.same st
      refine (RepSs.mono (Same.cut e.same _) _ _ r).append (RepSs.one ?_)
      have c := cperm (H := Hm H2 W2)
      rw [← c]
      exact py
  | true =>
    obtain ⟨rows, e3, e4, r⟩ := (show ∃ rows, _ from h3)
    obtain ⟨g1, row, e5⟩ := (show g = .fr ∧ ∃ row, d = .lst row from ok)
    subst g1; subst e5
    obtain ⟨q, ey, qn, xs, qx, rx⟩ := p
    have qD : q ≠ Dd := fun z => by rw [z, h1] at qn; cases qn
    have qq : q ∉ Dd :: qs := fun m => by
      obtain ⟨o, z⟩ := (h2 q m).2
      rw [qn] at z; cases z
    refine ⟨accV ++ [y], qs ++ [q], Hm_upd_eq e1, by simp [hl], ?_, fun p m => ?_, rows ++ [row], by rw [e3]; simp, by rw [e4, ey]; simp, ?_⟩
    · rw [← List.cons_append]
      refine List.nodup_append.mpr ⟨nd, by simp, fun x m z mz => ?_⟩
      have ez : z = q := by simpa using mz
      subst ez
      intro ex
      exact qq (ex ▸ m)
    · rw [← List.cons_append] at m
      rcases List.mem_append.mp m with m | m
      · refine ⟨(h2 p m).1, ?_⟩
        by_cases z : p = Dd
        · subst z; exact ⟨_, Hm_upd_eq e1⟩
        · obtain ⟨o, ho⟩ := (h2 p m).2
          exact ⟨o, by rw [Hm_upd_ne z]; exact e.same _ _ ho⟩
      · have ez : p = q := by simpa using m
        subst ez
        exact ⟨a.same.free qn, _, by rw [Hm_upd_ne qD]; exact qx⟩
    · rw [ceq (by simp)]
      have inc : Same (cut (Hm H W) ((Dd :: qs) ++ (A.flatten ++ F.X))) (cut (Hm H2 W2) ((Dd :: (qs ++ [q])) ++ (A.flatten ++ F.X))) := fun b o h => by
        obtain ⟨k1, k2⟩ := cut_some.mp h
        refine cut_some.mpr ⟨e.same _ _ k1, fun m => ?_⟩
        rcases List.mem_append.mp m with m | m
        · rw [← List.cons_append] at m
          rcases List.mem_append.mp m with m | m
          · exact k2 (List.mem_append_left _ m)
          · have ez : b = q := by simpa using m
            rw [ez, qn] at k1; cases k1
        · exact k2 (List.mem_append_right _ m)
      have off : ∀ {g : List (List D)} {ps : List Addr} {G : Hp}, (∀ b ∈ ps, b ≠ Dd) → RowsO K G (Hm H2 W2) g ps → RowsO K G (Hm (upd H2 Dd (.lst (accV ++ [y]))) W2) g ps := by
        intro g
        induction g with
        | nil => intro ps G _ h; exact h
        | cons x g ih =>
          intro ps G hb h
          obtain ⟨p', qs', ys, k1, k2, k3, k4⟩ := h
          subst k1
          exact ⟨p', qs', ys, rfl, by rw [Hm_upd_ne (hb p' (by simp))]; exact k2, k3, ih (fun b m => hb b (List.mem_cons_of_mem _ m)) k4⟩
      have ndD := (List.nodup_cons.mp nd).1
      refine (off (fun b m z => ndD (z ▸ m)) (r.mono inc e.same)).add (by rw [Hm_upd_ne qD]; exact qx) (RepSs.mono (Same.cutl fun b m => ?_) _ _ rx)
      rcases List.mem_append.mp m with m | m
      · rw [← List.cons_append] at m
        rcases List.mem_append.mp m with m | m
        · exact List.mem_cons_of_mem _ (List.mem_append_right _ (List.mem_append_left _ m))
        · have ez : b = q := by simpa using m
          subst ez; exact List.mem_cons_self
      · rcases List.mem_append.mp m with m | m
        · exact List.mem_cons_of_mem _ (List.mem_append_left _ m)
        · exact List.mem_cons_of_mem _ (List.mem_append_right _ (List.mem_append_right _ m))
end

theorem Post.frm {K : PySem.W.Frag} {A X X' : List Addr} {H0 H : Hp} {g : Tg} {d : D} {v : V} (e : X = X') (h : Post K A X H0 H g d v) : Post K A X' H0 H g d v := e ▸ h
/-- a list comprehension: how it is read, as a value and given to a name on one line -/
structure VC (X : Cx) (e : Expr) (t : SE) : Prop where
  ex : ∃ r : TE, PE X e r ∧ (∀ (i : Nat) (y : Str) (py spos : Pos), X.N[i]? = some y → X.env.scope.names.lookup y = some .local → swapsWith e (some (.Name y py)) spos.line X.env = pure true → PS X (.Assign [.Name y py] e spos) (tAsg r (gName i))) ∧ ∀ s H Q, rdE X.K t s H Q → r s H Q
  mono : MonoE t
theorem VC.ve {X : Cx} {e : Expr} {t : SE} (h : VC X e t) : VE X e t :=
  let ⟨_, p, _, i⟩ := h.ex
  ⟨peI p i, h.mono⟩
theorem lc_read {K : PySem.W.Frag} {it : SI} {f : TgF} {tt : SB} {te : SE} {vs : List Nat} {two : Bool} (mi : MonoI it) (mt : MonoB tt) (me : MonoE te) (hsl : ∀ i ∈ f.slots, i ∈ vs) {s : L2.St} {H : Hp} {Q : VK} (h : rdE K (sLc two it f tt te vs) s H Q) :
    tLc (rdI K it) (tgV K f) (rdB K tt) (rdE K te) vs s H Q := by
  obtain ⟨F, σ, W, A, L, w⟩ := h
  refine ⟨F, σ, W, A, L, mi _ _ _ _ (fun items W1 q J H1 e okJ Dd hD => ?_) w⟩
  have L1 := L.step e
  refine ⟨fun i m H' => i + m = items.length ∧ ∃ W' acc, AccIn K two (A.flatten ++ F.X) Dd W1 H1 W' H' acc ∧ compD f tt te (okC two) (items.drop i) (wipeD σ vs) acc W' fun ds W2 => ∀ v H', Ext (A.flatten ++ F.X) W H W2 H' → Post K A.flatten F.X (Hm H W) (Hm H' W2) (if two = true then .fr2 else .fr) (.lst ds) v → Q v H',
    ⟨items.length, by omega, W1, [], .start L1 hD, by simpa using q⟩, fun i m H' ⟨hm, W', acc, ai, w'⟩ => ?_⟩
  have fr1 : Same (cut (Hm H1 W1) (A.flatten ++ F.X)) H' := fun b o h => Same.unHm _ _ (ai.same _ _ (cut_some.mp h).1)
  have okH := okJ H' fr1
  by_cases hlt : i < items.length
  · rw [List.drop_eq_getElem_cons hlt] at w'
    obtain ⟨go, yl⟩ := okH.1 i _ (List.getElem?_eq_getElem hlt)
    refine .inr ⟨go, fun H3 => ∃ W3 acc3, AccIn K two (A.flatten ++ F.X) Dd W1 H1 W3 H3 acc3 ∧ compD f tt te (okC two) (items.drop (i + 1)) (wipeD σ vs) acc3 W3 fun ds W2 => ∀ v H', Ext (A.flatten ++ F.X) W H W2 H' → Post K A.flatten F.X (Hm H W) (Hm H' W2) (if two = true then .fr2 else .fr) (.lst ds) v → Q v H',
      fun H3 ⟨W3, acc3, a3, w3⟩ => ⟨m - 1, by omega, by omega, W3, acc3, a3, w3⟩, fun x H2 y => ?_⟩
    obtain ⟨qs, Li, hnew, _, fin⟩ := ai.live L1
    have gG : Same (cut (Hm H1 W1) (A.flatten ++ F.X)) (cut (Hm H' W') (A.flatten ++ (F.plus (Dd :: qs) (Hm H' W')).X)) := fun b o h => by
      obtain ⟨k1, k2⟩ := cut_some.mp h
      refine cut_some.mpr ⟨ai.same _ _ k1, fun mm => ?_⟩
      rcases List.mem_append.mp mm with mm | mm
      · exact k2 (List.mem_append_left _ mm)
      · rcases List.mem_append.mp (show b ∈ (Dd :: qs) ++ F.X from mm) with mm | mm
        · rw [hnew b mm] at k1; cases k1
        · exact k2 (List.mem_append_right _ mm)
    obtain ⟨L3, e3, p3⟩ := (Li.wipe vs).item gG (yl x H2 y)
    refine L3.tgt (W0 := W') (H0 := H2) L3.own (.refl _) p3 w' fun σ4 s4 L4 hw w4 => ⟨?_, ?_⟩
    · rw [hw _ hsl, wipe_wipe _ _ _ fun _ m => m]
    · refine L4.test mt w4 fun b W5 H5 w5 L5 e5 => ?_
      cases b with
      | false =>
        have e6 := e3.trans e5
        exact ⟨W5, acc, ai.grow e6.same e6.kc e6.cell.v, w5⟩
      | true =>
        refine L5.one me w5 fun g d W6 y6 H6 w6 L6 e6 p6 => ?_
        obtain ⟨k1, k2, k3⟩ := w6
        have e7 := e3.trans e5
        obtain ⟨accV, z1, z2, z3⟩ := fin W6 H6 g d y6 (e7.trans e6) (p6.back e7.same) k1 k2
        exact ⟨accV, z1, z2, W6, acc ++ [d], z3, k3⟩
  · rw [List.drop_eq_nil_of_le (by omega)] at w'
    obtain ⟨e9, p9⟩ := ai.post L1
    exact .inl ⟨okH.2 i (by omega), w' _ H' (e.trans e9) (p9.back e.same)⟩

theorem vcLc {X : Cx} {elt tg iter : Expr} {ifs : List Expr} {scope : Scope} {own : List (Str × Nat)} {pos : Pos} {it : SI} {f : TgF} {tt : SB} {te : SE} (two : Bool) (hc : X.calm = true) (hN : X.N.Nodup) (hi : VI X tg iter it) (ok : BlkOk X.N X.env.scope scope own) (hsl : ∀ i ∈ f.slots, i ∈ own.map (·.2))
    (hg : ∀ (s : Shared) (H : Hp) (C : Addr) (cl : List (Str × Addr)) (fp : List Addr), VG (X.blk s H scope (compEnvC scope cl C X.env) fp) tg f) (ht : ∀ (s : Shared) (H : Hp) (C : Addr) (cl : List (Str × Addr)) (fp : List Addr), VTs (X.blk s H scope (compEnvC scope cl C X.env) fp) ifs tt)
    (he : ∀ (s : Shared) (H : Hp) (C : Addr) (cl : List (Str × Addr)) (fp : List Addr), VE (X.blk s H scope (compEnvC scope cl C X.env) fp) elt te) (hs : ∀ x, foldedSetIterable iter X.env x = pure x := by intro _; rfl) :
    VC X (.ListComp elt [⟨tg, iter, ifs, 0⟩] scope pos) (sLc two it f tt te (own.map (·.2))) := by
  have mt : MonoB tt := (ht ({} : Shared) (fun _ => none) 0 [] []).mono
  have me : MonoE te := (he ({} : Shared) (fun _ => none) 0 [] []).mono
  exact ⟨⟨_, pe_lc (g := tgV X.K f) (tt := rdB X.K tt) (te := rdE X.K te) hc hN hi.pe ok (fun s H C cl fp => hg s H C cl fp) (fun s H C cl fp => (ht s H C cl fp).pe) (fun s H C cl fp => (he s H C cl fp).pe) hs,
    fun i y py spos hy hl sw => ps_setLc (g := tgV X.K f) (tt := rdB X.K tt) (te := rdE X.K te) hc hN hy hl sw hi.pe ok (fun s H C cl fp => hg s H C cl fp) (fun s H C cl fp => (ht s H C cl fp).pe) (fun s H C cl fp => (he s H C cl fp).pe) hs,
    fun s H Q h => lc_read hi.mono mt me hsl h⟩, mono_sLc hi.mono mt me⟩

/-! ### two clauses -/
def comp2D (f : TgF) (tt : SB) (it1 : SI) (f1 : TgF) (tt1 : SB) (te : SE) (vs1 : List Nat) : List D → SG → List D → Wd → (List D → Wd → Prop) → Prop
  | [], _, acc, W, Q => Q acc W
  | x :: xs, σ, acc, W, Q => tgD f .st x σ fun σ2 => tt σ2 W fun b W1 => if b = true then it1 σ2 W1 fun items1 W2 => compD f1 tt1 te sto items1 (wipeD σ2 vs1) acc W2 fun acc' W3 => comp2D f tt it1 f1 tt1 te vs1 xs σ acc' W3 Q
    else comp2D f tt it1 f1 tt1 te vs1 xs σ acc W1 Q
def sLc2 (it : SI) (f : TgF) (tt : SB) (it1 : SI) (f1 : TgF) (tt1 : SB) (te : SE) (vs vs1 : List Nat) : SE := fun σ W Q => it σ W fun items W1 => comp2D f tt it1 f1 tt1 te vs1 items (wipeD σ vs) [] W1 fun ds W2 => Q .fr (.lst ds) W2
theorem mono_comp2D {f f1 : TgF} {tt tt1 : SB} {it1 : SI} {te : SE} {vs1 : List Nat} (mt : MonoB tt) (mi : MonoI it1) (mt1 : MonoB tt1) (me : MonoE te) : ∀ {items : List D} {σ : SG} {acc : List D} {W : Wd} {Q Q' : List D → Wd → Prop}, (∀ ds W', Q ds W' → Q' ds W') →
    comp2D f tt it1 f1 tt1 te vs1 items σ acc W Q → comp2D f tt it1 f1 tt1 te vs1 items σ acc W Q'
  | [], σ, acc, W, Q, Q', h, w => h _ _ w
  | x :: xs, σ, acc, W, Q, Q', h, w => mono_tgD (fun σ2 q => mt _ _ _ _ (fun b W1 q => by
      cases b with
      | true => exact mi _ _ _ _ (fun items1 W2 q => mono_compD mt1 me (fun acc' W3 q => mono_comp2D mt mi mt1 me h q) q) q
      | false => exact mono_comp2D mt mi mt1 me h q) q) w
theorem RepO.mono2 {K : PySem.W.Frag} {G G' H H' : Hp} {A : List Addr} {v : V} (g : Same G G') (h : ∀ b ∈ A, ∀ o, H b = some o → H' b = some o) : ∀ {sv : SV}, RepO K G H sv v A → RepO K G' H' sv v A
  | .val d, q => RepS.mono g _ _ q
  | .ml ds, ⟨p, e, e2, xs, q, r⟩ => ⟨p, e, e2, xs, h p (by rw [e2]; simp) _ q, RepSs.mono g _ _ r⟩
  | .md ds, ⟨p, e, e2, o, vs, q, r, t⟩ => ⟨p, e, e2, o, vs, h p (by rw [e2]; simp) _ q, r, RepVs.mono g _ _ t⟩
  | .mg r, ⟨p, ps, e, e2, q, t⟩ => by
    subst e2
    refine ⟨p, ps, e, rfl, h p (by simp) _ q, ?_⟩
    have h' : ∀ b ∈ ps, ∀ o, H b = some o → H' b = some o := fun b m => h b (List.mem_cons_of_mem _ m)
    clear h q
    induction r generalizing ps with
    | nil => exact t
    | cons x r ih =>
      obtain ⟨p', qs, xs, e3, e4, e5, t'⟩ := t
      subst e3
      exact ⟨p', qs, xs, rfl, h' p' (by simp) _ e4, RepSs.mono g _ _ e5, ih qs t' fun b m => h' b (List.mem_cons_of_mem _ m)⟩
theorem Live.redo {K : PySem.W.Frag} {F : Frm} {σ : SG} {W W' : Wd} {A : List (List Addr)} {s : L2.St} {H H' Hv : Hp} {ps : List Addr} (L : Live K (F.plus ps Hv) σ W A s H) (sm : ∀ b o, b ∉ ps → Hm H W b = some o → Hm H' W' b = some o) (kc : WdLe W W') (cv : CellV H' W') (tr : ∀ p ∈ ps, ∃ o, Hm H' W' p = some o) : Live K (F.plus ps (Hm H' W')) σ W' A s H' := by
  have hpA : ∀ b ∈ A.flatten, b ∉ ps := fun b m z => L.ax m (show b ∈ ps ++ F.X from List.mem_append_left _ z)
  have fz : Same (cut (Hm H W) (A.flatten ++ (ps ++ F.X))) (cut (Hm H' W') (A.flatten ++ (ps ++ F.X))) := fun b o h => by
    obtain ⟨h1, h2⟩ := cut_some.mp h
    exact cut_some.mpr ⟨sm b o (fun z => h2 (List.mem_append_right _ (List.mem_append_left _ z))) h1, h2⟩
  refine ⟨L.nd, L.al, L.sl, fun b o h => ?_, fun b m => ?_, fun b m => let ⟨o, q, r⟩ := L.trk b m; ⟨o, sm b o (hpA b m) q, r⟩, ?_, L.kc.trans kc, fun i sv h => ?_⟩
  · have h' : (if b ∈ ps then Hm H' W' b else F.B b) = some o := h
    by_cases m : b ∈ ps
    · rw [if_pos m] at h'
      exact ⟨h', fun z => hpA b z m⟩
    · rw [if_neg m] at h'
      obtain ⟨k1, k2⟩ := L.base b o (show (if b ∈ ps then Hv b else F.B b) = some o by rw [if_neg m]; exact h')
      exact ⟨sm b o m k1, k2⟩
  · show (if b ∈ ps then Hm H' W' b else F.B b).isSome = true
    by_cases m' : b ∈ ps
    · rw [if_pos m']
      obtain ⟨o, q⟩ := tr b m'
      rw [q]; rfl
    · rw [if_neg m']
      have q : (if b ∈ ps then Hv b else F.B b).isSome = true := L.xb b m
      rw [if_neg m'] at q
      exact q
  · have c : CellOk (cut (Hm H W) (A.flatten ++ (ps ++ F.X))) H W := L.cell
    cases W with
    | none => cases (show W' = none from kc); trivial
    | some t =>
      obtain ⟨q, rfl⟩ := kc
      obtain ⟨r, a, b, d⟩ := c
      exact ⟨r, fz _ _ a, fz _ _ b, cv⟩
  · obtain ⟨v, a, h1, h2, h3⟩ := L.slot i sv h
    exact ⟨v, a, h1, h2, h3.mono2 fz fun b m o q => sm b o (hpA b (flatten_get h2 m)) q⟩
theorem lc2_read {K : PySem.W.Frag} {it it1 : SI} {f f1 : TgF} {tt tt1 : SB} {te : SE} {vs vs1 : List Nat} (mi : MonoI it) (mt : MonoB tt) (mi1 : MonoI it1) (mt1 : MonoB tt1) (me : MonoE te) (hsl : ∀ i ∈ f.slots, i ∈ vs) (hsl1 : ∀ i ∈ f1.slots, i ∈ vs1) {s : L2.St} {H : Hp} {Q : VK}
    (h : rdE K (sLc2 it f tt it1 f1 tt1 te vs vs1) s H Q) : tLc2 (rdI K it) (tgV K f) (rdB K tt) (rdI K it1) (tgV K f1) (rdB K tt1) (rdE K te) vs vs1 s H Q := by
  obtain ⟨F, σ, W, A, L, w⟩ := h
  refine ⟨F, σ, W, A, L, mi _ _ _ _ (fun items W1 q J H1 e okJ Dd hD => ?_) w⟩
  have L1 := L.step e
  generalize hQ : (fun (ds : List D) (W2 : Wd) => ∀ v H', Ext (A.flatten ++ F.X) W H W2 H' → Post K A.flatten F.X (Hm H W) (Hm H' W2) .fr (.lst ds) v → Q v H') = QQ at q
  refine ⟨fun i m H' => i + m = items.length ∧ ∃ W' acc, AccIn K false (A.flatten ++ F.X) Dd W1 H1 W' H' acc ∧ comp2D f tt it1 f1 tt1 te vs1 (items.drop i) (wipeD σ vs) acc W' QQ,
    ⟨items.length, by omega, W1, [], .start L1 hD, by simpa using q⟩, fun i m H' ⟨hm, W', acc, ai, w'⟩ => ?_⟩
  have fr1 : Same (cut (Hm H1 W1) (A.flatten ++ F.X)) H' := fun b o h => Same.unHm _ _ (ai.same _ _ (cut_some.mp h).1)
  have okH := okJ H' fr1
  by_cases hlt : i < items.length
  · rw [List.drop_eq_getElem_cons hlt] at w'
    obtain ⟨go, yl⟩ := okH.1 i _ (List.getElem?_eq_getElem hlt)
    refine .inr ⟨go, fun H3 => ∃ W3 acc3, AccIn K false (A.flatten ++ F.X) Dd W1 H1 W3 H3 acc3 ∧ comp2D f tt it1 f1 tt1 te vs1 (items.drop (i + 1)) (wipeD σ vs) acc3 W3 QQ,
      fun H3 ⟨W3, acc3, a3, w3⟩ => ⟨m - 1, by omega, by omega, W3, acc3, a3, w3⟩, fun x H2 y => ?_⟩
    obtain ⟨qs, Li, hnew, hqs, _⟩ := ai.live L1
    have eqs := hqs rfl
    subst eqs
    have gG : Same (cut (Hm H1 W1) (A.flatten ++ F.X)) (cut (Hm H' W') (A.flatten ++ (F.plus [Dd] (Hm H' W')).X)) := fun b o h => by
      obtain ⟨k1, k2⟩ := cut_some.mp h
      refine cut_some.mpr ⟨ai.same _ _ k1, fun mm => ?_⟩
      rcases List.mem_append.mp mm with mm | mm
      · exact k2 (List.mem_append_left _ mm)
      · rcases List.mem_append.mp (show b ∈ [Dd] ++ F.X from mm) with mm | mm
        · rw [hnew b mm] at k1; cases k1
        · exact k2 (List.mem_append_right _ mm)
    obtain ⟨L3, e3, p3⟩ := (Li.wipe vs).item gG (yl x H2 y)
    refine L3.tgt (W0 := W') (H0 := H2) L3.own (.refl _) p3 w' fun σ4 s4 L4 hw w4 => ⟨?_, ?_⟩
    · rw [hw _ hsl, wipe_wipe _ _ _ fun _ m => m]
    · refine L4.test mt w4 fun b W5 H5 w5 L5 e5 => ?_
      have e6 := e3.trans e5
      have a5 : AccIn K false (A.flatten ++ F.X) Dd W1 H1 W5 H5 acc := ai.grow e6.same e6.kc e6.cell.v
      cases b with
      | false => exact ⟨W5, acc, a5, w5⟩
      | true =>
        -- the inner clause
        refine ⟨_, σ4, W5, A, L5, mi1 _ _ _ _ (fun items1 W7 q7 J1 H7 e7 okJ1 => ?_) w5⟩
        have a7 : AccIn K false (A.flatten ++ F.X) Dd W1 H1 W7 H7 acc := a5.grow e7.same e7.kc e7.cell.v
        have L7 := L5.step e7
        refine ⟨fun j k H' => j + k = items1.length ∧ ∃ W' acc, AccIn K false (A.flatten ++ F.X) Dd W1 H1 W' H' acc ∧ (∀ b o, b ∉ [Dd] → Hm H7 W7 b = some o → Hm H' W' b = some o) ∧ WdLe W7 W' ∧
            compD f1 tt1 te sto (items1.drop j) (wipeD σ4 vs1) acc W' fun acc' W3 => comp2D f tt it1 f1 tt1 te vs1 (items.drop (i + 1)) (wipeD σ vs) acc' W3 QQ,
          ⟨items1.length, by omega, W7, acc, a7, fun _ _ _ h => h, .refl _, by simpa using q7⟩, fun j k H8 ⟨hk, W8, acc8, a8, sm8, kc8, w8⟩ => ?_⟩
        have fr8 : Same (cut (Hm H7 W7) (A.flatten ++ (F.plus [Dd] (Hm H' W')).X)) H8 := fun b o h => by
          obtain ⟨k1, k2⟩ := cut_some.mp h
          exact Same.unHm _ _ (sm8 b o (fun z => k2 (List.mem_append_right _ (show b ∈ [Dd] ++ F.X from List.mem_append_left _ z))) k1)
        have okH8 := okJ1 H8 fr8
        by_cases hlt1 : j < items1.length
        · rw [List.drop_eq_getElem_cons hlt1] at w8
          obtain ⟨go1, yl1⟩ := okH8.1 j _ (List.getElem?_eq_getElem hlt1)
          refine .inr ⟨go1, fun H3 => ∃ W3 acc3, AccIn K false (A.flatten ++ F.X) Dd W1 H1 W3 H3 acc3 ∧ (∀ b o, b ∉ [Dd] → Hm H7 W7 b = some o → Hm H3 W3 b = some o) ∧ WdLe W7 W3 ∧
              compD f1 tt1 te sto (items1.drop (j + 1)) (wipeD σ4 vs1) acc3 W3 fun acc' W3 => comp2D f tt it1 f1 tt1 te vs1 (items.drop (i + 1)) (wipeD σ vs) acc' W3 QQ,
            fun H3 ⟨W3, acc3, z1, z2, z3, z4⟩ => ⟨k - 1, by omega, by omega, W3, acc3, z1, z2, z3, z4⟩, fun x1 H9 y1 => ?_⟩
          obtain ⟨qs8, _, _, hq8, fin8⟩ := a8.live L1
          have eq8 := hq8 rfl
          subst eq8
          have tr8 : ∀ p ∈ [Dd], ∃ o, Hm H8 W8 p = some o := fun p m => by
            obtain ⟨accV, qs', z1, _⟩ := a8.ex
            have ep : p = Dd := by simpa using m
            subst ep
            exact ⟨_, z1⟩
          have L8 : Live K (F.plus [Dd] (Hm H8 W8)) σ4 W8 A s4 H8 := L7.redo sm8 kc8 a8.cv tr8
          have gG8 : Same (cut (Hm H7 W7) (A.flatten ++ (F.plus [Dd] (Hm H' W')).X)) (cut (Hm H8 W8) (A.flatten ++ (F.plus [Dd] (Hm H8 W8)).X)) := fun b o h => by
            obtain ⟨k1, k2⟩ := cut_some.mp h
            exact cut_some.mpr ⟨sm8 b o (fun z => k2 (List.mem_append_right _ (show b ∈ [Dd] ++ F.X from List.mem_append_left _ z))) k1, k2⟩
          obtain ⟨L9, e9, p9⟩ := (L8.wipe vs1).item gG8 (yl1 x1 H9 y1)
          refine L9.tgt (W0 := W8) (H0 := H9) L9.own (.refl _) p9 w8 fun σ10 s10 L10 hw10 w10 => ⟨?_, ?_⟩
          · rw [hw10 _ hsl1, wipe_wipe _ _ _ fun _ m => m]
          · refine L10.test mt1 w10 fun b W11 H11 w11 L11 e11 => ?_
            have e12 := e9.trans e11
            cases b with
            | false => exact ⟨W11, acc8, a8.grow e12.same e12.kc e12.cell.v, fun b o h1 h2 => e12.same _ _ (sm8 b o h1 h2), kc8.trans e12.kc, w11⟩
            | true =>
              refine L11.one me w11 fun g d W13 y13 H13 w13 L13 e13 p13 => ?_
              obtain ⟨k1, k2, k3⟩ := w13
              obtain ⟨accV, z1, z2, z3⟩ := fin8 W13 H13 g d y13 (e12.trans e13) (p13.back e12.same) k1 k2
              refine ⟨accV, z1, z2, W13, acc8 ++ [d], z3, fun b o h1 h2 => ?_, kc8.trans (e12.trans e13).kc, k3⟩
              rw [Hm_upd_ne (show b ≠ Dd from fun z => h1 (by rw [z]; simp))]
              exact (e12.trans e13).same _ _ (sm8 b o h1 h2)
        · rw [List.drop_eq_nil_of_le (by omega)] at w8
          exact .inl ⟨okH8.2 j (by omega), W8, acc8, a8, w8⟩
  · rw [List.drop_eq_nil_of_le (by omega)] at w'
    obtain ⟨e9, p9⟩ := ai.post L1
    subst hQ
    exact .inl ⟨okH.2 i (by omega), w' _ H' (e.trans e9) (p9.back e.same)⟩

theorem vcLc2 {X : Cx} {elt tg iter tg1 iter1 : Expr} {ifs ifs1 : List Expr} {scope : Scope} {own : List (Str × Nat)} {vs1 : List Nat} {pos : Pos} {it it1 : SI} {f f1 : TgF} {tt tt1 : SB} {te : SE} (hc : X.calm = true) (hN : X.N.Nodup) (hi : VI X tg iter it) (ok : BlkOk X.N X.env.scope scope own) (hv : ∀ i ∈ vs1, i ∈ own.map (·.2))
    (hsl : ∀ i ∈ f.slots, i ∈ own.map (·.2)) (hsl1 : ∀ i ∈ f1.slots, i ∈ vs1)
    (hg : ∀ (s : Shared) (H : Hp) (C : Addr) (cl : List (Str × Addr)) (fp : List Addr), VG (X.blk s H scope (compEnvC scope cl C X.env) fp) tg f) (ht : ∀ (s : Shared) (H : Hp) (C : Addr) (cl : List (Str × Addr)) (fp : List Addr), VTs (X.blk s H scope (compEnvC scope cl C X.env) fp) ifs tt)
    (hi1 : ∀ (s : Shared) (H : Hp) (C : Addr) (cl : List (Str × Addr)) (fp : List Addr), VI (X.blk s H scope (compEnvC scope cl C X.env) fp) tg1 iter1 it1)
    (hg1 : ∀ (s : Shared) (H : Hp) (C : Addr) (cl : List (Str × Addr)) (fp : List Addr), VG (X.blk s H scope (compEnvC scope cl C X.env) fp) tg1 f1) (ht1 : ∀ (s : Shared) (H : Hp) (C : Addr) (cl : List (Str × Addr)) (fp : List Addr), VTs (X.blk s H scope (compEnvC scope cl C X.env) fp) ifs1 tt1)
    (he : ∀ (s : Shared) (H : Hp) (C : Addr) (cl : List (Str × Addr)) (fp : List Addr), VE (X.blk s H scope (compEnvC scope cl C X.env) fp) elt te) (hs : ∀ x, foldedSetIterable iter X.env x = pure x := by intro _; rfl) (hs1 : ∀ env x, foldedSetIterable iter1 env x = pure x := by intro _ _; rfl) :
    VC X (.ListComp elt [⟨tg, iter, ifs, 0⟩, ⟨tg1, iter1, ifs1, 0⟩] scope pos) (sLc2 it f tt it1 f1 tt1 te (own.map (·.2)) vs1) := by
  have mt : MonoB tt := (ht ({} : Shared) (fun _ => none) 0 [] []).mono
  have mt1 : MonoB tt1 := (ht1 ({} : Shared) (fun _ => none) 0 [] []).mono
  have mi1 : MonoI it1 := (hi1 ({} : Shared) (fun _ => none) 0 [] []).mono
  have me : MonoE te := (he ({} : Shared) (fun _ => none) 0 [] []).mono
  exact ⟨⟨_, pe_lc2 (g := tgV X.K f) (tt := rdB X.K tt) (wi1 := rdI X.K it1) (g1 := tgV X.K f1) (tt1 := rdB X.K tt1) (te := rdE X.K te) (vs1 := vs1) hc hN hi.pe ok hv (fun s H C cl fp => hg s H C cl fp) (fun s H C cl fp => (ht s H C cl fp).pe)
      (fun s H C cl fp => (hi1 s H C cl fp).pe) (fun s H C cl fp => hg1 s H C cl fp) (fun s H C cl fp => (ht1 s H C cl fp).pe) (fun s H C cl fp => (he s H C cl fp).pe) hs hs1,
    fun i y py spos hy hl sw => ps_setLc2 (g := tgV X.K f) (tt := rdB X.K tt) (wi1 := rdI X.K it1) (g1 := tgV X.K f1) (tt1 := rdB X.K tt1) (te := rdE X.K te) (vs1 := vs1) hc hN hy hl sw hi.pe ok hv (fun s H C cl fp => hg s H C cl fp) (fun s H C cl fp => (ht s H C cl fp).pe)
      (fun s H C cl fp => (hi1 s H C cl fp).pe) (fun s H C cl fp => hg1 s H C cl fp) (fun s H C cl fp => (ht1 s H C cl fp).pe) (fun s H C cl fp => (he s H C cl fp).pe) hs hs1,
    fun s H Q h => lc2_read hi.mono mt mi1 mt1 me hsl hsl1 h⟩, fun σ W Q Q' h w => hi.mono _ _ _ _ (fun items W1 q => mono_comp2D mt mi1 mt1 me (fun ds W2 q => h _ _ _ q) q) w⟩
/-- a name is given a comprehension's list, on one line -/
theorem vSetC {X : Cx} {e : Expr} {te : SE} {i : Nat} {x : Str} {p pos : Pos} (hi : X.N[i]? = some x) (hx : X.env.scope.names.lookup x = some .local) (h : VC X e te) (sw : swapsWith e (some (.Name x p)) pos.line X.env = pure true) : VS X (.Assign [.Name x p] e pos) (sSet i te) :=
  let ⟨_, _, ps, im⟩ := h.ex
  ⟨psI (ps i x p pos hi hx sw) fun Dn s H q => im _ _ _ (rd_set h.mono q), mono_sSet h.mono⟩
theorem vOwnC {X : Cx} {e : Expr} {te : SE} {i : Nat} {x : Str} {p pos : Pos} (hi : X.N[i]? = some x) (hx : X.env.scope.names.lookup x = some .local) (h : VC X e te) (sw : swapsWith e (some (.Name x p)) pos.line X.env = pure true) : VS X (.Assign [.Name x p] e pos) (sOwn i te) :=
  let ⟨_, _, ps, im⟩ := h.ex
  ⟨psI (ps i x p pos hi hx sw) fun Dn s H q => im _ _ _ (rd_own h.mono q), mono_sOwn h.mono⟩
end VL

/-! VL11: what is lent within an expression; moves; defs; the law's draws. -/
namespace VL
open PySem PySem.Spec PyProof.Rows L2

/-! ### within an expression one's own objects may be read as data that stay -/
def frzV : SV → D
  | .val d => d
  | .ml ds => .lst ds
  | .md kvs => .dct kvs
  | .mg g => .lst (g.map D.lst)
def frzAll (σ : SG) : SG := σ.map fun o => o.map fun x => .val (frzV x)
def flatVs : List (D × D) → Bool
  | [] => true
  | (_, d) :: r => flat d && flatVs r
def flatEl : D → Bool
  | .lst ds => flats ds
  | .dct kvs => flatVs kvs
  | _ => false
def borTag (g : Tg) (d : D) : Tg := match g with
  | .fr => if flatEl d = true then .fr else .b2
  | _ => .b2
def sBor (t : SE) : SE := fun σ W Q => t (frzAll σ) W fun g d W1 => Q (borTag g d) d W1
theorem mono_sBor {t : SE} (m : MonoE t) : MonoE (sBor t) := fun σ W Q Q' h w => m _ _ _ _ (fun g d W1 q => h _ _ _ q) w
theorem nil_flat : ∀ n : Nat, (List.replicate n ([] : List Addr)).flatten = []
  | 0 => rfl
  | n + 1 => by rw [List.replicate_succ, List.flatten_cons, nil_flat n]; rfl
section
variable {K : PySem.W.Frag} {F : Frm} {σ : SG} {W : Wd} {A : List (List Addr)} {s : L2.St} {H : Hp}
theorem Live.lend (L : Live K F σ W A s H) : Live K F (frzAll σ) W (List.replicate A.length []) s H := by
  have nf := nil_flat A.length
  have inc : Same (cut (Hm H W) (A.flatten ++ F.X)) (cut (Hm H W) ((List.replicate A.length ([] : List Addr)).flatten ++ F.X)) := Same.cutl fun b m => by
    rw [nf] at m
    exact List.mem_append_right _ (by simpa using m)
  refine ⟨by rw [nf]; exact List.nodup_nil, by rw [List.length_replicate]; unfold frzAll; rw [List.length_map]; exact L.al, by unfold frzAll; rw [List.length_map]; exact L.sl, fun b o h => ⟨(L.base b o h).1, by rw [nf]; simp⟩, L.xb, by rw [nf]; simp, L.cell.mono inc, L.kc, fun i sv h => ?_⟩
  unfold frzAll at h
  rw [List.getElem?_map] at h
  cases hx : σ[i]? with
  | none => rw [hx] at h; cases h
  | some o =>
    cases o with
    | none => rw [hx] at h; cases h
    | some x =>
      rw [hx] at h
      cases h
      obtain ⟨v, a, h1, h2, h3⟩ := L.slot i x hx
      have hi : i < A.length := (List.getElem?_eq_some_iff.mp h2).1
      refine ⟨v, [], h1, by rw [List.getElem?_replicate, if_pos hi], ?_⟩
      rw [nf, List.nil_append]
      have i2 : Same (cut (Hm H W) (A.flatten ++ F.X)) (cut (Hm H W) F.X) := Same.cutl fun b => mem_snd
      have out : ∀ {p : Addr} {o : HO}, p ∈ a → Hm H W p = some o → cut (Hm H W) F.X p = some o := fun m e => cut_some.mpr ⟨e, L.ax (flatten_get h2 m)⟩
      cases x with
      | val d => exact RepS.mono i2 _ _ h3
      | ml ds =>
        obtain ⟨p, e, e2, n⟩ := h3
        subst e
        exact n.rep i2 fun o q => out (by rw [e2]; simp) q
      | md ds =>
        obtain ⟨p, e, e2, n⟩ := h3
        subst e
        exact n.rep i2 fun o q => out (by rw [e2]; simp) q
      | mg g =>
        obtain ⟨p, ps, e, e2, e3, n⟩ := h3
        subst e
        show RepS K (cut (Hm H W) F.X) (.lst (g.map D.lst)) (.ref p)
        simp only [RepS]
        exact ⟨p, _, rfl, out (by rw [e2]; simp) e3, n.rep i2 fun p' m o q => out (by rw [e2]; simp [m]) q⟩
end
theorem RepVs.flat {K : PySem.W.Frag} {H G : Hp} (e : TupsIn H G) : ∀ (ds : List (D × D)) (vs : List V), flatVs ds = true → RepVs K H ds vs → RepVs K G ds vs
  | [], v, _, h => by simpa [RepVs] using h
  | (_, d) :: ds, v, f, h => by
    simp only [flatVs, Bool.and_eq_true] at f
    simp only [RepVs] at h ⊢
    obtain ⟨x, r, e1, h1, h2⟩ := h
    exact ⟨x, r, e1, RepS.flat e d x f.1 h1, RepVs.flat e ds r f.2 h2⟩
theorem bor_read {K : PySem.W.Frag} {t : SE} (hm : MonoE t) {s : L2.St} {H : Hp} {Q : VK} (h : rdE K (sBor t) s H Q) : rdE K t s H Q := by
  obtain ⟨F, σ, W, A, L, w⟩ := h
  refine ⟨F, frzAll σ, W, List.replicate A.length [], L.lend, hm _ _ _ _ (fun g d W1 q v H1 e1 p => ?_) w⟩
  have nf := nil_flat A.length
  rw [nf] at e1 p
  have e2 : Ext (A.flatten ++ F.X) W H W1 H1 := ⟨e1.same, L.cell.carry e1.same e1.kc e1.cell.v fun _ _ _ h => h, e1.kc⟩
  have own0 : Own [] F.X (Hm H W) := ⟨fun b m => (nomatch m), fun b m => L.xt (List.mem_append_right _ m), fun b m => (nomatch m)⟩
  refine q v H1 e2 ?_
  have gen : Post K A.flatten F.X (Hm H W) (Hm H1 W1) .b2 d v := p.rep own0 e1.same
  cases g with
  | fr =>
    show Post K A.flatten F.X (Hm H W) (Hm H1 W1) (if flatEl d = true then .fr else .b2) d v
    by_cases f : flatEl d = true
    · rw [if_pos f]
      obtain ⟨p0, ev, hn, nd⟩ := p
      refine ⟨p0, ev, hn, ?_⟩
      -- flat parts: only tuples are asked
      have ti : TupsIn (cut (Hm H1 W1) (p0 :: ([] ++ F.X))) (cut (Hm H1 W1) (p0 :: (A.flatten ++ F.X))) := fun b u hb => by
        have key : ∀ o, Hm H1 W1 b = some o → b ∈ A.flatten → OwnO o := fun o e m => by
          obtain ⟨o', e', q⟩ := L.trk b m
          rw [e1.same _ _ e'] at e; cases e
          exact q
        rcases hb with hb | ⟨o, hb⟩
        · obtain ⟨k1, k2⟩ := cut_some.mp hb
          refine .inl (cut_some.mpr ⟨k1, fun m => ?_⟩)
          rcases List.mem_cons.mp m with m | m
          · exact k2 (by rw [m]; simp)
          · rcases List.mem_append.mp m with m | m
            · exact key _ k1 m
            · exact k2 (by simp [m])
        · obtain ⟨k1, k2⟩ := cut_some.mp hb
          refine .inr ⟨o, cut_some.mpr ⟨k1, fun m => ?_⟩⟩
          rcases List.mem_cons.mp m with m | m
          · exact k2 (by rw [m]; simp)
          · rcases List.mem_append.mp m with m | m
            · exact key _ k1 m
            · exact k2 (by simp [m])
      cases d with
      | lst ds =>
        obtain ⟨xs, k1, k2⟩ := nd
        exact ⟨xs, k1, RepSs.flat ti _ _ f k2⟩
      | dct kvs =>
        obtain ⟨o, vs, k1, k2, k3⟩ := nd
        exact ⟨o, vs, k1, k2, RepVs.flat ti _ _ f k3⟩
      | _ => exact nd.elim
    · rw [if_neg f]; exact gen
  | st => exact gen
  | fr2 => exact gen
  | b1 => exact gen
  | b2 => exact gen

theorem vBor {X : Cx} {e : Expr} {t : SE} (h : VE X e t) : VE X e (sBor t) := ⟨peI h.pe fun s H Q q => bor_read h.mono q, mono_sBor h.mono⟩
theorem vcBor {X : Cx} {e : Expr} {t : SE} (h : VC X e t) : VC X e (sBor t) :=
  let ⟨r, p, ps, im⟩ := h.ex
  ⟨⟨r, p, ps, fun s H Q q => im _ _ _ (bor_read h.mono q)⟩, mono_sBor h.mono⟩

/-! ### moves -/
section
variable {X : Cx} {pos : Pos}
/-! ### -/
theorem flatten_move {A : List (List Addr)} {i j : Nat} {a b : List Addr} (n : A.flatten.Nodup) (hi : A[i]? = some a) (hj : A[j]? = some b) (ne : i ≠ j) :
    ((A.set i (a ++ b)).set j []).flatten.Nodup ∧ ∀ x, x ∈ ((A.set i (a ++ b)).set j []).flatten ↔ x ∈ A.flatten := by
  have hil : i < A.length := (List.getElem?_eq_some_iff.mp hi).1
  have hjl : j < A.length := (List.getElem?_eq_some_iff.mp hj).1
  have mem : ∀ x, x ∈ ((A.set i (a ++ b)).set j []).flatten ↔ x ∈ A.flatten := fun x => by
    constructor
    · intro h
      obtain ⟨c, hc, hx⟩ := List.mem_flatten.mp h
      obtain ⟨k, hk⟩ := List.mem_iff_getElem?.mp hc
      rcases get_set hk with ⟨_, e, _⟩ | ⟨_, hk⟩
      · subst e; cases hx
      · rcases get_set hk with ⟨_, e, _⟩ | ⟨_, hk⟩
        · subst e
          rcases List.mem_append.mp hx with hx | hx
          · exact flatten_get hi hx
          · exact flatten_get hj hx
        · exact flatten_get hk hx
    · intro h
      obtain ⟨c, hc, hx⟩ := List.mem_flatten.mp h
      obtain ⟨k, hk⟩ := List.mem_iff_getElem?.mp hc
      have atI : ((A.set i (a ++ b)).set j [])[i]? = some (a ++ b) := by
        rw [List.getElem?_set_ne (Ne.symm ne), List.getElem?_set_self hil]
      by_cases e1 : k = i
      · subst e1
        rw [hi] at hk; cases hk
        exact flatten_get atI (List.mem_append_left _ hx)
      · by_cases e2 : k = j
        · subst e2
          rw [hj] at hk; cases hk
          exact flatten_get atI (List.mem_append_right _ hx)
        · refine flatten_get (i := k) (a := c) ?_ hx
          rw [List.getElem?_set_ne (Ne.symm e2), List.getElem?_set_ne (Ne.symm e1)]
          exact hk
  refine ⟨?_, mem⟩
  -- first out of j, then into i
  have n1 : (A.set j []).flatten.Nodup := nodup_setNil n
  have e : (A.set i (a ++ b)).set j [] = (A.set j []).set i (a ++ b) := List.set_comm _ _ ne
  rw [e]
  have hi' : (A.set j [])[i]? = some a := by rw [List.getElem?_set_ne (Ne.symm ne)]; exact hi
  have n2 : ((A.set j []).set i []).flatten.Nodup := nodup_setNil n1
  have e3 : (A.set j []).set i (a ++ b) = ((A.set j []).set i []).set i (a ++ b) := by rw [List.set_set]
  rw [e3]
  refine nodup_setNew n2 (List.nodup_append.mpr ⟨nodup_part n hi, nodup_part n hj, fun x m y m' e => nodup_apart n hi hj ne m (e ▸ m')⟩) fun p m q => ?_
  obtain ⟨c, hc, hx⟩ := List.mem_flatten.mp q
  obtain ⟨k, hk⟩ := List.mem_iff_getElem?.mp hc
  rcases get_set hk with ⟨_, e, _⟩ | ⟨n3, hk⟩
  · subst e; cases hx
  · rcases get_set hk with ⟨_, e, _⟩ | ⟨n4, hk⟩
    · subst e; cases hx
    · rcases List.mem_append.mp m with m | m
      · exact nodup_apart n hi hk n3 m hx
      · exact nodup_apart n hj hk n4 m hx
/-- objects and data put elsewhere, all that was one's own stays so -/
theorem Live.regroup {K : PySem.W.Frag} {F : Frm} {σ σ' : SG} {W : Wd} {A A' : List (List Addr)} {s s' : L2.St} {H : Hp} (L : Live K F σ W A s H) (nd : A'.flatten.Nodup) (mem : ∀ x, x ∈ A'.flatten ↔ x ∈ A.flatten) (al : A'.length = σ'.length) (sl : s'.length = σ'.length)
    (slot : ∀ (i : Nat) (sv : SV), σ'[i]? = some (some sv) → ∃ v Ai, s'[i]? = some (some v) ∧ A'[i]? = some Ai ∧ RepO K (cut (Hm H W) (A.flatten ++ F.X)) (Hm H W) sv v Ai) : Live K F σ' W A' s' H := by
  have c : cut (Hm H W) (A'.flatten ++ F.X) = cut (Hm H W) (A.flatten ++ F.X) := by
    funext b
    unfold cut
    have e : b ∈ A'.flatten ++ F.X ↔ b ∈ A.flatten ++ F.X := by simp only [List.mem_append, mem]
    by_cases h : b ∈ A.flatten ++ F.X
    · rw [if_pos h, if_pos (e.mpr h)]
    · rw [if_neg h, if_neg fun z => h (e.mp z)]
  exact ⟨nd, al, sl, fun b o h => ⟨(L.base b o h).1, fun m => (L.base b o h).2 ((mem b).mp m)⟩, L.xb, fun b m => L.trk b ((mem b).mp m), by rw [c]; exact L.cell, L.kc, by rw [c]; exact slot⟩
/-- x = y, y one's own, gone behind it -/
def sMv (i j : Nat) : SS := fun D σ W => match σ[j]? with
  | some (some x) => i ≠ j ∧ i < σ.length ∧ D.nx ((σ.set i (some x)).set j none) W
  | _ => False
theorem vMv {i j : Nat} {x y : Str} {p q : Pos} (hN : X.N.Nodup) (hi : X.N[i]? = some x) (hx : Loc X.env.scope x) (hj : X.N[j]? = some y) (hv : Vis X.env.scope y)
    (hd : (y == ("__debug__" : Str)) = false := by decide) (hcd : (y == ("__classdict__" : Str)) = false := by decide)
    (hs : swapsWith (.Name y q) (some (.Name x p)) pos.line X.env = pure false := by rfl) (hf : X.fn x = true ∨ X.env.scope.names.lookup x = some .local := by first | exact .inl rfl | exact .inr rfl | assumption) : VS X (.Assign [.Name x p] (.Name y q) pos) (sMv i j) := by
  refine ⟨psI (ps_set hN hi hx (pe_var hj hv hd hcd) hs hf) fun Dn s H ⟨F, σ, W, A, L, w⟩ => ?_, fun D D' σ W l w => ?_⟩
  · unfold sMv at w
    split at w
    · rename_i x hx
      obtain ⟨ne, hl, w⟩ := w
      obtain ⟨v, b, h1, h2, h3⟩ := L.slot j x hx
      have hi' : A[i]? = some (A[i]'(by rw [L.al]; exact hl)) := List.getElem?_eq_getElem _
      generalize (A[i]'(by rw [L.al]; exact hl)) = a at hi'
      -- what i held is let go first
      have L1 := L.free i
      have h2' : (A.set i [])[j]? = some b := by rw [List.getElem?_set_ne ne]; exact h2
      have hi2 : (A.set i [])[i]? = some [] := List.getElem?_set_self (by rw [L.al]; exact hl)
      obtain ⟨m1, m2⟩ := flatten_move L1.nd hi2 h2' ne
      rw [List.nil_append, List.set_set] at m1 m2
      have fz := L.frozen (A' := A.set i []) fun b => mem_setNil
      refine ⟨v, h1, w _ _ _ (L1.regroup (σ' := (σ.set i (some x)).set j none) (s' := s.set i (some v)) m1 m2 (by simp [L.al]) (by simp [L.sl]) fun k sv hk => ?_)⟩
      rcases get_set hk with ⟨_, e, _⟩ | ⟨nj, hk⟩
      · cases e
      · rcases get_set hk with ⟨e0, e, _⟩ | ⟨ni, hk⟩
        · cases e
          subst e0
          exact ⟨v, b, List.getElem?_set_self (by rw [L.sl]; exact hl), by rw [List.getElem?_set_ne (Ne.symm ne), List.getElem?_set_self (by rw [L.al]; exact hl)], h3.mono fz (.refl _)⟩
        · obtain ⟨u, c, q1, q2, q3⟩ := L.slot k sv hk
          exact ⟨u, c, by rw [List.getElem?_set_ne ni]; exact q1, by rw [List.getElem?_set_ne nj, List.getElem?_set_ne ni]; exact q2, q3.mono fz (.refl _)⟩
    · exact w.elim
  · unfold sMv at w ⊢
    split at w
    · exact ⟨w.1, w.2.1, l.nx _ _ w.2.2⟩
    · exact w.elim
theorem RowsO.off {K : PySem.W.Frag} {G H H' : Hp} : ∀ {g : List (List D)} {ps : List Addr}, (∀ b ∈ ps, H' b = H b) → RowsO K G H g ps → RowsO K G H' g ps
  | [], ps, _, h => h
  | r :: g, ps, hb, ⟨p, qs, xs, e, e2, q, t⟩ => by
    subst e
    exact ⟨p, qs, xs, rfl, (hb p (by simp)).trans e2, q, RowsO.off (fun b m => hb b (List.mem_cons_of_mem _ m)) t⟩
theorem vAppMv {i j : Nat} {x y : Str} {p q apos cpos : Pos} (hN : X.N[i]? = some x) (hv : Vis X.env.scope x) (hNj : X.N[j]? = some y) (hvj : Vis X.env.scope y)
    (hd : (x == ("__debug__" : Str)) = false := by decide) (hcd : (x == ("__classdict__" : Str)) = false := by decide) (hd2 : (y == ("__debug__" : Str)) = false := by decide) (hcd2 : (y == ("__classdict__" : Str)) = false := by decide)
    (hbase : attributeBase (.Name x p) "append" X.env (eval (.Name x p) X.env) = eval (.Name x p) X.env := by rfl)
    (hfew : ((backTo cpos (starEach [.Name y q] X.env)).all (fun x => !x.1) && (backToKw cpos (keywordEach [] X.env)).all (fun x => x.1.isSome)
      && decide (([.Name y q] : List Expr).length + ([] : List Keyword).length + (if ([] : List Keyword).isEmpty then 0 else 1) < 30)) = true := by rfl)
    (hline : (apos.endLine == cpos.line) = true := by rfl) (hse : starEach [.Name y q] X.env = (false, eval (.Name y q) X.env) :: starEach [] X.env := by rfl) (hplain : (backTo cpos (starEach [] X.env)).any (·.1) = false := by rfl)
    (hs : swapsWith (.Call (.Attribute (.Name x p) "append" apos) [.Name y q] [] cpos) none pos.line X.env = pure false := by rfl) :
    VS X (.Expr (.Call (.Attribute (.Name x p) "append" apos) [.Name y q] [] cpos) pos) (sAppMv i j) := by
  refine ⟨psI (ps_expr (pe_bm PySem.F.plainAttrs_list PySem.F.slot_list_append PySem.F.type_list_append mt_append (pe_var hN hv hd hcd) (pa_cons (pe_var hNj hvj hd2 hcd2) pa_nil hse) hbase hfew hline hse hplain) hs) fun Dn s H ⟨F, σ, W, A, L, w⟩ => ?_, fun D D' σ W l w => ?_⟩
  · -- one list grows by the other
    have key : ∀ {sv : SV} {g : List (List D)} {ds : List D}, σ[i]? = some (some sv) → σ[j]? = some (some (.ml ds)) → i ≠ j → g.length < sizeLine →
        (∀ v a, RepO X.K (cut (Hm H W) (A.flatten ++ F.X)) (Hm H W) sv v a → ∃ p ps, v = .ref p ∧ a = p :: ps ∧ Hm H W p = some (.lst (ps.map V.ref)) ∧ RowsO X.K (cut (Hm H W) (A.flatten ++ F.X)) (Hm H W) g ps) →
        (endsOf X.K F Dn).nx ((σ.set i (some (.mg (g ++ [ds])))).set j none) W →
        tDrop (tBM X.K "list" rAppend (tVar i) (tCons (tVar j) tNil)) Dn s H := fun {sv g ds} hi hj ne hz hg w => by
      obtain ⟨v, a, q1, q2, q3⟩ := L.slot i sv hi
      obtain ⟨u, b, r1, r2, r3⟩ := L.slot j _ hj
      obtain ⟨p, ps, e1, e2, e3, rr⟩ := hg v a q3
      obtain ⟨q, f1, f2, xs, f3, rx⟩ := r3
      subst e1; subst f1
      have pne : q ≠ p := fun z => nodup_apart (p := p) L.nd q2 r2 ne (by rw [e2]; simp) (by rw [f2, z]; simp)
      obtain ⟨m1, m2⟩ := flatten_move L.nd q2 r2 ne
      refine ⟨.ref p, q1, .inl ⟨rfl, _, .of (Hm_of e3)⟩, .ref q, r1, p, _, .ref q, rfl, rfl, Hm_of e3, by rw [List.length_map, ← rr.length]; exact hz, ?_⟩
      have L1 : Live X.K F ((σ.set i none).set j none) W ((A.set i (a ++ b)).set j []) s H := L.regroup m1 m2 (by simp [L.al]) (by simp [L.sl]) fun k sv' hk => by
        rcases get_set hk with ⟨_, e, _⟩ | ⟨nj, hk⟩
        · cases e
        · rcases get_set hk with ⟨_, e, _⟩ | ⟨ni, hk⟩
          · cases e
          · obtain ⟨u, c, z1, z2, z3⟩ := L.slot k sv' hk
            exact ⟨u, c, z1, by rw [List.getElem?_set_ne nj, List.getElem?_set_ne ni]; exact z2, z3⟩
      have hil : i < A.length := (List.getElem?_eq_some_iff.mp q2).1
      have hA : ((A.set i (a ++ b)).set j [])[i]? = some (a ++ b) := by rw [List.getElem?_set_ne (Ne.symm ne), List.getElem?_set_self hil]
      have ndA := nodup_part L.nd q2
      rw [e2] at ndA
      have ndp := (List.nodup_cons.mp ndA).1
      have ce : cut (Hm H W) (((A.set i (a ++ b)).set j []).flatten ++ F.X) = cut (Hm H W) (A.flatten ++ F.X) := by
        funext z
        unfold cut
        have e : z ∈ ((A.set i (a ++ b)).set j []).flatten ++ F.X ↔ z ∈ A.flatten ++ F.X := by simp only [List.mem_append, m2]
        by_cases h : z ∈ A.flatten ++ F.X
        · rw [if_pos h, if_pos (e.mpr h)]
        · rw [if_neg h, if_neg fun y => h (e.mp y)]
      have fin := L1.wr (o := .lst (ps.map V.ref ++ [.ref q])) (sv := .mg (g ++ [ds])) q1 hA (p := p) (by rw [e2]; simp) trivial (by
        rw [ce]
        refine ⟨p, ps ++ [q], rfl, by rw [e2, f2]; rfl, by rw [Hm_upd_eq e3]; simp, ?_⟩
        refine (rr.off fun z m => Hm_upd_ne fun (e : z = p) => ndp (e ▸ m)).add ?_ rx
        rw [Hm_upd_ne pne]
        exact f3)
      rw [List.set_comm _ _ (Ne.symm ne), List.set_set] at fin
      exact w _ _ _ fin
    unfold sAppMv at w
    split at w
    · rename_i g ds hi hj
      exact key hi hj w.2.1 w.1 (fun v a h => h) w.2.2
    · rename_i ds hi hj
      refine key (g := []) hi hj w.1 (by rw [sizeLine_eq]; decide) (fun v a ⟨p, e, e2, xs, e3, r⟩ => ⟨p, [], e, e2, ?_, rfl⟩) w.2
      simp only [RepSs] at r
      rw [e3, r]
      rfl
    · exact w.elim
  · unfold sAppMv at w ⊢
    split at w
    · exact ⟨w.1, w.2.1, l.nx _ _ w.2.2⟩
    · exact ⟨w.1, l.nx _ _ w.2⟩
    · exact w.elim
end

/-! ### a def -/
def mkSp (n : Nat) (body : SS) : DSp := fun ds W Q => body { nx := fun _ W => Q .st .non W, rt := fun g d W => Q g d W } (ds.map (fun d => some (.val d)) ++ List.replicate (n - ds.length) none) W
theorem mono_mkSp {n : Nat} {body : SS} (m : MonoS body) : MonoD (mkSp n body) := fun ds W Q Q' h w => m { nx := fun _ W => Q .st .non W, rt := fun g d W => Q g d W } { nx := fun _ W => Q' .st .non W, rt := fun g d W => Q' g d W } _ _ ⟨fun _ _ q => h _ _ _ q, fun _ _ _ q => h _ _ _ q, fun _ _ q => q, fun _ _ q => q⟩ w
section
variable {P : Program} {w : World} {K : PySem.W.Frag} {mg : Str → Option Value} {base : Heap}
/-- a def's start as data -/
theorem Live.start {H : Hp} {W : Wd} {Y : List Addr} {ds : List D} {vs : List V} {N : List Str} (cell : CellOk (cut (Hm H W) Y) H W) (hx : ∀ b ∈ Y, (Hm H W b).isSome = true) (r : RepSs K (cut (Hm H W) Y) ds vs) :
    Live K ⟨Hm H W, Y, W⟩ (ds.map (fun d => some (.val d)) ++ List.replicate (N.length - ds.length) none) W (List.replicate (ds.length + (N.length - ds.length)) []) (L2.start N vs) H := by
  have hl := r.length
  have nf := nil_flat (ds.length + (N.length - ds.length))
  refine ⟨by rw [nf]; exact List.nodup_nil, by simp, by unfold L2.start; simp [hl], fun b o h => ⟨h, by rw [nf]; simp⟩, hx, by rw [nf]; simp, by rw [nf]; exact cell, .refl _, fun i sv h => ?_⟩
  rw [nf, List.nil_append]
  by_cases hi : i < ds.length
  · rw [List.getElem?_append_left (by simpa using hi), List.getElem?_map, List.getElem?_eq_getElem hi] at h
    cases h
    obtain ⟨v, h1, h2⟩ := r.get (List.getElem?_eq_getElem hi)
    refine ⟨v, [], ?_, by rw [List.getElem?_replicate, if_pos (by omega)], h2⟩
    unfold L2.start
    rw [List.getElem?_append_left (by rw [List.length_map, ← hl]; exact hi), List.getElem?_map, h1]
    rfl
  · rw [List.getElem?_append_right (by simpa using hi), List.getElem?_replicate] at h
    split at h <;> cases h
/-- the def at a name of the module, with this text -/
structure DefAt (K : PySem.W.Frag) (mg : Str → Option Value) (x : Str) (st : Stmt) : Prop where
  ex : ∃ (f : Addr) (fd : FuncData), Fun K x x st f fd ∧ mg x = some (.ref f)
/-- how a def with n parameters binds -/
def BindN (x : Str) (st : Stmt) (ps : List Str) : Prop := ∀ (kV doc pm : Value) (an : Option Addr) (cdv ct : Value) (us : List Value), us.length = ps.length → bindArgs (PySem.W.fnOf x x (defArgs st) (defBody st) (defScope st) .none kV doc pm an cdv ct) ⟨us, []⟩ = pure (ps.zip us)
theorem fn_mk {x : Str} {st : Stmt} {f : Addr} {fd : FuncData} {N ps : List Str} {k : Nat} {body : SS} (F : Fun K x x st f fd) (S : FnScope N ps (defScope st)) (hm : MonoS body)
    (hb : ∀ (cdv : Value) (A : Around) (outer : List Env) (s : Shared) (H : Hp) (E : XK), Room k (A.deeper (envOfC x (defScope st) s.heap.objs.size f cdv)) → PSs (cxOf CX0 P w K mg base N x (defScope st) f cdv A outer s H E).nox (defBody st) (rdS K body)) :
    FnOk P w K mg base CX0 (k + 1) f fd ps (toSp K ps.length (mkSp N.length body)) := by
  refine F.ok S (fun vs H Q E h => h.1) fun cdv A outer s H vs Q E hr h => ⟨_, hb cdv A outer s H E hr, ?_⟩
  obtain ⟨hl, ds, W, Y, cell, hx, r, q⟩ := h
  have L := Live.start (N := N) cell hx r
  refine ⟨_, _, W, _, L, hm { nx := fun _ W' => ∀ v H', RetP K ⟨Hm H W, Y, W⟩ W' H' .st .non v → Q v H', rt := fun tg d W' => ∀ v H', RetP K ⟨Hm H W, Y, W⟩ W' H' tg d v → Q v H' } _ _ _ ⟨fun σ' W' q A' s' H' L' => ?_, fun tg d W' q v H' rp => q v H' rp, fun _ _ q => q.elim, fun _ _ q => q.elim⟩ q⟩
  exact q .non H' (L'.ret (g := .st) L'.ext0 Post.ofNon)
theorem def_ok {x : Str} {st : Stmt} {N ps : List Str} {k n : Nat} {body : SS} {A0 : Around} (hA : Room (k + 1) A0) (T : DefAt K mg x st) (S : FnScope N ps (defScope st)) (hn : ps.length = n) (bn : BindN x st ps)
    (hb : ∀ (f : Addr) (cdv : Value) (A : Around) (outer : List Env) (s : Shared) (H : Hp) (E : XK), Room k (A.deeper (envOfC x (defScope st) s.heap.objs.size f cdv)) → VSs (cxOf CX0 P w K mg base N x (defScope st) f cdv A outer s H E).nox (defBody st) body)
    : Callee P w K mg base x (k + 1) n (mkSp N.length body) := by
  obtain ⟨f, fd, F, hg⟩ := T.ex
  have hm : MonoS body := (hb f .none A0 [] ({} : Shared) (fun _ => none) (fun _ _ _ => False) (hA.deeper _)).mono
  subst hn
  exact ⟨⟨f, fd, ps, fn_mk F S hm fun cdv A outer s H E hr => (hb f cdv A outer s H E hr).pe, hg, F.kp, F.binds bn⟩, mono_mkSp hm⟩
end
end VL

/-! VL12: short words; chains; the law's draws. -/
namespace VL
open PySem PySem.Spec PyProof.Rows L2

section
variable {X : Cx} {pos : Pos} {a b c : Expr} {ta tb tc : SE} {es : List Expr} {sa : SA} {k : Nat}
theorem Room.units65 {A : Around} (r : Room k A) : A.units + 65 < cLine := by have := r.un; omega
theorem vChain {op op' : CmpOp} {r r' : R2} {f f' : OpD} (ho : OpR X (compareOp op) r) (ho' : OpR X (compareOp op') r') (hf : OpOk X.K r f) (hf' : OpOk X.K r' f') (mf : MonoO f) (mf' : MonoO f') (ha : VE X a ta) (hb : VE X b tb) (hc : VE X c tc)
    (h1 : lastMarks [op, op'] [b, c] = false := by rfl) : VE X (.Compare a [op, op'] [b, c] pos) (sChain f f' ta tb tc) :=
  ⟨peI (pe_chain ho ho' ha.pe hb.pe hc.pe h1) fun s H Q h => rdChain hf hf' ha.mono hb.mono hc.mono h, mono_sChain mf mf' ha.mono hb.mono hc.mono⟩
theorem vtChain {op op' : CmpOp} {r r' : R2} {f f' : OpD} (ho : OpR X (compareOp op) r) (ho' : OpR X (compareOp op') r') (hf : OpOk X.K r f) (hf' : OpOk X.K r' f') (mf : MonoO f) (mf' : MonoO f') (ha : VE X a ta) (hb : VE X b tb) (hc : VE X c tc)
    (h1 : lastMarks [op, op'] [b, c] = false := by rfl) : VT X (.Compare a [op, op'] [b, c] pos) (sTest (sChain f f' ta tb tc)) := by
  have m := mono_sChain mf mf' ha.mono hb.mono hc.mono
  refine ⟨ptI (pt_chain ho ho' ha.pe hb.pe hc.pe h1) fun s H Q h => ?_, mono_sTest m⟩
  exact rdChain hf hf' ha.mono hb.mono hc.mono (rdTest m h)
/-! ### operators in short -/
theorem vAdd (ha : VE X a ta) (hb : VE X b tb) : VE X (.BinOp a .Add b pos) (sBin dAdd ta tb) := vBin opAdd okAdd mono_dAdd ha hb
theorem vSub (ha : VE X a ta) (hb : VE X b tb) : VE X (.BinOp a .Sub b pos) (sBin dSub ta tb) := vBin op_sub (okI0 fun _ _ _ => by simp [RepS]) mono_dI0 ha hb
theorem vMul (ha : VE X a ta) (hb : VE X b tb) : VE X (.BinOp a .Mult b pos) (sBin dMul ta tb) := vBin opMul okMul mono_dMul ha hb
theorem vFdiv (ha : VE X a ta) (hb : VE X b tb) : VE X (.BinOp a .FloorDiv b pos) (sBin dFdiv ta tb) := vBin op_fdiv (okII fun _ _ _ => by simp [RepS]) mono_dII ha hb
theorem vMod (ha : VE X a ta) (hb : VE X b tb) : VE X (.BinOp a .Mod b pos) (sBin dMod ta tb) := vBin op_mod (okII fun _ _ _ => by simp [RepS]) mono_dII ha hb
theorem vPow (ha : VE X a ta) (hb : VE X b tb) : VE X (.BinOp a .Pow b pos) (sBin dPow ta tb) := vBin op_pow (okII fun _ _ _ => by simp [RepS]) mono_dII ha hb
theorem okLt {K : PySem.W.Frag} : OpOk K (rI0 fun i j => .bl (decide (i < j))) dLt := okI0 fun _ _ _ => by simp [RepS]
theorem okLe {K : PySem.W.Frag} : OpOk K (rI0 fun i j => .bl (decide (i ≤ j))) dLe := okI0 fun _ _ _ => by simp [RepS]
theorem okGt {K : PySem.W.Frag} : OpOk K (rI0 fun i j => .bl (decide (j < i))) dGt := okI0 fun _ _ _ => by simp [RepS]
theorem okGe {K : PySem.W.Frag} : OpOk K (rI0 fun i j => .bl (decide (j ≤ i))) dGe := okI0 fun _ _ _ => by simp [RepS]
theorem opIs {X : Cx} : OpR X (compareOp .Is) rIs2 := OpR.or op_isN op_is_bl
theorem opIsNot {X : Cx} : OpR X (compareOp .IsNot) rIsNot2 := OpR.or op_notN op_isnot_bl
end

/-! ### max, min of a tuple of ints -/
theorem reads_ints {h : Heap} : ∀ {ns : List Int} {us : List Value}, Vals (ns.map V.int) us → ∃ as, ReadsAll h us (ns.map PyData.int) as
  | [], _, .nil => ⟨_, .nil⟩
  | n :: ns, _, .cons r t => by
    obtain ⟨k, rfl⟩ := r
    obtain ⟨as, q⟩ := reads_ints (h := h) t
    exact ⟨_, .cons (.int n k) q⟩
theorem alike_ints (ns : List Int) : PySem.W.AlikeAll (ns.map PyData.int) := by
  refine ⟨fun x hx y hy => ?_, fun x hx e => ?_⟩
  · obtain ⟨a, _, rfl⟩ := List.mem_map.mp hx
    obtain ⟨b, _, rfl⟩ := List.mem_map.mp hy
    rfl
  · obtain ⟨a, _, rfl⟩ := List.mem_map.mp hx
    cases e
theorem depth_ints : ∀ ns : List Int, PyData.depthAll (ns.map PyData.int) ≤ 1
  | [] => by simp [PyData.depthAll]
  | n :: ns => by
    have h := depth_ints ns
    simp only [List.map_cons, PyData.depthAll, PyData.depth]
    omega
theorem foldl_max : ∀ (ns : List Int) (n : Int), ns.foldl max n ∈ n :: ns ∧ ∀ y ∈ n :: ns, y ≤ ns.foldl max n
  | [], n => by simp
  | k :: ns, n => by
    obtain ⟨h1, h2⟩ := foldl_max ns (max n k)
    rw [List.foldl_cons]
    have g : max n k ≤ ns.foldl max (max n k) := h2 _ (by simp)
    refine ⟨?_, fun y hy => ?_⟩
    · rcases List.mem_cons.mp h1 with e | e
      · rw [e]
        rcases Int.le_total n k with q | q
        · rw [Int.max_eq_right q]; simp
        · rw [Int.max_eq_left q]; simp
      · simp [e]
    · rcases List.mem_cons.mp hy with e | hy
      · subst e; omega
      · rcases List.mem_cons.mp hy with e | hy
        · subst e; omega
        · exact h2 y (by simp [hy])
theorem foldl_min : ∀ (ns : List Int) (n : Int), ns.foldl min n ∈ n :: ns ∧ ∀ y ∈ n :: ns, ns.foldl min n ≤ y
  | [], n => by simp
  | k :: ns, n => by
    obtain ⟨h1, h2⟩ := foldl_min ns (min n k)
    rw [List.foldl_cons]
    have g : ns.foldl min (min n k) ≤ min n k := h2 _ (by simp)
    refine ⟨?_, fun y hy => ?_⟩
    · rcases List.mem_cons.mp h1 with e | e
      · rw [e]
        rcases Int.le_total n k with q | q
        · rw [Int.min_eq_left q]; simp
        · rw [Int.min_eq_right q]; simp
      · simp [e]
    · rcases List.mem_cons.mp hy with e | hy
      · subst e; omega
      · rcases List.mem_cons.mp hy with e | hy
        · subst e; omega
        · exact h2 y (by simp [hy])
def rBestT (K : PySem.W.Frag) (le : Int → Int → Prop) : List V → Hp → VK → Prop := fun vs H Q => ∃ (a : Addr) (ns : List Int), vs = [V.ref a] ∧ (SqL K H a (ns.map V.int) ∨ SqT K H a (ns.map V.int)) ∧ 0 < ns.length ∧ ∀ m, m ∈ ns → (∀ y, y ∈ ns → le y m) → Q (.int m) H
section
variable {X : Cx}
theorem opMax1 (hc : X.calm = true) (hu : X.A.units + 65 < cLine) : CallR X (.builtin "max") (rBestT X.K fun y m => y ≤ m) := by
  intro pins s σ H vs us Q I r h
  obtain ⟨a, ns, rfl, hs | hs, hne, q⟩ := h
  · exact cr_max hc pins s σ H [.ref a] us Q I r ⟨a, ns, rfl, hs, hne, q⟩
  · obtain ⟨its, rv, hl, _⟩ := I.tuple hs
    rw [Vals.ref1 r]
    cases ns with
    | nil => exact absurd hne (by simp)
    | cons n ns =>
      obtain ⟨as, hr⟩ := reads_ints (h := s.heap) rv
      have dp := depth_ints (n :: ns)
      refine PySem.W.max_tuple_data (x := .int n) (xs := ns.map .int) (I.ok.hd hc) (show s.heap.IsTuple a its.toArray from hl) (by simpa using hr) (alike_ints (n :: ns)) (by have e : PyData.depthAll (.int n :: ns.map .int) ≤ 1 := dp; omega) fun i v h' tk bs _ rd hk => ?_
      rw [PySem.W.maxD_ints] at rd
      obtain ⟨m1, m2⟩ := foldl_max ns n
      cases rd with
      | int _ t => exact ⟨.int _, H, I.kept hk, ⟨t, rfl⟩, q _ m1 m2⟩
theorem opMin1 (hc : X.calm = true) (hu : X.A.units + 65 < cLine) : CallR X (.builtin "min") (rBestT X.K fun y m => m ≤ y) := by
  intro pins s σ H vs us Q I r h
  obtain ⟨a, ns, rfl, hs | hs, hne, q⟩ := h
  · exact cr_min hc pins s σ H [.ref a] us Q I r ⟨a, ns, rfl, hs, hne, q⟩
  · obtain ⟨its, rv, hl, _⟩ := I.tuple hs
    rw [Vals.ref1 r]
    cases ns with
    | nil => exact absurd hne (by simp)
    | cons n ns =>
      obtain ⟨as, hr⟩ := reads_ints (h := s.heap) rv
      have dp := depth_ints (n :: ns)
      refine PySem.W.min_tuple_data (x := .int n) (xs := ns.map .int) (I.ok.hd hc) (show s.heap.IsTuple a its.toArray from hl) (by simpa using hr) (alike_ints (n :: ns)) (by have e : PyData.depthAll (.int n :: ns.map .int) ≤ 1 := dp; omega) fun i v h' tk bs _ rd hk => ?_
      rw [PySem.W.minD_ints] at rd
      obtain ⟨m1, m2⟩ := foldl_min ns n
      cases rd with
      | int _ t => exact ⟨.int _, H, I.kept hk, ⟨t, rfl⟩, q _ m1 m2⟩
theorem okBest {K : PySem.W.Frag} {le : Int → Int → Prop} : FnDOk K (rBestT K le) (dBest le) := by
  intro A Y W0 H0 W H a ds vs R Q p w k
  unfold dBest at w
  split at w
  · obtain ⟨ns, e, e2, w⟩ := w
    subst e
    obtain ⟨v, rfl, p1⟩ := p.one
    obtain ⟨q, xs, e1, q1, r1, s1⟩ := p1.lst a.own a.ext.same
    rw [RepSs.ints] at r1
    subst r1
    exact ⟨q, ns, by rw [e1], .inl (.of (Hm_of q1)), e2, fun m h1 h2 => a.now Post.ofInt (w m h1 h2) k⟩
  · obtain ⟨ns, e, e2, w⟩ := w
    subst e
    obtain ⟨v, rfl, p1⟩ := p.one
    obtain ⟨q, xs, e1, q1, r1, s1⟩ := p1.tup a.own a.ext.same
    rw [RepSs.ints] at r1
    subst r1
    exact ⟨q, ns, by rw [e1], .inr (Same.seqT Same.unHm q1), e2, fun m h1 h2 => a.now Post.ofInt (w m h1 h2) k⟩
  · exact w.elim
theorem okMax1 {K : PySem.W.Frag} : FnDOk K (rBestT K fun y m => y ≤ m) dMax1 := okBest
theorem okMin1 {K : PySem.W.Frag} : FnDOk K (rBestT K fun y m => m ≤ y) dMin1 := okBest
/-- a constant of the module -/
theorem vGl {x : Str} {v : V} {d : D} {pos : Pos} (hg : Gl X x) (hm : ∃ u, X.mg x = some u ∧ RelV v u) (hr : ∀ H, RepS X.K H d v) (hd : (x == ("__debug__" : Str)) = false := by decide) : VE X (.Name x pos) (sC d) :=
  let ⟨_, e, r⟩ := hm
  vGlob hg e r hr hd
end
/-! ### room -/
abbrev roomA : Around := callerA
theorem roomA_ok {k : Nat} (h : k ≤ 100) : Room k roomA := Room.mono (k := 100) ⟨rfl, by decide, by decide⟩ h

/-! ### the law's draws -/
def takeSp : DSp := fun ds W Q => match ds, W with
  | [.deal a, .int m], some t => a = t.a ∧ 0 < m ∧ t.pos < 2 ^ 60 ∧ ∀ r, 0 ≤ r → r < m → Q .st (.int r) (some { t with pos := t.pos + 1 })
  | _, _ => False
theorem mono_takeSp : MonoD takeSp := by
  intro ds W Q Q' h w
  unfold takeSp at w ⊢
  split at w
  · exact ⟨w.1, w.2.1, w.2.2.1, fun r h1 h2 => h _ _ _ (w.2.2.2 r h1 h2)⟩
  · exact w.elim
end VL

/-! VL13: reckoning with the transformers. -/
namespace VL
open PySem PySem.Spec PyProof.Rows L2

/-! ### loops by what holds between two turns -/
theorem forD_ind {f : TgF} {body : SS} {D : SEnds} (I : List VL.D → SG → Wd → Prop) : ∀ {items : List VL.D} {σ : SG} {W : Wd}, I items σ W →
    (∀ x xs σ W (k : SG → Wd → Prop), (∀ σ W, I xs σ W → k σ W) → I (x :: xs) σ W → tgD f .st x σ fun σ' => body { nx := k, ct := k, bk := D.nx, rt := D.rt } σ' W) →
    (∀ σ W, I [] σ W → D.nx σ W) → forD f body items D σ W
  | [], σ, W, h0, hs, hd => hd _ _ h0
  | x :: xs, σ, W, h0, hs, hd => hs x xs σ W _ (fun σ' W' h => forD_ind I h hs hd) h0
/-- over a list of ints as they are -/
theorem upTo_cons (lo : Int) (n : Nat) : upTo lo (n + 1) = .int lo :: upTo (lo + 1) n := by
  unfold upTo
  rw [List.range_succ_eq_map, List.map_cons, List.map_map]
  congr 1
  · simp
  · apply List.map_congr_left
    intro a _
    simp only [Function.comp]
    congr 1
    omega
theorem upTo_zero (lo : Int) : upTo lo 0 = [] := rfl
theorem forD_up {f : TgF} {body : SS} {D : SEnds} (I : Int → SG → Wd → Prop) {hi : Int} : ∀ {n : Nat} {lo : Int} {σ : SG} {W : Wd}, lo + n = hi → I lo σ W →
    (∀ i σ W (k : SG → Wd → Prop), lo ≤ i → i < hi → (∀ σ W, I (i + 1) σ W → k σ W) → I i σ W → tgD f .st (.int i) σ fun σ' => body { nx := k, ct := k, bk := D.nx, rt := D.rt } σ' W) →
    (∀ σ W, I hi σ W → D.nx σ W) → forD f body (upTo lo n) D σ W
  | 0, lo, σ, W, e, h0, hs, hd => by
    have e' : lo = hi := by omega
    subst e'
    exact hd _ _ h0
  | n + 1, lo, σ, W, e, h0, hs, hd => by
    rw [upTo_cons]
    exact hs lo σ W _ (Int.le_refl _) (by omega) (fun σ' W' h => forD_up I (n := n) (lo := lo + 1) (by omega) h (fun i σ W k h1 h2 => hs i σ W k (by omega) h2) hd) h0
theorem forD_nil {f : TgF} {body : SS} {D : SEnds} {σ : SG} {W : Wd} : forD f body [] D σ W = D.nx σ W := rfl
theorem forD_cons {f : TgF} {body : SS} {D : SEnds} {σ : SG} {W : Wd} {x : VL.D} {xs : List VL.D} : forD f body (x :: xs) D σ W = tgD f .st x σ fun σ' => body { nx := forD f body xs D, ct := forD f body xs D, bk := D.nx, rt := D.rt } σ' W := rfl
theorem compD_nil {f : TgF} {tt : SB} {te : SE} {ok : Tg → D → Prop} {σ : SG} {acc : List D} {W : Wd} {Q : List D → Wd → Prop} : compD f tt te ok [] σ acc W Q = Q acc W := rfl
/-- a comprehension whose element is a function of the item -/
theorem compD_map {f : TgF} {te : SE} {ok : Tg → D → Prop} (g : D → D) : ∀ {items : List D} {σ : SG} {acc : List D} {W : Wd} {Q : List D → Wd → Prop}, acc.length + items.length ≤ sizeLine →
    (∀ x ∈ items, ∀ (k : D → Wd → Prop), k (g x) W → tgD f .st x σ fun σ2 => te σ2 W fun t d W2 => ok t d ∧ k d W2) → Q (acc ++ items.map g) W → compD f bYes te ok items σ acc W Q
  | [], σ, acc, W, Q, hz, hs, hq => by simpa [compD] using hq
  | x :: xs, σ, acc, W, Q, hz, hs, hq => by
    have h := hs x (by simp) (fun d W2 => acc.length < sizeLine ∧ compD f bYes te ok xs σ (acc ++ [d]) W2 Q) ⟨by simp at hz; omega, compD_map g (by simp at hz ⊢; omega) (fun y m => hs y (by simp [m])) (by simpa using hq)⟩
    exact h
/-- .. and whose test is one, too -/
theorem compD_filter {f : TgF} {tt : SB} {te : SE} {ok : Tg → D → Prop} (p : D → Bool) (g : D → D) : ∀ {items : List D} {σ : SG} {acc : List D} {W : Wd} {Q : List D → Wd → Prop}, acc.length + items.length ≤ sizeLine →
    (∀ x ∈ items, ∀ (k : D → Wd → Prop) (k2 : Wd → Prop), (p x = true → k (g x) W) → (p x = false → k2 W) → tgD f .st x σ fun σ2 => tt σ2 W fun b W1 => if b = true then te σ2 W1 fun t d W2 => ok t d ∧ k d W2 else k2 W1) →
    Q (acc ++ (items.filter p).map g) W → compD f tt te ok items σ acc W Q
  | [], σ, acc, W, Q, hz, hs, hq => by simpa [compD] using hq
  | x :: xs, σ, acc, W, Q, hz, hs, hq => by
    refine hs x (by simp) (fun d W2 => acc.length < sizeLine ∧ compD f tt te ok xs σ (acc ++ [d]) W2 Q) (fun W2 => compD f tt te ok xs σ acc W2 Q) (fun e => ?_) (fun e => ?_)
    · exact ⟨by simp at hz; omega, compD_filter p g (by simp at hz ⊢; omega) (fun y m => hs y (by simp [m])) (by simpa [List.filter_cons, e] using hq)⟩
    · exact compD_filter p g (by simp at hz ⊢; omega) (fun y m => hs y (by simp [m])) (by simpa [List.filter_cons, e] using hq)
theorem atI_pos {α : Type} {xs : List α} {i : Int} {v : α} (h : 0 ≤ i) (e : xs[i.toNat]? = some v) : atI xs i = some v := by
  have q := atI_nat e
  rw [Int.toNat_of_nonneg h] at q
  exact q
end VL

set_option maxHeartbeats 4000000
/-! VL14: a law's draws: made, taken; the law's own end. -/
namespace VL
open PySem PySem.Spec PyProof.Rows L2
local macro_rules | `(tactic| walk_at "e") => `(tactic| simp only [sSeq, sNil, sOwn, sSet, sFor, sIfS, sFn, aNil, aCons, sC, sVar, sv, sBin, sUn, sTest, sRng1, sRng2, sRngD, sIter, itemsOf, frozenTg, dLst, dTup, dMin2, dF2, dLen, dAbs, dInt, dF1, dIx, dI0, dII, dPow, dMod, dFdiv, dAdd, dMul, dSub, dLt, dLe, dGt, dGe, dSum,
  ownOf, sto, stoB, est, el, tgD, allSto, sApp, sPut, putML, List.getElem?_cons_succ, List.getElem?_cons_zero, List.set_cons_succ, List.set_cons_zero, List.map_cons, List.map_nil, List.all_cons, List.all_nil, Bool.and_true, Bool.true_and, if_true, if_false, and_true, true_and, List.length_nil, List.length_cons, reduceIte, Bool.false_eq_true, decide_eq_true_eq])
def b_deal3 : SS := sSeq (sOwn 1 (sFn dLst (aNil))) (sSeq (sFor (sRng1 (aCons (sFn dMin2 (aCons (sFn dLen (aCons (sVar 0) (aNil))) (aCons (sC (.int 63)) (aNil)))) (aNil))) (.name 2) (sSeq (sSet 3 (sFn dAbs (aCons (sFn dInt (aCons (sBin dIx (sVar 0) (sVar 2)) (aNil))) (aNil)))) (sIfS (sTest (sBin dGe (sVar 3) (sBin dPow (sC (.int 10)) (sC (.int 18))))) (sFor (sRng1 (aCons (sC (.int 40)) (aNil))) (.name 4) (sIfS (sTest (sBin dGt (sVar 3) (sC (.int 0)))) (sSeq (sApp 1 (sBin dMod (sVar 3) (sC (.int 1009)))) (sSet 3 (sBin dFdiv (sVar 3) (sC (.int 1009))))) (sNil))) (sSeq (sSet 3 (sBin dAdd (sBin dAdd (sBin dMul (sBin dMod (sVar 3) (sC (.int 2147483629))) (sC (.int 48271))) (sBin dMul (sVar 2) (sC (.int 69621)))) (sC (.int 11)))) (sFor (sRng1 (aCons (sC (.int 5)) (aNil))) (.name 4) (sSeq (sSet 3 (sBin dMod (sBin dAdd (sBin dAdd (sBin dMul (sVar 3) (sC (.int 16807))) (sC (.int 12345))) (sVar 4)) (sC (.int 2147483647)))) (sApp 1 (sBin dMod (sBin dFdiv (sVar 3) (sC (.int 7))) (sC (.int 1009)))))))))) (sSet 5 (sBin dAdd (sFn dSum (aCons (sVar 1) (aNil))) (sFn dLen (aCons (sVar 0) (aNil))))))
theorem deal3 (ns : List Int) (h : ns.length ≤ 63) (D : SEnds) (hD : ∀ (row : List Int) tot o2 o3 o4, D.nx [some (.val (.scr ns)), some (.ml (row.map .int)), o2, o3, o4, some (.val (.int tot))] none) : b_deal3 D [some (.val (.scr ns)), none, none, none, none, none] none := by
  unfold b_deal3
  walk_at "e"
  have e63 : (if (63 : Int) < (ns.length : Int) then (63 : Int) else (ns.length : Int)) = (ns.length : Int) := by rw [if_neg (by omega)]
  rw [e63]
  refine ⟨Nat.zero_le _, by omega, by omega, ?_⟩
  refine forD_up (hi := (ns.length : Int)) (fun i σ W => W = none ∧ ∃ (row : List Int) (o2 o3 o4 : Option SV), σ = [some (.val (.scr ns)), some (.ml (row.map .int)), o2, o3, o4, none] ∧ (row.length : Int) ≤ 40 * i) (by omega) ⟨rfl, [], none, none, none, rfl, by simp⟩ ?_ ?_
  · rintro i σ W k h0 h1 hk ⟨rfl, row, o2, o3, o4, rfl, hl⟩
    have hx : ∃ n, atI ns i = some n := ⟨_, atI_pos h0 (List.getElem?_eq_getElem (show i.toNat < ns.length by omega))⟩
    obtain ⟨n, hn⟩ := hx
    walk_at "e"
    refine ⟨n, hn, ⟨by decide, by decide, by decide⟩, ?_⟩
    generalize (if n < 0 then -n else n) = c0
    split
    · rename_i hc
      refine ⟨by decide, by decide, ?_⟩
      refine forD_up (hi := 40) (fun j σ W => W = none ∧ ∃ (row : List Int) (o2 o4 : Option SV) (c : Int), σ = [some (.val (.scr ns)), some (.ml (row.map .int)), o2, some (.val (.int c)), o4, none] ∧ (row.length : Int) ≤ 40 * i + j) (by decide) ⟨rfl, row, _, o4, _, rfl, by omega⟩ ?_ ?_
      · rintro j σ W k2 g0 g1 hk2 ⟨rfl, row, o2, o4, c, rfl, hl⟩
        walk_at "e"
        split
        · refine ⟨by decide, ?_, ⟨by decide, by decide⟩, ?_⟩
          · rw [List.length_map, sizeLine_eq]; omega
          · exact hk2 _ _ ⟨rfl, row ++ [c % 1009], _, _, _, by rw [List.map_append]; rfl, by rw [List.length_append]; simp; omega⟩
        · exact hk2 _ _ ⟨rfl, row, _, _, _, rfl, by omega⟩
      · rintro σ W ⟨rfl, row, o2, o4, c, rfl, hl⟩
        exact hk _ _ ⟨rfl, row, _, _, _, rfl, by omega⟩
    · refine ⟨by decide, .inr (by decide), .inr (by decide), by decide, by decide, ?_⟩
      refine forD_up (hi := 5) (fun j σ W => W = none ∧ ∃ (row : List Int) (o2 o4 : Option SV) (c : Int), σ = [some (.val (.scr ns)), some (.ml (row.map .int)), o2, some (.val (.int c)), o4, none] ∧ (row.length : Int) ≤ 40 * i + j) (by decide) ⟨rfl, row, _, o4, _, rfl, by omega⟩ ?_ ?_
      · rintro j σ W k2 g0 g1 hk2 ⟨rfl, row, o2, o4, c, rfl, hl⟩
        walk_at "e"
        refine ⟨.inr (by decide), by decide, ⟨by decide, by decide⟩, by decide, ?_, ?_⟩
        · rw [List.length_map, sizeLine_eq]; omega
        · exact hk2 _ _ ⟨rfl, row ++ [_], _, _, _, by rw [List.map_append]; rfl, by rw [List.length_append]; simp; omega⟩
      · rintro σ W ⟨rfl, row, o2, o4, c, rfl, hl⟩
        exact hk _ _ ⟨rfl, row, _, _, _, rfl, by omega⟩
  · rintro σ W ⟨rfl, row, o2, o3, o4, rfl, hl⟩
    walk_at "e"
    exact ⟨row, rfl, hD row _ _ _ _⟩

/-! ### one draw -/
def takeRd (K : PySem.W.Frag) : TS :=
  tSeq (tAsg (tOp (rIxL K) (tOp (rIxL K) (tVar 0) (tC (.int 1))) (tC (.int 0))) (gName 2))
  (tSeq (tAsg (tOp (rI0 fun i j => .int (i + j)) (tVar 2) (tC (.int 1))) (gSub (tOp (rIxL K) (tVar 0) (tC (.int 1))) (tC (.int 0)) rSetL))
  (tSeq (tIfS (tTest (tOp (rI0 fun i j => .bl (decide (i < j))) (tVar 2) (tCB (fun xs H Q => ∃ p ys, xs = [.ref p] ∧ (SqL K H p ys ∨ SqT K H p ys) ∧ Q (.int ys.length) H) (tCons (tOp (rIxL K) (tVar 0) (tC (.int 0))) tNil))))
    (tRet (tOp (rI (fun _ j => 0 < j) fun i j => .int (i % j)) (tOp (rIxL K) (tOp (rIxL K) (tVar 0) (tC (.int 0))) (tVar 2)) (tVar 1))) tNext)
  (tRet (tOp (rI (fun _ j => 0 < j) fun i j => .int (i % j)) (tOp (rI CDiv fun i j => .int (i / j)) (tOp (rI0 fun i j => .int (i + j)) (tOp (rI0 fun i j => .int (i + j)) (tOp (rI CMul fun i j => .int (i * j)) (tVar 2) (tC (.int 7919)))
    (tOp (rI CMul fun i j => .int (i * j)) (tOp (rIxL K) (tVar 0) (tC (.int 2))) (tC (.int 31)))) (tOp (rI CMul fun i j => .int (i * j)) (tOp (rI CMul fun i j => .int (i * j)) (tVar 2) (tVar 2)) (tC (.int 17)))) (tC (.int 3))) (tVar 1)))))
theorem take_read {K : PySem.W.Frag} {vs : List V} {H : Hp} {Q : VK} {E : XK} (h : toSp K 2 takeSp vs H Q E) : takeRd K { nx := fun _ H' => Q .non H', rt := Q } (L2.start ["deal", "many", "at"] vs) H := by
  obtain ⟨hl, ds, W, Y, cell, hx, rep, w⟩ := h
  unfold takeSp at w
  split at w
  · rename_i a m t
    obtain ⟨ea, hm, hp, w⟩ := w
    subst ea
    have ev : vs = [.ref t.a, .int m] := by
      simp only [RepSs, RepS] at rep
      obtain ⟨x, r, e1, e2, y, r2, e3, e4, e5⟩ := rep
      rw [e1, e2, e3, e4, e5]
    subst ev
    obtain ⟨r, c1, c2, c3⟩ := cell
    have k1 := Hm_of (cut_some.mp c1).1
    have k2 := Hm_of (cut_some.mp c2).1
    have n1 := (Hm_some.mp (cut_some.mp c1).1).2
    have n2 := (Hm_some.mp (cut_some.mp c2).1).2
    have st : L2.start ["deal", "many", "at"] [V.ref t.a, V.int m] = [some (.ref t.a), some (.int m), none] := rfl
    rw [st]
    refine ⟨.ref t.a, rfl, t.a, _, 1, .ref t.c, rfl, rfl, .of k1, rfl, t.c, _, 0, .int t.pos, rfl, rfl, .of c3, rfl, ?_⟩
    refine ⟨.int t.pos, rfl, t.pos, 1, rfl, rfl, .ref t.a, rfl, t.a, _, 1, .ref t.c, rfl, rfl, .of k1, rfl, t.c, _, 0, 0, rfl, rfl, c3, rfl, ?_⟩
    -- the counter is one more
    generalize hH : upd H t.c (.lst ([V.int t.pos].set 0 (.int (t.pos + 1)))) = H'
    have u1 : H' t.a = some (.lst [.ref r, .ref t.c, .int t.tot]) := by rw [← hH, upd_ne n1]; exact k1
    have u2 : H' r = some (.lst (t.row.map V.int)) := by rw [← hH, upd_ne n2]; exact k2
    have u3 : H' t.c = some (.lst [.int (t.pos + 1)]) := by rw [← hH, upd_same]; rfl
    have same : Hm H' (some { t with pos := t.pos + 1 }) = Hm H (some t) := by
      funext b
      show (if b = t.c then none else H' b) = (if b = t.c then none else H b)
      by_cases e : b = t.c
      · rw [if_pos e, if_pos e]
      · rw [if_neg e, if_neg e, ← hH, upd_ne e]
    have fin : ∀ x : Int, Q (.int (x % m)) H' := fun x => by
      refine w (x % m) (Int.emod_nonneg _ (by omega)) (Int.emod_lt_of_pos _ hm) _ _ ⟨?_, ?_, ⟨t.pos + 1, rfl⟩, ?_⟩
      · rw [same]; exact .refl _
      · rw [same]
        exact ⟨r, c1, c2, by show H' t.c = _; rw [u3]; rfl⟩
      · show RepS K _ _ _
        simp [RepS]
    refine ⟨.int t.pos, rfl, .ref t.a, rfl, t.a, _, 0, .ref r, rfl, rfl, .of u1, rfl, r, _, rfl, .inl (.of u2), t.pos, _, rfl, rfl, _, rfl, ?_⟩
    by_cases hlt : (t.pos : Int) < ((t.row.map V.int).length : Nat)
    · rw [decide_eq_true hlt]
      refine iteT ?_
      rw [List.length_map] at hlt
      have hlt' : t.pos < t.row.length := by omega
      refine ⟨.ref t.a, rfl, t.a, _, 0, .ref r, rfl, rfl, .of u1, rfl, .int t.pos, rfl, r, _, t.pos, .int t.row[t.pos], rfl, rfl, .of u2, ?_, .int m, rfl, _, m, rfl, rfl, hm, ?_⟩
      · exact atI_nat (by rw [List.getElem?_map, List.getElem?_eq_getElem hlt']; rfl)
      · exact fin _
    · rw [decide_eq_false hlt]
      refine iteF ?_
      refine ⟨.int t.pos, rfl, _, _, rfl, rfl, .inr ⟨by decide, by decide⟩, .ref t.a, rfl, t.a, _, 2, .int t.tot, rfl, rfl, .of u1, rfl, _, _, rfl, rfl, .inr ⟨by decide, by decide⟩, _, _, rfl, rfl, .int t.pos, rfl, .int t.pos, rfl, _, _, rfl, rfl, .inl ⟨by omega, by omega⟩,
        _, _, rfl, rfl, .inr ⟨by decide, by decide⟩, _, _, rfl, rfl, _, _, rfl, rfl, ⟨by decide, by decide⟩, .int m, rfl, _, m, rfl, rfl, hm, ?_⟩
      exact fin _
  · exact w.elim
section
variable {P : Program} {w : World} {K : PySem.W.Frag} {mg : Str → Option Value} {base : Heap}
theorem take_mk {st : Stmt} (T : DefAt K mg "_law_take" st) (S : FnScope ["deal", "many", "at"] ["deal", "many"] (defScope st)) (bn : BindN "_law_take" st ["deal", "many"])
    (hb : ∀ (f : Addr) (cdv : Value) (A : Around) (outer : List Env) (s : Shared) (H : Hp) (E : XK), PSs (cxOf CX0 P w K mg base ["deal", "many", "at"] "_law_take" (defScope st) f cdv A outer s H E).nox (defBody st) (takeRd K)) : Callee P w K mg base "_law_take" 1 2 takeSp := by
  obtain ⟨f, fd, F, hg⟩ := T.ex
  exact ⟨⟨f, fd, _, F.ok (k := 0) S (fun vs H Q E h => h.1) fun cdv A outer s H vs Q E hr h => ⟨_, hb f cdv A outer s H E, take_read h⟩, hg, F.kp, F.binds bn⟩, mono_takeSp⟩

/-! ### the draws made -/
def spDeal (K : PySem.W.Frag) : Sp := fun vs H Q _ => ∃ (a : Addr) (ns : List Int), vs = [.ref a] ∧ SqL K H a (ns.map V.int) ∧ ns.length ≤ 63 ∧
  ∀ (row : List Int) (tot : Int) (p r c : Addr) (H' : Hp), Same H H' → H p = none → H r = none → H c = none → p ≠ c → r ≠ c → H' p = some (.lst [.ref r, .ref c, .int tot]) → H' r = some (.lst (row.map V.int)) → H' c = some (.lst [.int 0]) → Q (.ref p) H'
def dealRd (K : PySem.W.Frag) (t1 t2 t3 : SS) : TS := tSeq (rdS K t1) (tSeq (rdS K t2) (tSeq (rdS K t3) (tRet (tLst (tCons (tVar 1) (tCons (tLst (tCons (tC (.int 0)) tNil)) (tCons (tVar 5) tNil)))))))
theorem rd_seq {t u : SS} (ht : MonoS t) {Dn : Ends} {s : L2.St} {H : Hp} (h : rdS K (sSeq t u) Dn s H) : tSeq (rdS K t) (rdS K u) Dn s H := by
  obtain ⟨F, σ, W, A, L, w⟩ := h
  refine ⟨F, σ, W, A, L, ht { endsOf K F Dn with nx := u (endsOf K F Dn) } _ σ W ⟨fun σ' W' q A' s' H' L' => ?_, fun _ _ _ q => q, fun _ _ q => q, fun _ _ q => q⟩ w⟩
  exact ⟨F, σ', W', A', L', q⟩
theorem deal_read {t1 t2 t3 : SS} (e : sSeq t1 (sSeq t2 t3) = b_deal3) (m1 : MonoS t1) (m2 : MonoS t2) {vs : List V} {H : Hp} {Q : VK} {E : XK} (h : spDeal K vs H Q E) : dealRd K t1 t2 t3 { nx := fun _ H' => Q .non H', rt := Q } (L2.start ["script", "row", "k", "cell", "turn", "total"] vs) H := by
  obtain ⟨a, ns, rfl, hS, hl, q⟩ := h
  have L := Live.start (K := K) (H := H) (W := none) (Y := []) (ds := [.scr ns]) (vs := [.ref a]) (N := ["script", "row", "k", "cell", "turn", "total"]) trivial (fun b m => (nomatch m)) (by
    simp only [RepSs, RepS]
    exact ⟨_, _, rfl, ⟨a, rfl, by rw [cut_nil]; exact hS, hl⟩, rfl⟩)
  -- the three statements as one, then the list
  have key : rdS K (sSeq t1 (sSeq t2 t3)) { nx := tRet (tLst (tCons (tVar 1) (tCons (tLst (tCons (tC (.int 0)) tNil)) (tCons (tVar 5) tNil)))) { nx := fun _ H' => Q .non H', rt := Q }, rt := Q } (L2.start ["script", "row", "k", "cell", "turn", "total"] [.ref a]) H := by
    rw [e]
    refine ⟨_, _, none, _, L, deal3 ns hl _ fun row tot o2 o3 o4 A' s' H' L' => ?_⟩
    obtain ⟨v1, a1, z1, z2, p1, z3, z4, xs, z5, z6⟩ := L'.slot 1 _ rfl
    obtain ⟨v5, a5, y1, y2, y3⟩ := L'.slot 5 _ rfl
    have ex : xs = row.map V.int := RepSs.ints.mp z6
    have e5 : v5 = .int tot := by simpa [RepO, RepS] using y3
    subst ex; subst e5
    have hn : H p1 = none := by
      cases hq : H p1 with
      | none => rfl
      | some o => exact absurd (flatten_get z2 (by rw [z4]; simp)) (L'.base p1 o hq).2
    have sm : Same H H' := fun b o ho => (L'.base b o ho).1
    have z5' : H' p1 = some (.lst (row.map V.int)) := z5
    refine ⟨v1, z1, ⟨by show 1 ≤ sizeLine; rw [sizeLine_eq]; decide, fun c hc => ⟨.int tot, y1, by show 3 ≤ sizeLine; rw [sizeLine_eq]; decide, fun p hp => ?_⟩⟩⟩
    have hcp : p ≠ c := fun z => by rw [z, upd_same] at hp; cases hp
    have hp1c : p1 ≠ c := fun z => by rw [z, hc] at z5'; cases z5'
    have hp1p : p1 ≠ p := fun z => by rw [← z, upd_ne hp1c, z5'] at hp; cases hp
    have hpn : H' p = none := by rw [upd_ne hcp] at hp; exact hp
    refine q row tot p p1 c _ (fun b o ho => ?_) (sm.free hpn) hn (sm.free hc) hcp hp1c ?_ ?_ ?_
    · have hb := sm b o ho
      rw [upd_ne (ne_of_none hb hpn), upd_ne (ne_of_none hb hc)]
      exact hb
    · rw [upd_same, z3]
    · rw [upd_ne hp1p, upd_ne hp1c]; exact z5'
    · rw [upd_ne hcp.symm, upd_same]
  have k2 := rd_seq m1 key
  obtain ⟨F, σ, W, A, L0, w0⟩ := k2
  refine ⟨F, σ, W, A, L0, ?_⟩
  refine m1 _ _ _ _ ?_ w0
  exact ⟨fun σ' W' hq A' s' H' L' => rd_seq m2 (hq A' s' H' L'), fun _ _ _ hq => hq, fun _ _ hq => hq, fun _ _ hq => hq⟩
theorem deal_mk {st : Stmt} {t1 t2 t3 : SS} (T : DefAt K mg "_law_deal" st) (S : FnScope ["script", "row", "k", "cell", "turn", "total"] ["script"] (defScope st)) (e : sSeq t1 (sSeq t2 t3) = b_deal3) (m1 : MonoS t1) (m2 : MonoS t2)
    (hb : ∀ (f : Addr) (cdv : Value) (A : Around) (outer : List Env) (s : Shared) (H : Hp) (E : XK), Room 0 (A.deeper (envOfC "_law_deal" (defScope st) s.heap.objs.size f cdv)) → PSs (cxOf CX0 P w K mg base ["script", "row", "k", "cell", "turn", "total"] "_law_deal" (defScope st) f cdv A outer s H E).nox (defBody st) (dealRd K t1 t2 t3)) :
    ∃ f fd, FnOk P w K mg base CX0 1 f fd ["script"] (spDeal K) ∧ mg "_law_deal" = some (.ref f) ∧ PySem.W.keepIn K (.ref f) = true ∧ (BindN "_law_deal" st ["script"] → Binds K fd ["script"] []) := by
  obtain ⟨f, fd, F, hg⟩ := T.ex
  exact ⟨f, fd, F.ok (k := 0) S (fun vs H Q E ⟨a, ns, h, _⟩ => by rw [h]; rfl) fun cdv A outer s H vs Q E hr h => ⟨_, hb f cdv A outer s H E hr, deal_read e m1 m2 h⟩, hg, F.kp, fun bn => F.binds bn⟩

/-! ### the law -/
def spLaw (K : PySem.W.Frag) : Sp := fun vs H Q _ => ∃ (a : Addr) (ns : List Int), vs = [.ref a] ∧ SqL K H a (ns.map V.int) ∧ ns.length ≤ 63 ∧ ∀ H', Q (.bl true) H'
/-- what the law's text behind its first row is to give -/
def LawOk (n : Nat) (body : SS) : Prop := ∀ (ns row : List Int) (tot : Int) (a c : Addr), ns.length ≤ 63 →
  body { nx := fun _ _ => False, rt := fun _ d _ => d = .bl true } (some (.val (.scr ns)) :: some (.val (.deal a)) :: List.replicate n none) (some ⟨a, c, row, tot, 0⟩)
theorem law_read {N : List Str} {n : Nat} {body : SS} (hN : N.length = n + 2) (hm : MonoS body) (hL : LawOk n body) {vs : List V} {H : Hp} {Q : VK} {E : XK} (h : spLaw K vs H Q E) :
    tSeq (tAsg (tCall (spDeal K) [] E0 (tCons (tVar 0) tNil)) (gName 1)) (rdS K body) { nx := fun _ H' => Q .non H', rt := Q } (L2.start N vs) H := by
  obtain ⟨a, ns, rfl, hS, hl, q⟩ := h
  have st : L2.start N [V.ref a] = some (.ref a) :: List.replicate (n + 1) none := by
    unfold L2.start
    rw [hN]
    rfl
  rw [st]
  refine ⟨.ref a, rfl, a, ns, rfl, hS, hl, fun row tot p r c H' sm np nr nc pc rc hp hr hc => ?_⟩
  have ws := hL ns row tot p c hl
  have sm' : Same H (Hm H' (some ⟨p, c, row, tot, 0⟩)) := fun b o h => Hm_some.mpr ⟨sm _ _ h, fun z => by
    have z' : b = c := z
    rw [z', nc] at h; cases h⟩
  have nf := nil_flat (n + 2)
  have L : Live K ⟨Hm H' (some ⟨p, c, row, tot, 0⟩), [], some ⟨p, c, row, tot, 0⟩⟩ (some (.val (.scr ns)) :: some (.val (.deal p)) :: List.replicate n none) (some ⟨p, c, row, tot, 0⟩) (List.replicate (n + 2) []) (some (.ref a) :: some (.ref p) :: List.replicate n none) H' := by
    refine ⟨by rw [nf]; exact List.nodup_nil, by simp, by simp, fun b o h => ⟨h, by rw [nf]; simp⟩, fun b m => (nomatch m), by rw [nf]; simp, ?_, .refl _, fun i sv h => ?_⟩
    · rw [nf]
      show CellOk (cut (Hm H' _) []) _ _
      rw [cut_nil]
      exact ⟨r, Hm_some.mpr ⟨hp, pc⟩, Hm_some.mpr ⟨hr, rc⟩, hc⟩
    · rw [nf]
      show ∃ v Ai, _ ∧ _ ∧ RepO K (cut (Hm H' _) []) _ _ _ _
      rw [cut_nil]
      match i, h with
      | 0, h =>
        cases h
        exact ⟨.ref a, [], rfl, rfl, by show RepS K _ _ _; simp only [RepS]; exact ⟨a, rfl, sm'.seq hS, hl⟩⟩
      | 1, h =>
        cases h
        exact ⟨.ref p, [], rfl, rfl, by show RepS K _ _ _; simp [RepS]⟩
      | i + 2, h =>
        have h' : (List.replicate n (none : Option SV))[i]? = some (some sv) := h
        rw [List.getElem?_replicate] at h'
        split at h' <;> cases h'
  refine ⟨_, _, _, _, L, ?_⟩
  refine hm _ _ _ _ ?_ ws
  refine ⟨fun _ _ h => h.elim, fun tg d W' h v H2 rp => ?_, fun _ _ h => h.elim, fun _ _ h => h.elim⟩
  have e : d = .bl true := h
  subst e
  have ev : v = .bl true := by
    have r4 := rp.post
    cases tg with
    | fr => obtain ⟨_, _, _, nd⟩ := r4; exact nd.elim
    | st => simpa [RetPost, RepS] using r4
    | fr2 => simpa [RetPost, RepS] using r4
    | b1 => simpa [RetPost, RepS] using r4
    | b2 => simpa [RetPost, RepS] using r4
  subst ev
  exact q H2
end

section
variable {P : Program} {w : World} {K : PySem.W.Frag} {mg : Str → Option Value} {base : Heap}
theorem def_at {h : Heap} {x : Str} {st : Stmt} {f : Addr} {oc : Value} {od an : Option Addr} {osl : Array (Option Value)} {kV doc pm cdv ct : Value} (X : K.In h) (G : h.Ns mainGlobals mg) (a : PySem.W.nsIn K mainGlobals x = some (some (.ref f)))
    (l : K.lookup f = some ⟨oc, od, .func (PySem.W.fnOf x x (defArgs st) (defBody st) (defScope st) .none kV doc pm an cdv ct), osl⟩) (c : PySem.W.codeIn K cdv x = true) (k : PySem.W.keepIn K (.ref f) = true) : DefAt K mg x st :=
  ⟨f, _, fun_mk l c k, PySem.W.mg_of X G a⟩
theorem con_at {h : Heap} {x : Str} {v : V} {u : Value} (X : K.In h) (G : h.Ns mainGlobals mg) (a : PySem.W.nsIn K mainGlobals x = some (some u)) (r : RelV v u) : ∃ u, mg x = some u ∧ RelV v u := ⟨u, PySem.W.mg_of X G a, r⟩
theorem callee_false {x : Str} {st : Stmt} {ps : List Str} {k n : Nat} (T : DefAt K mg x st) (bn : BindN x st ps) : Callee P w K mg base x k n (fun _ _ _ => False) := by
  obtain ⟨f, fd, F, hg⟩ := T.ex
  exact ⟨⟨f, fd, ps, ⟨fun vs H Q E ⟨_, _, _, _, _, _, _, h⟩ => h.elim, fun _ _ _ _ _ _ _ _ _ _ _ _ _ ⟨_, _, _, _, _, _, _, h⟩ => h.elim⟩, hg, F.kp, F.binds bn⟩, fun _ _ _ _ _ h => h⟩
theorem law_fin {l : PySem.W.OpenLaw} {st : Stmt} {N : List Str} {fa : Addr} {k n : Nat} {body : SS} (T : DefAt K mg "law" st) (hfa : mg "law" = some (.ref fa)) (S : FnScope N ["script"] (defScope st)) (bn : BindN "law" st ["script"]) (hN : N.length = n + 2) (hm : MonoS body) (hL : LawOk n body)
    (hb : ∀ (base : Heap) (f : Addr) (cdv : Value) (A : Around) (outer : List Env) (s : Shared) (H : Hp) (E : XK), Room k (A.deeper (envOfC "law" (defScope st) s.heap.objs.size f cdv)) →
      PSs (cxOf CX0 l.prog w K mg base N "law" (defScope st) f cdv A outer s H E).nox (defBody st) (tSeq (tAsg (tCall (spDeal K) [] E0 (tCons (tVar 0) tNil)) (gName 1)) (rdS K body))) :
    ∃ fd : FuncData, (∀ (s : Shared) (v : Value), BindsTo s fd ⟨[v], []⟩ [("script", v)]) ∧ ∀ base : Heap, K.In base → base.Ns mainGlobals mg → FnOk l.prog w K mg base CX0 (k + 1) fa fd ["script"] (spLaw K) := by
  obtain ⟨f, fd, F, hg⟩ := T.ex
  have e := hfa.symm.trans hg
  cases e
  obtain ⟨oc, od, kV, doc, pm, an, cdv, ct, osl, efd, lk, hcd⟩ := F.ex
  refine ⟨fd, fun s v => .of_eq ?_, fun base _ _ => ?_⟩
  · rw [efd]
    exact bn kV doc pm an cdv ct [v] rfl
  · exact F.ok S (fun vs H Q E ⟨a, ns, h, _⟩ => by rw [h]; rfl) fun cdv A outer s H vs Q E hr h => ⟨_, hb base fa cdv A outer s H E hr, law_read hN hm hL h⟩
end
end VL

set_option maxHeartbeats 4000000
/-! VL15: more for reckoning. -/
namespace VL
open PySem PySem.Spec PyProof.Rows L2
/-- a loop that ends early where p fails -/
theorem forD_all {α : Type} {f : TgF} {body : SS} {Dn : SEnds} (enc : α → D) (p : α → Bool) (I : SG → Wd → Prop) : ∀ {items : List α} {σ : SG} {W : Wd}, I σ W →
    (∀ x σ W (k : SG → Wd → Prop), x ∈ items → I σ W → (p x = true → ∀ σ W, I σ W → k σ W) → (p x = false → items.all p = false) → tgD f .st (enc x) σ fun σ' => body { nx := k, ct := k, bk := Dn.nx, rt := Dn.rt } σ' W) →
    (items.all p = true → ∀ σ W, I σ W → Dn.nx σ W) → forD f body (items.map enc) Dn σ W
  | [], σ, W, h0, hs, hd => hd rfl _ _ h0
  | x :: xs, σ, W, h0, hs, hd => hs x σ W _ (by simp) h0 (fun e σ' W' h => forD_all enc p I h (fun y σ W k m hi hk hf => hs y σ W k (by simp [m]) hi hk fun e2 => by rw [List.all_cons, hf e2, Bool.and_false]) fun e2 => hd (by rw [List.all_cons, e, e2]; rfl)) fun e => by rw [List.all_cons, e]; rfl
/-- a loop over encoded items, one after another -/
theorem forD_enc {α : Type} {f : TgF} {body : SS} {Dn : SEnds} (enc : α → D) (I : List α → SG → Wd → Prop) : ∀ {items : List α} {σ : SG} {W : Wd}, I items σ W →
    (∀ x xs σ W (k : SG → Wd → Prop), I (x :: xs) σ W → (∀ σ W, I xs σ W → k σ W) → tgD f .st (enc x) σ fun σ' => body { nx := k, ct := k, bk := Dn.nx, rt := Dn.rt } σ' W) →
    (∀ σ W, I [] σ W → Dn.nx σ W) → forD f body (items.map enc) Dn σ W
  | [], σ, W, h0, hs, hd => hd _ _ h0
  | x :: xs, σ, W, h0, hs, hd => hs x xs σ W _ h0 fun σ' W' h => forD_enc enc I h hs hd
theorem compD_enc {α : Type} {f : TgF} {te : SE} {ok : Tg → D → Prop} (enc : α → D) (g : α → D) : ∀ {items : List α} {σ : SG} {acc : List D} {W : Wd} {Q : List D → Wd → Prop}, acc.length + items.length ≤ sizeLine →
    (∀ x ∈ items, ∀ (k : D → Wd → Prop), k (g x) W → tgD f .st (enc x) σ fun σ2 => te σ2 W fun t d W2 => ok t d ∧ k d W2) → Q (acc ++ items.map g) W → compD f bYes te ok (items.map enc) σ acc W Q
  | [], σ, acc, W, Q, hz, hs, hq => by simpa [compD] using hq
  | x :: xs, σ, acc, W, Q, hz, hs, hq => by
    have h := hs x (by simp) (fun d W2 => acc.length < sizeLine ∧ compD f bYes te ok (xs.map enc) σ (acc ++ [d]) W2 Q) ⟨by simp at hz; omega, compD_enc enc g (by simp at hz ⊢; omega) (fun y m => hs y (by simp [m])) (by simpa using hq)⟩
    exact h
/-- .. the draws may go on: the world counts, too -/
theorem compD_W {α : Type} {f : TgF} {te : SE} {ok : Tg → D → Prop} (enc : α → D) (I : List D → List α → Wd → Prop) {σ : SG} {Q : List D → Wd → Prop} : ∀ {items : List α} {acc : List D} {W : Wd}, acc.length + items.length ≤ sizeLine → I acc items W →
    (∀ x xs acc W, I acc (x :: xs) W → ∀ (k : D → Wd → Prop), (∀ d W', I (acc ++ [d]) xs W' → k d W') → tgD f .st (enc x) σ fun σ2 => te σ2 W fun t d W2 => ok t d ∧ k d W2) → (∀ acc W, I acc [] W → Q acc W) → compD f bYes te ok (items.map enc) σ acc W Q
  | [], acc, W, hz, h0, hs, hq => hq _ _ h0
  | x :: xs, acc, W, hz, h0, hs, hq => by
    have h := hs x xs acc W h0 (fun d W2 => acc.length < sizeLine ∧ compD f bYes te ok (xs.map enc) σ (acc ++ [d]) W2 Q) fun d W' h2 => ⟨by simp at hz; omega, compD_W enc I (by simp at hz ⊢; omega) h2 hs hq⟩
    exact h
theorem upTo_map (lo : Int) (n : Nat) : upTo lo n = (List.range n).map fun i : Nat => D.int (lo + i) := rfl
theorem downTo_map (hi : Int) (n : Nat) : downTo hi n = (List.range n).map fun i : Nat => D.int (hi - i) := rfl
theorem atI_rng {α : Type} {n : Nat} {f : Nat → α} {i : Nat} (h : i < n) : atI ((List.range n).map f) (i : Int) = some (f i) :=
  atI_nat (by rw [List.getElem?_map, List.getElem?_range h]; rfl)
theorem atI_rngZ {α : Type} {n : Nat} {f : Nat → α} (h : 0 < n) : atI ((List.range n).map f) 0 = some (f 0) := atI_rng (i := 0) h
theorem ixN_nat {n i : Nat} (h : i < n) : ixN n (i : Int) = some i := by
  unfold ixN
  split
  · split
    · simp
    · omega
  · omega
theorem set_rng {α : Type} {n : Nat} {f : Nat → α} {i : Nat} {v : α} : ((List.range n).map f).set i v = (List.range n).map fun j => if j = i then v else f j := by
  apply List.ext_getElem
  · simp
  · intro j h1 h2
    simp only [List.length_set, List.length_map, List.length_range] at h1
    rw [List.getElem_set]
    simp only [List.getElem_map, List.getElem_range]
    by_cases e : i = j
    · simp [e]
    · simp [e, Ne.symm e]
theorem cutD_init {xs : List D} : cutD xs none (some (-1)) = xs.dropLast := by
  unfold cutD HT.sIx
  rw [List.dropLast_eq_take]
  simp
  congr 1
  omega
theorem cutD_tail {xs : List D} : cutD xs (some 1) none = xs.drop 1 := by
  unfold cutD HT.sIx
  simp
  cases xs with
  | nil => simp
  | cons x xs => simp
end VL

set_option maxHeartbeats 4000000
/-! VL16: what each operator is at each kind of value: for reckoning by simp. -/
namespace VL
open PySem PySem.Spec PyProof.Rows L2
def isI (d : D) (P : Int → Prop) : Prop := match d with
  | .int j => P j
  | _ => False
def isB (d : D) (P : Bool → Prop) : Prop := match d with
  | .bl j => P j
  | _ => False
theorem isI_int {j : Int} {P : Int → Prop} : isI (.int j) P = P j := Eq.trans rfl rfl
theorem isB_bl {j : Bool} {P : Bool → Prop} : isB (.bl j) P = P j := Eq.trans rfl rfl
section
variable {t u : Tg} {R : Tg → D → Prop} {i j : Int} {a b : List D} {x y d : D} {σ : SG} {W : Wd} {Q : Tg → D → Wd → Prop} {QB : Bool → Wd → Prop} {QI : List D → Wd → Prop} {ta tb tc : SE} {p q : Bool} {z z2 : Str} {g : List (List D)}
theorem sv_val {R : Tg → D → Prop} : sv (.val d) R = R .st d := Eq.trans rfl rfl
theorem sv_ml : sv (.ml a) R = R .b1 (.lst a) := Eq.trans rfl rfl
theorem sv_mg : sv (.mg g) R = R .b2 (.lst (g.map D.lst)) := Eq.trans rfl rfl
theorem sv_md {kvs : List (D × D)} : sv (.md kvs) R = R .b1 (.dct kvs) := Eq.trans rfl rfl
theorem dAdd_int : dAdd t (.int i) u (.int j) R = R .st (.int (i + j)) := Eq.trans rfl rfl
theorem dAdd_str : dAdd t (.str z) u (.str z2) R = (z.length + z2.length ≤ sizeLine ∧ R .st (.str (z ++ z2))) := Eq.trans rfl rfl
theorem dAdd_lst : dAdd t (.lst a) u (.lst b) R = (a.length + b.length ≤ sizeLine ∧ est t a ∧ est u b ∧ R .fr (.lst (a ++ b))) := Eq.trans rfl rfl
theorem dAdd_tup : dAdd t (.tup a) u (.tup b) R = (a.length + b.length ≤ sizeLine ∧ est t a ∧ est u b ∧ R .st (.tup (a ++ b))) := Eq.trans rfl rfl
theorem dI0_int {f : Int → Int → D} : dI0 f t (.int i) u (.int j) R = R .st (f i j) := Eq.trans rfl rfl
theorem dII_int {C : Int → Int → Prop} {f : Int → Int → D} : dII C f t (.int i) u (.int j) R = (C i j ∧ R .st (f i j)) := Eq.trans rfl rfl
theorem dMul_int : dMul t (.int i) u (.int j) R = (CMul i j ∧ R .st (.int (i * j))) := Eq.trans rfl rfl
theorem dMul_lst : dMul t (.lst a) u (.int j) R = (-(2 ^ 63) ≤ j ∧ j < 2 ^ 63 ∧ a.length * j.toNat ≤ sizeLine ∧ est t a ∧ R .fr (.lst (List.replicate j.toNat a).flatten)) := Eq.trans rfl rfl
theorem dMul_tup : dMul t (.tup a) u (.int j) R = (a ≠ [] ∧ 2 ≤ j ∧ j ≤ 1000 ∧ a.length ≤ 1000 ∧ est t a ∧ R .st (.tup (List.replicate j.toNat a).flatten)) := Eq.trans rfl rfl
theorem dEq_int : dEqG false t (.int i) u (.int j) R = R .st (.bl (decide (i = j))) := Eq.trans rfl rfl
theorem dNe_int : dEqG true t (.int i) u (.int j) R = R .st (.bl (!decide (i = j))) := Eq.trans rfl rfl
theorem dEq_str : dEqG false t (.str z) u (.str z2) R = R .st (.bl (decide (z = z2))) := Eq.trans rfl rfl
theorem dNe_str : dEqG true t (.str z) u (.str z2) R = R .st (.bl (!decide (z = z2))) := Eq.trans rfl rfl
theorem dEq_bl : dEqG false t (.bl p) u (.bl q) R = R .st (.bl (decide (p = q))) := Eq.trans rfl rfl
theorem dNe_bl : dEqG true t (.bl p) u (.bl q) R = R .st (.bl (!decide (p = q))) := Eq.trans rfl rfl
theorem dEq_tup : dEqG false t (.tup a) u y R = (eqOk (.tup a) ∧ eqOk y ∧ R .st (.bl (deq (.tup a) y))) := by cases y <;> rfl
theorem dNe_tup : dEqG true t (.tup a) u y R = (eqOk (.tup a) ∧ eqOk y ∧ R .st (.bl (!deq (.tup a) y))) := by cases y <;> rfl
theorem dEq_lst : dEqG false t (.lst a) u y R = (eqOk (.lst a) ∧ eqOk y ∧ R .st (.bl (deq (.lst a) y))) := by cases y <;> rfl
theorem dNe_lst : dEqG true t (.lst a) u y R = (eqOk (.lst a) ∧ eqOk y ∧ R .st (.bl (!deq (.lst a) y))) := by cases y <;> rfl
theorem dIs_non : dIsG false t x u .non R = R .st (.bl (isNon x)) := by cases x <;> rfl
theorem dIsNot_non : dIsG true t x u .non R = R .st (.bl (!isNon x)) := by cases x <;> rfl
theorem dIs_bl : dIsG false t (.bl p) u (.bl q) R = R .st (.bl (decide (p = q))) := Eq.trans rfl rfl
theorem dIn_lst : dInG false t x u (.lst a) R = (eqOk x ∧ eqOk (.lst a) ∧ R .st (.bl (a.any fun z => deq z x))) := Eq.trans rfl rfl
theorem dIn_tup : dInG false t x u (.tup a) R = (eqOk x ∧ eqOk (.tup a) ∧ R .st (.bl (a.any fun z => deq z x))) := Eq.trans rfl rfl
theorem dNotIn_lst : dInG true t x u (.lst a) R = (eqOk x ∧ eqOk (.lst a) ∧ R .st (.bl (!a.any fun z => deq z x))) := Eq.trans rfl rfl
theorem dNotIn_tup : dInG true t x u (.tup a) R = (eqOk x ∧ eqOk (.tup a) ∧ R .st (.bl (!a.any fun z => deq z x))) := Eq.trans rfl rfl
theorem dIx_lst : dIx t (.lst a) u (.int i) R = ∃ d, atI a i = some d ∧ R (el t) d := Eq.trans rfl rfl
theorem dIx_tup : dIx t (.tup a) u (.int i) R = ∃ d, atI a i = some d ∧ R (el t) d := Eq.trans rfl rfl
theorem ex_some {α : Type} {o : Option α} {v : α} {P : α → Prop} (h : o = some v) : (∃ d, o = some d ∧ P d) = P v := by
  subst h
  exact propext ⟨fun ⟨d, e, h⟩ => by cases e; exact h, fun h => ⟨_, rfl, h⟩⟩
theorem dIx_lst_rng {n k : Nat} {f : Nat → D} (h : k < n) : dIx t (.lst ((List.range n).map f)) u (.int (k : Nat)) R = R (el t) (f k) := ex_some (atI_rng h)
theorem dIx_tup_rng {n k : Nat} {f : Nat → D} (h : k < n) : dIx t (.tup ((List.range n).map f)) u (.int (k : Nat)) R = R (el t) (f k) := ex_some (atI_rng h)
theorem dIx_lst_rng0 {n : Nat} {f : Nat → D} (h : 0 < n) : dIx t (.lst ((List.range n).map f)) u (.int 0) R = R (el t) (f 0) := ex_some (atI_rngZ h)
theorem dIx_tup_rng0 {n : Nat} {f : Nat → D} (h : 0 < n) : dIx t (.tup ((List.range n).map f)) u (.int 0) R = R (el t) (f 0) := ex_some (atI_rngZ h)
theorem atI_cons0 {α : Type} {x : α} {l : List α} : atI (x :: l) 0 = some x := atI_nat (j := 0) rfl
theorem atI_cons1 {α : Type} {x y : α} {l : List α} : atI (x :: y :: l) 1 = some y := atI_nat (j := 1) rfl
theorem atI_cons2 {α : Type} {x y w : α} {l : List α} : atI (x :: y :: w :: l) 2 = some w := atI_nat (j := 2) rfl
theorem atI_last {α : Type} {l : List α} {v : α} (h : l.getLast? = some v) : atI l (-1) = some v := by
  have hl : 0 < l.length := by cases l with | nil => cases h | cons => simp
  unfold atI ixN
  rw [if_neg (by decide), if_pos (by omega)]
  show l[((-1 : Int) + l.length).toNat]? = some v
  rw [List.getLast?_eq_getElem?] at h
  rw [← h]
  congr 1
  omega
theorem dIx_tup_rngL {n : Nat} {f : Nat → D} (h : 0 < n) : dIx t (.tup ((List.range n).map f)) u (.int (-1)) R = R (el t) (f (n - 1)) := ex_some (atI_last (by obtain ⟨k, rfl⟩ : ∃ k, n = k + 1 := ⟨n - 1, by omega⟩; rw [List.range_succ, List.map_append]; simp))
theorem dIx_lst_0 : dIx t (.lst (x :: a)) u (.int 0) R = R (el t) x := ex_some atI_cons0
theorem dIx_tup_0 : dIx t (.tup (x :: a)) u (.int 0) R = R (el t) x := ex_some atI_cons0
theorem dIx_lst_1 : dIx t (.lst (x :: y :: a)) u (.int 1) R = R (el t) y := ex_some atI_cons1
theorem dIx_tup_1 : dIx t (.tup (x :: y :: a)) u (.int 1) R = R (el t) y := ex_some atI_cons1
theorem dIx_lst_2 : dIx t (.lst (x :: y :: d :: a)) u (.int 2) R = R (el t) d := ex_some atI_cons2
theorem dIx_tup_2 : dIx t (.tup (x :: y :: d :: a)) u (.int 2) R = R (el t) d := ex_some atI_cons2
theorem dSl_lst {lo hi : Option Int} : dSl t (.lst a) lo hi R = (est t a ∧ R .fr (.lst (cutD a lo hi))) := Eq.trans rfl rfl
theorem dSl_tup {lo hi : Option Int} : dSl t (.tup a) lo hi R = (est t a ∧ R .st (.tup (cutD a lo hi))) := Eq.trans rfl rfl
theorem dLen_lst : dLen [(t, .lst a)] R = R .st (.int a.length) := Eq.trans rfl rfl
theorem dLen_tup : dLen [(t, .tup a)] R = R .st (.int a.length) := Eq.trans rfl rfl
theorem dLen_str : dLen [(t, .str z)] R = (z.length ≤ sizeLine ∧ R .st (.int z.length)) := Eq.trans rfl rfl
theorem dLen_scr {ns : List Int} : dLen [(t, .scr ns)] R = R .st (.int ns.length) := Eq.trans rfl rfl
theorem dList_lst : dList [(t, .lst a)] R = (est t a ∧ R .fr (.lst a)) := Eq.trans rfl rfl
theorem dList_tup : dList [(t, .tup a)] R = (est t a ∧ R .fr (.lst a)) := Eq.trans rfl rfl
theorem dTuple_lst : dTuple [(t, .lst a)] R = (est t a ∧ R .st (.tup a)) := Eq.trans rfl rfl
theorem dTuple_tup : dTuple [(t, .tup a)] R = (est t a ∧ R .st (.tup a)) := Eq.trans rfl rfl
theorem dF1_int {f : Int → Int} : dF1 f [(t, .int i)] R = R .st (.int (f i)) := Eq.trans rfl rfl
theorem dF2_int {f : Int → Int → Int} : dF2 f [(t, .int i), (u, .int j)] R = R .st (.int (f i j)) := Eq.trans rfl rfl
theorem dNeg_int : dNeg t (.int i) R = R .st (.int (-i)) := Eq.trans rfl rfl
theorem dIsi_non {T : String} : dIsi T t .non R = R .st (.bl (isTy "NoneType" T)) := Eq.trans rfl rfl
theorem dIsi_bl {T : String} : dIsi T t (.bl p) R = R .st (.bl (isTy "bool" T)) := Eq.trans rfl rfl
theorem dIsi_int {T : String} : dIsi T t (.int i) R = R .st (.bl (isTy "int" T)) := Eq.trans rfl rfl
theorem dIsi_str {T : String} : dIsi T t (.str z) R = R .st (.bl (isTy "str" T)) := Eq.trans rfl rfl
theorem dIsi_tup {T : String} : dIsi T t (.tup a) R = R .st (.bl (isTy "tuple" T)) := Eq.trans rfl rfl
theorem dIsi_lst {T : String} : dIsi T t (.lst a) R = R .st (.bl (isTy "list" T)) := Eq.trans rfl rfl
theorem dIsi_dct {T : String} {kvs : List (D × D)} : dIsi T t (.dct kvs) R = R .st (.bl (isTy "dict" T)) := Eq.trans rfl rfl
theorem itemsOf_lst {P : List D → Prop} : itemsOf t (.lst a) P = (frozenTg t = true ∧ P a) := Eq.trans rfl rfl
theorem itemsOf_tup {P : List D → Prop} : itemsOf t (.tup a) P = (est t a ∧ P a) := Eq.trans rfl rfl
theorem sTest_eq : sTest ta σ W QB = ta σ W fun _ d W1 => isB d fun b => QB b W1 := Eq.trans rfl rfl
theorem sChain_eq {f f' : OpD} : sChain f f' ta tb tc σ W Q = ta σ W fun t x W1 => tb σ W1 fun u y W2 => f t x u y fun _ d => isB d fun b => if b = true then tc σ W2 fun v z W3 => f' u y v z fun g e => Q g e W3 else Q .st (.bl false) W2 := by
  unfold sChain
  congr 1; funext t x W1; congr 1; funext u y W2; congr 1; funext g d
  cases d with
  | bl b => cases b <;> rfl
  | _ => rfl
theorem sAnd_eq : sAnd ta tb σ W Q = ta σ W fun _ x W1 => isB x fun b => if b = true then tb σ W1 Q else Q .st (.bl false) W1 := by
  unfold sAnd
  congr 1; funext t x W1
  cases x with
  | bl b => cases b <;> rfl
  | _ => rfl
theorem sOr_eq : sOr ta tb σ W Q = ta σ W fun _ x W1 => isB x fun b => if b = true then Q .st (.bl true) W1 else tb σ W1 Q := by
  unfold sOr
  congr 1; funext t x W1
  cases x with
  | bl b => cases b <;> rfl
  | _ => rfl
theorem sNot_eq : sNot ta σ W Q = ta σ W fun _ x W1 => isB x fun b => Q .st (.bl (!b)) W1 := by
  unfold sNot
  rfl
theorem spS_eq {P : Option Int → Wd → Prop} : spS ta σ W P = ta σ W fun _ d W1 => isI d fun i => P (some i) W1 := Eq.trans rfl rfl
theorem sRng1_eq : sRng1 (aCons ta aNil) σ W QI = ta σ W fun _ d W1 => isI d fun j => -(2 ^ 62) ≤ j ∧ j < 2 ^ 62 ∧ QI (upTo 0 j.toNat) W1 := by
  unfold sRng1 aCons aNil
  congr 1; funext t x W1
  cases x <;> rfl
theorem sRng2_eq : sRng2 (aCons ta (aCons tb aNil)) σ W QI = ta σ W fun _ d W1 => tb σ W1 fun _ e W2 => isI d fun i => isI e fun j => (-(2 ^ 62) ≤ i ∧ i < 2 ^ 62 ∧ -(2 ^ 62) ≤ j ∧ j < 2 ^ 62) ∧ QI (upTo i (j - i).toNat) W2 := by
  unfold sRng2 aCons aNil
  congr 1; funext t x W1
  congr 1; funext t2 y W2
  cases x <;> cases y <;> rfl
theorem sRngD_eq : sRngD (aCons ta (aCons tb (aCons tc aNil))) σ W QI = ta σ W fun _ d W1 => tb σ W1 fun _ e W2 => tc σ W2 fun _ f W3 => isI d fun i => isI e fun j => isI f fun k => k = -1 ∧ (-(2 ^ 62) ≤ i ∧ i < 2 ^ 62 ∧ -(2 ^ 62) ≤ j ∧ j < 2 ^ 62) ∧ QI (downTo i (i - j).toNat) W3 := by
  unfold sRngD aCons aNil
  congr 1; funext t x W1
  congr 1; funext t2 y W2
  congr 1; funext t3 w W3
  cases x with
  | int i =>
    cases y with
    | int j =>
      cases w with
      | int k =>
        by_cases e : k = -1
        · subst e
          simp only [isI, true_and]
        · simp only [isI, e, false_and]
          split
          · rename_i h; simp only [List.cons.injEq, Prod.mk.injEq, D.int.injEq] at h; exact absurd h.2.2.1.2 e
          · rfl
      | _ => rfl
    | _ => cases w <;> rfl
  | _ => cases y <;> cases w <;> rfl
theorem tgD_name {k : Nat} {P : SG → Prop} : tgD (.name k) t d σ P = (sto t d ∧ P (σ.set k (some (.val d)))) := Eq.trans rfl rfl
theorem tgD_tup {is : List Nat} {P : SG → Prop} : tgD (.tup is) t (.tup a) σ P = (a.length = is.length ∧ est t a ∧ P (setsD σ is a)) := Eq.trans rfl rfl
theorem tgD_lst {is : List Nat} {P : SG → Prop} : tgD (.tup is) t (.lst a) σ P = (a.length = is.length ∧ est t a ∧ P (setsD σ is a)) := Eq.trans rfl rfl
theorem setsD_cons {k : Nat} {is : List Nat} : setsD σ (k :: is) (d :: a) = setsD (σ.set k (some (.val d))) is a := Eq.trans rfl rfl
theorem setsD_nil : setsD σ [] a = σ := by cases a <;> rfl
theorem ownOf_ml {P : SV → Prop} : ownOf .fr (.lst a) P = P (.ml a) := Eq.trans rfl rfl
theorem ownOf_mg {P : SV → Prop} : ownOf .fr2 (.lst a) P = ∃ rows : List (List D), a = rows.map D.lst ∧ P (.mg rows) := Eq.trans rfl rfl
theorem frzV_val : frzV (.val d) = d := Eq.trans rfl rfl
theorem frzV_ml : frzV (.ml a) = .lst a := Eq.trans rfl rfl
theorem frzV_mg : frzV (.mg g) = .lst (g.map D.lst) := Eq.trans rfl rfl
theorem sApp_ml {k : Nat} {E : SEnds} (h : σ[k]? = some (some (.ml a))) : sApp k ta E σ W = ta σ W fun g d W1 => sto g d ∧ a.length < sizeLine ∧ E.nx (σ.set k (some (.ml (a ++ [d])))) W1 := by
  unfold sApp
  rw [h]
theorem sPut2_mg {k : Nat} {E : SEnds} (h : σ[k]? = some (some (.mg g))) : sPut2 k ta tb tc E σ W = tc σ W fun t d W1 => ta σ W1 fun _ r W2 => atRow g r fun j row => tb σ W2 fun _ c W3 => sto t d ∧ putML row c d fun row' => E.nx (σ.set k (some (.mg (g.set j row')))) W3 := by
  unfold sPut2
  rw [h]
theorem sPut_ml {k : Nat} {E : SEnds} (h : σ[k]? = some (some (.ml a))) : sPut k ta tb E σ W = tb σ W fun g d W1 => ta σ W1 fun _ k2 W2 => sto g d ∧ putML a k2 d fun ds' => E.nx (σ.set k (some (.ml ds'))) W2 := by
  unfold sPut
  rw [h]
theorem sVar_hit {k : Nat} {x : SV} (h : σ[k]? = some (some x)) : sVar k σ W Q = sv x fun t d => Q t d W := by
  unfold sVar
  rw [h]
theorem frz_ml {k : Nat} {P : SG → Prop} (h : σ[k]? = some (some (.ml a))) : frz k σ P = P (σ.set k (some (.val (.lst a)))) := by
  unfold frz
  rw [h]
theorem frz_mg {k : Nat} {P : SG → Prop} (h : σ[k]? = some (some (.mg g))) : frz k σ P = P (σ.set k (some (.val (.lst (g.map D.lst))))) := by
  unfold frz
  rw [h]
theorem ixN_0 {n : Nat} (h : 0 < n) : ixN n 0 = some 0 := ixN_nat (i := 0) h
theorem putML_rng {n k : Nat} {f : Nat → D} {P : List D → Prop} (h : k < n) : putML ((List.range n).map f) (.int (k : Nat)) d P = P ((List.range n).map fun j => if j = k then d else f j) := by
  unfold putML
  simp only [List.length_map, List.length_range]
  rw [ex_some (ixN_nat h), set_rng]
theorem atRow_rng {n k : Nat} {f : Nat → List D} {P : Nat → List D → Prop} (h : k < n) : atRow ((List.range n).map f) (.int (k : Nat)) P = P k (f k) := by
  unfold atRow
  simp only [List.length_map, List.length_range]
  refine propext ⟨fun ⟨j, row, e1, e2, e3⟩ => ?_, fun h3 => ⟨k, f k, ixN_nat h, by rw [List.getElem?_map, List.getElem?_range h]; rfl, h3⟩⟩
  rw [ixN_nat h] at e1
  cases e1
  rw [List.getElem?_map, List.getElem?_range h] at e2
  cases e2
  exact e3
end
/-- one statement, the rest out of sight -/
theorem stp {t u : SS} {E : SEnds} {σ : SG} {W : Wd} (h : ∀ K : SG → Wd → Prop, (∀ σ W, u E σ W → K σ W) → t { E with nx := K } σ W) : sSeq t u E σ W := h _ fun _ _ q => q
/-- a test, the branches out of sight -/
theorem ifs {c : SB} {t u : SS} {E : SEnds} {σ : SG} {W : Wd} (h : ∀ Q : Bool → Wd → Prop, (∀ W, t E σ W → Q true W) → (∀ W, u E σ W → Q false W) → c σ W Q) : sIfS c t u E σ W :=
  h _ (fun _ q => by rw [if_pos rfl]; exact q) fun _ q => by rw [if_neg (by decide)]; exact q
theorem br {P : Prop} [Decidable P] {Q : Bool → Wd → Prop} {W : Wd} (h1 : P → Q true W) (h2 : ¬P → Q false W) : Q (decide P) W := by
  by_cases h : P
  · rw [decide_eq_true h]; exact h1 h
  · rw [decide_eq_false h]; exact h2 h
theorem brn {P : Prop} [Decidable P] {Q : Bool → Wd → Prop} {W : Wd} (h1 : ¬P → Q true W) (h2 : P → Q false W) : Q (!decide P) W := by
  by_cases h : P
  · rw [decide_eq_true h]; exact h2 h
  · rw [decide_eq_false h]; exact h1 h
theorem brb {b : Bool} {Q : Bool → Wd → Prop} {W : Wd} (h1 : b = true → Q true W) (h2 : b = false → Q false W) : Q b W := by
  cases b
  · exact h2 rfl
  · exact h1 rfl
theorem isTy_same {n : String} : isTy n n = true := by unfold isTy; simp
theorem ty_NoneType_bool : isTy "NoneType" "bool" = false := by decide
theorem ty_NoneType_int : isTy "NoneType" "int" = false := by decide
theorem ty_NoneType_str : isTy "NoneType" "str" = false := by decide
theorem ty_NoneType_tuple : isTy "NoneType" "tuple" = false := by decide
theorem ty_NoneType_list : isTy "NoneType" "list" = false := by decide
theorem ty_NoneType_dict : isTy "NoneType" "dict" = false := by decide
theorem ty_bool_bool : isTy "bool" "bool" = true := by decide
theorem ty_bool_int : isTy "bool" "int" = true := by decide
theorem ty_bool_str : isTy "bool" "str" = false := by decide
theorem ty_bool_tuple : isTy "bool" "tuple" = false := by decide
theorem ty_bool_list : isTy "bool" "list" = false := by decide
theorem ty_bool_dict : isTy "bool" "dict" = false := by decide
theorem ty_int_bool : isTy "int" "bool" = false := by decide
theorem ty_int_int : isTy "int" "int" = true := by decide
theorem ty_int_str : isTy "int" "str" = false := by decide
theorem ty_int_tuple : isTy "int" "tuple" = false := by decide
theorem ty_int_list : isTy "int" "list" = false := by decide
theorem ty_int_dict : isTy "int" "dict" = false := by decide
theorem ty_str_bool : isTy "str" "bool" = false := by decide
theorem ty_str_int : isTy "str" "int" = false := by decide
theorem ty_str_str : isTy "str" "str" = true := by decide
theorem ty_str_tuple : isTy "str" "tuple" = false := by decide
theorem ty_str_list : isTy "str" "list" = false := by decide
theorem ty_str_dict : isTy "str" "dict" = false := by decide
theorem ty_tuple_bool : isTy "tuple" "bool" = false := by decide
theorem ty_tuple_int : isTy "tuple" "int" = false := by decide
theorem ty_tuple_str : isTy "tuple" "str" = false := by decide
theorem ty_tuple_tuple : isTy "tuple" "tuple" = true := by decide
theorem ty_tuple_list : isTy "tuple" "list" = false := by decide
theorem ty_tuple_dict : isTy "tuple" "dict" = false := by decide
theorem ty_list_bool : isTy "list" "bool" = false := by decide
theorem ty_list_int : isTy "list" "int" = false := by decide
theorem ty_list_str : isTy "list" "str" = false := by decide
theorem ty_list_tuple : isTy "list" "tuple" = false := by decide
theorem ty_list_list : isTy "list" "list" = true := by decide
theorem ty_list_dict : isTy "list" "dict" = false := by decide
theorem ty_dict_bool : isTy "dict" "bool" = false := by decide
theorem ty_dict_int : isTy "dict" "int" = false := by decide
theorem ty_dict_str : isTy "dict" "str" = false := by decide
theorem ty_dict_tuple : isTy "dict" "tuple" = false := by decide
theorem ty_dict_list : isTy "dict" "list" = false := by decide
theorem ty_dict_dict : isTy "dict" "dict" = true := by decide
theorem flats_ints (l : List Int) : flats (l.map D.int) = true := by
  induction l with
  | nil => rfl
  | cons x l ih => simp [flats, flat, ih]
theorem flats_of {l : List D} (h : ∀ d ∈ l, flat d = true) : flats l = true := by
  induction l with
  | nil => rfl
  | cons x l ih =>
    simp only [flats, Bool.and_eq_true]
    exact ⟨h x (by simp), ih fun d m => h d (by simp [m])⟩
theorem flats_iff {l : List D} : flats l = true ↔ ∀ d ∈ l, flat d = true := by
  refine ⟨?_, flats_of⟩
  induction l with
  | nil => simp
  | cons x l ih =>
    simp only [flats, Bool.and_eq_true]
    intro h d m
    cases m with
    | head => exact h.1
    | tail _ m => exact ih h.2 d m
theorem flats_map {α : Type} {l : List α} {f : α → D} (h : ∀ x, flat (f x) = true) : flats (l.map f) = true := flats_of fun d m => by
  obtain ⟨x, _, rfl⟩ := List.mem_map.mp m
  exact h x

/-! ### each combinator, with all it takes -/
section
variable {d : D} {σ : SG} {W : Wd} {Q : Tg → D → Wd → Prop} {QB : Bool → Wd → Prop} {QI : List D → Wd → Prop} {QA : List (Tg × D) → Wd → Prop} {QP : Option Int → Wd → Prop} {ta tb tc : SE} {u v : SB} {sa : SA} {it it1 : SI} {f : OpD} {fu : UnD} {fn : FnD} {i n : Nat} {sp : DSp} {lo hi : SPt} {E : SEnds} {s t : SS} {tg tg1 : TgF} {vs vs1 : List Nat} {two : Bool} {R : Tg → D → Prop} {ds : List (Tg × D)}
theorem x_C : sC d σ W Q = Q .st d W := Eq.trans rfl rfl
theorem x_Bin : sBin f ta tb σ W Q = ta σ W fun t x W1 => tb σ W1 fun u y W2 => f t x u y fun g d => Q g d W2 := Eq.trans rfl rfl
theorem x_Un : sUn fu ta σ W Q = ta σ W fun t x W1 => fu t x fun g d => Q g d W1 := Eq.trans rfl rfl
theorem x_Fn : sFn fn sa σ W Q = sa σ W fun ds W1 => fn ds fun g d => Q g d W1 := Eq.trans rfl rfl
theorem x_aNil : aNil σ W QA = QA [] W := Eq.trans rfl rfl
theorem x_aCons : aCons ta sa σ W QA = ta σ W fun g d W1 => sa σ W1 fun ds W2 => QA ((g, d) :: ds) W2 := Eq.trans rfl rfl
theorem x_Var : sVar i σ W Q = match σ[i]? with | some (some x) => sv x fun t d => Q t d W | _ => False := Eq.trans rfl rfl
theorem x_Call : sCall n sp sa σ W Q = sa σ W fun ds W1 => ds.length = n ∧ sp (ds.map (·.2)) W1 fun tg d W2 => Q (callTag (allSto ds) tg) d W2 := Eq.trans rfl rfl
theorem x_Lc : sLc two it tg u ta vs σ W Q = it σ W fun items W1 => compD tg u ta (okC two) items (wipeD σ vs) [] W1 fun ds W2 => Q (if two = true then .fr2 else .fr) (.lst ds) W2 := Eq.trans rfl rfl
theorem x_Lc2 : sLc2 it tg u it1 tg1 v ta vs vs1 σ W Q = it σ W fun items W1 => comp2D tg u it1 tg1 v ta vs1 items (wipeD σ vs) [] W1 fun ds W2 => Q .fr (.lst ds) W2 := Eq.trans rfl rfl
theorem x_If : sIf u ta tb σ W Q = u σ W fun c W1 => if c = true then ta σ W1 Q else tb σ W1 Q := Eq.trans rfl rfl
theorem x_Sl : sSl ta lo hi σ W Q = ta σ W fun t x W1 => lo σ W1 fun l W2 => hi σ W2 fun u W3 => dSl t x l u fun g d => Q g d W3 := Eq.trans rfl rfl
theorem x_pN : spN σ W QP = QP none W := Eq.trans rfl rfl
theorem x_Bor : sBor ta σ W Q = ta (frzAll σ) W fun g d W1 => Q (borTag g d) d W1 := Eq.trans rfl rfl
theorem x_Iter : sIter ta σ W QI = ta σ W fun g d W1 => itemsOf g d fun ds => QI ds W1 := Eq.trans rfl rfl
theorem x_And : bAnd u v σ W QB = u σ W fun c W1 => if c = true then v σ W1 QB else QB false W1 := Eq.trans rfl rfl
theorem x_Or : bOr u v σ W QB = u σ W fun c W1 => if c = true then QB true W1 else v σ W1 QB := Eq.trans rfl rfl
theorem x_Not : bNot u σ W QB = u σ W fun c W1 => QB (!c) W1 := Eq.trans rfl rfl
theorem x_Yes : bYes σ W QB = QB true W := Eq.trans rfl rfl
theorem x_Nil : sNil E σ W = E.nx σ W := Eq.trans rfl rfl
theorem x_Pass : sPass E σ W = E.nx σ W := Eq.trans rfl rfl
theorem x_Own : sOwn i ta E σ W = ta σ W fun g d W1 => ownOf g d fun sv => E.nx (σ.set i (some sv)) W1 := Eq.trans rfl rfl
theorem x_Set : sSet i ta E σ W = ta σ W fun g d W1 => sto g d ∧ E.nx (σ.set i (some (.val d))) W1 := Eq.trans rfl rfl
theorem x_For : sFor it tg s E σ W = it σ W fun items W1 => forD tg s items E σ W1 := Eq.trans rfl rfl
theorem x_Ret : sRet ta E σ W = ta σ W fun g d W1 => E.rt (retTag g) d W1 := Eq.trans rfl rfl
theorem x_Asg : sAsg tg ta E σ W = ta σ W fun g d W1 => tgD tg g d σ fun σ' => E.nx σ' W1 := Eq.trans rfl rfl
theorem x_App : sApp i ta E σ W = match σ[i]? with
  | some (some (.ml ds)) => ta σ W fun g d W1 => sto g d ∧ ds.length < sizeLine ∧ E.nx (σ.set i (some (.ml (ds ++ [d])))) W1
  | _ => False := Eq.trans rfl rfl
theorem x_Put : sPut i ta tb E σ W = match σ[i]? with
  | some (some (.ml ds)) => tb σ W fun g d W1 => ta σ W1 fun _ k W2 => sto g d ∧ putML ds k d fun ds' => E.nx (σ.set i (some (.ml ds'))) W2
  | _ => False := Eq.trans rfl rfl
theorem x_Put2 : sPut2 i ta tb tc E σ W = match σ[i]? with
  | some (some (.mg g)) => tc σ W fun t d W1 => ta σ W1 fun _ r W2 => atRow g r fun j row => tb σ W2 fun _ c W3 => sto t d ∧ putML row c d fun row' => E.nx (σ.set i (some (.mg (g.set j row')))) W3
  | _ => False := Eq.trans rfl rfl
theorem x_Drop : sDrop ta E σ W = ta σ W fun _ _ W1 => E.nx σ W1 := Eq.trans rfl rfl
theorem x_Break : sBreak E σ W = E.bk σ W := Eq.trans rfl rfl
theorem x_Cont : sCont E σ W = E.ct σ W := Eq.trans rfl rfl
theorem x_RetN : sRetN E σ W = E.rt .st .non W := Eq.trans rfl rfl
theorem x_Seq : sSeq s t E σ W = s { E with nx := t E } σ W := Eq.trans rfl rfl
theorem x_IfS : sIfS u s t E σ W = u σ W fun b W1 => if b = true then s E σ W1 else t E σ W1 := Eq.trans rfl rfl
theorem x_Tup : dTup ds R = (ds.length ≤ sizeLine ∧ R (if allSto ds = true then .st else .b2) (.tup (ds.map (·.2)))) := Eq.trans rfl rfl
theorem x_Lst : dLst ds R = (ds.length ≤ sizeLine ∧ R (if allSto ds = true then .fr else .b2) (.lst (ds.map (·.2)))) := Eq.trans rfl rfl
theorem x_frz {P : SG → Prop} : frz i σ P = match σ[i]? with
  | some (some (.ml ds)) => P (σ.set i (some (.val (.lst ds))))
  | some (some (.md kvs)) => P (σ.set i (some (.val (.dct kvs))))
  | some (some (.mg g)) => P (σ.set i (some (.val (.lst (g.map D.lst)))))
  | some (some (.val d)) => P (σ.set i (some (.val d)))
  | _ => False := Eq.trans rfl rfl
theorem x_Ghost {g : SG → (SG → Prop) → Prop} : sGhost g s E σ W = g σ fun σ' => s E σ' W := Eq.trans rfl rfl
theorem flat_lst {a : List D} : flat (.lst a) = false := Eq.trans rfl rfl
theorem whl {E : SEnds} {c : SB} {body : SS} {σ : SG} {W : Wd} (I : Nat → SG → Wd → Prop) (m : Nat) (h0 : I m σ W) (hs : ∀ m σ W (k : SG → Wd → Prop), I m σ W → (∀ m' σ W, m' < m → I m' σ W → k σ W) → c σ W fun b W1 => if b = true then body { E with nx := k, ct := k, bk := E.nx } σ W1 else E.nx σ W1) : sWhile c body E σ W :=
  ⟨I, ⟨m, h0⟩, fun m σ W h => hs m σ W _ h fun m' σ' W' l h' => ⟨m', l, h'⟩⟩
theorem x_Best_lst {le : Int → Int → Prop} {g : Tg} {xs : List D} : dBest le [(g, .lst xs)] R = ∃ ns : List Int, xs = ns.map D.int ∧ 0 < ns.length ∧ ∀ m, m ∈ ns → (∀ y, y ∈ ns → le y m) → R .st (.int m) := Eq.trans rfl rfl
theorem x_Best_tup {le : Int → Int → Prop} {g : Tg} {xs : List D} : dBest le [(g, .tup xs)] R = ∃ ns : List Int, xs = ns.map D.int ∧ 0 < ns.length ∧ ∀ m, m ∈ ns → (∀ y, y ∈ ns → le y m) → R .st (.int m) := Eq.trans rfl rfl
theorem x_ok1 {g : Tg} {d : D} : okC true g d = (g = .fr ∧ ∃ row, d = .lst row) := Eq.trans rfl rfl
theorem x_ok2 {g : Tg} {d : D} : okC false g d = sto g d := Eq.trans rfl rfl
end
end VL

set_option maxHeartbeats 4000000
/-! VL17: data that may be compared; what the laws share; charts of ints; squares. -/
namespace VL
open PySem PySem.Spec PyProof.Rows L2
def b_same (again : DSp) : SS := sSeq (sIfS (bOr (sTest (sUn (dIsi "tuple") (sVar 1))) (sTest (sUn (dIsi "list") (sVar 1)))) (sSeq (sIfS (bOr (bAnd (sTest (sUn (dIsi "tuple") (sVar 1))) (bNot (sTest (sUn (dIsi "tuple") (sVar 0))))) (bAnd (sTest (sUn (dIsi "list") (sVar 1))) (bNot (sTest (sUn (dIsi "list") (sVar 0)))))) (sRet (sC (.bl false))) (sNil)) (sSeq (sIfS (sTest (sBin dNe (sFn dLen (aCons (sVar 0) (aNil))) (sFn dLen (aCons (sVar 1) (aNil))))) (sRet (sC (.bl false))) (sNil)) (sSeq (sFor (sRng1 (aCons (sFn dLen (aCons (sVar 1) (aNil))) (aNil))) (.name 2) (sIfS (bNot (sTest (sCall 2 again (aCons (sBin dIx (sVar 0) (sVar 2)) (aCons (sBin dIx (sVar 1) (sVar 2)) (aNil)))))) (sRet (sC (.bl false))) (sNil))) (sRet (sC (.bl true)))))) (sNil)) (sSeq (sIfS (bOr (sTest (sUn (dIsi "bool") (sVar 0))) (sTest (sUn (dIsi "bool") (sVar 1)))) (sRet (sAnd (sUn (dIsi "bool") (sVar 0)) (sAnd (sUn (dIsi "bool") (sVar 1)) (sBin dEq (sVar 0) (sVar 1))))) (sNil)) (sSeq (sIfS (sTest (sUn (dIsi "int") (sVar 1))) (sRet (sAnd (sUn (dIsi "int") (sVar 0)) (sBin dEq (sVar 0) (sVar 1)))) (sNil)) (sSeq (sIfS (sTest (sUn (dIsi "str") (sVar 1))) (sRet (sAnd (sUn (dIsi "str") (sVar 0)) (sBin dEq (sVar 0) (sVar 1)))) (sNil)) (sRet (sAnd (sBin dIs (sVar 0) (sC .non)) (sBin dIs (sVar 1) (sC .non)))))))
def spSame : Nat → DSp
  | 0 => fun _ _ _ => False
  | n + 1 => mkSp 3 (b_same (spSame n))
def b_bool : SS := sRet (sAnd (sUn (dIsi "bool") (sVar 0)) (sBin dEq (sVar 0) (sVar 1)))
def spBool : DSp := mkSp 2 b_bool
/-- data of ints, texts and None (b: bools, too), no deeper than n -/
def fits (b : Bool) : Nat → D → Prop
  | _, .non => True
  | _, .bl _ => b = true
  | _, .int _ => True
  | _, .str z => PyData.strOk z = true
  | n + 1, .tup ds => ds.length < 2 ^ 62 ∧ ∀ d ∈ ds, fits b n d
  | n + 1, .lst ds => ds.length < 2 ^ 62 ∧ ∀ d ∈ ds, fits b n d
  | _, _ => False
theorem fits_int {b : Bool} {n : Nat} {i : Int} : fits b n (.int i) := by unfold fits; cases n <;> trivial
theorem fits_non {b : Bool} {n : Nat} : fits b n .non := by unfold fits; cases n <;> trivial
theorem fits_bl {n : Nat} {i : Bool} : fits true n (.bl i) := by unfold fits; cases n <;> rfl
theorem fits_str {b : Bool} {n : Nat} {z : Str} (h : PyData.strOk z = true) : fits b n (.str z) := by unfold fits; cases n <;> exact h
theorem fits_tup {b : Bool} {n : Nat} {ds : List D} (h1 : ds.length < 2 ^ 62) (h : ∀ d ∈ ds, fits b n d) : fits b (n + 1) (.tup ds) := by unfold fits; exact ⟨h1, h⟩
theorem fits_lst {b : Bool} {n : Nat} {ds : List D} (h1 : ds.length < 2 ^ 62) (h : ∀ d ∈ ds, fits b n d) : fits b (n + 1) (.lst ds) := by unfold fits; exact ⟨h1, h⟩
theorem fits_tupM {α : Type} {b : Bool} {n : Nat} {l : List α} {f : α → D} (h1 : l.length < 2 ^ 62) (h : ∀ x ∈ l, fits b n (f x)) : fits b (n + 1) (.tup (l.map f)) :=
  fits_tup (by simpa using h1) fun d m => by obtain ⟨x, hx, rfl⟩ := List.mem_map.mp m; exact h x hx
theorem fits_lstM {α : Type} {b : Bool} {n : Nat} {l : List α} {f : α → D} (h1 : l.length < 2 ^ 62) (h : ∀ x ∈ l, fits b n (f x)) : fits b (n + 1) (.lst (l.map f)) :=
  fits_lst (by simpa using h1) fun d m => by obtain ⟨x, hx, rfl⟩ := List.mem_map.mp m; exact h x hx
theorem fits_up {b : Bool} : ∀ {n : Nat} {d : D}, fits b n d → fits b (n + 1) d
  | n, .non, _ => fits_non
  | n, .bl _, h => by unfold fits at h ⊢; cases n <;> exact h
  | n, .int _, _ => fits_int
  | n, .str _, h => by unfold fits at h ⊢; cases n <;> exact h
  | 0, .tup ds, h => by unfold fits at h; exact h.elim
  | 0, .lst ds, h => by unfold fits at h; exact h.elim
  | n + 1, .tup ds, h => by
    unfold fits at h
    exact fits_tup h.1 fun d m => fits_up (h.2 d m)
  | n + 1, .lst ds, h => by
    unfold fits at h
    exact fits_lst h.1 fun d m => fits_up (h.2 d m)
  | n, .dct _, h => by cases n <;> (unfold fits at h; exact h.elim)
  | n, .deal _, h => by cases n <;> (unfold fits at h; exact h.elim)
  | n, .fn _, h => by cases n <;> (unfold fits at h; exact h.elim)
  | n, .scr _, h => by cases n <;> (unfold fits at h; exact h.elim)
theorem fits_le {b : Bool} {n m : Nat} {d : D} (h : fits b n d) (l : n ≤ m) : fits b m d := by
  obtain ⟨k, rfl⟩ := Nat.le.dest l
  induction k with
  | zero => exact h
  | succ k ih => exact fits_up (ih (Nat.le_add_right _ _))
theorem fits_b {b : Bool} : ∀ {n : Nat} {d : D}, fits false n d → fits b n d
  | n, .non, _ => fits_non
  | n, .bl _, h => by cases n <;> (unfold fits at h; exact nomatch h)
  | n, .int _, _ => fits_int
  | n, .str _, h => by unfold fits at h ⊢; cases n <;> exact h
  | 0, .tup ds, h => by unfold fits at h; exact h.elim
  | 0, .lst ds, h => by unfold fits at h; exact h.elim
  | n + 1, .tup ds, h => by
    unfold fits at h
    exact fits_tup h.1 fun d m => fits_b (h.2 d m)
  | n + 1, .lst ds, h => by
    unfold fits at h
    exact fits_lst h.1 fun d m => fits_b (h.2 d m)
  | n, .dct _, h => by cases n <;> (unfold fits at h; exact h.elim)
  | n, .deal _, h => by cases n <;> (unfold fits at h; exact h.elim)
  | n, .fn _, h => by cases n <;> (unfold fits at h; exact h.elim)
  | n, .scr _, h => by cases n <;> (unfold fits at h; exact h.elim)
theorem pyOks_of {l : List D} (h : ∀ d ∈ l, pyOk d = true) : pyOks l = true := by
  induction l with
  | nil => rfl
  | cons x l ih =>
    simp only [pyOks, Bool.and_eq_true]
    exact ⟨h x (by simp), ih fun d m => h d (by simp [m])⟩
theorem lay_of {l : List D} (h : ∀ d ∈ l, (py d).canLay0 = true) : PyData.canLayAll0 (pys l) = true := by
  induction l with
  | nil => rfl
  | cons x l ih =>
    simp only [pys, PyData.canLayAll0, Bool.and_eq_true]
    exact ⟨h x (by simp), ih fun d m => h d (by simp [m])⟩
theorem depth_of {n : Nat} {l : List D} (h : ∀ d ∈ l, (py d).depth ≤ n) : PyData.depthAll (pys l) ≤ n := by
  induction l with
  | nil => simp [pys, PyData.depthAll]
  | cons x l ih =>
    simp only [pys, PyData.depthAll]
    have h1 := h x (by simp)
    have h2 := ih fun d m => h d (by simp [m])
    omega
theorem fits_shape {b : Bool} : ∀ {n : Nat} {d : D}, fits b n d → pyOk d = true ∧ (py d).canLay0 = true ∧ (py d).depth ≤ n
  | n, .non, _ => ⟨rfl, rfl, by simp [py, PyData.depth]⟩
  | n, .bl _, h => ⟨rfl, rfl, by simp [py, PyData.depth]⟩
  | n, .int _, _ => ⟨rfl, rfl, by simp [py, PyData.depth]⟩
  | n, .str _, h => ⟨rfl, by cases n <;> (unfold fits at h; exact h), by simp [py, PyData.depth]⟩
  | 0, .tup ds, h => by unfold fits at h; exact h.elim
  | 0, .lst ds, h => by unfold fits at h; exact h.elim
  | n + 1, .tup ds, h => by
    unfold fits at h
    have hh := fun d m => fits_shape (h.2 d m)
    refine ⟨pyOks_of fun d m => (hh d m).1, lay_of fun d m => (hh d m).2.1, ?_⟩
    have := depth_of fun d m => (hh d m).2.2
    simp only [py, PyData.depth]
    omega
  | n + 1, .lst ds, h => by
    unfold fits at h
    have hh := fun d m => fits_shape (h.2 d m)
    refine ⟨pyOks_of fun d m => (hh d m).1, lay_of fun d m => (hh d m).2.1, ?_⟩
    have := depth_of fun d m => (hh d m).2.2
    simp only [py, PyData.depth]
    omega
  | n, .dct _, h => by cases n <;> (unfold fits at h; exact h.elim)
  | n, .deal _, h => by cases n <;> (unfold fits at h; exact h.elim)
  | n, .fn _, h => by cases n <;> (unfold fits at h; exact h.elim)
  | n, .scr _, h => by cases n <;> (unfold fits at h; exact h.elim)
theorem fits_eqOk {b : Bool} {n : Nat} {d : D} (h : fits b n d) (hn : n ≤ 64 := by decide) : eqOk d := by
  obtain ⟨a, l, e⟩ := fits_shape h
  refine ⟨a, ?_⟩
  unfold SeqAt.shaped
  rw [l, decide_eq_true (by omega)]
  rfl
theorem deqs_of {n m : Nat} (ih : ∀ {x y : D}, fits false n x → fits false m y → (deq x y = true ↔ x = y)) : ∀ {a b : List D}, (∀ d ∈ a, fits false n d) → (∀ d ∈ b, fits false m d) → (PyData.eqvAll (pys a) (pys b) = true ↔ a = b)
  | [], [], _, _ => by simp [pys, PyData.eqvAll]
  | [], _ :: _, _, _ => by simp [pys, PyData.eqvAll]
  | _ :: _, [], _, _ => by simp [pys, PyData.eqvAll]
  | x :: a, y :: b, ha, hb => by
    simp only [pys, PyData.eqvAll, Bool.and_eq_true, List.cons.injEq]
    have h1 : PyData.eqv (py x) (py y) = true ↔ x = y := ih (ha x (by simp)) (hb y (by simp))
    rw [h1, deqs_of ih (fun d m => ha d (by simp [m])) fun d m => hb d (by simp [m])]
theorem deq_iff : ∀ {n m : Nat} {x y : D}, fits false n x → fits false m y → (deq x y = true ↔ x = y)
  | n, m, x, y, hx, hy => by
    have hs : ∀ {z : D} {k : Nat}, fits false k z → (z = .non ∨ (∃ i, z = .int i) ∨ (∃ w, z = .str w) ∨ (∃ k' a, k = k' + 1 ∧ z = .tup a ∧ ∀ d ∈ a, fits false k' d) ∨ ∃ k' a, k = k' + 1 ∧ z = .lst a ∧ ∀ d ∈ a, fits false k' d) := fun {z k} h => by
      cases z with
      | non => exact .inl rfl
      | int i => exact .inr (.inl ⟨i, rfl⟩)
      | str w => exact .inr (.inr (.inl ⟨w, rfl⟩))
      | tup a =>
        cases k with
        | zero => unfold fits at h; exact h.elim
        | succ k => unfold fits at h; exact .inr (.inr (.inr (.inl ⟨k, a, rfl, rfl, h.2⟩)))
      | lst a =>
        cases k with
        | zero => unfold fits at h; exact h.elim
        | succ k => unfold fits at h; exact .inr (.inr (.inr (.inr ⟨k, a, rfl, rfl, h.2⟩)))
      | bl b => cases k <;> (unfold fits at h; cases h)
      | dct a => cases k <;> (unfold fits at h; exact h.elim)
      | deal a => cases k <;> (unfold fits at h; exact h.elim)
      | fn a => cases k <;> (unfold fits at h; exact h.elim)
      | scr a => cases k <;> (unfold fits at h; exact h.elim)
    rcases hs hx with rfl | ⟨i, rfl⟩ | ⟨w, rfl⟩ | ⟨n', a, rfl, rfl, ha⟩ | ⟨n', a, rfl, rfl, ha⟩ <;> rcases hs hy with rfl | ⟨j, rfl⟩ | ⟨w', rfl⟩ | ⟨m', b, rfl, rfl, hb⟩ | ⟨m', b, rfl, rfl, hb⟩ <;> first
      | (unfold deq; simp [py, PyData.eqv]; done)
      | (unfold deq
         simp only [py, PyData.eqv, D.tup.injEq, D.lst.injEq]
         exact deqs_of (fun hx hy => deq_iff hx hy) ha hb)
termination_by n => n
theorem deq_eq {n m : Nat} {x y : D} (hx : fits false n x) (hy : fits false m y) [Decidable (x = y)] : deq x y = decide (x = y) := by
  by_cases h : x = y
  · rw [decide_eq_true h]; exact (deq_iff hx hy).mpr h
  · rw [decide_eq_false h]
    cases e : deq x y with
    | false => rfl
    | true => exact absurd ((deq_iff hx hy).mp e) h
end VL

set_option maxHeartbeats 4000000
namespace VL
open PySem PySem.Spec PyProof.Rows L2
local macro_rules | `(tactic| walk_at "x") => `(tactic| simp (disch := omega) only [x_C, x_Bin, x_Un, x_Fn, x_aNil, x_aCons, x_Var, x_Call, x_Lc, x_Lc2, x_If, x_Sl, x_pN, x_Bor, x_Iter, x_And, x_Or, x_Not, x_Yes, x_Nil, x_Pass, x_Own, x_Set, x_For, x_Ret, x_Asg, x_App, x_Put, x_Put2, x_Drop, x_Break, x_Cont, x_RetN, x_Tup, x_Lst, x_frz, x_Ghost, x_ok1, x_ok2,
  sTest_eq, sRng1_eq, sRng2_eq, sRngD_eq, sChain_eq, sAnd_eq, sOr_eq, sNot_eq, spS_eq, frozenTg, VL.sv_val, VL.sv_ml, VL.sv_mg, VL.sv_md, wipeD, setsD_cons, setsD_nil, frzAll, frzV_val, frzV_ml, frzV_mg, borTag, retTag, callTag, allSto, stoB, isI_int, isB_bl, isNon,
  dAdd_int, dAdd_str, dAdd_lst, dAdd_tup, dI0_int, dII_int, dMul_int, dMul_lst, dMul_tup, dEq_int, dNe_int, dEq_str, dNe_str, dEq_bl, dNe_bl, dEq_tup, dNe_tup, dEq_lst, dNe_lst, dIs_non, dIsNot_non, dIs_bl, dIn_lst, dIn_tup, dNotIn_lst, dNotIn_tup, dIx_lst_rng, dIx_tup_rng, dIx_lst_rng0, dIx_tup_rng0, dIx_lst_0, dIx_tup_0, dIx_lst_1, dIx_tup_1, dIx_lst_2, dIx_tup_2,
  dSl_lst, dSl_tup, dLen_lst, dLen_tup, dLen_str, dLen_scr, dList_lst, dList_tup, dTuple_lst, dTuple_tup, dF1_int, dF2_int, dNeg_int, dIsi_non, dIsi_bl, dIsi_int, dIsi_str, dIsi_tup, dIsi_lst, dIsi_dct, itemsOf_lst, itemsOf_tup, tgD_name, tgD_tup, tgD_lst, ownOf_ml, ownOf_mg, putML_rng, 
  cutD_init, cutD_tail, Int.zero_add, Int.toNat_natCast, ty_NoneType_bool, ty_NoneType_int, ty_NoneType_str, ty_NoneType_tuple, ty_NoneType_list, ty_NoneType_dict, ty_bool_bool, ty_bool_int, ty_bool_str, ty_bool_tuple, ty_bool_list, ty_bool_dict, ty_int_bool, ty_int_int, ty_int_str, ty_int_tuple, ty_int_list, ty_int_dict, ty_str_bool, ty_str_int, ty_str_str, ty_str_tuple, ty_str_list, ty_str_dict, ty_tuple_bool, ty_tuple_int, ty_tuple_str, ty_tuple_tuple, ty_tuple_list, ty_tuple_dict, ty_list_bool, ty_list_int, ty_list_str, ty_list_tuple, ty_list_list, ty_list_dict, ty_dict_bool, ty_dict_int, ty_dict_str, ty_dict_tuple, ty_dict_list, ty_dict_dict,
  sto, est, el, List.getElem?_cons_succ, List.getElem?_cons_zero, List.set_cons_succ, List.set_cons_zero, List.map_cons, List.map_nil, List.all_cons, List.all_nil, Bool.and_true, Bool.true_and, if_true, if_false, and_true, true_and, List.length_nil, List.length_cons, List.length_map, List.length_range, reduceIte, Bool.false_eq_true, decide_eq_true_eq, Bool.not_true, Bool.not_false, Option.map_some, Option.map_none])
theorem bool_ok {a b : Bool} {W : Wd} {Q : Tg → D → Wd → Prop} (hq : Q .st (.bl (decide (a = b))) W) : spBool [.bl a, .bl b] W Q := by
  show b_bool _ [some (.val (.bl a)), some (.val (.bl b))] W
  unfold b_bool
  walk_at "x"
  exact hq
theorem same_tup {b : Bool} {n : Nat} {ds : List D} {W : Wd} {Q : Tg → D → Wd → Prop} (hl : ds.length < 2 ^ 62) (ih : ∀ x ∈ ds, ∀ W (Q : Tg → D → Wd → Prop), Q .st (.bl true) W → spSame n [x, x] W Q) (hq : Q .st (.bl true) W) : spSame (n + 1) [.tup ds, .tup ds] W Q := by
  show b_same _ _ [some (.val (.tup ds)), some (.val (.tup ds)), none] W
  unfold b_same
  refine stp fun K hK => ifs fun T hT hF => ?_
  walk_at "x"
  refine hT _ (stp fun K hK => ifs fun T hT hF => ?_)
  walk_at "x"
  refine hF _ (hK _ _ (stp fun K hK => ifs fun T hT hF => ?_))
  walk_at "x"
  refine hF _ (hK _ _ (stp fun K hK => ?_))
  walk_at "x"
  refine ⟨by omega, by omega, ?_⟩
  refine forD_up (hi := (ds.length : Int)) (fun i σ W' => W' = W ∧ ∃ o, σ = [some (.val (.tup ds)), some (.val (.tup ds)), o]) (by omega) ⟨rfl, none, rfl⟩ ?_ ?_
  · rintro i σ W' k h0 h1 hk ⟨rfl, o, rfl⟩
    have hx := atI_pos h0 (List.getElem?_eq_getElem (show i.toNat < ds.length by omega))
    walk_at "x"
    refine ifs fun T hT hF => ?_
    walk_at "x"
    simp only [dIx_tup, ex_some hx]
    try walk_at "x"
    refine ih _ (List.getElem_mem _) _ _ ?_
    walk_at "x"
    exact hF _ (hk _ _ ⟨rfl, _, rfl⟩)
  · rintro σ W' ⟨rfl, o, rfl⟩
    refine hK _ _ ?_
    walk_at "x"
    exact hq
theorem same_lst {b : Bool} {n : Nat} {ds : List D} {W : Wd} {Q : Tg → D → Wd → Prop} (hl : ds.length < 2 ^ 62) (ih : ∀ x ∈ ds, ∀ W (Q : Tg → D → Wd → Prop), Q .st (.bl true) W → spSame n [x, x] W Q) (hq : Q .st (.bl true) W) : spSame (n + 1) [.lst ds, .lst ds] W Q := by
  show b_same _ _ [some (.val (.lst ds)), some (.val (.lst ds)), none] W
  unfold b_same
  refine stp fun K hK => ifs fun T hT hF => ?_
  walk_at "x"
  refine hT _ (stp fun K hK => ifs fun T hT hF => ?_)
  walk_at "x"
  refine hF _ (hK _ _ (stp fun K hK => ifs fun T hT hF => ?_))
  walk_at "x"
  refine hF _ (hK _ _ (stp fun K hK => ?_))
  walk_at "x"
  refine ⟨by omega, by omega, ?_⟩
  refine forD_up (hi := (ds.length : Int)) (fun i σ W' => W' = W ∧ ∃ o, σ = [some (.val (.lst ds)), some (.val (.lst ds)), o]) (by omega) ⟨rfl, none, rfl⟩ ?_ ?_
  · rintro i σ W' k h0 h1 hk ⟨rfl, o, rfl⟩
    have hx := atI_pos h0 (List.getElem?_eq_getElem (show i.toNat < ds.length by omega))
    walk_at "x"
    refine ifs fun T hT hF => ?_
    walk_at "x"
    simp only [dIx_lst, ex_some hx]
    try walk_at "x"
    refine ih _ (List.getElem_mem _) _ _ ?_
    walk_at "x"
    exact hF _ (hk _ _ ⟨rfl, _, rfl⟩)
  · rintro σ W' ⟨rfl, o, rfl⟩
    refine hK _ _ ?_
    walk_at "x"
    exact hq
theorem same_one {b : Bool} {n : Nat} {d : D} {W : Wd} {Q : Tg → D → Wd → Prop} (hf : fits b 0 d) (hq : Q .st (.bl true) W) : spSame (n + 1) [d, d] W Q := by
  show b_same _ _ [some (.val d), some (.val d), none] W
  unfold b_same
  cases d with
  | tup a => unfold fits at hf; exact hf.elim
  | lst a => unfold fits at hf; exact hf.elim
  | dct a => unfold fits at hf; exact hf.elim
  | deal a => unfold fits at hf; exact hf.elim
  | fn a => unfold fits at hf; exact hf.elim
  | scr a => unfold fits at hf; exact hf.elim
  | _ =>
    refine stp fun K hK => ifs fun T hT hF => ?_
    walk_at "x"
    refine hF _ (hK _ _ (stp fun K hK => ifs fun T hT hF => ?_))
    walk_at "x"
    first
      | (refine hT _ ?_; walk_at "x"; exact hq)
      | (refine hF _ (hK _ _ (stp fun K hK => ifs fun T hT hF => ?_))
         walk_at "x"
         first
          | (refine hT _ ?_; walk_at "x"; exact hq)
          | (refine hF _ (hK _ _ (stp fun K hK => ifs fun T hT hF => ?_))
             walk_at "x"
             first
              | (refine hT _ ?_; walk_at "x"; exact hq)
              | (refine hF _ (hK _ _ ?_); walk_at "x"; exact hq)))
theorem same_ok {b : Bool} : ∀ {n : Nat} {d : D} {W : Wd} {Q : Tg → D → Wd → Prop}, fits b n d → Q .st (.bl true) W → spSame (n + 1) [d, d] W Q := by
  intro n
  induction n with
  | zero => exact fun hf hq => same_one hf hq
  | succ n ih =>
    intro d W Q hf hq
    cases d with
    | tup ds => unfold fits at hf; exact same_tup (b := b) hf.1 (fun x m W Q h => ih (hf.2 x m) h) hq
    | lst ds => unfold fits at hf; exact same_lst (b := b) hf.1 (fun x m W Q h => ih (hf.2 x m) h) hq
    | _ => exact same_one (b := b) (by unfold fits at hf ⊢; exact hf) hq
end VL

set_option maxHeartbeats 4000000
namespace VL
open PySem PySem.Spec PyProof.Rows L2
local macro_rules | `(tactic| walk_at "x") => `(tactic| simp (disch := omega) only [x_C, x_Bin, x_Un, x_Fn, x_aNil, x_aCons, x_Var, x_Call, x_Lc, x_Lc2, x_If, x_Sl, x_pN, x_Bor, x_Iter, x_And, x_Or, x_Not, x_Yes, x_Nil, x_Pass, x_Own, x_Set, x_For, x_Ret, x_Asg, x_App, x_Put, x_Put2, x_Drop, x_Break, x_Cont, x_RetN, x_Tup, x_Lst, x_frz, x_Ghost, x_ok1, x_ok2,
  sTest_eq, sRng1_eq, sRng2_eq, sRngD_eq, sChain_eq, sAnd_eq, sOr_eq, sNot_eq, spS_eq, frozenTg, VL.sv_val, VL.sv_ml, VL.sv_mg, VL.sv_md, wipeD, setsD_cons, setsD_nil, frzAll, frzV_val, frzV_ml, frzV_mg, borTag, retTag, callTag, allSto, stoB, isI_int, isB_bl, isNon,
  dAdd_int, dAdd_str, dAdd_lst, dAdd_tup, dI0_int, dII_int, dMul_int, dMul_lst, dMul_tup, dEq_int, dNe_int, dEq_str, dNe_str, dEq_bl, dNe_bl, dEq_tup, dNe_tup, dEq_lst, dNe_lst, dIs_non, dIsNot_non, dIs_bl, dIn_lst, dIn_tup, dNotIn_lst, dNotIn_tup, dIx_lst_rng, dIx_tup_rng, dIx_lst_rng0, dIx_tup_rng0, dIx_lst_0, dIx_tup_0, dIx_lst_1, dIx_tup_1, dIx_lst_2, dIx_tup_2,
  dSl_lst, dSl_tup, dLen_lst, dLen_tup, dLen_str, dLen_scr, dList_lst, dList_tup, dTuple_lst, dTuple_tup, dF1_int, dF2_int, dNeg_int, dIsi_non, dIsi_bl, dIsi_int, dIsi_str, dIsi_tup, dIsi_lst, dIsi_dct, itemsOf_lst, itemsOf_tup, tgD_name, tgD_tup, tgD_lst, ownOf_ml, ownOf_mg, putML_rng, 
  cutD_init, cutD_tail, Int.zero_add, Int.toNat_natCast, ty_NoneType_bool, ty_NoneType_int, ty_NoneType_str, ty_NoneType_tuple, ty_NoneType_list, ty_NoneType_dict, ty_bool_bool, ty_bool_int, ty_bool_str, ty_bool_tuple, ty_bool_list, ty_bool_dict, ty_int_bool, ty_int_int, ty_int_str, ty_int_tuple, ty_int_list, ty_int_dict, ty_str_bool, ty_str_int, ty_str_str, ty_str_tuple, ty_str_list, ty_str_dict, ty_tuple_bool, ty_tuple_int, ty_tuple_str, ty_tuple_tuple, ty_tuple_list, ty_tuple_dict, ty_list_bool, ty_list_int, ty_list_str, ty_list_tuple, ty_list_list, ty_list_dict, ty_dict_bool, ty_dict_int, ty_dict_str, ty_dict_tuple, ty_dict_list, ty_dict_dict,
  sto, est, el, List.getElem?_cons_succ, List.getElem?_cons_zero, List.set_cons_succ, List.set_cons_zero, List.map_cons, List.map_nil, List.all_cons, List.all_nil, Bool.and_true, Bool.true_and, if_true, if_false, and_true, true_and, List.length_nil, List.length_cons, List.length_map, List.length_range, reduceIte, Bool.false_eq_true, decide_eq_true_eq, Bool.not_true, Bool.not_false, Option.map_some, Option.map_none])
/-! ### charts of ints, squares -/
def gr (R C : Nat) (g : Nat → Nat → Int) : List (List D) := (List.range R).map fun r => (List.range C).map fun c => .int (g r c)
def tu (R C : Nat) (g : Nat → Nat → Int) : D := .tup ((List.range R).map fun r => .tup ((List.range C).map fun c => .int (g r c)))
def lu (R C : Nat) (g : Nat → Nat → Int) : D := .lst ((List.range R).map fun r => .lst ((List.range C).map fun c => .int (g r c)))
def sqD (p : Nat × Nat) : D := .tup [.int p.1, .int p.2]
theorem gr_lst {R C : Nat} {g : Nat → Nat → Int} : (gr R C g).map D.lst = (List.range R).map fun r => .lst ((List.range C).map fun c => .int (g r c)) := by
  unfold gr
  rw [List.map_map]
  rfl
theorem gr_set {R C r c : Nat} {g : Nat → Nat → Int} {v : Int} : (gr R C g).set r ((List.range C).map fun j => if j = c then D.int v else .int (g r j)) = gr R C fun x y => if x = r ∧ y = c then v else g x y := by
  unfold gr
  rw [set_rng]
  apply List.map_congr_left
  intro x _
  by_cases h : x = r
  · subst h
    simp only [if_true, true_and]
    apply List.map_congr_left
    intro y _
    split <;> rfl
  · simp only [h, if_false, false_and]
theorem gr_congr {R C : Nat} {g h : Nat → Nat → Int} (e : ∀ x y, x < R → y < C → g x y = h x y) : gr R C g = gr R C h := by
  unfold gr
  apply List.map_congr_left
  intro x hx
  apply List.map_congr_left
  intro y hy
  rw [e x y (List.mem_range.mp hx) (List.mem_range.mp hy)]
theorem tu_congr {R C : Nat} {g h : Nat → Nat → Int} (e : ∀ x y, x < R → y < C → g x y = h x y) : tu R C g = tu R C h := by
  unfold tu
  congr 1
  apply List.map_congr_left
  intro x hx
  congr 1
  apply List.map_congr_left
  intro y hy
  rw [e x y (List.mem_range.mp hx) (List.mem_range.mp hy)]
theorem tu_inj {R C : Nat} {g h : Nat → Nat → Int} (e : tu R C g = tu R C h) : ∀ x y, x < R → y < C → g x y = h x y := by
  intro x y hx hy
  unfold tu at e
  have e1 := List.map_inj_left.mp (D.tup.inj e) x (List.mem_range.mpr hx)
  have e2 := List.map_inj_left.mp (D.tup.inj e1) y (List.mem_range.mpr hy)
  exact D.int.inj e2
theorem fits_tu {R C : Nat} {g : Nat → Nat → Int} {b : Bool} (hR : R < 2 ^ 62) (hC : C < 2 ^ 62) : fits b 2 (tu R C g) :=
  fits_tupM (by simpa using hR) fun _ _ => fits_tupM (by simpa using hC) fun _ _ => fits_int
theorem fits_sq {p : Nat × Nat} {b : Bool} : fits b 1 (sqD p) := fits_tup (by simp) fun d m => by
  simp at m
  rcases m with rfl | rfl <;> exact fits_int
theorem sq_inj {p q : Nat × Nat} : sqD p = sqD q ↔ p = q := by
  unfold sqD
  simp only [D.tup.injEq, List.cons.injEq, D.int.injEq, and_true]
  obtain ⟨a, b⟩ := p
  obtain ⟨c, d⟩ := q
  simp only [Prod.mk.injEq]
  omega
theorem flat_sq {p : Nat × Nat} : flat (sqD p) = true := rfl
theorem flat_rows {R C : Nat} {g : Nat → Nat → Int} : flats ((List.range R).map fun r => D.tup ((List.range C).map fun c => .int (g r c))) = true :=
  flats_map fun _ => by show flats _ = true; exact flats_map fun _ => rfl
theorem flatEl_lst {a : List D} : flatEl (.lst a) = flats a := rfl
theorem atRow_gr {R C k : Nat} {g : Nat → Nat → Int} {P : Nat → List D → Prop} (h : k < R) : atRow (gr R C g) (.int (k : Nat)) P = P k ((List.range C).map fun c => .int (g k c)) := atRow_rng h
/-- one's own rows as tuples -/
theorem frz_rows {R C i j : Nat} {g : Nat → Nat → Int} {σ : SG} {W : Wd} {Q : Tg → D → Wd → Prop} (h : σ[i]? = some (some (.mg (gr R C g)))) (ne : i ≠ j) (hj : j < σ.length) (hz : R ≤ sizeLine) (hq : Q .st (tu R C g) W) :
    sFn dTuple (aCons (sBor (sLc false (sIter (sVar i)) (.name j) bYes (sFn dTuple (aCons (sVar j) aNil)) [j])) aNil) σ W Q := by
  have h1 : (frzAll σ)[i]? = some (some (.val (.lst ((gr R C g).map D.lst)))) := by
    unfold frzAll
    rw [List.getElem?_map, h]
    rfl
  unfold sFn aCons aNil sBor sLc sIter sVar
  rw [h1]
  simp only [sv_val, itemsOf_lst, frozenTg, gr_lst, true_and]
  refine compD_enc (fun r : Nat => D.lst ((List.range C).map fun c => D.int (g r c))) (fun r => D.tup ((List.range C).map fun c => D.int (g r c))) (by simpa using hz) ?_ ?_
  · intro r _ k hk
    have h2 : ((wipeD (frzAll σ) [j]).set j (some (SV.val (.lst ((List.range C).map fun c => D.int (g r c))))))[j]? = some (some (.val (.lst ((List.range C).map fun c => D.int (g r c))))) := by
      rw [List.getElem?_set]
      simp [wipeD, frzAll, hj]
    simp only [tgD_name, sto, stoB, sFn, aCons, aNil, sVar, h2, sv_val, dTuple_lst, est, true_and, okC, if_false, Bool.false_eq_true]
    exact hk
  · simp only [List.nil_append, Bool.false_eq_true, if_false, borTag, flatEl_lst, flat_rows, if_true, dTuple_lst, est, true_and]
    exact hq
/-- .. and a chart as rows of one's own -/
theorem own_rows {R C i j : Nat} {g : Nat → Nat → Int} {σ : SG} {W : Wd} {Q : Tg → D → Wd → Prop} (h : σ[i]? = some (some (.val (tu R C g)))) (ne : i ≠ j) (hj : j < σ.length) (hz : R ≤ sizeLine) (hq : Q .fr2 (.lst ((gr R C g).map D.lst)) W) :
    sLc true (sIter (sVar i)) (.name j) bYes (sFn dList (aCons (sVar j) aNil)) [j] σ W Q := by
  unfold sLc sIter sVar
  rw [h]
  simp only [sv_val, tu, itemsOf_tup, est, true_and]
  refine compD_enc (fun r : Nat => D.tup ((List.range C).map fun c => D.int (g r c))) (fun r => D.lst ((List.range C).map fun c => D.int (g r c))) (by simpa using hz) ?_ ?_
  · intro r _ k hk
    have h2 : ((wipeD σ [j]).set j (some (SV.val (.tup ((List.range C).map fun c => D.int (g r c))))))[j]? = some (some (.val (.tup ((List.range C).map fun c => D.int (g r c))))) := by
      rw [List.getElem?_set]
      simp [wipeD, hj]
    simp only [tgD_name, sto, stoB, sFn, aCons, aNil, sVar, h2, sv_val, dList_tup, est, true_and, okC, if_true]
    exact ⟨⟨_, rfl⟩, hk⟩
  · rw [gr_lst] at hq
    simpa using hq
theorem zeros_row {C : Nat} : (List.replicate C [D.int 0]).flatten = (List.range C).map fun _ => D.int 0 := by
  induction C with
  | zero => rfl
  | succ C ih => rw [List.replicate_succ', List.flatten_append, ih, List.range_succ, List.map_append]; rfl
/-- two loops in one display -/
theorem comp2D_enc {α : Type} {f f1 : TgF} {it1 : SI} {te : SE} {vs1 : List Nat} (enc : α → D) (g : α → List D) : ∀ {items : List α} {σ : SG} {acc : List D} {W : Wd} {Q : List D → Wd → Prop}, acc.length + (items.flatMap g).length ≤ sizeLine →
    (∀ x ∈ items, ∀ (acc : List D) (k : List D → Wd → Prop), acc.length + (g x).length ≤ sizeLine → k (acc ++ g x) W → tgD f .st (enc x) σ fun σ2 => it1 σ2 W fun items1 W2 => compD f1 bYes te sto items1 (wipeD σ2 vs1) acc W2 k) →
    Q (acc ++ items.flatMap g) W → comp2D f bYes it1 f1 bYes te vs1 (items.map enc) σ acc W Q
  | [], σ, acc, W, Q, hz, hs, hq => by simpa [comp2D] using hq
  | x :: xs, σ, acc, W, Q, hz, hs, hq => by
    rw [List.flatMap_cons, List.length_append] at hz
    have h := hs x (by simp) acc (fun acc' W3 => comp2D f bYes it1 f1 bYes te vs1 (xs.map enc) σ acc' W3 Q) (by omega) (comp2D_enc enc g (by rw [List.length_append]; omega) (fun y m => hs y (by simp [m])) (by rw [List.append_assoc]; rw [List.flatMap_cons] at hq; exact hq))
    exact h
theorem compD_filter_enc {α : Type} {f : TgF} {tt : SB} {te : SE} {ok : Tg → D → Prop} (enc : α → D) (p : α → Bool) (g : α → D) : ∀ {items : List α} {σ : SG} {acc : List D} {W : Wd} {Q : List D → Wd → Prop}, acc.length + items.length ≤ sizeLine →
    (∀ x ∈ items, ∀ (k : D → Wd → Prop) (k2 : Wd → Prop), (p x = true → k (g x) W) → (p x = false → k2 W) → tgD f .st (enc x) σ fun σ2 => tt σ2 W fun b W1 => if b = true then te σ2 W1 fun t d W2 => ok t d ∧ k d W2 else k2 W1) →
    Q (acc ++ (items.filter p).map g) W → compD f tt te ok (items.map enc) σ acc W Q
  | [], σ, acc, W, Q, hz, hs, hq => by simpa [compD] using hq
  | x :: xs, σ, acc, W, Q, hz, hs, hq => by
    refine hs x (by simp) (fun d W2 => acc.length < sizeLine ∧ compD f tt te ok (xs.map enc) σ (acc ++ [d]) W2 Q) (fun W2 => compD f tt te ok (xs.map enc) σ acc W2 Q) (fun e => ?_) (fun e => ?_)
    · exact ⟨by simp at hz; omega, compD_filter_enc enc p g (by simp at hz ⊢; omega) (fun y m => hs y (by simp [m])) (by simpa [List.filter_cons, e] using hq)⟩
    · exact compD_filter_enc enc p g (by simp at hz ⊢; omega) (fun y m => hs y (by simp [m])) (by simpa [List.filter_cons, e] using hq)
/-- the squares of a chart, row by row -/
def places (R C : Nat) : List (Nat × Nat) := (List.range R).flatMap fun r => (List.range C).map fun c => (r, c)
theorem places_mem {R C : Nat} {p : Nat × Nat} : p ∈ places R C ↔ p.1 < R ∧ p.2 < C := by
  unfold places
  obtain ⟨r, c⟩ := p
  simp only [List.mem_flatMap, List.mem_range, List.mem_map, Prod.mk.injEq]
  constructor
  · rintro ⟨x, hx, y, hy, rfl, rfl⟩; exact ⟨hx, hy⟩
  · rintro ⟨h1, h2⟩; exact ⟨r, h1, c, h2, rfl, rfl⟩
theorem places_len {R C : Nat} : (places R C).length = R * C := by
  unfold places
  induction R with
  | zero => simp
  | succ R ih => rw [List.range_succ, List.flatMap_append, List.length_append, ih]; simp [Nat.succ_mul]
/-- is a square among squares -/
theorem any_sq {l : List (Nat × Nat)} {p : Nat × Nat} : ((l.map sqD).any fun z => deq z (sqD p)) = decide (p ∈ l) := by
  induction l with
  | nil => rfl
  | cons q l ih =>
    rw [List.map_cons, List.any_cons, ih]
    by_cases h : p = q
    · subst h
      have := (deq_iff (fits_sq (p := p)) (fits_sq (p := p))).mpr rfl
      simp [this]
    · have e : deq (sqD q) (sqD p) = false := by
        cases e : deq (sqD q) (sqD p) with
        | false => rfl
        | true => exact absurd (sq_inj.mp ((deq_iff fits_sq fits_sq).mp e)) (Ne.symm h)
      simp [e, h]
end VL

set_option maxHeartbeats 4000000
namespace L80
open PySem PySem.Spec PyProof.Rows L2 VL
def topS (i : Nat) : Stmt := PySem.Challenge.pw_landandwater_k80_whole_sand_becomes_calm.main.body.getD i (.Pass ⟨0, 0, 0, 0⟩)
abbrev d_FALL : D := .int 4
abbrev v_FALL : V := .int 4
theorem r_FALL {K : PySem.W.Frag} : ∀ H, RepS K H d_FALL v_FALL := fun _ => by simp [RepS]
abbrev d_LONGEST : D := .int 6
abbrev v_LONGEST : V := .int 6
theorem r_LONGEST {K : PySem.W.Frag} : ∀ H, RepS K H d_LONGEST v_LONGEST := fun _ => by simp [RepS]
abbrev d_MOST : D := .int 20
abbrev v_MOST : V := .int 20
theorem r_MOST {K : PySem.W.Frag} : ∀ H, RepS K H d_MOST v_MOST := fun _ => by simp [RepS]
abbrev st_is_heap : Stmt := topS 4
abbrev n_is_heap : List Str := ["heap", "row", "grains"]
abbrev p_is_heap : List Str := ["heap"]
theorem sc_is_heap : FnScope n_is_heap p_is_heap (defScope st_is_heap) := ⟨rfl, rfl, rfl, by decide +kernel, rfl, by decide +kernel, by decide +kernel⟩
def b_is_heap : SS := sSeq (sIfS (bOr (bNot (sTest (sChain dLe dLe (sC (.int 1)) (sFn dLen (aCons (sVar 0) (aNil))) (sC d_LONGEST)))) (bNot (sTest (sChain dLe dLe (sC (.int 1)) (sFn dLen (aCons (sBin dIx (sVar 0) (sC (.int 0))) (aNil))) (sC d_LONGEST))))) (sRet (sC (.bl false))) (sNil)) (sSeq (sFor (sIter (sVar 0)) (.name 1) (sSeq (sIfS (sTest (sBin dNe (sFn dLen (aCons (sVar 1) (aNil))) (sFn dLen (aCons (sBin dIx (sVar 0) (sC (.int 0))) (aNil))))) (sRet (sC (.bl false))) (sNil)) (sFor (sIter (sVar 1)) (.name 2) (sIfS (bNot (sTest (sChain dLe dLe (sC (.int 0)) (sVar 2) (sC d_MOST)))) (sRet (sC (.bl false))) (sNil))))) (sRet (sC (.bl true))))
def sp_is_heap : DSp := mkSp 3 b_is_heap
abbrev st_places_of : Stmt := topS 5
abbrev n_places_of : List Str := ["heap", "row", "column"]
abbrev p_places_of : List Str := ["heap"]
theorem sc_places_of : FnScope n_places_of p_places_of (defScope st_places_of) := ⟨rfl, rfl, rfl, by decide +kernel, rfl, by decide +kernel, by decide +kernel⟩
def b_places_of : SS := sRet (sLc2 (sRng1 (aCons (sFn dLen (aCons (sVar 0) (aNil))) (aNil))) (.name 1) (bYes) (sRng1 (aCons (sFn dLen (aCons (sBin dIx (sVar 0) (sC (.int 0))) (aNil))) (aNil))) (.name 2) (bYes) (sFn dTup (aCons (sVar 1) (aCons (sVar 2) (aNil)))) [1, 2] [2])
def sp_places_of : DSp := mkSp 3 b_places_of
abbrev st_beside : Stmt := topS 6
abbrev n_beside : List Str := ["heap", "square", "row", "column", "around", "other"]
abbrev p_beside : List Str := ["heap", "square"]
theorem sc_beside : FnScope n_beside p_beside (defScope st_beside) := ⟨rfl, rfl, rfl, by decide +kernel, rfl, by decide +kernel, by decide +kernel⟩
def b_beside : SS := sSeq (sAsg (.tup [2, 3]) (sVar 1)) (sSeq (sSet 4 (sFn dLst (aCons (sFn dTup (aCons (sBin dSub (sVar 2) (sC (.int 1))) (aCons (sVar 3) (aNil)))) (aCons (sFn dTup (aCons (sVar 2) (aCons (sBin dSub (sVar 3) (sC (.int 1))) (aNil)))) (aCons (sFn dTup (aCons (sVar 2) (aCons (sBin dAdd (sVar 3) (sC (.int 1))) (aNil)))) (aCons (sFn dTup (aCons (sBin dAdd (sVar 2) (sC (.int 1))) (aCons (sVar 3) (aNil)))) (aNil))))))) (sRet (sLc false (sIter (sVar 4)) (.name 5) (bAnd (sTest (sChain dLe dLt (sC (.int 0)) (sBin dIx (sVar 5) (sC (.int 0))) (sFn dLen (aCons (sVar 0) (aNil))))) (sTest (sChain dLe dLt (sC (.int 0)) (sBin dIx (sVar 5) (sC (.int 1))) (sFn dLen (aCons (sBin dIx (sVar 0) (sC (.int 0))) (aNil)))))) (sVar 5) [5])))
def sp_beside : DSp := mkSp 6 b_beside
abbrev st_toppled : Stmt := topS 7
abbrev n_toppled : List Str := ["heap", "grid", "order", "queue", "at", "row", "column", "other"]
abbrev p_toppled : List Str := ["heap"]
theorem sc_toppled : FnScope n_toppled p_toppled (defScope st_toppled) := ⟨rfl, rfl, rfl, by decide +kernel, rfl, by decide +kernel, by decide +kernel⟩
def b_toppled : SS := sSeq (sOwn 1 (sLc true (sIter (sVar 0)) (.name 5) (bYes) (sFn dList (aCons (sVar 5) (aNil))) [5])) (sSeq (sOwn 2 (sFn dLst (aNil))) (sSeq (sOwn 3 (sCall 1 sp_places_of (aCons (sVar 0) (aNil)))) (sSeq (sSet 4 (sC (.int 0))) (sSeq (sWhile (sTest (sBin dLt (sVar 4) (sFn dLen (aCons (sVar 3) (aNil))))) (sSeq (sAsg (.tup [5, 6]) (sBin dIx (sVar 3) (sVar 4))) (sSeq (sIfS (sTest (sBin dGe (sBin dIx (sBin dIx (sVar 1) (sVar 5)) (sVar 6)) (sC d_FALL))) (sSeq (sPut2 1 (sVar 5) (sVar 6) (sBin dSub (sBin dIx (sBin dIx (sVar 1) (sVar 5)) (sVar 6)) (sC d_FALL))) (sSeq (sApp 2 (sBin dIx (sVar 3) (sVar 4))) (sSeq (sApp 3 (sBin dIx (sVar 3) (sVar 4))) (sFor (sIter (sCall 2 sp_beside (aCons (sVar 0) (aCons (sBin dIx (sVar 3) (sVar 4)) (aNil))))) (.name 7) (sSeq (sPut2 1 (sBin dIx (sVar 7) (sC (.int 0))) (sBin dIx (sVar 7) (sC (.int 1))) (sBin dAdd (sBin dIx (sBin dIx (sVar 1) (sBin dIx (sVar 7) (sC (.int 0)))) (sBin dIx (sVar 7) (sC (.int 1)))) (sC (.int 1)))) (sApp 3 (sVar 7))))))) (sNil)) (sSet 4 (sBin dAdd (sVar 4) (sC (.int 1))))))) (sRet (sFn dTup (aCons (sVar 2) (aCons (sVar 1) (aNil)))))))))
def sp_toppled : DSp := mkSp 8 b_toppled
abbrev st_calm : Stmt := topS 8
abbrev n_calm : List Str := ["heap", "row"]
abbrev p_calm : List Str := ["heap"]
theorem sc_calm : FnScope n_calm p_calm (defScope st_calm) := ⟨rfl, rfl, rfl, by decide +kernel, rfl, by decide +kernel, by decide +kernel⟩
def b_calm : SS := sRet (sFn dTuple (aCons (sLc false (sIter (sBin dIx (sCall 1 sp_toppled (aCons (sVar 0) (aNil))) (sC (.int 1)))) (.name 1) (bYes) (sFn dTuple (aCons (sVar 1) (aNil))) [1]) (aNil)))
def sp_calm : DSp := mkSp 2 b_calm
abbrev st_counted : Stmt := topS 9
abbrev n_counted : List Str := ["heap", "squares", "counts", "row", "column", "_"]
abbrev p_counted : List Str := ["heap", "squares"]
theorem sc_counted : FnScope n_counted p_counted (defScope st_counted) := ⟨rfl, rfl, rfl, by decide +kernel, rfl, by decide +kernel, by decide +kernel⟩
def b_counted : SS := sSeq (sOwn 2 (sLc true (sRng1 (aCons (sFn dLen (aCons (sVar 0) (aNil))) (aNil))) (.name 5) (bYes) (sBin dMul (sFn dLst (aCons (sC (.int 0)) (aNil))) (sFn dLen (aCons (sBin dIx (sVar 0) (sC (.int 0))) (aNil)))) [5])) (sSeq (sFor (sIter (sVar 1)) (.tup [3, 4]) (sPut2 2 (sVar 3) (sVar 4) (sBin dAdd (sBin dIx (sBin dIx (sVar 2) (sVar 3)) (sVar 4)) (sC (.int 1))))) (sRet (sFn dTuple (aCons (sBor (sLc false (sIter (sVar 2)) (.name 3) (bYes) (sFn dTuple (aCons (sVar 3) (aNil))) [3])) (aNil)))))
def sp_counted : DSp := mkSp 6 b_counted
abbrev st_toppling_counts : Stmt := topS 10
abbrev n_toppling_counts : List Str := ["heap"]
abbrev p_toppling_counts : List Str := ["heap"]
theorem sc_toppling_counts : FnScope n_toppling_counts p_toppling_counts (defScope st_toppling_counts) := ⟨rfl, rfl, rfl, by decide +kernel, rfl, by decide +kernel, by decide +kernel⟩
def b_toppling_counts : SS := sRet (sCall 2 sp_counted (aCons (sVar 0) (aCons (sBin dIx (sCall 1 sp_toppled (aCons (sVar 0) (aNil))) (sC (.int 0))) (aNil))))
def sp_toppling_counts : DSp := mkSp 1 b_toppling_counts
abbrev st_toppling_paper : Stmt := topS 11
abbrev n_toppling_paper : List Str := ["heap"]
abbrev p_toppling_paper : List Str := ["heap"]
theorem sc_toppling_paper : FnScope n_toppling_paper p_toppling_paper (defScope st_toppling_paper) := ⟨rfl, rfl, rfl, by decide +kernel, rfl, by decide +kernel, by decide +kernel⟩
def b_toppling_paper : SS := sRet (sFn dTup (aCons (sCall 1 sp_toppling_counts (aCons (sVar 0) (aNil))) (aCons (sBin dIx (sCall 1 sp_toppled (aCons (sVar 0) (aNil))) (sC (.int 0))) (aNil))))
def sp_toppling_paper : DSp := mkSp 1 b_toppling_paper
abbrev st_behind_order : Stmt := topS 12
abbrev n_behind_order : List Str := ["heap", "squares", "grid", "known", "square", "other", "row"]
abbrev p_behind_order : List Str := ["heap", "squares"]
theorem sc_behind_order : FnScope n_behind_order p_behind_order (defScope st_behind_order) := ⟨rfl, rfl, rfl, by decide +kernel, rfl, by decide +kernel, by decide +kernel⟩
def b_behind_order : SS := sSeq (sOwn 2 (sLc true (sIter (sVar 0)) (.name 6) (bYes) (sFn dList (aCons (sVar 6) (aNil))) [6])) (sSeq (sSet 3 (sCall 1 sp_places_of (aCons (sVar 0) (aNil)))) (sSeq (sFor (sIter (sVar 1)) (.name 4) (sSeq (sIfS (bOr (sTest (sBin dNotIn (sVar 4) (sVar 3))) (sTest (sBin dLt (sBin dIx (sBin dIx (sVar 2) (sBin dIx (sVar 4) (sC (.int 0)))) (sBin dIx (sVar 4) (sC (.int 1)))) (sC d_FALL)))) (sRet (sC .non)) (sNil)) (sSeq (sPut2 2 (sBin dIx (sVar 4) (sC (.int 0))) (sBin dIx (sVar 4) (sC (.int 1))) (sBin dSub (sBin dIx (sBin dIx (sVar 2) (sBin dIx (sVar 4) (sC (.int 0)))) (sBin dIx (sVar 4) (sC (.int 1)))) (sC d_FALL))) (sFor (sIter (sCall 2 sp_beside (aCons (sVar 0) (aCons (sVar 4) (aNil))))) (.name 5) (sPut2 2 (sBin dIx (sVar 5) (sC (.int 0))) (sBin dIx (sVar 5) (sC (.int 1))) (sBin dAdd (sBin dIx (sBin dIx (sVar 2) (sBin dIx (sVar 5) (sC (.int 0)))) (sBin dIx (sVar 5) (sC (.int 1)))) (sC (.int 1)))))))) (sRet (sFn dTuple (aCons (sBor (sLc false (sIter (sVar 2)) (.name 6) (bYes) (sFn dTuple (aCons (sVar 6) (aNil))) [6])) (aNil))))))
def sp_behind_order : DSp := mkSp 7 b_behind_order
abbrev st_shows_toppling : Stmt := topS 13
abbrev n_shows_toppling : List Str := ["heap", "other", "paper", "counts", "squares", "grid", "row"]
abbrev p_shows_toppling : List Str := ["heap", "other", "paper"]
theorem sc_shows_toppling : FnScope n_shows_toppling p_shows_toppling (defScope st_shows_toppling) := ⟨rfl, rfl, rfl, by decide +kernel, rfl, by decide +kernel, by decide +kernel⟩
def b_shows_toppling : SS := sSeq (sAsg (.tup [3, 4]) (sVar 2)) (sSeq (sSet 5 (sCall 2 sp_behind_order (aCons (sVar 0) (aCons (sVar 4) (aNil))))) (sSeq (sIfS (bOr (sTest (sBin dIs (sVar 5) (sC .non))) (bOr (sTest (sBin dNe (sVar 5) (sVar 1))) (sTest (sBin dNe (sCall 2 sp_counted (aCons (sVar 0) (aCons (sVar 4) (aNil)))) (sVar 3))))) (sRet (sC (.bl false))) (sNil)) (sRet (sBin dLt (sFn dMax1 (aCons (sLc false (sIter (sVar 5)) (.name 6) (bYes) (sFn dMax1 (aCons (sVar 6) (aNil))) [6]) (aNil))) (sC d_FALL)))))
def sp_shows_toppling : DSp := mkSp 7 b_shows_toppling
abbrev st__law_deal : Stmt := topS 15
abbrev n__law_deal : List Str := ["script", "row", "k", "cell", "turn", "total"]
abbrev p__law_deal : List Str := ["script"]
theorem sc__law_deal : FnScope n__law_deal p__law_deal (defScope st__law_deal) := ⟨rfl, rfl, rfl, by decide +kernel, rfl, by decide +kernel, by decide +kernel⟩
abbrev st__law_take : Stmt := topS 16
abbrev n__law_take : List Str := ["deal", "many", "at"]
abbrev p__law_take : List Str := ["deal", "many"]
theorem sc__law_take : FnScope n__law_take p__law_take (defScope st__law_take) := ⟨rfl, rfl, rfl, by decide +kernel, rfl, by decide +kernel, by decide +kernel⟩
abbrev sp__law_take : DSp := takeSp
abbrev st__law_same : Stmt := topS 17
abbrev n__law_same : List Str := ["a", "b", "k"]
abbrev p__law_same : List Str := ["a", "b"]
theorem sc__law_same : FnScope n__law_same p__law_same (defScope st__law_same) := ⟨rfl, rfl, rfl, by decide +kernel, rfl, by decide +kernel, by decide +kernel⟩
def b__law_same (again : DSp) : SS := sSeq (sIfS (bOr (sTest (sUn (dIsi "tuple") (sVar 1))) (sTest (sUn (dIsi "list") (sVar 1)))) (sSeq (sIfS (bOr (bAnd (sTest (sUn (dIsi "tuple") (sVar 1))) (bNot (sTest (sUn (dIsi "tuple") (sVar 0))))) (bAnd (sTest (sUn (dIsi "list") (sVar 1))) (bNot (sTest (sUn (dIsi "list") (sVar 0)))))) (sRet (sC (.bl false))) (sNil)) (sSeq (sIfS (sTest (sBin dNe (sFn dLen (aCons (sVar 0) (aNil))) (sFn dLen (aCons (sVar 1) (aNil))))) (sRet (sC (.bl false))) (sNil)) (sSeq (sFor (sRng1 (aCons (sFn dLen (aCons (sVar 1) (aNil))) (aNil))) (.name 2) (sIfS (bNot (sTest (sCall 2 again (aCons (sBin dIx (sVar 0) (sVar 2)) (aCons (sBin dIx (sVar 1) (sVar 2)) (aNil)))))) (sRet (sC (.bl false))) (sNil))) (sRet (sC (.bl true)))))) (sNil)) (sSeq (sIfS (bOr (sTest (sUn (dIsi "bool") (sVar 0))) (sTest (sUn (dIsi "bool") (sVar 1)))) (sRet (sAnd (sUn (dIsi "bool") (sVar 0)) (sAnd (sUn (dIsi "bool") (sVar 1)) (sBin dEq (sVar 0) (sVar 1))))) (sNil)) (sSeq (sIfS (sTest (sUn (dIsi "int") (sVar 1))) (sRet (sAnd (sUn (dIsi "int") (sVar 0)) (sBin dEq (sVar 0) (sVar 1)))) (sNil)) (sSeq (sIfS (sTest (sUn (dIsi "str") (sVar 1))) (sRet (sAnd (sUn (dIsi "str") (sVar 0)) (sBin dEq (sVar 0) (sVar 1)))) (sNil)) (sRet (sAnd (sBin dIs (sVar 0) (sC .non)) (sBin dIs (sVar 1) (sC .non)))))))
def sp__law_same : Nat → DSp
  | 0 => fun _ _ _ => False
  | n + 1 => mkSp 3 (b__law_same (sp__law_same n))
abbrev st__law_bool : Stmt := topS 18
abbrev n__law_bool : List Str := ["answer", "due"]
abbrev p__law_bool : List Str := ["answer", "due"]
theorem sc__law_bool : FnScope n__law_bool p__law_bool (defScope st__law_bool) := ⟨rfl, rfl, rfl, by decide +kernel, rfl, by decide +kernel, by decide +kernel⟩
def b__law_bool : SS := sRet (sAnd (sUn (dIsi "bool") (sVar 0)) (sBin dEq (sVar 0) (sVar 1)))
def sp__law_bool : DSp := mkSp 2 b__law_bool
abbrev st__law_beside : Stmt := topS 19
abbrev n__law_beside : List Str := ["heap", "r", "c", "found", "x", "y"]
abbrev p__law_beside : List Str := ["heap", "r", "c"]
theorem sc__law_beside : FnScope n__law_beside p__law_beside (defScope st__law_beside) := ⟨rfl, rfl, rfl, by decide +kernel, rfl, by decide +kernel, by decide +kernel⟩
def b__law_beside : SS := sSeq (sOwn 3 (sFn dLst (aNil))) (sSeq (sFor (sIter (sFn dLst (aCons (sFn dTup (aCons (sBin dSub (sVar 1) (sC (.int 1))) (aCons (sVar 2) (aNil)))) (aCons (sFn dTup (aCons (sVar 1) (aCons (sBin dSub (sVar 2) (sC (.int 1))) (aNil)))) (aCons (sFn dTup (aCons (sVar 1) (aCons (sBin dAdd (sVar 2) (sC (.int 1))) (aNil)))) (aCons (sFn dTup (aCons (sBin dAdd (sVar 1) (sC (.int 1))) (aCons (sVar 2) (aNil)))) (aNil))))))) (.tup [4, 5]) (sIfS (bAnd (sTest (sChain dLe dLt (sC (.int 0)) (sVar 4) (sFn dLen (aCons (sVar 0) (aNil))))) (sTest (sChain dLe dLt (sC (.int 0)) (sVar 5) (sFn dLen (aCons (sBin dIx (sVar 0) (sC (.int 0))) (aNil)))))) (sApp 3 (sFn dTup (aCons (sVar 4) (aCons (sVar 5) (aNil))))) (sNil))) (sRet (sVar 3)))
def sp__law_beside : DSp := mkSp 6 b__law_beside
abbrev st__law_topple : Stmt := topS 20
abbrev n__law_topple : List Str := ["heap", "square", "grid", "r", "c", "x", "y", "row"]
abbrev p__law_topple : List Str := ["heap", "square"]
theorem sc__law_topple : FnScope n__law_topple p__law_topple (defScope st__law_topple) := ⟨rfl, rfl, rfl, by decide +kernel, rfl, by decide +kernel, by decide +kernel⟩
def b__law_topple : SS := sSeq (sOwn 2 (sLc true (sIter (sVar 0)) (.name 7) (bYes) (sFn dList (aCons (sVar 7) (aNil))) [7])) (sSeq (sAsg (.tup [3, 4]) (sVar 1)) (sSeq (sPut2 2 (sVar 3) (sVar 4) (sBin dSub (sBin dIx (sBin dIx (sVar 2) (sVar 3)) (sVar 4)) (sC (.int 4)))) (sSeq (sFor (sIter (sCall 3 sp__law_beside (aCons (sVar 0) (aCons (sVar 3) (aCons (sVar 4) (aNil)))))) (.tup [5, 6]) (sPut2 2 (sVar 5) (sVar 6) (sBin dAdd (sBin dIx (sBin dIx (sVar 2) (sVar 5)) (sVar 6)) (sC (.int 1))))) (sRet (sFn dTuple (aCons (sBor (sLc false (sIter (sVar 2)) (.name 7) (bYes) (sFn dTuple (aCons (sVar 7) (aNil))) [7])) (aNil)))))))
def sp__law_topple : DSp := mkSp 8 b__law_topple
abbrev st__law_calm : Stmt := topS 21
abbrev n__law_calm : List Str := ["heap", "counts", "turn", "full", "r", "c", "row"]
abbrev p__law_calm : List Str := ["heap"]
theorem sc__law_calm : FnScope n__law_calm p__law_calm (defScope st__law_calm) := ⟨rfl, rfl, rfl, by decide +kernel, rfl, by decide +kernel, by decide +kernel⟩
def b__law_calm : SS := sSeq (sOwn 1 (sLc true (sIter (sVar 0)) (.name 6) (bYes) (sBin dMul (sFn dLst (aCons (sC (.int 0)) (aNil))) (sFn dLen (aCons (sBin dIx (sVar 0) (sC (.int 0))) (aNil)))) [6])) (sSeq (sFor (sRng1 (aCons (sC (.int 20000)) (aNil))) (.name 2) (sSeq (sOwn 3 (sFn dLst (aNil))) (sSeq (sFor (sRngD (aCons (sBin dSub (sFn dLen (aCons (sVar 0) (aNil))) (sC (.int 1))) (aCons (sUn dNeg (sC (.int 1))) (aCons (sUn dNeg (sC (.int 1))) (aNil))))) (.name 4) (sFor (sRngD (aCons (sBin dSub (sFn dLen (aCons (sBin dIx (sVar 0) (sC (.int 0))) (aNil))) (sC (.int 1))) (aCons (sUn dNeg (sC (.int 1))) (aCons (sUn dNeg (sC (.int 1))) (aNil))))) (.name 5) (sIfS (sTest (sBin dGe (sBin dIx (sBin dIx (sVar 0) (sVar 4)) (sVar 5)) (sC (.int 4)))) (sApp 3 (sFn dTup (aCons (sVar 4) (aCons (sVar 5) (aNil))))) (sNil)))) (sSeq (sIfS (sTest (sBin dEq (sFn dLen (aCons (sVar 3) (aNil))) (sC (.int 0)))) (sBreak) (sNil)) (sSeq (sSet 0 (sCall 2 sp__law_topple (aCons (sVar 0) (aCons (sBin dIx (sVar 3) (sC (.int 0))) (aNil))))) (sPut2 1 (sBin dIx (sBin dIx (sVar 3) (sC (.int 0))) (sC (.int 0))) (sBin dIx (sBin dIx (sVar 3) (sC (.int 0))) (sC (.int 1))) (sBin dAdd (sBin dIx (sBin dIx (sVar 1) (sBin dIx (sBin dIx (sVar 3) (sC (.int 0))) (sC (.int 0)))) (sBin dIx (sBin dIx (sVar 3) (sC (.int 0))) (sC (.int 1)))) (sC (.int 1))))))))) (sRet (sFn dLst (aCons (sVar 0) (aCons (sFn dTuple (aCons (sBor (sLc false (sIter (sVar 1)) (.name 6) (bYes) (sFn dTuple (aCons (sVar 6) (aNil))) [6])) (aNil))) (aNil))))))
def sp__law_calm : DSp := mkSp 7 b__law_calm
abbrev st__law_gone_through : Stmt := topS 22
abbrev n__law_gone_through : List Str := ["heap", "squares", "r", "c"]
abbrev p__law_gone_through : List Str := ["heap", "squares"]
theorem sc__law_gone_through : FnScope n__law_gone_through p__law_gone_through (defScope st__law_gone_through) := ⟨rfl, rfl, rfl, by decide +kernel, rfl, by decide +kernel, by decide +kernel⟩
def b__law_gone_through : SS := sSeq (sFor (sIter (sVar 1)) (.tup [2, 3]) (sSeq (sIfS (bOr (bNot (sTest (sChain dLe dLt (sC (.int 0)) (sVar 2) (sFn dLen (aCons (sVar 0) (aNil)))))) (bOr (bNot (sTest (sChain dLe dLt (sC (.int 0)) (sVar 3) (sFn dLen (aCons (sBin dIx (sVar 0) (sC (.int 0))) (aNil)))))) (sTest (sBin dLt (sBin dIx (sBin dIx (sVar 0) (sVar 2)) (sVar 3)) (sC (.int 4)))))) (sRet (sC .non)) (sNil)) (sSet 0 (sCall 2 sp__law_topple (aCons (sVar 0) (aCons (sFn dTup (aCons (sVar 2) (aCons (sVar 3) (aNil)))) (aNil))))))) (sRet (sVar 0))
def sp__law_gone_through : DSp := mkSp 4 b__law_gone_through
abbrev st_law : Stmt := topS 23
abbrev n_law : List Str := ["script", "deal", "columns", "most", "heap", "wrong", "due", "counts", "paper", "order", "other", "more", "grid", "one", "r", "c", "row"]
abbrev p_law : List Str := ["script"]
theorem sc_law : FnScope n_law p_law (defScope st_law) := ⟨rfl, rfl, rfl, by decide +kernel, rfl, by decide +kernel, by decide +kernel⟩
def b_law : SS := sSeq (sSet 2 (sBin dAdd (sC (.int 1)) (sCall 2 sp__law_take (aCons (sVar 1) (aCons (sC (.int 4)) (aNil)))))) (sSeq (sSet 3 (sBin dIx (sFn dLst (aCons (sC (.int 4)) (aCons (sC (.int 8)) (aCons (sC (.int 20)) (aNil))))) (sCall 2 sp__law_take (aCons (sVar 1) (aCons (sC (.int 3)) (aNil)))))) (sSeq (sSet 4 (sFn dTuple (aCons (sLc false (sRng1 (aCons (sBin dAdd (sC (.int 1)) (sCall 2 sp__law_take (aCons (sVar 1) (aCons (sC (.int 3)) (aNil))))) (aNil))) (.name 14) (bYes) (sFn dTuple (aCons (sLc false (sRng1 (aCons (sVar 2) (aNil))) (.name 15) (bYes) (sCall 2 sp__law_take (aCons (sVar 1) (aCons (sBin dAdd (sVar 3) (sC (.int 1))) (aNil)))) [15]) (aNil))) [14]) (aNil)))) (sSeq (sIfS (bNot (sTest (sCall 2 sp__law_bool (aCons (sCall 1 sp_is_heap (aCons (sVar 4) (aNil))) (aCons (sC (.bl true)) (aNil)))))) (sRet (sC (.bl false))) (sNil)) (sSeq (sFor (sIter (sFn dLst (aCons (sFn dTup (aNil)) (aCons (sFn dTup (aCons (sFn dTup (aNil)) (aNil))) (aCons (sBin dAdd (sVar 4) (sFn dTup (aCons (sBin dAdd (sBin dIx (sVar 4) (sC (.int 0))) (sFn dTup (aCons (sC (.int 0)) (aNil)))) (aNil)))) (aCons (sBin dAdd (sSl (sVar 4) (spN) (spS (sUn dNeg (sC (.int 1))))) (sFn dTup (aCons (sBin dAdd (sFn dTup (aCons (sC (.int 21)) (aNil))) (sSl (sBin dIx (sVar 4) (sUn dNeg (sC (.int 1)))) (spS (sC (.int 1))) (spN))) (aNil)))) (aCons (sBin dAdd (sSl (sVar 4) (spN) (spS (sUn dNeg (sC (.int 1))))) (sFn dTup (aCons (sBin dAdd (sFn dTup (aCons (sUn dNeg (sC (.int 1))) (aNil))) (sSl (sBin dIx (sVar 4) (sUn dNeg (sC (.int 1)))) (spS (sC (.int 1))) (spN))) (aNil)))) (aNil)))))))) (.name 5) (sIfS (bNot (sTest (sCall 2 sp__law_bool (aCons (sCall 1 sp_is_heap (aCons (sVar 5) (aNil))) (aCons (sC (.bl false)) (aNil)))))) (sRet (sC (.bl false))) (sNil))) (sSeq (sIfS (bOr (bNot (sTest (sCall 2 sp__law_bool (aCons (sCall 1 sp_is_heap (aCons (sFn dTup (aCons (sBin dMul (sFn dTup (aCons (sC (.int 0)) (aNil))) (sC (.int 7))) (aNil))) (aNil))) (aCons (sC (.bl false)) (aNil)))))) (bNot (sTest (sCall 2 sp__law_bool (aCons (sCall 1 sp_is_heap (aCons (sBin dMul (sFn dTup (aCons (sFn dTup (aCons (sC (.int 0)) (aNil))) (aNil))) (sC (.int 7))) (aNil))) (aCons (sC (.bl false)) (aNil))))))) (sRet (sC (.bl false))) (sNil)) (sSeq (sAsg (.tup [6, 7]) (sCall 1 sp__law_calm (aCons (sVar 4) (aNil)))) (sSeq (sIfS (bOr (bNot (sTest (sCall 2 (sp__law_same 6) (aCons (sCall 1 sp_calm (aCons (sVar 4) (aNil))) (aCons (sVar 6) (aNil)))))) (bNot (sTest (sCall 2 (sp__law_same 6) (aCons (sCall 1 sp_toppling_counts (aCons (sVar 4) (aNil))) (aCons (sVar 7) (aNil))))))) (sRet (sC (.bl false))) (sNil)) (sSeq (sSet 8 (sCall 1 sp_toppling_paper (aCons (sVar 4) (aNil)))) (sSeq (sIfS (bOr (bNot (sTest (sUn (dIsi "tuple") (sVar 8)))) (bOr (sTest (sBin dNe (sFn dLen (aCons (sVar 8) (aNil))) (sC (.int 2)))) (bNot (sTest (sCall 2 (sp__law_same 6) (aCons (sBin dIx (sVar 8) (sC (.int 0))) (aCons (sVar 7) (aNil)))))))) (sRet (sC (.bl false))) (sNil)) (sSeq (sSet 9 (sBin dIx (sVar 8) (sC (.int 1)))) (sSeq (sIfS (bOr (bNot (sTest (sUn (dIsi "list") (sVar 9)))) (bNot (sTest (sCall 2 (sp__law_same 6) (aCons (sCall 2 sp__law_gone_through (aCons (sVar 4) (aCons (sVar 9) (aNil)))) (aCons (sVar 6) (aNil))))))) (sRet (sC (.bl false))) (sNil)) (sSeq (sIfS (bNot (sTest (sCall 2 sp__law_bool (aCons (sCall 3 sp_shows_toppling (aCons (sVar 4) (aCons (sVar 6) (aCons (sFn dTup (aCons (sVar 7) (aCons (sVar 9) (aNil)))) (aNil))))) (aCons (sC (.bl true)) (aNil)))))) (sRet (sC (.bl false))) (sNil)) (sSeq (sSet 10 (sBin dAdd (sSl (sVar 6) (spN) (spS (sUn dNeg (sC (.int 1))))) (sFn dTup (aCons (sBin dAdd (sFn dTup (aCons (sBin dAdd (sBin dIx (sBin dIx (sVar 6) (sUn dNeg (sC (.int 1)))) (sC (.int 0))) (sC (.int 1))) (aNil))) (sSl (sBin dIx (sVar 6) (sUn dNeg (sC (.int 1)))) (spS (sC (.int 1))) (spN))) (aNil))))) (sSeq (sSet 11 (sBin dAdd (sSl (sVar 7) (spN) (spS (sUn dNeg (sC (.int 1))))) (sFn dTup (aCons (sBin dAdd (sFn dTup (aCons (sBin dAdd (sBin dIx (sBin dIx (sVar 7) (sUn dNeg (sC (.int 1)))) (sC (.int 0))) (sC (.int 1))) (aNil))) (sSl (sBin dIx (sVar 7) (sUn dNeg (sC (.int 1)))) (spS (sC (.int 1))) (spN))) (aNil))))) (sSeq (sOwn 5 (sFn dLst (aCons (sFn dLst (aCons (sVar 10) (aCons (sFn dTup (aCons (sVar 7) (aCons (sVar 9) (aNil)))) (aNil)))) (aCons (sFn dLst (aCons (sVar 6) (aCons (sFn dTup (aCons (sVar 11) (aCons (sVar 9) (aNil)))) (aNil)))) (aCons (sFn dLst (aCons (sVar 6) (aCons (sFn dTup (aCons (sVar 7) (aCons (sBin dAdd (sVar 9) (sFn dLst (aCons (sFn dTup (aCons (sC (.int 0)) (aCons (sC (.int 0)) (aNil)))) (aNil)))) (aNil)))) (aNil)))) (aCons (sFn dLst (aCons (sVar 6) (aCons (sFn dTup (aCons (sVar 7) (aCons (sBin dAdd (sVar 9) (sFn dLst (aCons (sFn dTup (aCons (sC (.int 9)) (aCons (sC (.int 9)) (aNil)))) (aNil)))) (aNil)))) (aNil)))) (aNil))))))) (sSeq (sIfS (sTest (sBin dGt (sFn dLen (aCons (sVar 9) (aNil))) (sC (.int 0)))) (sSeq (sApp 5 (sFn dLst (aCons (sVar 6) (aCons (sFn dTup (aCons (sVar 7) (aCons (sSl (sVar 9) (spN) (spS (sUn dNeg (sC (.int 1))))) (aNil)))) (aNil))))) (sSeq (sApp 5 (sFn dLst (aCons (sCall 2 sp__law_gone_through (aCons (sVar 4) (aCons (sSl (sVar 9) (spN) (spS (sUn dNeg (sC (.int 1))))) (aNil)))) (aCons (sFn dTup (aCons (sVar 7) (aCons (sSl (sVar 9) (spN) (spS (sUn dNeg (sC (.int 1))))) (aNil)))) (aNil))))) (sApp 5 (sFn dLst (aCons (sVar 4) (aCons (sFn dTup (aCons (sFn dTuple (aCons (sLc false (sIter (sVar 4)) (.name 16) (bYes) (sFn dTuple (aCons (sLc false (sIter (sVar 16)) (.name 15) (bYes) (sC (.int 0)) [15]) (aNil))) [16]) (aNil))) (aCons (sFn dLst (aNil)) (aNil)))) (aNil))))))) (sNil)) (sGhost (frz 5) (sSeq (sFor (sIter (sVar 5)) (.tup [12, 13]) (sIfS (bNot (sTest (sCall 2 sp__law_bool (aCons (sCall 3 sp_shows_toppling (aCons (sVar 4) (aCons (sVar 12) (aCons (sVar 13) (aNil))))) (aCons (sC (.bl false)) (aNil)))))) (sRet (sC (.bl false))) (sNil))) (sRet (sCall 2 sp__law_bool (aCons (sCall 3 sp_shows_toppling (aCons (sVar 6) (aCons (sVar 6) (aCons (sFn dTup (aCons (sFn dTuple (aCons (sLc false (sIter (sVar 4)) (.name 16) (bYes) (sFn dTuple (aCons (sLc false (sIter (sVar 16)) (.name 15) (bYes) (sC (.int 0)) [15]) (aNil))) [16]) (aNil))) (aCons (sFn dLst (aNil)) (aNil)))) (aNil))))) (aCons (sC (.bl true)) (aNil)))))))))))))))))))))))
structure Txt (K : PySem.W.Frag) (mg : Str → Option Value) : Prop where
  f_is_heap : DefAt K mg "is_heap" st_is_heap
  f_places_of : DefAt K mg "places_of" st_places_of
  f_beside : DefAt K mg "beside" st_beside
  f_toppled : DefAt K mg "toppled" st_toppled
  f_calm : DefAt K mg "calm" st_calm
  f_counted : DefAt K mg "counted" st_counted
  f_toppling_counts : DefAt K mg "toppling_counts" st_toppling_counts
  f_toppling_paper : DefAt K mg "toppling_paper" st_toppling_paper
  f_behind_order : DefAt K mg "behind_order" st_behind_order
  f_shows_toppling : DefAt K mg "shows_toppling" st_shows_toppling
  f__law_deal : DefAt K mg "_law_deal" st__law_deal
  f__law_take : DefAt K mg "_law_take" st__law_take
  f__law_same : DefAt K mg "_law_same" st__law_same
  f__law_bool : DefAt K mg "_law_bool" st__law_bool
  f__law_beside : DefAt K mg "_law_beside" st__law_beside
  f__law_topple : DefAt K mg "_law_topple" st__law_topple
  f__law_calm : DefAt K mg "_law_calm" st__law_calm
  f__law_gone_through : DefAt K mg "_law_gone_through" st__law_gone_through
  f_law : DefAt K mg "law" st_law
  n_abs : mg "abs" = none
  n_bool : mg "bool" = none
  n_int : mg "int" = none
  n_isinstance : mg "isinstance" = none
  n_len : mg "len" = none
  n_list : mg "list" = none
  n_max : mg "max" = none
  n_min : mg "min" = none
  n_range : mg "range" = none
  n_str : mg "str" = none
  n_sum : mg "sum" = none
  n_tuple : mg "tuple" = none
  c_FALL : ∃ u, mg "FALL" = some u ∧ RelV v_FALL u
  c_LONGEST : ∃ u, mg "LONGEST" = some u ∧ RelV v_LONGEST u
  c_MOST : ∃ u, mg "MOST" = some u ∧ RelV v_MOST u
section
variable {P : Program} {w : World} {K : PySem.W.Frag} {mg : Str → Option Value} {base : Heap}
theorem ok_is_heap (T : Txt K mg)  : Callee P w K mg base "is_heap" 1 1 sp_is_heap :=
  def_ok (A0 := roomA) (roomA_ok (by decide)) T.f_is_heap sc_is_heap rfl (fun _ _ _ _ _ _ us hl => match us, hl with | [_], _ => rfl) fun f cdv A outer s H E hr =>
    show VSs _ (defBody st_is_heap) b_is_heap from
    vsCons (vIfS ((vwOr (vtNot (vtChain op_le op_le okLe okLe mono_dI0 mono_dI0 (vInt) (vCB call_len okLen mono_dLen (by rfl) T.n_len (by decide +kernel) (vaCons (vVar 0) (vaNil))) (vGl (by rfl) T.c_LONGEST r_LONGEST))) (vwOr1 (vtNot (vtChain op_le op_le okLe okLe mono_dI0 mono_dI0 (vInt) (vCB call_len okLen mono_dLen (by rfl) T.n_len (by decide +kernel) (vaCons (vIx (vVar 0) (vInt)) (vaNil))) (vGl (by rfl) T.c_LONGEST r_LONGEST))))).vt) (vsOne (vRet (vBl))) (vsNil)) (vsCons (vFor PassesOwn.never rfl (vIter (vVar 0)) (vgName (i := 1) sc_is_heap.nd (by rfl) (by first | exact .inl rfl | exact .inr rfl)) (vsCons (vIfS (vtCmp (opNe hr.units) okNe mono_dEqG (vCB call_len okLen mono_dLen (by rfl) T.n_len (by decide +kernel) (vaCons (vVar 1) (vaNil))) (vCB call_len okLen mono_dLen (by rfl) T.n_len (by decide +kernel) (vaCons (vIx (vVar 0) (vInt)) (vaNil)))) (vsOne (vRet (vBl))) (vsNil)) (vsOne (vFor PassesOwn.never rfl (vIter (vVar 1)) (vgName (i := 2) sc_is_heap.nd (by rfl) (by first | exact .inl rfl | exact .inr rfl)) (vsOne (vIfS (vtNot (vtChain op_le op_le okLe okLe mono_dI0 mono_dI0 (vInt) (vVar 2) (vGl (by rfl) T.c_MOST r_MOST))) (vsOne (vRet (vBl))) (vsNil))))))) (vsOne (vRet (vBl))))
theorem ok_places_of (T : Txt K mg)  : Callee P w K mg base "places_of" 1 1 sp_places_of :=
  def_ok (A0 := roomA) (roomA_ok (by decide)) T.f_places_of sc_places_of rfl (fun _ _ _ _ _ _ us hl => match us, hl with | [_], _ => rfl) fun f cdv A outer s H E hr =>
    show VSs _ (defBody st_places_of) b_places_of from
    vsOne (vRet ((vcLc2 (own := [("row", 1), ("column", 2)]) (vs1 := [2]) rfl sc_places_of.nd (vRng1 (by rfl) T.n_range (vaCons (vCB call_len okLen mono_dLen (by rfl) T.n_len (by decide +kernel) (vaCons (vVar 0) (vaNil))) (vaNil))) (blkOk_by (N := n_places_of) (sc := (defScope st_places_of)) (by decide +kernel)) (by decide) (by decide) (by decide) (fun _ _ _ _ _ => vgName (i := 1) sc_places_of.nd (by rfl) (by first | exact .inl rfl | exact .inr rfl)) (fun _ _ _ _ _ => vtsNil) (fun _ _ _ _ _ => vRng1 (by rfl) T.n_range (vaCons (vCB call_len okLen mono_dLen (by rfl) T.n_len (by decide +kernel) (vaCons (vIx (vVar 0) (vInt)) (vaNil))) (vaNil))) (fun _ _ _ _ _ => vgName (i := 2) sc_places_of.nd (by rfl) (by first | exact .inl rfl | exact .inr rfl)) (fun _ _ _ _ _ => vtsNil) (fun _ _ _ _ _ => vTup (vaCons (vVar 1) (vaCons (vVar 2) (vaNil))))).ve))
theorem ok_beside (T : Txt K mg)  : Callee P w K mg base "beside" 1 2 sp_beside :=
  def_ok (A0 := roomA) (roomA_ok (by decide)) T.f_beside sc_beside rfl (fun _ _ _ _ _ _ us hl => match us, hl with | [_, _], _ => rfl) fun f cdv A outer s H E hr =>
    show VSs _ (defBody st_beside) b_beside from
    vsCons (vAsg (vgTup rfl (vgCons (vgName (i := 2) sc_beside.nd (by rfl) (by first | exact .inl rfl | exact .inr rfl)) (vgCons (vgName (i := 3) sc_beside.nd (by rfl) (by first | exact .inl rfl | exact .inr rfl)) (vgNil)))) (vVar 1)) (vsCons (vSet (i := 4) sc_beside.nd (by rfl) (by first | exact .inl rfl | exact .inr rfl) (vLst (vaCons (vTup (vaCons (vSub (vVar 2) (vInt)) (vaCons (vVar 3) (vaNil)))) (vaCons (vTup (vaCons (vVar 2) (vaCons (vSub (vVar 3) (vInt)) (vaNil)))) (vaCons (vTup (vaCons (vVar 2) (vaCons (vAdd (vVar 3) (vInt)) (vaNil)))) (vaCons (vTup (vaCons (vAdd (vVar 2) (vInt)) (vaCons (vVar 3) (vaNil)))) (vaNil))))))) (vsOne (vRet ((vcLc (own := [("other", 5)]) false rfl sc_beside.nd (vIter (vVar 4)) (blkOk_by (N := n_beside) (sc := (defScope st_beside)) (by decide +kernel)) (by decide) (fun _ _ _ _ _ => vgName (i := 5) sc_beside.nd (by rfl) (by first | exact .inl rfl | exact .inr rfl)) (fun _ _ _ _ _ => vtsOne ((vwAnd (vtChain op_le op_lt okLe okLt mono_dI0 mono_dI0 (vInt) (vIx (vVar 5) (vInt)) (vCB call_len okLen mono_dLen (by rfl) T.n_len (by decide +kernel) (vaCons (vVar 0) (vaNil)))) (vwAnd1 (vtChain op_le op_lt okLe okLt mono_dI0 mono_dI0 (vInt) (vIx (vVar 5) (vInt)) (vCB call_len okLen mono_dLen (by rfl) T.n_len (by decide +kernel) (vaCons (vIx (vVar 0) (vInt)) (vaNil)))))).vt)) (fun _ _ _ _ _ => vVar 5)).ve))))
theorem ok_toppled (T : Txt K mg) (C_beside : Callee P w K mg base "beside" 1 2 sp_beside) (C_places_of : Callee P w K mg base "places_of" 1 1 sp_places_of) : Callee P w K mg base "toppled" 2 1 sp_toppled :=
  def_ok (A0 := roomA) (roomA_ok (by decide)) T.f_toppled sc_toppled rfl (fun _ _ _ _ _ _ us hl => match us, hl with | [_], _ => rfl) fun f cdv A outer s H E hr =>
    show VSs _ (defBody st_toppled) b_toppled from
    vsCons (vOwnC (i := 1) (by rfl) (by rfl) (vcLc (own := [("row", 5)]) true rfl sc_toppled.nd (vIter (vVar 0)) (blkOk_by (N := n_toppled) (sc := (defScope st_toppled)) (by decide +kernel)) (by decide) (fun _ _ _ _ _ => vgName (i := 5) sc_toppled.nd (by rfl) (by first | exact .inl rfl | exact .inr rfl)) (fun _ _ _ _ _ => vtsNil) (fun _ _ _ _ _ => vCT call_list_of okList mono_dList (by rfl) T.n_list (by decide +kernel) (vaCons (vVar 5) (vaNil)))) (sw_true rfl rfl rfl (by decide +kernel))) (vsCons (vOwn (i := 2) sc_toppled.nd (by rfl) (by first | exact .inl rfl | exact .inr rfl) (vLst (vaNil))) (vsCons (vOwn (i := 3) sc_toppled.nd (by rfl) (by first | exact .inl rfl | exact .inr rfl) (vCall (C_places_of.up (by decide)) hr (by rfl) (vaCons (vVar 0) (vaNil)))) (vsCons (vSet (i := 4) sc_toppled.nd (by rfl) (by first | exact .inl rfl | exact .inr rfl) (vInt)) (vsCons (vWhile PassesOwn.never (vtCmp op_lt okLt mono_dI0 (vVar 4) (vCB call_len okLen mono_dLen (by rfl) T.n_len (by decide +kernel) (vaCons (vVar 3) (vaNil)))) (vsCons (vAsg (vgTup rfl (vgCons (vgName (i := 5) sc_toppled.nd (by rfl) (by first | exact .inl rfl | exact .inr rfl)) (vgCons (vgName (i := 6) sc_toppled.nd (by rfl) (by first | exact .inl rfl | exact .inr rfl)) (vgNil)))) (vIx (vVar 3) (vVar 4))) (vsCons (vIfS (vtCmp op_ge okGe mono_dI0 (vIx (vIx (vVar 1) (vVar 5)) (vVar 6)) (vGl (by rfl) T.c_FALL r_FALL)) (vsCons (vPut2 (i := 1) (by rfl) (by first | exact .inl rfl | exact .inr (.inl rfl) | exact .inr (.inr rfl)) (vVar 5) (vVar 6) (vSub (vIx (vIx (vVar 1) (vVar 5)) (vVar 6)) (vGl (by rfl) T.c_FALL r_FALL))) (vsCons (vApp (i := 2) (by rfl) (by first | exact .inl rfl | exact .inr (.inl rfl) | exact .inr (.inr rfl)) (vIx (vVar 3) (vVar 4))) (vsCons (vApp (i := 3) (by rfl) (by first | exact .inl rfl | exact .inr (.inl rfl) | exact .inr (.inr rfl)) (vIx (vVar 3) (vVar 4))) (vsOne (vFor PassesOwn.never rfl (vIter (vCall (C_beside.up (by decide)) hr (by rfl) (vaCons (vVar 0) (vaCons (vIx (vVar 3) (vVar 4)) (vaNil))))) (vgName (i := 7) sc_toppled.nd (by rfl) (by first | exact .inl rfl | exact .inr rfl)) (vsCons (vPut2 (i := 1) (by rfl) (by first | exact .inl rfl | exact .inr (.inl rfl) | exact .inr (.inr rfl)) (vIx (vVar 7) (vInt)) (vIx (vVar 7) (vInt)) (vAdd (vIx (vIx (vVar 1) (vIx (vVar 7) (vInt))) (vIx (vVar 7) (vInt))) (vInt))) (vsOne (vApp (i := 3) (by rfl) (by first | exact .inl rfl | exact .inr (.inl rfl) | exact .inr (.inr rfl)) (vVar 7))))))))) (vsNil)) (vsOne (vSet (i := 4) sc_toppled.nd (by rfl) (by first | exact .inl rfl | exact .inr rfl) (vAdd (vVar 4) (vInt))))))) (vsOne (vRet (vTup (vaCons (vVar 2) (vaCons (vVar 1) (vaNil))))))))))
theorem ok_calm (T : Txt K mg) (C_toppled : Callee P w K mg base "toppled" 2 1 sp_toppled) : Callee P w K mg base "calm" 3 1 sp_calm :=
  def_ok (A0 := roomA) (roomA_ok (by decide)) T.f_calm sc_calm rfl (fun _ _ _ _ _ _ us hl => match us, hl with | [_], _ => rfl) fun f cdv A outer s H E hr =>
    show VSs _ (defBody st_calm) b_calm from
    vsOne (vRet (vCT call_tuple_of okTuple mono_dTuple (by rfl) T.n_tuple (by decide +kernel) (vaCons ((vcLc (own := [("row", 1)]) false rfl sc_calm.nd (vIter (vIx (vCall (C_toppled.up (by decide)) hr (by rfl) (vaCons (vVar 0) (vaNil))) (vInt))) (blkOk_by (N := n_calm) (sc := (defScope st_calm)) (by decide +kernel)) (by decide) (fun _ _ _ _ _ => vgName (i := 1) sc_calm.nd (by rfl) (by first | exact .inl rfl | exact .inr rfl)) (fun _ _ _ _ _ => vtsNil) (fun _ _ _ _ _ => vCT call_tuple_of okTuple mono_dTuple (by rfl) T.n_tuple (by decide +kernel) (vaCons (vVar 1) (vaNil)))).ve) (vaNil))))
theorem ok_counted (T : Txt K mg)  : Callee P w K mg base "counted" 1 2 sp_counted :=
  def_ok (A0 := roomA) (roomA_ok (by decide)) T.f_counted sc_counted rfl (fun _ _ _ _ _ _ us hl => match us, hl with | [_, _], _ => rfl) fun f cdv A outer s H E hr =>
    show VSs _ (defBody st_counted) b_counted from
    vsCons (vOwnC (i := 2) (by rfl) (by rfl) (vcLc (own := [("_", 5)]) true rfl sc_counted.nd (vRng1 (by rfl) T.n_range (vaCons (vCB call_len okLen mono_dLen (by rfl) T.n_len (by decide +kernel) (vaCons (vVar 0) (vaNil))) (vaNil))) (blkOk_by (N := n_counted) (sc := (defScope st_counted)) (by decide +kernel)) (by decide) (fun _ _ _ _ _ => vgName (i := 5) sc_counted.nd (by rfl) (by first | exact .inl rfl | exact .inr rfl)) (fun _ _ _ _ _ => vtsNil) (fun _ _ _ _ _ => vMul (vLst (vaCons (vInt) (vaNil))) (vCB call_len okLen mono_dLen (by rfl) T.n_len (by decide +kernel) (vaCons (vIx (vVar 0) (vInt)) (vaNil))))) (sw_true rfl rfl rfl (by decide +kernel))) (vsCons (vFor PassesOwn.never rfl (vIter (vVar 1)) (vgTup rfl (vgCons (vgName (i := 3) sc_counted.nd (by rfl) (by first | exact .inl rfl | exact .inr rfl)) (vgCons (vgName (i := 4) sc_counted.nd (by rfl) (by first | exact .inl rfl | exact .inr rfl)) (vgNil)))) (vsOne (vPut2 (i := 2) (by rfl) (by first | exact .inl rfl | exact .inr (.inl rfl) | exact .inr (.inr rfl)) (vVar 3) (vVar 4) (vAdd (vIx (vIx (vVar 2) (vVar 3)) (vVar 4)) (vInt))))) (vsOne (vRet (vCT call_tuple_of okTuple mono_dTuple (by rfl) T.n_tuple (by decide +kernel) (vaCons ((vcBor (vcLc (own := [("row", 3)]) false rfl sc_counted.nd (vIter (vVar 2)) (blkOk_by (N := n_counted) (sc := (defScope st_counted)) (by decide +kernel)) (by decide) (fun _ _ _ _ _ => vgName (i := 3) sc_counted.nd (by rfl) (by first | exact .inl rfl | exact .inr rfl)) (fun _ _ _ _ _ => vtsNil) (fun _ _ _ _ _ => vCT call_tuple_of okTuple mono_dTuple (by rfl) T.n_tuple (by decide +kernel) (vaCons (vVar 3) (vaNil))))).ve) (vaNil))))))
theorem ok_toppling_counts (T : Txt K mg) (C_counted : Callee P w K mg base "counted" 1 2 sp_counted) (C_toppled : Callee P w K mg base "toppled" 2 1 sp_toppled) : Callee P w K mg base "toppling_counts" 3 1 sp_toppling_counts :=
  def_ok (A0 := roomA) (roomA_ok (by decide)) T.f_toppling_counts sc_toppling_counts rfl (fun _ _ _ _ _ _ us hl => match us, hl with | [_], _ => rfl) fun f cdv A outer s H E hr =>
    show VSs _ (defBody st_toppling_counts) b_toppling_counts from
    vsOne (vRet (vCall (C_counted.up (by decide)) hr (by rfl) (vaCons (vVar 0) (vaCons (vIx (vCall (C_toppled.up (by decide)) hr (by rfl) (vaCons (vVar 0) (vaNil))) (vInt)) (vaNil)))))
theorem ok_toppling_paper (T : Txt K mg) (C_toppled : Callee P w K mg base "toppled" 2 1 sp_toppled) (C_toppling_counts : Callee P w K mg base "toppling_counts" 3 1 sp_toppling_counts) : Callee P w K mg base "toppling_paper" 4 1 sp_toppling_paper :=
  def_ok (A0 := roomA) (roomA_ok (by decide)) T.f_toppling_paper sc_toppling_paper rfl (fun _ _ _ _ _ _ us hl => match us, hl with | [_], _ => rfl) fun f cdv A outer s H E hr =>
    show VSs _ (defBody st_toppling_paper) b_toppling_paper from
    vsOne (vRet (vTup (vaCons (vCall (C_toppling_counts.up (by decide)) hr (by rfl) (vaCons (vVar 0) (vaNil))) (vaCons (vIx (vCall (C_toppled.up (by decide)) hr (by rfl) (vaCons (vVar 0) (vaNil))) (vInt)) (vaNil)))))
theorem ok_behind_order (T : Txt K mg) (C_beside : Callee P w K mg base "beside" 1 2 sp_beside) (C_places_of : Callee P w K mg base "places_of" 1 1 sp_places_of) : Callee P w K mg base "behind_order" 2 2 sp_behind_order :=
  def_ok (A0 := roomA) (roomA_ok (by decide)) T.f_behind_order sc_behind_order rfl (fun _ _ _ _ _ _ us hl => match us, hl with | [_, _], _ => rfl) fun f cdv A outer s H E hr =>
    show VSs _ (defBody st_behind_order) b_behind_order from
    vsCons (vOwnC (i := 2) (by rfl) (by rfl) (vcLc (own := [("row", 6)]) true rfl sc_behind_order.nd (vIter (vVar 0)) (blkOk_by (N := n_behind_order) (sc := (defScope st_behind_order)) (by decide +kernel)) (by decide) (fun _ _ _ _ _ => vgName (i := 6) sc_behind_order.nd (by rfl) (by first | exact .inl rfl | exact .inr rfl)) (fun _ _ _ _ _ => vtsNil) (fun _ _ _ _ _ => vCT call_list_of okList mono_dList (by rfl) T.n_list (by decide +kernel) (vaCons (vVar 6) (vaNil)))) (sw_true rfl rfl rfl (by decide +kernel))) (vsCons (vSet (i := 3) sc_behind_order.nd (by rfl) (by first | exact .inl rfl | exact .inr rfl) (vCall (C_places_of.up (by decide)) hr (by rfl) (vaCons (vVar 0) (vaNil)))) (vsCons (vFor PassesOwn.never rfl (vIter (vVar 1)) (vgName (i := 4) sc_behind_order.nd (by rfl) (by first | exact .inl rfl | exact .inr rfl)) (vsCons (vIfS ((vwOr (vtCmp (opNotIn (VL.Room.units65 hr)) okIn mono_dInG (vVar 4) (vVar 3)) (vwOr1 (vtCmp op_lt okLt mono_dI0 (vIx (vIx (vVar 2) (vIx (vVar 4) (vInt))) (vIx (vVar 4) (vInt))) (vGl (by rfl) T.c_FALL r_FALL)))).vt) (vsOne (vRet (vNon))) (vsNil)) (vsCons (vPut2 (i := 2) (by rfl) (by first | exact .inl rfl | exact .inr (.inl rfl) | exact .inr (.inr rfl)) (vIx (vVar 4) (vInt)) (vIx (vVar 4) (vInt)) (vSub (vIx (vIx (vVar 2) (vIx (vVar 4) (vInt))) (vIx (vVar 4) (vInt))) (vGl (by rfl) T.c_FALL r_FALL))) (vsOne (vFor PassesOwn.never rfl (vIter (vCall (C_beside.up (by decide)) hr (by rfl) (vaCons (vVar 0) (vaCons (vVar 4) (vaNil))))) (vgName (i := 5) sc_behind_order.nd (by rfl) (by first | exact .inl rfl | exact .inr rfl)) (vsOne (vPut2 (i := 2) (by rfl) (by first | exact .inl rfl | exact .inr (.inl rfl) | exact .inr (.inr rfl)) (vIx (vVar 5) (vInt)) (vIx (vVar 5) (vInt)) (vAdd (vIx (vIx (vVar 2) (vIx (vVar 5) (vInt))) (vIx (vVar 5) (vInt))) (vInt))))))))) (vsOne (vRet (vCT call_tuple_of okTuple mono_dTuple (by rfl) T.n_tuple (by decide +kernel) (vaCons ((vcBor (vcLc (own := [("row", 6)]) false rfl sc_behind_order.nd (vIter (vVar 2)) (blkOk_by (N := n_behind_order) (sc := (defScope st_behind_order)) (by decide +kernel)) (by decide) (fun _ _ _ _ _ => vgName (i := 6) sc_behind_order.nd (by rfl) (by first | exact .inl rfl | exact .inr rfl)) (fun _ _ _ _ _ => vtsNil) (fun _ _ _ _ _ => vCT call_tuple_of okTuple mono_dTuple (by rfl) T.n_tuple (by decide +kernel) (vaCons (vVar 6) (vaNil))))).ve) (vaNil)))))))
theorem ok_shows_toppling (T : Txt K mg) (C_behind_order : Callee P w K mg base "behind_order" 2 2 sp_behind_order) (C_counted : Callee P w K mg base "counted" 1 2 sp_counted) : Callee P w K mg base "shows_toppling" 3 3 sp_shows_toppling :=
  def_ok (A0 := roomA) (roomA_ok (by decide)) T.f_shows_toppling sc_shows_toppling rfl (fun _ _ _ _ _ _ us hl => match us, hl with | [_, _, _], _ => rfl) fun f cdv A outer s H E hr =>
    show VSs _ (defBody st_shows_toppling) b_shows_toppling from
    vsCons (vAsg (vgTup rfl (vgCons (vgName (i := 3) sc_shows_toppling.nd (by rfl) (by first | exact .inl rfl | exact .inr rfl)) (vgCons (vgName (i := 4) sc_shows_toppling.nd (by rfl) (by first | exact .inl rfl | exact .inr rfl)) (vgNil)))) (vVar 2)) (vsCons (vSet (i := 5) sc_shows_toppling.nd (by rfl) (by first | exact .inl rfl | exact .inr rfl) (vCall (C_behind_order.up (by decide)) hr (by rfl) (vaCons (vVar 0) (vaCons (vVar 4) (vaNil))))) (vsCons (vIfS ((vwOr (vtCmp opIs okIs mono_dIsG (vVar 5) (vNon)) (vwOr (vtCmp (opNe hr.units) okNe mono_dEqG (vVar 5) (vVar 1)) (vwOr1 (vtCmp (opNe hr.units) okNe mono_dEqG (vCall (C_counted.up (by decide)) hr (by rfl) (vaCons (vVar 0) (vaCons (vVar 4) (vaNil)))) (vVar 3))))).vt) (vsOne (vRet (vBl))) (vsNil)) (vsOne (vRet (vCmp op_lt okLt mono_dI0 (vCB (opMax1 rfl (VL.Room.units65 hr)) okMax1 mono_dBest (by rfl) T.n_max (by decide +kernel) (vaCons ((vcLc (own := [("row", 6)]) false rfl sc_shows_toppling.nd (vIter (vVar 5)) (blkOk_by (N := n_shows_toppling) (sc := (defScope st_shows_toppling)) (by decide +kernel)) (by decide) (fun _ _ _ _ _ => vgName (i := 6) sc_shows_toppling.nd (by rfl) (by first | exact .inl rfl | exact .inr rfl)) (fun _ _ _ _ _ => vtsNil) (fun _ _ _ _ _ => vCB (opMax1 rfl (VL.Room.units65 hr)) okMax1 mono_dBest (by rfl) T.n_max (by decide +kernel) (vaCons (vVar 6) (vaNil)))).ve) (vaNil))) (vGl (by rfl) T.c_FALL r_FALL))))))
theorem ok__law_deal (T : Txt K mg) : ∃ f fd, FnOk P w K mg base CX0 1 f fd ["script"] (spDeal K) ∧ mg "_law_deal" = some (.ref f) ∧ PySem.W.keepIn K (.ref f) = true ∧ (BindN "_law_deal" st__law_deal ["script"] → Binds K fd ["script"] []) := by
  have h1 : ∀ (f : Addr) (cdv : Value) (A : Around) (outer : List Env) (s : Shared) (H : Hp) (E : XK), Room 0 (A.deeper (envOfC "_law_deal" (defScope st__law_deal) s.heap.objs.size f cdv)) → VS (cxOf CX0 P w K mg base n__law_deal "_law_deal" (defScope st__law_deal) f cdv A outer s H E).nox ((defBody st__law_deal).getD 0 (.Pass ⟨0, 0, 0, 0⟩)) (sOwn 1 (sFn dLst (aNil))) := fun f cdv A outer s H E hr => vOwn (i := 1) sc__law_deal.nd (by rfl) (by first | exact .inl rfl | exact .inr rfl) (vLst (vaNil))
  have h2 : ∀ (f : Addr) (cdv : Value) (A : Around) (outer : List Env) (s : Shared) (H : Hp) (E : XK), Room 0 (A.deeper (envOfC "_law_deal" (defScope st__law_deal) s.heap.objs.size f cdv)) → VS (cxOf CX0 P w K mg base n__law_deal "_law_deal" (defScope st__law_deal) f cdv A outer s H E).nox ((defBody st__law_deal).getD 1 (.Pass ⟨0, 0, 0, 0⟩)) (sFor (sRng1 (aCons (sFn dMin2 (aCons (sFn dLen (aCons (sVar 0) (aNil))) (aCons (sC (.int 63)) (aNil)))) (aNil))) (.name 2) (sSeq (sSet 3 (sFn dAbs (aCons (sFn dInt (aCons (sBin dIx (sVar 0) (sVar 2)) (aNil))) (aNil)))) (sIfS (sTest (sBin dGe (sVar 3) (sBin dPow (sC (.int 10)) (sC (.int 18))))) (sFor (sRng1 (aCons (sC (.int 40)) (aNil))) (.name 4) (sIfS (sTest (sBin dGt (sVar 3) (sC (.int 0)))) (sSeq (sApp 1 (sBin dMod (sVar 3) (sC (.int 1009)))) (sSet 3 (sBin dFdiv (sVar 3) (sC (.int 1009))))) (sNil))) (sSeq (sSet 3 (sBin dAdd (sBin dAdd (sBin dMul (sBin dMod (sVar 3) (sC (.int 2147483629))) (sC (.int 48271))) (sBin dMul (sVar 2) (sC (.int 69621)))) (sC (.int 11)))) (sFor (sRng1 (aCons (sC (.int 5)) (aNil))) (.name 4) (sSeq (sSet 3 (sBin dMod (sBin dAdd (sBin dAdd (sBin dMul (sVar 3) (sC (.int 16807))) (sC (.int 12345))) (sVar 4)) (sC (.int 2147483647)))) (sApp 1 (sBin dMod (sBin dFdiv (sVar 3) (sC (.int 7))) (sC (.int 1009)))))))))) := fun f cdv A outer s H E hr => vFor PassesOwn.never rfl (vRng1 (by rfl) T.n_range (vaCons (vCB (call_min2 rfl) okMin2 mono_dF2 (by rfl) T.n_min (by decide +kernel) (vaCons (vCB call_len okLen mono_dLen (by rfl) T.n_len (by decide +kernel) (vaCons (vVar 0) (vaNil))) (vaCons (vInt) (vaNil)))) (vaNil))) (vgName (i := 2) sc__law_deal.nd (by rfl) (by first | exact .inl rfl | exact .inr rfl)) (vsCons (vSet (i := 3) sc__law_deal.nd (by rfl) (by first | exact .inl rfl | exact .inr rfl) (vCB call_abs okAbs mono_dF1 (by rfl) T.n_abs (by decide +kernel) (vaCons (vCT call_int1 okInt mono_dF1 (by rfl) T.n_int (by decide +kernel) (vaCons (vIx (vVar 0) (vVar 2)) (vaNil))) (vaNil)))) (vsOne (vIfS (vtCmp op_ge okGe mono_dI0 (vVar 3) (vPow (vInt) (vInt))) (vsOne (vFor PassesOwn.never rfl (vRng1 (by rfl) T.n_range (vaCons (vInt) (vaNil))) (vgName (i := 4) sc__law_deal.nd (by rfl) (by first | exact .inl rfl | exact .inr rfl)) (vsOne (vIfS (vtCmp op_gt okGt mono_dI0 (vVar 3) (vInt)) (vsCons (vApp (i := 1) (by rfl) (by first | exact .inl rfl | exact .inr (.inl rfl) | exact .inr (.inr rfl)) (vMod (vVar 3) (vInt))) (vsOne (vSet (i := 3) sc__law_deal.nd (by rfl) (by first | exact .inl rfl | exact .inr rfl) (vFdiv (vVar 3) (vInt))))) (vsNil))))) (vsCons (vSet (i := 3) sc__law_deal.nd (by rfl) (by first | exact .inl rfl | exact .inr rfl) (vAdd (vAdd (vMul (vMod (vVar 3) (vInt)) (vInt)) (vMul (vVar 2) (vInt))) (vInt))) (vsOne (vFor PassesOwn.never rfl (vRng1 (by rfl) T.n_range (vaCons (vInt) (vaNil))) (vgName (i := 4) sc__law_deal.nd (by rfl) (by first | exact .inl rfl | exact .inr rfl)) (vsCons (vSet (i := 3) sc__law_deal.nd (by rfl) (by first | exact .inl rfl | exact .inr rfl) (vMod (vAdd (vAdd (vMul (vVar 3) (vInt)) (vInt)) (vVar 4)) (vInt))) (vsOne (vApp (i := 1) (by rfl) (by first | exact .inl rfl | exact .inr (.inl rfl) | exact .inr (.inr rfl)) (vMod (vFdiv (vVar 3) (vInt)) (vInt)))))))))))
  have h3 : ∀ (f : Addr) (cdv : Value) (A : Around) (outer : List Env) (s : Shared) (H : Hp) (E : XK), Room 0 (A.deeper (envOfC "_law_deal" (defScope st__law_deal) s.heap.objs.size f cdv)) → VS (cxOf CX0 P w K mg base n__law_deal "_law_deal" (defScope st__law_deal) f cdv A outer s H E).nox ((defBody st__law_deal).getD 2 (.Pass ⟨0, 0, 0, 0⟩)) (sSet 5 (sBin dAdd (sFn dSum (aCons (sVar 1) (aNil))) (sFn dLen (aCons (sVar 0) (aNil))))) := fun f cdv A outer s H E hr => vSet (i := 5) sc__law_deal.nd (by rfl) (by first | exact .inl rfl | exact .inr rfl) (vAdd (vCB (cr_sum rfl) okSum mono_dSum (by rfl) T.n_sum (by decide +kernel) (vaCons (vVar 1) (vaNil))) (vCB call_len okLen mono_dLen (by rfl) T.n_len (by decide +kernel) (vaCons (vVar 0) (vaNil))))
  have r0 : Room 0 (roomA.deeper (envOfC "_law_deal" (defScope st__law_deal) ({} : Shared).heap.objs.size 0 .none)) := Room.deeper (roomA_ok (by decide)) _
  exact deal_mk T.f__law_deal sc__law_deal rfl (h1 0 .none roomA [] {} (fun _ => none) (fun _ _ _ => False) r0).mono (h2 0 .none roomA [] {} (fun _ => none) (fun _ _ _ => False) r0).mono fun f cdv A outer s H E hr =>
    show PSs _ (defBody st__law_deal) _ from
    pss_cons (h1 f cdv A outer s H E hr).pe (pss_cons (h2 f cdv A outer s H E hr).pe (pss_cons (h3 f cdv A outer s H E hr).pe (pss_one (ps_ret (pe_lst (pa_cons (pv 1) (pa_cons (pe_lst (pa_cons pe_int pa_nil)) (pa_cons (pv 5) pa_nil)))))))) 
theorem ok__law_take (T : Txt K mg) : Callee P w K mg base "_law_take" 1 2 takeSp :=
  take_mk T.f__law_take sc__law_take (fun _ _ _ _ _ _ us hl => match us, hl with | [_, _], _ => rfl) fun f cdv A outer s H E =>
    show PSs _ (defBody st__law_take) (takeRd K) from
    pss_cons (ps_set (i := 2) sc__law_take.nd (by rfl) (.inl rfl) (pe_ix ix_list (pe_ix ix_list (pv 0) pe_int (fun _ _ => rfl)) pe_int (fun _ _ => rfl)))
    (pss_cons (ps_asg (pe_op op_add (pv 2) pe_int) (pg_sub (pe_ix ix_list (pv 0) pe_int (fun _ _ => rfl)) pe_int set_list))
    (pss_cons (ps_if (pt_cmpR op_lt (pv 2) (pe_callB call_len_seq (by rfl) T.n_len PySem.boot_len (pa_cons (pe_ix ix_list (pv 0) pe_int (fun _ _ => rfl)) pa_nil)) (nomark _))
      (pss_one (ps_ret (pe_op op_mod (pe_ix ix_list (pe_ix ix_list (pv 0) pe_int (fun _ _ => rfl)) (pv 2) (fun _ _ => rfl)) (pv 1)))) pss_nil)
    (pss_one (ps_ret (pe_op op_mod (pe_op op_fdiv (pe_op op_add (pe_op op_add (pe_op op_mul (pv 2) pe_int) (pe_op op_mul (pe_ix ix_list (pv 0) pe_int (fun _ _ => rfl)) pe_int)) (pe_op op_mul (pe_op op_mul (pv 2) (pv 2)) pe_int)) pe_int) (pv 1))))))
theorem ok__law_same (T : Txt K mg)  : ∀ n, n ≤ 50 → Callee P w K mg base "_law_same" (0 + n) 2 (sp__law_same n)
  | 0, _ => callee_false T.f__law_same (ps := p__law_same) (fun _ _ _ _ _ _ us hl => match us, hl with | [_, _], _ => rfl)
  | n + 1, hn => by
    have C__law_same := ok__law_same T  n (by omega)
    exact def_ok (k := 0 + n) (A0 := roomA) (roomA_ok (by omega)) T.f__law_same sc__law_same rfl (fun _ _ _ _ _ _ us hl => match us, hl with | [_, _], _ => rfl) fun f cdv A outer s H E hr =>
      show VSs _ (defBody st__law_same) (b__law_same (sp__law_same n)) from
      vsCons (vIfS ((vwOr (vtVal (vIsi "tuple" (by rfl) T.n_isinstance (by rfl) T.n_tuple (by decide +kernel) (vVar 1))) (vwOr1 (vtVal (vIsi "list" (by rfl) T.n_isinstance (by rfl) T.n_list (by decide +kernel) (vVar 1))))).vt) (vsCons (vIfS ((vwOr ((vwAnd (vtVal (vIsi "tuple" (by rfl) T.n_isinstance (by rfl) T.n_tuple (by decide +kernel) (vVar 1))) (vwAnd1 (vtNot (vtVal (vIsi "tuple" (by rfl) T.n_isinstance (by rfl) T.n_tuple (by decide +kernel) (vVar 0)))))).vt) (vwOr1 ((vwAnd (vtVal (vIsi "list" (by rfl) T.n_isinstance (by rfl) T.n_list (by decide +kernel) (vVar 1))) (vwAnd1 (vtNot (vtVal (vIsi "list" (by rfl) T.n_isinstance (by rfl) T.n_list (by decide +kernel) (vVar 0)))))).vt))).vt) (vsOne (vRet (vBl))) (vsNil)) (vsCons (vIfS (vtCmp (opNe hr.units) okNe mono_dEqG (vCB call_len okLen mono_dLen (by rfl) T.n_len (by decide +kernel) (vaCons (vVar 0) (vaNil))) (vCB call_len okLen mono_dLen (by rfl) T.n_len (by decide +kernel) (vaCons (vVar 1) (vaNil)))) (vsOne (vRet (vBl))) (vsNil)) (vsCons (vFor PassesOwn.never rfl (vRng1 (by rfl) T.n_range (vaCons (vCB call_len okLen mono_dLen (by rfl) T.n_len (by decide +kernel) (vaCons (vVar 1) (vaNil))) (vaNil))) (vgName (i := 2) sc__law_same.nd (by rfl) (by first | exact .inl rfl | exact .inr rfl)) (vsOne (vIfS (vtNot (vtVal (vCall (C__law_same.up (by omega)) hr (by rfl) (vaCons (vIx (vVar 0) (vVar 2)) (vaCons (vIx (vVar 1) (vVar 2)) (vaNil)))))) (vsOne (vRet (vBl))) (vsNil)))) (vsOne (vRet (vBl)))))) (vsNil)) (vsCons (vIfS ((vwOr (vtVal (vIsi "bool" (by rfl) T.n_isinstance (by rfl) T.n_bool (by decide +kernel) (vVar 0))) (vwOr1 (vtVal (vIsi "bool" (by rfl) T.n_isinstance (by rfl) T.n_bool (by decide +kernel) (vVar 1))))).vt) (vsOne (vRet (vAnd (vIsi "bool" (by rfl) T.n_isinstance (by rfl) T.n_bool (by decide +kernel) (vVar 0)) (vAnd (vIsi "bool" (by rfl) T.n_isinstance (by rfl) T.n_bool (by decide +kernel) (vVar 1)) (vOne (vCmp (opEq hr.units) okEq mono_dEqG (vVar 0) (vVar 1))))))) (vsNil)) (vsCons (vIfS (vtVal (vIsi "int" (by rfl) T.n_isinstance (by rfl) T.n_int (by decide +kernel) (vVar 1))) (vsOne (vRet (vAnd (vIsi "int" (by rfl) T.n_isinstance (by rfl) T.n_int (by decide +kernel) (vVar 0)) (vOne (vCmp (opEq hr.units) okEq mono_dEqG (vVar 0) (vVar 1)))))) (vsNil)) (vsCons (vIfS (vtVal (vIsi "str" (by rfl) T.n_isinstance (by rfl) T.n_str (by decide +kernel) (vVar 1))) (vsOne (vRet (vAnd (vIsi "str" (by rfl) T.n_isinstance (by rfl) T.n_str (by decide +kernel) (vVar 0)) (vOne (vCmp (opEq hr.units) okEq mono_dEqG (vVar 0) (vVar 1)))))) (vsNil)) (vsOne (vRet (vAnd (vCmp opIs okIs mono_dIsG (vVar 0) (vNon)) (vOne (vCmp opIs okIs mono_dIsG (vVar 1) (vNon)))))))))
theorem ok__law_bool (T : Txt K mg)  : Callee P w K mg base "_law_bool" 1 2 sp__law_bool :=
  def_ok (A0 := roomA) (roomA_ok (by decide)) T.f__law_bool sc__law_bool rfl (fun _ _ _ _ _ _ us hl => match us, hl with | [_, _], _ => rfl) fun f cdv A outer s H E hr =>
    show VSs _ (defBody st__law_bool) b__law_bool from
    vsOne (vRet (vAnd (vIsi "bool" (by rfl) T.n_isinstance (by rfl) T.n_bool (by decide +kernel) (vVar 0)) (vOne (vCmp (opEq hr.units) okEq mono_dEqG (vVar 0) (vVar 1)))))
theorem ok__law_beside (T : Txt K mg)  : Callee P w K mg base "_law_beside" 1 3 sp__law_beside :=
  def_ok (A0 := roomA) (roomA_ok (by decide)) T.f__law_beside sc__law_beside rfl (fun _ _ _ _ _ _ us hl => match us, hl with | [_, _, _], _ => rfl) fun f cdv A outer s H E hr =>
    show VSs _ (defBody st__law_beside) b__law_beside from
    vsCons (vOwn (i := 3) sc__law_beside.nd (by rfl) (by first | exact .inl rfl | exact .inr rfl) (vLst (vaNil))) (vsCons (vFor PassesOwn.never rfl (vIter (vLst (vaCons (vTup (vaCons (vSub (vVar 1) (vInt)) (vaCons (vVar 2) (vaNil)))) (vaCons (vTup (vaCons (vVar 1) (vaCons (vSub (vVar 2) (vInt)) (vaNil)))) (vaCons (vTup (vaCons (vVar 1) (vaCons (vAdd (vVar 2) (vInt)) (vaNil)))) (vaCons (vTup (vaCons (vAdd (vVar 1) (vInt)) (vaCons (vVar 2) (vaNil)))) (vaNil))))))) (vgTup rfl (vgCons (vgName (i := 4) sc__law_beside.nd (by rfl) (by first | exact .inl rfl | exact .inr rfl)) (vgCons (vgName (i := 5) sc__law_beside.nd (by rfl) (by first | exact .inl rfl | exact .inr rfl)) (vgNil)))) (vsOne (vIfS ((vwAnd (vtChain op_le op_lt okLe okLt mono_dI0 mono_dI0 (vInt) (vVar 4) (vCB call_len okLen mono_dLen (by rfl) T.n_len (by decide +kernel) (vaCons (vVar 0) (vaNil)))) (vwAnd1 (vtChain op_le op_lt okLe okLt mono_dI0 mono_dI0 (vInt) (vVar 5) (vCB call_len okLen mono_dLen (by rfl) T.n_len (by decide +kernel) (vaCons (vIx (vVar 0) (vInt)) (vaNil)))))).vt) (vsOne (vApp (i := 3) (by rfl) (by first | exact .inl rfl | exact .inr (.inl rfl) | exact .inr (.inr rfl)) (vTup (vaCons (vVar 4) (vaCons (vVar 5) (vaNil)))))) (vsNil)))) (vsOne (vRet (vVar 3))))
theorem ok__law_topple (T : Txt K mg) (C__law_beside : Callee P w K mg base "_law_beside" 1 3 sp__law_beside) : Callee P w K mg base "_law_topple" 2 2 sp__law_topple :=
  def_ok (A0 := roomA) (roomA_ok (by decide)) T.f__law_topple sc__law_topple rfl (fun _ _ _ _ _ _ us hl => match us, hl with | [_, _], _ => rfl) fun f cdv A outer s H E hr =>
    show VSs _ (defBody st__law_topple) b__law_topple from
    vsCons (vOwnC (i := 2) (by rfl) (by rfl) (vcLc (own := [("row", 7)]) true rfl sc__law_topple.nd (vIter (vVar 0)) (blkOk_by (N := n__law_topple) (sc := (defScope st__law_topple)) (by decide +kernel)) (by decide) (fun _ _ _ _ _ => vgName (i := 7) sc__law_topple.nd (by rfl) (by first | exact .inl rfl | exact .inr rfl)) (fun _ _ _ _ _ => vtsNil) (fun _ _ _ _ _ => vCT call_list_of okList mono_dList (by rfl) T.n_list (by decide +kernel) (vaCons (vVar 7) (vaNil)))) (sw_true rfl rfl rfl (by decide +kernel))) (vsCons (vAsg (vgTup rfl (vgCons (vgName (i := 3) sc__law_topple.nd (by rfl) (by first | exact .inl rfl | exact .inr rfl)) (vgCons (vgName (i := 4) sc__law_topple.nd (by rfl) (by first | exact .inl rfl | exact .inr rfl)) (vgNil)))) (vVar 1)) (vsCons (vPut2 (i := 2) (by rfl) (by first | exact .inl rfl | exact .inr (.inl rfl) | exact .inr (.inr rfl)) (vVar 3) (vVar 4) (vSub (vIx (vIx (vVar 2) (vVar 3)) (vVar 4)) (vInt))) (vsCons (vFor PassesOwn.never rfl (vIter (vCall (C__law_beside.up (by decide)) hr (by rfl) (vaCons (vVar 0) (vaCons (vVar 3) (vaCons (vVar 4) (vaNil)))))) (vgTup rfl (vgCons (vgName (i := 5) sc__law_topple.nd (by rfl) (by first | exact .inl rfl | exact .inr rfl)) (vgCons (vgName (i := 6) sc__law_topple.nd (by rfl) (by first | exact .inl rfl | exact .inr rfl)) (vgNil)))) (vsOne (vPut2 (i := 2) (by rfl) (by first | exact .inl rfl | exact .inr (.inl rfl) | exact .inr (.inr rfl)) (vVar 5) (vVar 6) (vAdd (vIx (vIx (vVar 2) (vVar 5)) (vVar 6)) (vInt))))) (vsOne (vRet (vCT call_tuple_of okTuple mono_dTuple (by rfl) T.n_tuple (by decide +kernel) (vaCons ((vcBor (vcLc (own := [("row", 7)]) false rfl sc__law_topple.nd (vIter (vVar 2)) (blkOk_by (N := n__law_topple) (sc := (defScope st__law_topple)) (by decide +kernel)) (by decide) (fun _ _ _ _ _ => vgName (i := 7) sc__law_topple.nd (by rfl) (by first | exact .inl rfl | exact .inr rfl)) (fun _ _ _ _ _ => vtsNil) (fun _ _ _ _ _ => vCT call_tuple_of okTuple mono_dTuple (by rfl) T.n_tuple (by decide +kernel) (vaCons (vVar 7) (vaNil))))).ve) (vaNil))))))))
theorem ok__law_calm (T : Txt K mg) (C__law_topple : Callee P w K mg base "_law_topple" 2 2 sp__law_topple) : Callee P w K mg base "_law_calm" 3 1 sp__law_calm :=
  def_ok (A0 := roomA) (roomA_ok (by decide)) T.f__law_calm sc__law_calm rfl (fun _ _ _ _ _ _ us hl => match us, hl with | [_], _ => rfl) fun f cdv A outer s H E hr =>
    show VSs _ (defBody st__law_calm) b__law_calm from
    vsCons (vOwnC (i := 1) (by rfl) (by rfl) (vcLc (own := [("row", 6)]) true rfl sc__law_calm.nd (vIter (vVar 0)) (blkOk_by (N := n__law_calm) (sc := (defScope st__law_calm)) (by decide +kernel)) (by decide) (fun _ _ _ _ _ => vgName (i := 6) sc__law_calm.nd (by rfl) (by first | exact .inl rfl | exact .inr rfl)) (fun _ _ _ _ _ => vtsNil) (fun _ _ _ _ _ => vMul (vLst (vaCons (vInt) (vaNil))) (vCB call_len okLen mono_dLen (by rfl) T.n_len (by decide +kernel) (vaCons (vIx (vVar 0) (vInt)) (vaNil))))) (sw_true rfl rfl rfl (by decide +kernel))) (vsCons (vFor PassesOwn.never rfl (vRng1 (by rfl) T.n_range (vaCons (vInt) (vaNil))) (vgName (i := 2) sc__law_calm.nd (by rfl) (by first | exact .inl rfl | exact .inr rfl)) (vsCons (vOwn (i := 3) sc__law_calm.nd (by rfl) (by first | exact .inl rfl | exact .inr rfl) (vLst (vaNil))) (vsCons (vFor PassesOwn.never rfl (vRngD (by rfl) T.n_range (vaCons (vSub (vCB call_len okLen mono_dLen (by rfl) T.n_len (by decide +kernel) (vaCons (vVar 0) (vaNil))) (vInt)) (vaCons (vNeg (vInt)) (vaCons (vNeg (vInt)) (vaNil))))) (vgName (i := 4) sc__law_calm.nd (by rfl) (by first | exact .inl rfl | exact .inr rfl)) (vsOne (vFor PassesOwn.never rfl (vRngD (by rfl) T.n_range (vaCons (vSub (vCB call_len okLen mono_dLen (by rfl) T.n_len (by decide +kernel) (vaCons (vIx (vVar 0) (vInt)) (vaNil))) (vInt)) (vaCons (vNeg (vInt)) (vaCons (vNeg (vInt)) (vaNil))))) (vgName (i := 5) sc__law_calm.nd (by rfl) (by first | exact .inl rfl | exact .inr rfl)) (vsOne (vIfS (vtCmp op_ge okGe mono_dI0 (vIx (vIx (vVar 0) (vVar 4)) (vVar 5)) (vInt)) (vsOne (vApp (i := 3) (by rfl) (by first | exact .inl rfl | exact .inr (.inl rfl) | exact .inr (.inr rfl)) (vTup (vaCons (vVar 4) (vaCons (vVar 5) (vaNil)))))) (vsNil)))))) (vsCons (vIfS (vtCmp (opEq hr.units) okEq mono_dEqG (vCB call_len okLen mono_dLen (by rfl) T.n_len (by decide +kernel) (vaCons (vVar 3) (vaNil))) (vInt)) (vsOne (vBreak)) (vsNil)) (vsCons (vSet (i := 0) sc__law_calm.nd (by rfl) (by first | exact .inl rfl | exact .inr rfl) (vCall (C__law_topple.up (by decide)) hr (by rfl) (vaCons (vVar 0) (vaCons (vIx (vVar 3) (vInt)) (vaNil))))) (vsOne (vPut2 (i := 1) (by rfl) (by first | exact .inl rfl | exact .inr (.inl rfl) | exact .inr (.inr rfl)) (vIx (vIx (vVar 3) (vInt)) (vInt)) (vIx (vIx (vVar 3) (vInt)) (vInt)) (vAdd (vIx (vIx (vVar 1) (vIx (vIx (vVar 3) (vInt)) (vInt))) (vIx (vIx (vVar 3) (vInt)) (vInt))) (vInt))))))))) (vsOne (vRet (vLst (vaCons (vVar 0) (vaCons (vCT call_tuple_of okTuple mono_dTuple (by rfl) T.n_tuple (by decide +kernel) (vaCons ((vcBor (vcLc (own := [("row", 6)]) false rfl sc__law_calm.nd (vIter (vVar 1)) (blkOk_by (N := n__law_calm) (sc := (defScope st__law_calm)) (by decide +kernel)) (by decide) (fun _ _ _ _ _ => vgName (i := 6) sc__law_calm.nd (by rfl) (by first | exact .inl rfl | exact .inr rfl)) (fun _ _ _ _ _ => vtsNil) (fun _ _ _ _ _ => vCT call_tuple_of okTuple mono_dTuple (by rfl) T.n_tuple (by decide +kernel) (vaCons (vVar 6) (vaNil))))).ve) (vaNil))) (vaNil)))))))
theorem ok__law_gone_through (T : Txt K mg) (C__law_topple : Callee P w K mg base "_law_topple" 2 2 sp__law_topple) : Callee P w K mg base "_law_gone_through" 3 2 sp__law_gone_through :=
  def_ok (A0 := roomA) (roomA_ok (by decide)) T.f__law_gone_through sc__law_gone_through rfl (fun _ _ _ _ _ _ us hl => match us, hl with | [_, _], _ => rfl) fun f cdv A outer s H E hr =>
    show VSs _ (defBody st__law_gone_through) b__law_gone_through from
    vsCons (vFor PassesOwn.never rfl (vIter (vVar 1)) (vgTup rfl (vgCons (vgName (i := 2) sc__law_gone_through.nd (by rfl) (by first | exact .inl rfl | exact .inr rfl)) (vgCons (vgName (i := 3) sc__law_gone_through.nd (by rfl) (by first | exact .inl rfl | exact .inr rfl)) (vgNil)))) (vsCons (vIfS ((vwOr (vtNot (vtChain op_le op_lt okLe okLt mono_dI0 mono_dI0 (vInt) (vVar 2) (vCB call_len okLen mono_dLen (by rfl) T.n_len (by decide +kernel) (vaCons (vVar 0) (vaNil))))) (vwOr (vtNot (vtChain op_le op_lt okLe okLt mono_dI0 mono_dI0 (vInt) (vVar 3) (vCB call_len okLen mono_dLen (by rfl) T.n_len (by decide +kernel) (vaCons (vIx (vVar 0) (vInt)) (vaNil))))) (vwOr1 (vtCmp op_lt okLt mono_dI0 (vIx (vIx (vVar 0) (vVar 2)) (vVar 3)) (vInt))))).vt) (vsOne (vRet (vNon))) (vsNil)) (vsOne (vSet (i := 0) sc__law_gone_through.nd (by rfl) (by first | exact .inl rfl | exact .inr rfl) (vCall (C__law_topple.up (by decide)) hr (by rfl) (vaCons (vVar 0) (vaCons (vTup (vaCons (vVar 2) (vaCons (vVar 3) (vaNil)))) (vaNil)))))))) (vsOne (vRet (vVar 0)))
theorem ok_law {l : PySem.W.OpenLaw} {fa : Addr} (T : Txt K mg) (hfa : mg "law" = some (.ref fa)) (hL : LawOk 15 b_law)
    : ∃ fd : FuncData, (∀ (s : Shared) (v : Value), BindsTo s fd ⟨[v], []⟩ [("script", v)]) ∧ ∀ base : Heap, K.In base → base.Ns mainGlobals mg → FnOk l.prog w K mg base CX0 7 fa fd ["script"] (spLaw K) := by
  have hb : ∀ (base : Heap) (f : Addr) (cdv : Value) (A : Around) (outer : List Env) (s : Shared) (H : Hp) (E : XK), Room 6 (A.deeper (envOfC "law" (defScope st_law) s.heap.objs.size f cdv)) → VSs (cxOf CX0 l.prog w K mg base n_law "law" (defScope st_law) f cdv A outer s H E).nox ((defBody st_law).drop 1) b_law := fun base f cdv A outer s H E hr => by
    have C__law_bool := ok__law_bool (P := l.prog) (w := w) (base := base) T 
    have C__law_beside := ok__law_beside (P := l.prog) (w := w) (base := base) T 
    have C__law_topple := ok__law_topple (P := l.prog) (w := w) (base := base) T C__law_beside
    have C__law_calm := ok__law_calm (P := l.prog) (w := w) (base := base) T C__law_topple
    have C__law_gone_through := ok__law_gone_through (P := l.prog) (w := w) (base := base) T C__law_topple
    have C__law_same := ok__law_same (P := l.prog) (w := w) (base := base) T  6 (by decide)
    have C__law_take := ok__law_take (P := l.prog) (w := w) (base := base) T 
    have C_beside := ok_beside (P := l.prog) (w := w) (base := base) T 
    have C_places_of := ok_places_of (P := l.prog) (w := w) (base := base) T 
    have C_toppled := ok_toppled (P := l.prog) (w := w) (base := base) T C_beside C_places_of
    have C_calm := ok_calm (P := l.prog) (w := w) (base := base) T C_toppled
    have C_is_heap := ok_is_heap (P := l.prog) (w := w) (base := base) T 
    have C_behind_order := ok_behind_order (P := l.prog) (w := w) (base := base) T C_beside C_places_of
    have C_counted := ok_counted (P := l.prog) (w := w) (base := base) T 
    have C_shows_toppling := ok_shows_toppling (P := l.prog) (w := w) (base := base) T C_behind_order C_counted
    have C_toppling_counts := ok_toppling_counts (P := l.prog) (w := w) (base := base) T C_counted C_toppled
    have C_toppling_paper := ok_toppling_paper (P := l.prog) (w := w) (base := base) T C_toppled C_toppling_counts
    exact vsCons (vSet (i := 2) sc_law.nd (by rfl) (by first | exact .inl rfl | exact .inr rfl) (vAdd (vInt) (vCall (C__law_take.up (by decide)) hr (by rfl) (vaCons (vVar 1) (vaCons (vInt) (vaNil)))))) (vsCons (vSet (i := 3) sc_law.nd (by rfl) (by first | exact .inl rfl | exact .inr rfl) (vIx (vLst (vaCons (vInt) (vaCons (vInt) (vaCons (vInt) (vaNil))))) (vCall (C__law_take.up (by decide)) hr (by rfl) (vaCons (vVar 1) (vaCons (vInt) (vaNil)))))) (vsCons (vSet (i := 4) sc_law.nd (by rfl) (by first | exact .inl rfl | exact .inr rfl) (vCT call_tuple_of okTuple mono_dTuple (by rfl) T.n_tuple (by decide +kernel) (vaCons ((vcLc (own := [("r", 14)]) false rfl sc_law.nd (vRng1 (by rfl) T.n_range (vaCons (vAdd (vInt) (vCall (C__law_take.up (by decide)) hr (by rfl) (vaCons (vVar 1) (vaCons (vInt) (vaNil))))) (vaNil))) (blkOk_by (N := n_law) (sc := (defScope st_law)) (by decide +kernel)) (by decide) (fun _ _ _ _ _ => vgName (i := 14) sc_law.nd (by rfl) (by first | exact .inl rfl | exact .inr rfl)) (fun _ _ _ _ _ => vtsNil) (fun _ _ _ _ _ => vCT call_tuple_of okTuple mono_dTuple (by rfl) T.n_tuple (by decide +kernel) (vaCons ((vcLc (own := [("c", 15)]) false rfl sc_law.nd (vRng1 (by rfl) T.n_range (vaCons (vVar 2) (vaNil))) (blkOk_by (by kernel_rfl)) (by decide) (fun _ _ _ _ _ => vgName (i := 15) sc_law.nd (by rfl) (by first | exact .inl rfl | exact .inr rfl)) (fun _ _ _ _ _ => vtsNil) (fun _ _ _ _ _ => vCall (C__law_take.up (by decide)) hr (by rfl) (vaCons (vVar 1) (vaCons (vAdd (vVar 3) (vInt)) (vaNil))))).ve) (vaNil)))).ve) (vaNil)))) (vsCons (vIfS (vtNot (vtVal (vCall (C__law_bool.up (by decide)) hr (by rfl) (vaCons (vCall (C_is_heap.up (by decide)) hr (by rfl) (vaCons (vVar 4) (vaNil))) (vaCons (vBl) (vaNil)))))) (vsOne (vRet (vBl))) (vsNil)) (vsCons (vFor PassesOwn.never rfl (vIter (vLst (vaCons (vTup (vaNil)) (vaCons (vTup (vaCons (vTup (vaNil)) (vaNil))) (vaCons (vAdd (vVar 4) (vTup (vaCons (vAdd (vIx (vVar 4) (vInt)) (vTup (vaCons (vInt) (vaNil)))) (vaNil)))) (vaCons (vAdd (vSl (vVar 4) (voN) (voS (vNeg (vInt)))) (vTup (vaCons (vAdd (vTup (vaCons (vInt) (vaNil))) (vSl (vIx (vVar 4) (vNeg (vInt))) (voS (vInt)) (voN))) (vaNil)))) (vaCons (vAdd (vSl (vVar 4) (voN) (voS (vNeg (vInt)))) (vTup (vaCons (vAdd (vTup (vaCons (vNeg (vInt)) (vaNil))) (vSl (vIx (vVar 4) (vNeg (vInt))) (voS (vInt)) (voN))) (vaNil)))) (vaNil)))))))) (vgName (i := 5) sc_law.nd (by rfl) (by first | exact .inl rfl | exact .inr rfl)) (vsOne (vIfS (vtNot (vtVal (vCall (C__law_bool.up (by decide)) hr (by rfl) (vaCons (vCall (C_is_heap.up (by decide)) hr (by rfl) (vaCons (vVar 5) (vaNil))) (vaCons (vBl) (vaNil)))))) (vsOne (vRet (vBl))) (vsNil)))) (vsCons (vIfS ((vwOr (vtNot (vtVal (vCall (C__law_bool.up (by decide)) hr (by rfl) (vaCons (vCall (C_is_heap.up (by decide)) hr (by rfl) (vaCons (vTup (vaCons (vMul (vTup (vaCons (vInt) (vaNil))) (vInt)) (vaNil))) (vaNil))) (vaCons (vBl) (vaNil)))))) (vwOr1 (vtNot (vtVal (vCall (C__law_bool.up (by decide)) hr (by rfl) (vaCons (vCall (C_is_heap.up (by decide)) hr (by rfl) (vaCons (vMul (vTup (vaCons (vTup (vaCons (vInt) (vaNil))) (vaNil))) (vInt)) (vaNil))) (vaCons (vBl) (vaNil)))))))).vt) (vsOne (vRet (vBl))) (vsNil)) (vsCons (vAsg (vgTup rfl (vgCons (vgName (i := 6) sc_law.nd (by rfl) (by first | exact .inl rfl | exact .inr rfl)) (vgCons (vgName (i := 7) sc_law.nd (by rfl) (by first | exact .inl rfl | exact .inr rfl)) (vgNil)))) (vCall (C__law_calm.up (by decide)) hr (by rfl) (vaCons (vVar 4) (vaNil)))) (vsCons (vIfS ((vwOr (vtNot (vtVal (vCall (C__law_same.up (by decide)) hr (by rfl) (vaCons (vCall (C_calm.up (by decide)) hr (by rfl) (vaCons (vVar 4) (vaNil))) (vaCons (vVar 6) (vaNil)))))) (vwOr1 (vtNot (vtVal (vCall (C__law_same.up (by decide)) hr (by rfl) (vaCons (vCall (C_toppling_counts.up (by decide)) hr (by rfl) (vaCons (vVar 4) (vaNil))) (vaCons (vVar 7) (vaNil)))))))).vt) (vsOne (vRet (vBl))) (vsNil)) (vsCons (vSet (i := 8) sc_law.nd (by rfl) (by first | exact .inl rfl | exact .inr rfl) (vCall (C_toppling_paper.up (by decide)) hr (by rfl) (vaCons (vVar 4) (vaNil)))) (vsCons (vIfS ((vwOr (vtNot (vtVal (vIsi "tuple" (by rfl) T.n_isinstance (by rfl) T.n_tuple (by decide +kernel) (vVar 8)))) (vwOr (vtCmp (opNe hr.units) okNe mono_dEqG (vCB call_len okLen mono_dLen (by rfl) T.n_len (by decide +kernel) (vaCons (vVar 8) (vaNil))) (vInt)) (vwOr1 (vtNot (vtVal (vCall (C__law_same.up (by decide)) hr (by rfl) (vaCons (vIx (vVar 8) (vInt)) (vaCons (vVar 7) (vaNil))))))))).vt) (vsOne (vRet (vBl))) (vsNil)) (vsCons (vSet (i := 9) sc_law.nd (by rfl) (by first | exact .inl rfl | exact .inr rfl) (vIx (vVar 8) (vInt))) (vsCons (vIfS ((vwOr (vtNot (vtVal (vIsi "list" (by rfl) T.n_isinstance (by rfl) T.n_list (by decide +kernel) (vVar 9)))) (vwOr1 (vtNot (vtVal (vCall (C__law_same.up (by decide)) hr (by rfl) (vaCons (vCall (C__law_gone_through.up (by decide)) hr (by rfl) (vaCons (vVar 4) (vaCons (vVar 9) (vaNil)))) (vaCons (vVar 6) (vaNil)))))))).vt) (vsOne (vRet (vBl))) (vsNil)) (vsCons (vIfS (vtNot (vtVal (vCall (C__law_bool.up (by decide)) hr (by rfl) (vaCons (vCall (C_shows_toppling.up (by decide)) hr (by rfl) (vaCons (vVar 4) (vaCons (vVar 6) (vaCons (vTup (vaCons (vVar 7) (vaCons (vVar 9) (vaNil)))) (vaNil))))) (vaCons (vBl) (vaNil)))))) (vsOne (vRet (vBl))) (vsNil)) (vsCons (vSet (i := 10) sc_law.nd (by rfl) (by first | exact .inl rfl | exact .inr rfl) (vAdd (vSl (vVar 6) (voN) (voS (vNeg (vInt)))) (vTup (vaCons (vAdd (vTup (vaCons (vAdd (vIx (vIx (vVar 6) (vNeg (vInt))) (vInt)) (vInt)) (vaNil))) (vSl (vIx (vVar 6) (vNeg (vInt))) (voS (vInt)) (voN))) (vaNil))))) (vsCons (vSet (i := 11) sc_law.nd (by rfl) (by first | exact .inl rfl | exact .inr rfl) (vAdd (vSl (vVar 7) (voN) (voS (vNeg (vInt)))) (vTup (vaCons (vAdd (vTup (vaCons (vAdd (vIx (vIx (vVar 7) (vNeg (vInt))) (vInt)) (vInt)) (vaNil))) (vSl (vIx (vVar 7) (vNeg (vInt))) (voS (vInt)) (voN))) (vaNil))))) (vsCons (vOwn (i := 5) sc_law.nd (by rfl) (by first | exact .inl rfl | exact .inr rfl) (vLst (vaCons (vLst (vaCons (vVar 10) (vaCons (vTup (vaCons (vVar 7) (vaCons (vVar 9) (vaNil)))) (vaNil)))) (vaCons (vLst (vaCons (vVar 6) (vaCons (vTup (vaCons (vVar 11) (vaCons (vVar 9) (vaNil)))) (vaNil)))) (vaCons (vLst (vaCons (vVar 6) (vaCons (vTup (vaCons (vVar 7) (vaCons (vAdd (vVar 9) (vLst (vaCons (vTup (vaCons (vInt) (vaCons (vInt) (vaNil)))) (vaNil)))) (vaNil)))) (vaNil)))) (vaCons (vLst (vaCons (vVar 6) (vaCons (vTup (vaCons (vVar 7) (vaCons (vAdd (vVar 9) (vLst (vaCons (vTup (vaCons (vInt) (vaCons (vInt) (vaNil)))) (vaNil)))) (vaNil)))) (vaNil)))) (vaNil))))))) (vsCons (vIfS (vtCmp op_gt okGt mono_dI0 (vCB call_len okLen mono_dLen (by rfl) T.n_len (by decide +kernel) (vaCons (vVar 9) (vaNil))) (vInt)) (vsCons (vApp (i := 5) (by rfl) (by first | exact .inl rfl | exact .inr (.inl rfl) | exact .inr (.inr rfl)) (vLst (vaCons (vVar 6) (vaCons (vTup (vaCons (vVar 7) (vaCons (vSl (vVar 9) (voN) (voS (vNeg (vInt)))) (vaNil)))) (vaNil))))) (vsCons (vApp (i := 5) (by rfl) (by first | exact .inl rfl | exact .inr (.inl rfl) | exact .inr (.inr rfl)) (vLst (vaCons (vCall (C__law_gone_through.up (by decide)) hr (by rfl) (vaCons (vVar 4) (vaCons (vSl (vVar 9) (voN) (voS (vNeg (vInt)))) (vaNil)))) (vaCons (vTup (vaCons (vVar 7) (vaCons (vSl (vVar 9) (voN) (voS (vNeg (vInt)))) (vaNil)))) (vaNil))))) (vsOne (vApp (i := 5) (by rfl) (by first | exact .inl rfl | exact .inr (.inl rfl) | exact .inr (.inr rfl)) (vLst (vaCons (vVar 4) (vaCons (vTup (vaCons (vCT call_tuple_of okTuple mono_dTuple (by rfl) T.n_tuple (by decide +kernel) (vaCons ((vcLc (own := [("row", 16)]) false rfl sc_law.nd (vIter (vVar 4)) (blkOk_by (N := n_law) (sc := (defScope st_law)) (by decide +kernel)) (by decide) (fun _ _ _ _ _ => vgName (i := 16) sc_law.nd (by rfl) (by first | exact .inl rfl | exact .inr rfl)) (fun _ _ _ _ _ => vtsNil) (fun _ _ _ _ _ => vCT call_tuple_of okTuple mono_dTuple (by rfl) T.n_tuple (by decide +kernel) (vaCons ((vcLc (own := [("c", 15)]) false rfl sc_law.nd (vIter (vVar 16)) (blkOk_by (by kernel_rfl)) (by decide) (fun _ _ _ _ _ => vgName (i := 15) sc_law.nd (by rfl) (by first | exact .inl rfl | exact .inr rfl)) (fun _ _ _ _ _ => vtsNil) (fun _ _ _ _ _ => vInt)).ve) (vaNil)))).ve) (vaNil))) (vaCons (vLst (vaNil)) (vaNil)))) (vaNil)))))))) (vsNil)) (vsFrz 5 (vsCons (vFor PassesOwn.never rfl (vIter (vVar 5)) (vgTup rfl (vgCons (vgName (i := 12) sc_law.nd (by rfl) (by first | exact .inl rfl | exact .inr rfl)) (vgCons (vgName (i := 13) sc_law.nd (by rfl) (by first | exact .inl rfl | exact .inr rfl)) (vgNil)))) (vsOne (vIfS (vtNot (vtVal (vCall (C__law_bool.up (by decide)) hr (by rfl) (vaCons (vCall (C_shows_toppling.up (by decide)) hr (by rfl) (vaCons (vVar 4) (vaCons (vVar 12) (vaCons (vVar 13) (vaNil))))) (vaCons (vBl) (vaNil)))))) (vsOne (vRet (vBl))) (vsNil)))) (vsOne (vRet (vCall (C__law_bool.up (by decide)) hr (by rfl) (vaCons (vCall (C_shows_toppling.up (by decide)) hr (by rfl) (vaCons (vVar 6) (vaCons (vVar 6) (vaCons (vTup (vaCons (vCT call_tuple_of okTuple mono_dTuple (by rfl) T.n_tuple (by decide +kernel) (vaCons ((vcLc (own := [("row", 16)]) false rfl sc_law.nd (vIter (vVar 4)) (blkOk_by (N := n_law) (sc := (defScope st_law)) (by decide +kernel)) (by decide) (fun _ _ _ _ _ => vgName (i := 16) sc_law.nd (by rfl) (by first | exact .inl rfl | exact .inr rfl)) (fun _ _ _ _ _ => vtsNil) (fun _ _ _ _ _ => vCT call_tuple_of okTuple mono_dTuple (by rfl) T.n_tuple (by decide +kernel) (vaCons ((vcLc (own := [("c", 15)]) false rfl sc_law.nd (vIter (vVar 16)) (blkOk_by (by kernel_rfl)) (by decide) (fun _ _ _ _ _ => vgName (i := 15) sc_law.nd (by rfl) (by first | exact .inl rfl | exact .inr rfl)) (fun _ _ _ _ _ => vtsNil) (fun _ _ _ _ _ => vInt)).ve) (vaNil)))).ve) (vaNil))) (vaCons (vLst (vaNil)) (vaNil)))) (vaNil))))) (vaCons (vBl) (vaNil))))))))))))))))))))))))
  refine law_fin T.f_law hfa sc_law (fun _ _ _ _ _ _ us hl => match us, hl with | [_], _ => rfl) rfl (hb ({} : Heap) 0 .none roomA [] {} (fun _ => none) (fun _ _ _ => False) (Room.deeper (roomA_ok (by decide)) _)).mono hL fun base f cdv A outer s H E hr => ?_
  obtain ⟨fd, dd, FD, gd, kd, bd⟩ := ok__law_deal (P := l.prog) (w := w) (base := base) T
  have h := (hb base f cdv A outer s H E hr).pe
  exact show PSs _ (defBody st_law) _ from pss_cons (ps_set (i := 1) sc_law.nd (by rfl) (by first | exact .inl rfl | exact .inr rfl) (pe_call FD (hr.mono (by decide)) (by rfl) gd kd (bd fun _ _ _ _ _ _ us hl => match us, hl with | [_], _ => rfl) .nil pass0 (pa_cons (pv 0) pa_nil))) h
theorem txt_mk {h : Heap} (X : K.In h) (G : h.Ns mainGlobals mg) {f0 f1 f2 f3 f4 f5 f6 f7 f8 f9 f10 f11 f12 f13 f14 f15 f16 f17 f18 : Addr} {od0 an0 od1 an1 od2 an2 od3 an3 od4 an4 od5 an5 od6 an6 od7 an7 od8 an8 od9 an9 od10 an10 od11 an11 od12 an12 od13 an13 od14 an14 od15 an15 od16 an16 od17 an17 od18 an18 : Option Addr} {sl0 sl1 sl2 sl3 sl4 sl5 sl6 sl7 sl8 sl9 sl10 sl11 sl12 sl13 sl14 sl15 sl16 sl17 sl18 : Array (Option Value)} {oc0 kV0 dc0 pm0 cd0 ct0 oc1 kV1 dc1 pm1 cd1 ct1 oc2 kV2 dc2 pm2 cd2 ct2 oc3 kV3 dc3 pm3 cd3 ct3 oc4 kV4 dc4 pm4 cd4 ct4 oc5 kV5 dc5 pm5 cd5 ct5 oc6 kV6 dc6 pm6 cd6 ct6 oc7 kV7 dc7 pm7 cd7 ct7 oc8 kV8 dc8 pm8 cd8 ct8 oc9 kV9 dc9 pm9 cd9 ct9 oc10 kV10 dc10 pm10 cd10 ct10 oc11 kV11 dc11 pm11 cd11 ct11 oc12 kV12 dc12 pm12 cd12 ct12 oc13 kV13 dc13 pm13 cd13 ct13 oc14 kV14 dc14 pm14 cd14 ct14 oc15 kV15 dc15 pm15 cd15 ct15 oc16 kV16 dc16 pm16 cd16 ct16 oc17 kV17 dc17 pm17 cd17 ct17 oc18 kV18 dc18 pm18 cd18 ct18 : Value}
    (a0 : PySem.W.nsIn K mainGlobals "is_heap" = some (some (.ref f0))) (l0 : K.lookup f0 = some ⟨oc0, od0, .func (PySem.W.fnOf "is_heap" "is_heap" (defArgs st_is_heap) (defBody st_is_heap) (defScope st_is_heap) .none kV0 dc0 pm0 an0 cd0 ct0), sl0⟩) (c0 : PySem.W.codeIn K cd0 "is_heap" = true) (k0 : PySem.W.keepIn K (.ref f0) = true)
    (a1 : PySem.W.nsIn K mainGlobals "places_of" = some (some (.ref f1))) (l1 : K.lookup f1 = some ⟨oc1, od1, .func (PySem.W.fnOf "places_of" "places_of" (defArgs st_places_of) (defBody st_places_of) (defScope st_places_of) .none kV1 dc1 pm1 an1 cd1 ct1), sl1⟩) (c1 : PySem.W.codeIn K cd1 "places_of" = true) (k1 : PySem.W.keepIn K (.ref f1) = true)
    (a2 : PySem.W.nsIn K mainGlobals "beside" = some (some (.ref f2))) (l2 : K.lookup f2 = some ⟨oc2, od2, .func (PySem.W.fnOf "beside" "beside" (defArgs st_beside) (defBody st_beside) (defScope st_beside) .none kV2 dc2 pm2 an2 cd2 ct2), sl2⟩) (c2 : PySem.W.codeIn K cd2 "beside" = true) (k2 : PySem.W.keepIn K (.ref f2) = true)
    (a3 : PySem.W.nsIn K mainGlobals "toppled" = some (some (.ref f3))) (l3 : K.lookup f3 = some ⟨oc3, od3, .func (PySem.W.fnOf "toppled" "toppled" (defArgs st_toppled) (defBody st_toppled) (defScope st_toppled) .none kV3 dc3 pm3 an3 cd3 ct3), sl3⟩) (c3 : PySem.W.codeIn K cd3 "toppled" = true) (k3 : PySem.W.keepIn K (.ref f3) = true)
    (a4 : PySem.W.nsIn K mainGlobals "calm" = some (some (.ref f4))) (l4 : K.lookup f4 = some ⟨oc4, od4, .func (PySem.W.fnOf "calm" "calm" (defArgs st_calm) (defBody st_calm) (defScope st_calm) .none kV4 dc4 pm4 an4 cd4 ct4), sl4⟩) (c4 : PySem.W.codeIn K cd4 "calm" = true) (k4 : PySem.W.keepIn K (.ref f4) = true)
    (a5 : PySem.W.nsIn K mainGlobals "counted" = some (some (.ref f5))) (l5 : K.lookup f5 = some ⟨oc5, od5, .func (PySem.W.fnOf "counted" "counted" (defArgs st_counted) (defBody st_counted) (defScope st_counted) .none kV5 dc5 pm5 an5 cd5 ct5), sl5⟩) (c5 : PySem.W.codeIn K cd5 "counted" = true) (k5 : PySem.W.keepIn K (.ref f5) = true)
    (a6 : PySem.W.nsIn K mainGlobals "toppling_counts" = some (some (.ref f6))) (l6 : K.lookup f6 = some ⟨oc6, od6, .func (PySem.W.fnOf "toppling_counts" "toppling_counts" (defArgs st_toppling_counts) (defBody st_toppling_counts) (defScope st_toppling_counts) .none kV6 dc6 pm6 an6 cd6 ct6), sl6⟩) (c6 : PySem.W.codeIn K cd6 "toppling_counts" = true) (k6 : PySem.W.keepIn K (.ref f6) = true)
    (a7 : PySem.W.nsIn K mainGlobals "toppling_paper" = some (some (.ref f7))) (l7 : K.lookup f7 = some ⟨oc7, od7, .func (PySem.W.fnOf "toppling_paper" "toppling_paper" (defArgs st_toppling_paper) (defBody st_toppling_paper) (defScope st_toppling_paper) .none kV7 dc7 pm7 an7 cd7 ct7), sl7⟩) (c7 : PySem.W.codeIn K cd7 "toppling_paper" = true) (k7 : PySem.W.keepIn K (.ref f7) = true)
    (a8 : PySem.W.nsIn K mainGlobals "behind_order" = some (some (.ref f8))) (l8 : K.lookup f8 = some ⟨oc8, od8, .func (PySem.W.fnOf "behind_order" "behind_order" (defArgs st_behind_order) (defBody st_behind_order) (defScope st_behind_order) .none kV8 dc8 pm8 an8 cd8 ct8), sl8⟩) (c8 : PySem.W.codeIn K cd8 "behind_order" = true) (k8 : PySem.W.keepIn K (.ref f8) = true)
    (a9 : PySem.W.nsIn K mainGlobals "shows_toppling" = some (some (.ref f9))) (l9 : K.lookup f9 = some ⟨oc9, od9, .func (PySem.W.fnOf "shows_toppling" "shows_toppling" (defArgs st_shows_toppling) (defBody st_shows_toppling) (defScope st_shows_toppling) .none kV9 dc9 pm9 an9 cd9 ct9), sl9⟩) (c9 : PySem.W.codeIn K cd9 "shows_toppling" = true) (k9 : PySem.W.keepIn K (.ref f9) = true)
    (a10 : PySem.W.nsIn K mainGlobals "_law_deal" = some (some (.ref f10))) (l10 : K.lookup f10 = some ⟨oc10, od10, .func (PySem.W.fnOf "_law_deal" "_law_deal" (defArgs st__law_deal) (defBody st__law_deal) (defScope st__law_deal) .none kV10 dc10 pm10 an10 cd10 ct10), sl10⟩) (c10 : PySem.W.codeIn K cd10 "_law_deal" = true) (k10 : PySem.W.keepIn K (.ref f10) = true)
    (a11 : PySem.W.nsIn K mainGlobals "_law_take" = some (some (.ref f11))) (l11 : K.lookup f11 = some ⟨oc11, od11, .func (PySem.W.fnOf "_law_take" "_law_take" (defArgs st__law_take) (defBody st__law_take) (defScope st__law_take) .none kV11 dc11 pm11 an11 cd11 ct11), sl11⟩) (c11 : PySem.W.codeIn K cd11 "_law_take" = true) (k11 : PySem.W.keepIn K (.ref f11) = true)
    (a12 : PySem.W.nsIn K mainGlobals "_law_same" = some (some (.ref f12))) (l12 : K.lookup f12 = some ⟨oc12, od12, .func (PySem.W.fnOf "_law_same" "_law_same" (defArgs st__law_same) (defBody st__law_same) (defScope st__law_same) .none kV12 dc12 pm12 an12 cd12 ct12), sl12⟩) (c12 : PySem.W.codeIn K cd12 "_law_same" = true) (k12 : PySem.W.keepIn K (.ref f12) = true)
    (a13 : PySem.W.nsIn K mainGlobals "_law_bool" = some (some (.ref f13))) (l13 : K.lookup f13 = some ⟨oc13, od13, .func (PySem.W.fnOf "_law_bool" "_law_bool" (defArgs st__law_bool) (defBody st__law_bool) (defScope st__law_bool) .none kV13 dc13 pm13 an13 cd13 ct13), sl13⟩) (c13 : PySem.W.codeIn K cd13 "_law_bool" = true) (k13 : PySem.W.keepIn K (.ref f13) = true)
    (a14 : PySem.W.nsIn K mainGlobals "_law_beside" = some (some (.ref f14))) (l14 : K.lookup f14 = some ⟨oc14, od14, .func (PySem.W.fnOf "_law_beside" "_law_beside" (defArgs st__law_beside) (defBody st__law_beside) (defScope st__law_beside) .none kV14 dc14 pm14 an14 cd14 ct14), sl14⟩) (c14 : PySem.W.codeIn K cd14 "_law_beside" = true) (k14 : PySem.W.keepIn K (.ref f14) = true)
    (a15 : PySem.W.nsIn K mainGlobals "_law_topple" = some (some (.ref f15))) (l15 : K.lookup f15 = some ⟨oc15, od15, .func (PySem.W.fnOf "_law_topple" "_law_topple" (defArgs st__law_topple) (defBody st__law_topple) (defScope st__law_topple) .none kV15 dc15 pm15 an15 cd15 ct15), sl15⟩) (c15 : PySem.W.codeIn K cd15 "_law_topple" = true) (k15 : PySem.W.keepIn K (.ref f15) = true)
    (a16 : PySem.W.nsIn K mainGlobals "_law_calm" = some (some (.ref f16))) (l16 : K.lookup f16 = some ⟨oc16, od16, .func (PySem.W.fnOf "_law_calm" "_law_calm" (defArgs st__law_calm) (defBody st__law_calm) (defScope st__law_calm) .none kV16 dc16 pm16 an16 cd16 ct16), sl16⟩) (c16 : PySem.W.codeIn K cd16 "_law_calm" = true) (k16 : PySem.W.keepIn K (.ref f16) = true)
    (a17 : PySem.W.nsIn K mainGlobals "_law_gone_through" = some (some (.ref f17))) (l17 : K.lookup f17 = some ⟨oc17, od17, .func (PySem.W.fnOf "_law_gone_through" "_law_gone_through" (defArgs st__law_gone_through) (defBody st__law_gone_through) (defScope st__law_gone_through) .none kV17 dc17 pm17 an17 cd17 ct17), sl17⟩) (c17 : PySem.W.codeIn K cd17 "_law_gone_through" = true) (k17 : PySem.W.keepIn K (.ref f17) = true)
    (a18 : PySem.W.nsIn K mainGlobals "law" = some (some (.ref f18))) (l18 : K.lookup f18 = some ⟨oc18, od18, .func (PySem.W.fnOf "law" "law" (defArgs st_law) (defBody st_law) (defScope st_law) .none kV18 dc18 pm18 an18 cd18 ct18), sl18⟩) (c18 : PySem.W.codeIn K cd18 "law" = true) (k18 : PySem.W.keepIn K (.ref f18) = true)
    (z_abs : PySem.W.nsIn K mainGlobals "abs" = some none)
    (z_bool : PySem.W.nsIn K mainGlobals "bool" = some none)
    (z_int : PySem.W.nsIn K mainGlobals "int" = some none)
    (z_isinstance : PySem.W.nsIn K mainGlobals "isinstance" = some none)
    (z_len : PySem.W.nsIn K mainGlobals "len" = some none)
    (z_list : PySem.W.nsIn K mainGlobals "list" = some none)
    (z_max : PySem.W.nsIn K mainGlobals "max" = some none)
    (z_min : PySem.W.nsIn K mainGlobals "min" = some none)
    (z_range : PySem.W.nsIn K mainGlobals "range" = some none)
    (z_str : PySem.W.nsIn K mainGlobals "str" = some none)
    (z_sum : PySem.W.nsIn K mainGlobals "sum" = some none)
    (z_tuple : PySem.W.nsIn K mainGlobals "tuple" = some none)
    {t_FALL : Tok} (g_FALL : PySem.W.nsIn K mainGlobals "FALL" = some (some (.int 4 t_FALL)))
    {t_LONGEST : Tok} (g_LONGEST : PySem.W.nsIn K mainGlobals "LONGEST" = some (some (.int 6 t_LONGEST)))
    {t_MOST : Tok} (g_MOST : PySem.W.nsIn K mainGlobals "MOST" = some (some (.int 20 t_MOST))) : Txt K mg :=
  ⟨def_at X G a0 l0 c0 k0, def_at X G a1 l1 c1 k1, def_at X G a2 l2 c2 k2, def_at X G a3 l3 c3 k3, def_at X G a4 l4 c4 k4, def_at X G a5 l5 c5 k5, def_at X G a6 l6 c6 k6, def_at X G a7 l7 c7 k7, def_at X G a8 l8 c8 k8, def_at X G a9 l9 c9 k9, def_at X G a10 l10 c10 k10, def_at X G a11 l11 c11 k11, def_at X G a12 l12 c12 k12, def_at X G a13 l13 c13 k13, def_at X G a14 l14 c14 k14, def_at X G a15 l15 c15 k15, def_at X G a16 l16 c16 k16, def_at X G a17 l17 c17 k17, def_at X G a18 l18 c18 k18, PySem.W.mg_none_of X G z_abs, PySem.W.mg_none_of X G z_bool, PySem.W.mg_none_of X G z_int, PySem.W.mg_none_of X G z_isinstance, PySem.W.mg_none_of X G z_len, PySem.W.mg_none_of X G z_list, PySem.W.mg_none_of X G z_max, PySem.W.mg_none_of X G z_min, PySem.W.mg_none_of X G z_range, PySem.W.mg_none_of X G z_str, PySem.W.mg_none_of X G z_sum, PySem.W.mg_none_of X G z_tuple, con_at X G g_FALL ⟨_, rfl⟩, con_at X G g_LONGEST ⟨_, rfl⟩, con_at X G g_MOST ⟨_, rfl⟩⟩
end
end L80

/-! k80: sand, plain -/
namespace Sand
abbrev Gr := Nat → Nat → Int
abbrev Sq := Nat × Nat
def bump (g : Gr) (p : Sq) (a : Int) : Gr := fun x y => if x = p.1 ∧ y = p.2 then g x y + a else g x y
def nbs (R C : Nat) (p : Sq) : List Sq :=
  (if 0 < p.1 then [(p.1 - 1, p.2)] else []) ++ ((if 0 < p.2 then [(p.1, p.2 - 1)] else []) ++ ((if p.2 + 1 < C then [(p.1, p.2 + 1)] else []) ++ (if p.1 + 1 < R then [(p.1 + 1, p.2)] else [])))
def inR (R C : Nat) (p : Sq) : Prop := p.1 < R ∧ p.2 < C
instance (R C : Nat) (p : Sq) : Decidable (inR R C p) := by unfold inR; exact inferInstance
def bumps (g : Gr) (l : List Sq) : Gr := l.foldl (fun g q => bump g q 1) g
def top (R C : Nat) (g : Gr) (p : Sq) : Gr := bumps (bump g p (-4)) (nbs R C p)
theorem nbs_in {R C : Nat} {p q : Sq} (hp : inR R C p) (h : q ∈ nbs R C p) : inR R C q := by
  obtain ⟨h1, h2⟩ := hp
  unfold nbs at h
  simp only [List.mem_append] at h
  unfold inR
  rcases h with h | h | h | h <;> split at h <;> simp at h <;> subst h <;> simp <;> omega
theorem nbs_len (R C : Nat) (p : Sq) : (nbs R C p).length ≤ 4 := by
  unfold nbs
  simp only [List.length_append]
  split <;> split <;> split <;> split <;> simp
theorem bumps_at : ∀ (l : List Sq) (g : Gr) (x y : Nat), bumps g l x y = g x y + (l.count (x, y) : Nat)
  | [], g, x, y => by simp [bumps]
  | q :: l, g, x, y => by
    show bumps (bump g q 1) l x y = _
    rw [bumps_at l, List.count_cons]
    unfold bump
    by_cases h : q = (x, y)
    · subst h; simp; omega
    · have h2 : ¬(x = q.1 ∧ y = q.2) := fun ⟨a, b⟩ => h (by rw [a, b])
      simp [h, h2]
theorem nbs_count {R C : Nat} (p : Sq) {x y : Nat} (hx : x < R) (hy : y < C) : (nbs R C p).count (x, y) = (if x + 1 = p.1 ∧ y = p.2 then 1 else 0) + (if x = p.1 ∧ y + 1 = p.2 then 1 else 0) + (if x = p.1 ∧ y = p.2 + 1 then 1 else 0) + (if x = p.1 + 1 ∧ y = p.2 then 1 else 0) := by
  obtain ⟨r, c⟩ := p
  have one : ∀ (P : Prop) [Decidable P] (q : Sq), (if P then [q] else []).count (x, y) = if P ∧ q = (x, y) then 1 else 0 := fun P _ q => by
    by_cases h : P <;> simp [h, List.count_cons]
  unfold nbs
  simp only [List.count_append, one, Prod.mk.injEq]
  have e1 : (0 < r ∧ r - 1 = x ∧ c = y) ↔ (x + 1 = r ∧ y = c) := by omega
  have e2 : (0 < c ∧ r = x ∧ c - 1 = y) ↔ (x = r ∧ y + 1 = c) := by omega
  have e3 : (c + 1 < C ∧ r = x ∧ c + 1 = y) ↔ (x = r ∧ y = c + 1) := by omega
  have e4 : (r + 1 < R ∧ r + 1 = x ∧ c = y) ↔ (x = r + 1 ∧ y = c) := by omega
  simp only [e1, e2, e3, e4]
  omega
/-- what a square gains from the counts around it -/
def adj (n : Nat → Nat → Nat) (x y : Nat) : Nat := n (x + 1) y + n x (y + 1) + (if 0 < y then n x (y - 1) else 0) + (if 0 < x then n (x - 1) y else 0)
def cnt (s : List Sq) (x y : Nat) : Nat := s.count (x, y)
def run (R C : Nat) (g : Gr) (s : List Sq) : Gr := s.foldl (top R C) g
theorem adj_cons (p : Sq) (s : List Sq) (x y : Nat) : adj (cnt (p :: s)) x y = adj (cnt s) x y + ((if x + 1 = p.1 ∧ y = p.2 then 1 else 0) + (if x = p.1 ∧ y + 1 = p.2 then 1 else 0) + (if x = p.1 ∧ y = p.2 + 1 then 1 else 0) + (if x = p.1 + 1 ∧ y = p.2 then 1 else 0)) := by
  obtain ⟨r, c⟩ := p
  have one : ∀ a b : Nat, cnt ((r, c) :: s) a b = cnt s a b + (if r = a ∧ c = b then 1 else 0) := fun a b => by
    unfold cnt
    rw [List.count_cons]
    simp
  unfold adj
  simp only [one]
  have e1 : (r = x + 1 ∧ c = y) ↔ (x + 1 = r ∧ y = c) := by omega
  have e2 : (r = x ∧ c = y + 1) ↔ (x = r ∧ y + 1 = c) := by omega
  have e3 : (if 0 < y then cnt s x (y - 1) + (if r = x ∧ c = y - 1 then 1 else 0) else 0) = (if 0 < y then cnt s x (y - 1) else 0) + (if x = r ∧ y = c + 1 then 1 else 0) := by
    by_cases h : 0 < y
    · have : (r = x ∧ c = y - 1) ↔ (x = r ∧ y = c + 1) := by omega
      simp only [h, if_true, this]
    · have : ¬(x = r ∧ y = c + 1) := by omega
      simp only [h, if_false, this]
  have e4 : (if 0 < x then cnt s (x - 1) y + (if r = x - 1 ∧ c = y then 1 else 0) else 0) = (if 0 < x then cnt s (x - 1) y else 0) + (if x = r + 1 ∧ y = c then 1 else 0) := by
    by_cases h : 0 < x
    · have : (r = x - 1 ∧ c = y) ↔ (x = r + 1 ∧ y = c) := by omega
      simp only [h, if_true, this]
    · have : ¬(x = r + 1 ∧ y = c) := by omega
      simp only [h, if_false, this]
  simp only [e1, e2, e3, e4]
  omega
theorem run_at {R C : Nat} {x y : Nat} (hx : x < R) (hy : y < C) : ∀ (s : List Sq) (g : Gr), run R C g s x y = g x y - 4 * (cnt s x y : Nat) + (adj (cnt s) x y : Nat)
  | [], g => by simp [run, cnt, adj]
  | p :: s, g => by
    show run R C (top R C g p) s x y = _
    rw [run_at hx hy s, adj_cons]
    unfold top
    rw [bumps_at, nbs_count p hx hy]
    have e : (cnt (p :: s) x y : Int) = cnt s x y + (if x = p.1 ∧ y = p.2 then 1 else 0) := by
      unfold cnt
      rw [List.count_cons]
      by_cases h : p = (x, y)
      · subst h; simp
      · have h2 : ¬(x = p.1 ∧ y = p.2) := fun ⟨a, b⟩ => h (by rw [a, b])
        simp [h, h2]
    rw [e]
    unfold bump
    by_cases h2 : x = p.1 ∧ y = p.2
    · simp only [h2, and_self, if_true]; omega
    · simp only [h2, if_false]; omega
/-- every turn at a square of the chart with four grains or more -/
def Legal (R C : Nat) : Gr → List Sq → Prop
  | _, [] => True
  | g, p :: s => inR R C p ∧ 4 ≤ g p.1 p.2 ∧ Legal R C (top R C g p) s
def Calm (R C : Nat) (g : Gr) : Prop := ∀ x y, x < R → y < C → g x y < 4
theorem run_append (R C : Nat) (g : Gr) (s t : List Sq) : run R C g (s ++ t) = run R C (run R C g s) t := List.foldl_append ..
theorem legal_append {R C : Nat} : ∀ (s t : List Sq) (g : Gr), Legal R C g (s ++ t) ↔ Legal R C g s ∧ Legal R C (run R C g s) t
  | [], t, g => by simp [Legal, run]
  | p :: s, t, g => by
    show _ ∧ _ ∧ Legal R C (top R C g p) (s ++ t) ↔ (_ ∧ _ ∧ _) ∧ Legal R C (run R C (top R C g p) s) t
    rw [legal_append s t]
    exact ⟨fun ⟨a, b, c, d⟩ => ⟨⟨a, b, c⟩, d⟩, fun ⟨⟨a, b, c⟩, d⟩ => ⟨a, b, c, d⟩⟩
theorem legal_in {R C : Nat} : ∀ {s : List Sq} {g : Gr}, Legal R C g s → ∀ p ∈ s, inR R C p
  | q :: s, g, ⟨a, _, c⟩, p, m => by
    cases m with
    | head => exact a
    | tail _ m => exact legal_in c p m
theorem adj_mono {m n : Nat → Nat → Nat} (h : ∀ x y, m x y ≤ n x y) (x y : Nat) : adj m x y ≤ adj n x y := by
  unfold adj
  have h1 := h (x + 1) y
  have h2 := h x (y + 1)
  have h3 := h x (y - 1)
  have h4 := h (x - 1) y
  split <;> split <;> omega
/-- no lawful turning does more at any square than one that leads to a calm chart -/
theorem least {R C : Nat} {g : Gr} {t : List Sq} (hc : Calm R C (run R C g t)) : ∀ (s : List Sq), Legal R C g s → ∀ x y, cnt s x y ≤ cnt t x y := by
  intro s
  induction hn : s.length generalizing s with
  | zero =>
    intro _ x y
    have : s = [] := List.eq_nil_of_length_eq_zero hn
    subst this
    simp [cnt]
  | succ n ih =>
    intro hl x y
    have hne : s ≠ [] := by intro e; subst e; cases hn
    have es := (List.dropLast_concat_getLast hne).symm
    generalize hs : s.dropLast = s1 at es
    generalize s.getLast hne = v at es
    subst es
    obtain ⟨l1, ⟨v1, v2⟩, l2, _⟩ := (legal_append s1 [v] g).mp hl
    have ih1 := ih s1 (by simp at hn; omega) l1
    obtain ⟨r, c⟩ := v
    have key : cnt s1 r c < cnt t r c := by
      have a1 := run_at v1 v2 s1 g
      have a2 := run_at v1 v2 t g
      have a3 := adj_mono ih1 r c
      have a4 := hc r c v1 v2
      have a5 := ih1 r c
      simp only at l2 a1 a2
      omega
    have e : cnt (s1 ++ [(r, c)]) x y = cnt s1 x y + (if r = x ∧ c = y then 1 else 0) := by
      unfold cnt
      rw [List.count_append, List.count_cons]
      simp
    rw [e]
    have := ih1 x y
    split
    · rename_i h; obtain ⟨rfl, rfl⟩ := h; omega
    · omega
theorem unique {R C : Nat} {g : Gr} {s t : List Sq} (ls : Legal R C g s) (lt : Legal R C g t) (cs : Calm R C (run R C g s)) (ct : Calm R C (run R C g t)) : (∀ x y, cnt s x y = cnt t x y) ∧ ∀ x y, x < R → y < C → run R C g s x y = run R C g t x y := by
  have e : ∀ x y, cnt s x y = cnt t x y := fun x y => Nat.le_antisymm (least ct s ls x y) (least cs t lt x y)
  have e2 : cnt s = cnt t := by funext x y; exact e x y
  exact ⟨e, fun x y hx hy => by rw [run_at hx hy, run_at hx hy, e2]⟩
/-! ### it comes to an end -/
def sm : Nat → (Nat → Int) → Int
  | 0, _ => 0
  | n + 1, f => sm n f + f n
theorem sm_congr : ∀ {n : Nat} {f h : Nat → Int}, (∀ i, i < n → f i = h i) → sm n f = sm n h
  | 0, _, _, _ => rfl
  | n + 1, f, h, e => by show sm n f + f n = sm n h + h n; rw [sm_congr fun i hi => e i (by omega), e n (by omega)]
theorem sm_le : ∀ {n : Nat} {f h : Nat → Int}, (∀ i, i < n → f i ≤ h i) → sm n f ≤ sm n h
  | 0, _, _, _ => Int.le_refl _
  | n + 1, f, h, e => by
    have h1 := sm_le (n := n) fun i hi => e i (by omega)
    have h2 := e n (by omega)
    show sm n f + f n ≤ sm n h + h n
    omega
theorem sm_const : ∀ (n : Nat) (a : Int), sm n (fun _ => a) = n * a
  | 0, _ => by simp [sm]
  | n + 1, a => by show sm n _ + a = _; rw [sm_const n]; push_cast; rw [Int.add_mul]; omega
theorem sm_bump {n k : Nat} (f : Nat → Int) (a : Int) : sm n (fun i => if i = k then f i + a else f i) = sm n f + (if k < n then a else 0) := by
  induction n with
  | zero => simp [sm]
  | succ n ih =>
    show sm n _ + (if n = k then f n + a else f n) = sm n f + f n + _
    rw [ih]
    by_cases h : n = k
    · subst h; simp; omega
    · by_cases h2 : k < n
      · simp [h, h2, show k < n + 1 by omega]; omega
      · simp [h, h2, show ¬ k < n + 1 by omega]
def wt (r : Nat) : Int := if r = 1 then 4 else 3
def pot (R C : Nat) (g : Gr) : Int := sm R fun x => wt x * sm C fun y => g x y
theorem pot_bump {R C : Nat} (g : Gr) {p : Sq} (hp : inR R C p) (a : Int) : pot R C (bump g p a) = pot R C g + wt p.1 * a := by
  unfold pot
  have e : ∀ x, x < R → (wt x * sm C fun y => bump g p a x y) = if x = p.1 then (wt x * sm C fun y => g x y) + wt p.1 * a else (wt x * sm C fun y => g x y) := fun x hx => by
    by_cases h : x = p.1
    · have : (fun y => bump g p a x y) = fun y => if y = p.2 then g x y + a else g x y := by
        funext y
        unfold bump
        simp [h]
      rw [this, sm_bump]
      simp only [h, if_true, hp.2, Int.mul_add]
    · have : (fun y => bump g p a x y) = fun y => g x y := by
        funext y
        unfold bump
        simp [h]
      rw [this]
      simp [h]
  rw [sm_congr e, sm_bump, if_pos hp.1]
theorem pot_bumps {R C : Nat} : ∀ (l : List Sq) (g : Gr), (∀ q ∈ l, inR R C q) → pot R C (bumps g l) = pot R C g + (l.map fun q => wt q.1).sum
  | [], g, _ => by simp [bumps]
  | q :: l, g, h => by
    show pot R C (bumps (bump g q 1) l) = _
    rw [pot_bumps l _ fun z m => h z (by simp [m]), pot_bump g (h q (by simp))]
    simp
    omega
theorem pot_top {R C : Nat} (hR : R ≤ 3) (g : Gr) {p : Sq} (hp : inR R C p) : pot R C (top R C g p) ≤ pot R C g - 2 := by
  unfold top
  rw [pot_bumps _ _ fun q m => nbs_in hp m, pot_bump g hp]
  obtain ⟨r, c⟩ := p
  obtain ⟨h1, h2⟩ := hp
  simp only at h1 h2
  unfold nbs
  simp only
  have hr : r = 0 ∨ r = 1 ∨ r = 2 := by omega
  rcases hr with rfl | rfl | rfl <;> (split <;> split <;> split <;> split <;> simp [wt] <;> omega)
def NonNeg (R C : Nat) (g : Gr) : Prop := ∀ x y, x < R → y < C → 0 ≤ g x y
theorem top_nonneg {R C : Nat} {g : Gr} (h : NonNeg R C g) {p : Sq} (h4 : 4 ≤ g p.1 p.2) : NonNeg R C (top R C g p) := by
  intro x y hx hy
  unfold top
  rw [bumps_at]
  have := h x y hx hy
  unfold bump
  split
  · rename_i e; obtain ⟨rfl, rfl⟩ := e; omega
  · omega
theorem run_nonneg {R C : Nat} : ∀ {s : List Sq} {g : Gr}, NonNeg R C g → Legal R C g s → NonNeg R C (run R C g s)
  | [], _, h, _ => h
  | p :: s, g, h, ⟨_, b, c⟩ => by
    show NonNeg R C (run R C (top R C g p) s)
    exact run_nonneg (top_nonneg h b) c
theorem sm_nonneg {n : Nat} {f : Nat → Int} (h : ∀ i, i < n → 0 ≤ f i) : 0 ≤ sm n f := by
  have := sm_le (f := fun _ => 0) h
  rw [sm_const] at this
  omega
theorem pot_nonneg {R C : Nat} {g : Gr} (h : NonNeg R C g) : 0 ≤ pot R C g := by
  refine sm_nonneg fun x hx => Int.mul_nonneg ?_ (sm_nonneg fun y hy => h x y hx hy)
  unfold wt
  split <;> decide
theorem pot_le {R C : Nat} {g : Gr} (hR : R ≤ 3) (hC : C ≤ 4) (h0 : NonNeg R C g) (h : ∀ x y, x < R → y < C → g x y ≤ 20) : pot R C g ≤ 960 := by
  have h1 : pot R C g ≤ sm R fun _ => 4 * (4 * 20) := sm_le fun x hx => by
    have a : sm C (fun y => g x y) ≤ sm C fun _ => 20 := sm_le fun y hy => h x y hx hy
    rw [sm_const] at a
    have b : 0 ≤ sm C (fun y => g x y) := sm_nonneg fun y hy => h0 x y hx hy
    unfold wt
    split <;> omega
  rw [sm_const] at h1
  omega
/-- the same on the chart -/
def same (R C : Nat) (g h : Gr) : Prop := ∀ x y, x < R → y < C → g x y = h x y
end Sand

set_option maxHeartbeats 4000000
namespace L80
open PySem PySem.Spec PyProof.Rows L2 VL Sand
local macro_rules | `(tactic| walk_at "e") => `(tactic| simp (disch := omega) only [sSeq, sNil, sOwn, sSet, sFor, sIfS, sFn, aNil, aCons, sC, sBin, sUn, sTest_eq, sRng1_eq, sRng2_eq, sRngD_eq, sIter, frozenTg, dLst, dTup, sDrop, sPass, sBreak, sCont, sVar, VL.sv_val, VL.sv_ml, VL.sv_mg, VL.sv_md,
  sRet, sCall, sLc, sLc2, wipeD, okC, sChain_eq, bAnd, bOr, bNot, bYes, sAnd_eq, sOr_eq, sNot_eq, sIf, sAsg, setsD_cons, setsD_nil, sBor, frzAll, frzV_val, frzV_ml, frzV_mg, borTag, sGhost, sSl, spN, spS_eq, retTag, callTag, allSto, stoB, isI_int, isB_bl, isNon,
  dAdd_int, dAdd_str, dAdd_lst, dAdd_tup, dI0_int, dII_int, dMul_int, dMul_lst, dMul_tup, dEq_int, dNe_int, dEq_str, dNe_str, dEq_bl, dNe_bl, dEq_tup, dNe_tup, dEq_lst, dNe_lst, dIs_non, dIsNot_non, dIs_bl, dIn_lst, dIn_tup, dNotIn_lst, dNotIn_tup, dIx_lst_rng, dIx_tup_rng, dIx_lst_rng0, dIx_tup_rng0, dIx_lst_0, dIx_tup_0, dIx_lst_1, dIx_tup_1, dIx_lst_2, dIx_tup_2,
  dSl_lst, dSl_tup, dLen_lst, dLen_tup, dLen_str, dLen_scr, dList_lst, dList_tup, dTuple_lst, dTuple_tup, dF1_int, dF2_int, dNeg_int, dIsi_non, dIsi_bl, dIsi_int, dIsi_str, dIsi_tup, dIsi_lst, dIsi_dct, itemsOf_lst, itemsOf_tup, tgD_name, tgD_tup, tgD_lst, ownOf_ml, ownOf_mg, sApp, sPut2, sPut, frz, putML_rng, atRow_rng,
  cutD_init, cutD_tail, isTy_same,
  sto, est, el, List.getElem?_cons_succ, List.getElem?_cons_zero, List.set_cons_succ, List.set_cons_zero, List.map_cons, List.map_nil, List.all_cons, List.all_nil, Bool.and_true, Bool.true_and, if_true, if_false, and_true, true_and, List.length_nil, List.length_cons, List.length_map, List.length_range, reduceIte, Bool.false_eq_true, decide_eq_true_eq, Bool.not_true, Bool.not_false, Option.map_some, Option.map_none])
def enc (h : List (List Int)) : D := .tup (h.map fun r => .tup (r.map .int))
def isHeap (h : List (List Int)) : Bool := decide (1 ≤ h.length) && decide (h.length ≤ 6) && decide (1 ≤ (h.headD []).length) && decide ((h.headD []).length ≤ 6) && h.all fun r => decide (r.length = (h.headD []).length) && r.all fun i => decide (0 ≤ i) && decide (i ≤ 20)
theorem is_heap_ok {h : List (List Int)} {W : Wd} {Q : Tg → D → Wd → Prop} (hq : Q .st (.bl (isHeap h)) W) : sp_is_heap [enc h] W Q := by
  show b_is_heap _ [some (.val (enc h)), none, none] W
  unfold b_is_heap enc
  cases h with
  | nil =>
    walk_at "e"
    simpa [isHeap] using hq
  | cons r0 h =>
    walk_at "e"
    have e : isHeap (r0 :: h) = (decide (h.length + 1 ≤ 6) && decide (1 ≤ r0.length) && decide (r0.length ≤ 6) && (r0 :: h).all fun r => decide (r.length = r0.length) && r.all fun i => decide (0 ≤ i) && decide (i ≤ 20)) := by
      simp [isHeap]
    rw [if_pos (by omega)]
    split
    · rename_i c
      simp only [Bool.not_eq_true', decide_eq_false_iff_not] at c
      rw [e, decide_eq_false (by omega)] at hq
      exact hq
    · rename_i c
      simp only [Bool.not_eq_true', decide_eq_false_iff_not] at c
      rw [decide_eq_true (by omega)] at e
      split
      · rename_i c1
        rw [decide_eq_true (show 1 ≤ r0.length by omega)] at e
        split
        · rename_i c2
          simp only [Bool.not_eq_true', decide_eq_false_iff_not] at c2
          rw [e, decide_eq_false (by omega)] at hq
          exact hq
        · rename_i c2
          simp only [Bool.not_eq_true', decide_eq_false_iff_not] at c2
          rw [decide_eq_true (show r0.length ≤ 6 by omega)] at e
          simp only [Bool.true_and] at e
          refine forD_all (fun r : List Int => D.tup (r.map .int)) (fun r => decide (r.length = r0.length) && r.all fun i => decide (0 ≤ i) && decide (i ≤ 20)) (fun σ W' => W' = W ∧ ∃ o1 o2, σ = [some (SV.val (D.tup (D.tup (List.map D.int r0) :: List.map (fun r => D.tup (List.map D.int r)) h))), o1, o2]) (items := r0 :: h) ⟨rfl, none, none, rfl⟩ ?_ ?_
          · rintro r σ W' k hm ⟨rfl, o1, o2, rfl⟩ hk hf
            walk_at "e"
            split
            · rename_i c3
              simp only [Bool.not_eq_true', decide_eq_false_iff_not] at c3
              rw [e, hf (by rw [decide_eq_false (by omega)]; rfl)] at hq
              exact hq
            · rename_i c3
              simp only [Bool.not_eq_true', decide_eq_false_iff_not, Decidable.not_not] at c3
              rw [decide_eq_true (show r.length = r0.length by omega), Bool.true_and] at hk hf
              refine forD_all D.int (fun i => decide (0 ≤ i) && decide (i ≤ 20)) (fun σ W'' => W'' = W' ∧ ∃ o1 o2, σ = [some (SV.val (D.tup (D.tup (List.map D.int r0) :: List.map (fun r => D.tup (List.map D.int r)) h))), o1, o2]) (items := r) ⟨rfl, _, o2, rfl⟩ ?_ ?_
              · rintro i σ W' k hm2 ⟨rfl, o1, o2, rfl⟩ hk2 hf2
                walk_at "e"
                split
                · rename_i c4
                  split
                  · rename_i c5
                    simp only [Bool.not_eq_true', decide_eq_false_iff_not] at c5
                    rw [e, hf (hf2 (by rw [decide_eq_false c5, Bool.and_false]))] at hq
                    exact hq
                  · rename_i c5
                    simp only [Bool.not_eq_true', decide_eq_false_iff_not, Decidable.not_not] at c5
                    exact hk2 (by rw [decide_eq_true c4, decide_eq_true c5]; rfl) _ _ ⟨rfl, _, _, rfl⟩
                · rename_i c4
                  rw [e, hf (hf2 (by rw [decide_eq_false c4]; rfl))] at hq
                  exact hq
              · rintro ha σ W'' ⟨rfl, o1, o2, rfl⟩
                exact hk ha _ _ ⟨rfl, _, _, rfl⟩
          · rintro ha σ W' ⟨rfl, o1, o2, rfl⟩
            walk_at "e"
            rw [e, ha] at hq
            exact hq
      · rename_i c1
        rw [e, decide_eq_false (show ¬ 1 ≤ r0.length by omega)] at hq
        exact hq
end L80

set_option maxHeartbeats 4000000
namespace L80
open PySem PySem.Spec PyProof.Rows L2 VL Sand
local macro_rules | `(tactic| walk_at "x") => `(tactic| simp (disch := omega) only [x_C, x_Bin, x_Un, x_Fn, x_aNil, x_aCons, x_Var, x_Call, x_Lc, x_Lc2, x_If, x_Sl, x_pN, x_Bor, x_Iter, x_And, x_Or, x_Not, x_Yes, x_Nil, x_Pass, x_Own, x_Set, x_For, x_Ret, x_Asg, x_App, x_Put, x_Put2, x_Drop, x_Break, x_Cont, x_RetN, x_Tup, x_Lst, x_frz, x_Ghost, x_ok1, x_ok2,
  sTest_eq, sRng1_eq, sRng2_eq, sRngD_eq, sChain_eq, sAnd_eq, sOr_eq, sNot_eq, spS_eq, frozenTg, VL.sv_val, VL.sv_ml, VL.sv_mg, VL.sv_md, wipeD, setsD_cons, setsD_nil, frzAll, frzV_val, frzV_ml, frzV_mg, borTag, retTag, callTag, allSto, stoB, isI_int, isB_bl, isNon,
  dAdd_int, dAdd_str, dAdd_lst, dAdd_tup, dI0_int, dII_int, dMul_int, dMul_lst, dMul_tup, dEq_int, dNe_int, dEq_str, dNe_str, dEq_bl, dNe_bl, dEq_tup, dNe_tup, dEq_lst, dNe_lst, dIs_non, dIsNot_non, dIs_bl, dIn_lst, dIn_tup, dNotIn_lst, dNotIn_tup, dIx_lst_rng, dIx_tup_rng, dIx_lst_rng0, dIx_tup_rng0, dIx_lst_0, dIx_tup_0, dIx_lst_1, dIx_tup_1, dIx_lst_2, dIx_tup_2,
  dSl_lst, dSl_tup, dLen_lst, dLen_tup, dLen_str, dLen_scr, dList_lst, dList_tup, dTuple_lst, dTuple_tup, dF1_int, dF2_int, dNeg_int, dIsi_non, dIsi_bl, dIsi_int, dIsi_str, dIsi_tup, dIsi_lst, dIsi_dct, itemsOf_lst, itemsOf_tup, tgD_name, tgD_tup, tgD_lst, ownOf_ml, ownOf_mg, putML_rng, atRow_gr, gr_lst, gr_set, flatEl_lst, flat_rows,
  cutD_init, cutD_tail, Int.zero_add, Int.toNat_natCast, ty_NoneType_bool, ty_NoneType_int, ty_NoneType_str, ty_NoneType_tuple, ty_NoneType_list, ty_NoneType_dict, ty_bool_bool, ty_bool_int, ty_bool_str, ty_bool_tuple, ty_bool_list, ty_bool_dict, ty_int_bool, ty_int_int, ty_int_str, ty_int_tuple, ty_int_list, ty_int_dict, ty_str_bool, ty_str_int, ty_str_str, ty_str_tuple, ty_str_list, ty_str_dict, ty_tuple_bool, ty_tuple_int, ty_tuple_str, ty_tuple_tuple, ty_tuple_list, ty_tuple_dict, ty_list_bool, ty_list_int, ty_list_str, ty_list_tuple, ty_list_list, ty_list_dict, ty_dict_bool, ty_dict_int, ty_dict_str, ty_dict_tuple, ty_dict_list, ty_dict_dict,
  sto, est, el, List.getElem?_cons_succ, List.getElem?_cons_zero, List.set_cons_succ, List.set_cons_zero, List.map_cons, List.map_nil, List.all_cons, List.all_nil, Bool.and_true, Bool.true_and, if_true, if_false, and_true, true_and, List.length_nil, List.length_cons, List.length_map, List.length_range, reduceIte, Bool.false_eq_true, decide_eq_true_eq, Bool.not_true, Bool.not_false, Option.map_some, Option.map_none])
section
variable {R C : Nat} {g : Gr} {W : Wd} {Q : Tg → D → Wd → Prop}
theorem rc36 (hR : R ≤ 6) (hC : C ≤ 6) : R * C ≤ 36 := Nat.mul_le_mul hR hC
theorem places_ok (hR : 1 ≤ R ∧ R ≤ 6) (hC : 1 ≤ C ∧ C ≤ 6) (hq : Q .fr (.lst ((places R C).map sqD)) W) : sp_places_of [tu R C g] W Q := by
  show b_places_of _ [some (.val (tu R C g)), none, none] W
  unfold b_places_of tu
  walk_at "x"
  refine ⟨by omega, by omega, ?_⟩
  have e : (places R C).map sqD = (List.range R).flatMap fun r => (List.range C).map fun c => sqD (r, c) := by
    unfold places
    rw [List.map_flatMap]
    simp only [List.map_map]
    rfl
  have hl : ((List.range R).flatMap fun r => (List.range C).map fun c => sqD (r, c)).length = R * C := by rw [← e, List.length_map, places_len]
  have := rc36 hR.2 hC.2
  simp only [upTo_map]
  refine comp2D_enc (fun i : Nat => D.int (0 + i)) (fun r => (List.range C).map fun c => sqD (r, c)) ?_ ?_ ?_
  · rw [hl, sizeLine_eq]
    simp
    omega
  · intro r hr acc k hz hk
    have hr := List.mem_range.mp hr
    walk_at "x"
    refine ⟨by omega, by omega, ?_⟩
    simp only [upTo_map]
    refine compD_enc (fun i : Nat => D.int (0 + i)) (fun c => sqD (r, c)) (by simpa using hz) ?_ hk
    intro c hc k hk
    walk_at "x"
    exact ⟨by rw [sizeLine_eq]; decide, hk⟩
  · rw [← e]
    simpa using hq
theorem nbs_filter {p : Sq} (hp : inR R C p) : (([((p.1 : Int) - 1, (p.2 : Int)), ((p.1 : Int), (p.2 : Int) - 1), ((p.1 : Int), (p.2 : Int) + 1), ((p.1 : Int) + 1, (p.2 : Int))]).filter fun q : Int × Int => (decide (0 ≤ q.1) && decide (q.1 < (R : Int))) && (decide (0 ≤ q.2) && decide (q.2 < (C : Int)))).map (fun q : Int × Int => D.tup [.int q.1, .int q.2]) = (nbs R C p).map sqD := by
  obtain ⟨r, c⟩ := p
  obtain ⟨h1, h2⟩ := hp
  simp only at h1 h2
  unfold nbs
  simp only [List.filter_cons, List.filter_nil]
  have e1 : (decide (0 ≤ (r : Int) - 1) && decide ((r : Int) - 1 < (R : Int)) && (decide (0 ≤ (c : Int)) && decide ((c : Int) < (C : Int)))) = decide (0 < r) := by
    rw [← Bool.decide_and, ← Bool.decide_and, ← Bool.decide_and]
    exact decide_eq_decide.mpr (by omega)
  have e2 : (decide (0 ≤ (r : Int)) && decide ((r : Int) < (R : Int)) && (decide (0 ≤ (c : Int) - 1) && decide ((c : Int) - 1 < (C : Int)))) = decide (0 < c) := by
    rw [← Bool.decide_and, ← Bool.decide_and, ← Bool.decide_and]
    exact decide_eq_decide.mpr (by omega)
  have e3 : (decide (0 ≤ (r : Int)) && decide ((r : Int) < (R : Int)) && (decide (0 ≤ (c : Int) + 1) && decide ((c : Int) + 1 < (C : Int)))) = decide (c + 1 < C) := by
    rw [← Bool.decide_and, ← Bool.decide_and, ← Bool.decide_and]
    exact decide_eq_decide.mpr (by omega)
  have e4 : (decide (0 ≤ (r : Int) + 1) && decide ((r : Int) + 1 < (R : Int)) && (decide (0 ≤ (c : Int)) && decide ((c : Int) < (C : Int)))) = decide (r + 1 < R) := by
    rw [← Bool.decide_and, ← Bool.decide_and, ← Bool.decide_and]
    exact decide_eq_decide.mpr (by omega)
  rw [e1, e2, e3, e4]
  simp only [decide_eq_true_eq]
  have n1 : 0 < r → ((r : Int) - 1) = ((r - 1 : Nat) : Int) := by omega
  have n2 : 0 < c → ((c : Int) - 1) = ((c - 1 : Nat) : Int) := by omega
  by_cases a1 : 0 < r <;> by_cases a2 : 0 < c <;> by_cases a3 : c + 1 < C <;> by_cases a4 : r + 1 < R <;> simp [a1, a2, a3, a4, sqD] <;> (try simp [n1 a1]) <;> (try simp [n2 a2])
theorem beside_ok {p : Sq} (hp : inR R C p) (hR : R ≤ 6) (hC : C ≤ 6) (hq : Q .fr (.lst ((nbs R C p).map sqD)) W) : sp_beside [tu R C g, sqD p] W Q := by
  show b_beside _ [some (.val (tu R C g)), some (.val (sqD p)), none, none, none, none] W
  have hR0 : 0 < R := by have := hp.1; omega
  have s2 : 2 ≤ sizeLine := by rw [sizeLine_eq]; decide
  have s4 : 4 ≤ sizeLine := by rw [sizeLine_eq]; decide
  unfold b_beside tu sqD
  refine stp fun K hK => ?_
  walk_at "x"
  refine hK _ _ (stp fun K hK => ?_)
  walk_at "x"
  refine ⟨s2, s2, s2, s2, s4, hK _ _ ?_⟩
  walk_at "x"
  refine compD_filter_enc (fun q : Int × Int => D.tup [.int q.1, .int q.2]) (fun q : Int × Int => (decide (0 ≤ q.1) && decide (q.1 < (R : Int))) && (decide (0 ≤ q.2) && decide (q.2 < (C : Int)))) (fun q : Int × Int => D.tup [.int q.1, .int q.2])
    (items := [((p.1 : Int) - 1, (p.2 : Int)), ((p.1 : Int), (p.2 : Int) - 1), ((p.1 : Int), (p.2 : Int) + 1), ((p.1 : Int) + 1, (p.2 : Int))]) ?_ ?_ ?_
  · rw [sizeLine_eq]; simp
  · rintro ⟨x, y⟩ _ k k2 h1 h2
    walk_at "x"
    simp only at h1 h2
    by_cases c1 : 0 ≤ x
    · by_cases c2 : x < (R : Int)
      · by_cases c3 : 0 ≤ y
        · by_cases c4 : y < (C : Int)
          · simp only [c1, c2, c3, c4, decide_true, if_true]
            exact h1 (by simp [c1, c2, c3, c4])
          · simp only [c1, c2, c3, c4, decide_true, decide_false, Bool.false_eq_true, if_true, if_false]
            exact h2 (by simp [c4])
        · simp only [c1, c2, c3, decide_true, decide_false, Bool.false_eq_true, if_true, if_false]
          exact h2 (by simp [c3])
      · simp only [c1, c2, decide_true, decide_false, Bool.false_eq_true, if_true, if_false]
        exact h2 (by simp [c2])
    · simp only [c1, decide_true, decide_false, Bool.false_eq_true, if_true, if_false]
      exact h2 (by simp [c1])
  · rw [List.nil_append, nbs_filter hp]
    exact hq
end
end L80

set_option maxHeartbeats 4000000
namespace L80
open PySem PySem.Spec PyProof.Rows L2 VL Sand
local macro_rules | `(tactic| walk_at "x") => `(tactic| simp (disch := omega) only [x_C, x_Bin, x_Un, x_Fn, x_aNil, x_aCons, x_Var, x_Call, x_Lc, x_Lc2, x_If, x_Sl, x_pN, x_Bor, x_Iter, x_And, x_Or, x_Not, x_Yes, x_Nil, x_Pass, x_Own, x_Set, x_For, x_Ret, x_Asg, x_App, x_Put, x_Put2, x_Drop, x_Break, x_Cont, x_RetN, x_Tup, x_Lst, x_frz, x_Ghost, x_ok1, x_ok2,
  sTest_eq, sRng1_eq, sRng2_eq, sRngD_eq, sChain_eq, sAnd_eq, sOr_eq, sNot_eq, spS_eq, frozenTg, VL.sv_val, VL.sv_ml, VL.sv_mg, VL.sv_md, wipeD, setsD_cons, setsD_nil, frzAll, frzV_val, frzV_ml, frzV_mg, borTag, retTag, callTag, allSto, stoB, isI_int, isB_bl, isNon,
  dAdd_int, dAdd_str, dAdd_lst, dAdd_tup, dI0_int, dII_int, dMul_int, dMul_lst, dMul_tup, dEq_int, dNe_int, dEq_str, dNe_str, dEq_bl, dNe_bl, dEq_tup, dNe_tup, dEq_lst, dNe_lst, dIs_non, dIsNot_non, dIs_bl, dIn_lst, dIn_tup, dNotIn_lst, dNotIn_tup, dIx_lst_rng, dIx_tup_rng, dIx_lst_rng0, dIx_tup_rng0, dIx_lst_0, dIx_tup_0, dIx_lst_1, dIx_tup_1, dIx_lst_2, dIx_tup_2,
  dSl_lst, dSl_tup, dLen_lst, dLen_tup, dLen_str, dLen_scr, dList_lst, dList_tup, dTuple_lst, dTuple_tup, dF1_int, dF2_int, dNeg_int, dIsi_non, dIsi_bl, dIsi_int, dIsi_str, dIsi_tup, dIsi_lst, dIsi_dct, itemsOf_lst, itemsOf_tup, tgD_name, tgD_tup, tgD_lst, ownOf_ml, ownOf_mg, putML_rng, atRow_gr, gr_lst, gr_set, flatEl_lst, flat_rows,
  cutD_init, cutD_tail, Int.zero_add, Int.toNat_natCast, ty_NoneType_bool, ty_NoneType_int, ty_NoneType_str, ty_NoneType_tuple, ty_NoneType_list, ty_NoneType_dict, ty_bool_bool, ty_bool_int, ty_bool_str, ty_bool_tuple, ty_bool_list, ty_bool_dict, ty_int_bool, ty_int_int, ty_int_str, ty_int_tuple, ty_int_list, ty_int_dict, ty_str_bool, ty_str_int, ty_str_str, ty_str_tuple, ty_str_list, ty_str_dict, ty_tuple_bool, ty_tuple_int, ty_tuple_str, ty_tuple_tuple, ty_tuple_list, ty_tuple_dict, ty_list_bool, ty_list_int, ty_list_str, ty_list_tuple, ty_list_list, ty_list_dict, ty_dict_bool, ty_dict_int, ty_dict_str, ty_dict_tuple, ty_dict_list, ty_dict_dict,
  sto, est, el, List.getElem?_cons_succ, List.getElem?_cons_zero, List.set_cons_succ, List.set_cons_zero, List.map_cons, List.map_nil, List.all_cons, List.all_nil, Bool.and_true, Bool.true_and, if_true, if_false, and_true, true_and, List.length_nil, List.length_cons, List.length_map, List.length_range, reduceIte, Bool.false_eq_true, decide_eq_true_eq, Bool.not_true, Bool.not_false, Option.map_some, Option.map_none])
section
variable {R C : Nat} {g : Gr} {W : Wd} {Q : Tg → D → Wd → Prop}
theorem s2 : 2 ≤ sizeLine := by rw [sizeLine_eq]; decide
theorem s4 : 4 ≤ sizeLine := by rw [sizeLine_eq]; decide
theorem s6 {R : Nat} (h : R ≤ 6) : R ≤ sizeLine := by rw [sizeLine_eq]; omega
theorem bump_eq {g : Gr} {p : Sq} {a : Int} : (fun x y => if x = p.1 ∧ y = p.2 then g p.1 p.2 + a else g x y) = bump g p a := by
  funext x y
  unfold Sand.bump
  by_cases h : x = p.1 ∧ y = p.2
  · obtain ⟨rfl, rfl⟩ := h
    simp
  · simp [h]
abbrev encZ (q : Int × Int) : D := D.tup [.int q.1, .int q.2]
theorem law_beside_ok {p : Sq} (hp : inR R C p) (hR : R ≤ 6) (hC : C ≤ 6) (hq : Q .fr (.lst ((nbs R C p).map sqD)) W) : sp__law_beside [tu R C g, .int p.1, .int p.2] W Q := by
  show b__law_beside _ [some (.val (tu R C g)), some (.val (.int p.1)), some (.val (.int p.2)), none, none, none] W
  have hR0 : 0 < R := by have := hp.1; omega
  have z2 := s2
  have z4 := s4
  unfold b__law_beside tu
  refine stp fun K hK => ?_
  walk_at "x"
  refine ⟨Nat.zero_le _, hK _ _ (stp fun K hK => ?_)⟩
  walk_at "x"
  refine ⟨s2, s2, s2, s2, s4, ?_⟩
  refine forD_enc encZ (fun rest σ W' => W' = W ∧ ∃ (done : List (Int × Int)) (o4 o5 : Option SV), σ = [some (SV.val (tu R C g)), some (.val (.int p.1)), some (.val (.int p.2)), some (.ml (done.map encZ)), o4, o5] ∧ done.length + rest.length ≤ 4 ∧
    done ++ rest.filter (fun q : Int × Int => (decide (0 ≤ q.1) && decide (q.1 < (R : Int))) && (decide (0 ≤ q.2) && decide (q.2 < (C : Int)))) = ([((p.1 : Int) - 1, (p.2 : Int)), ((p.1 : Int), (p.2 : Int) - 1), ((p.1 : Int), (p.2 : Int) + 1), ((p.1 : Int) + 1, (p.2 : Int))]).filter fun q : Int × Int => (decide (0 ≤ q.1) && decide (q.1 < (R : Int))) && (decide (0 ≤ q.2) && decide (q.2 < (C : Int))))
    (items := [((p.1 : Int) - 1, (p.2 : Int)), ((p.1 : Int), (p.2 : Int) - 1), ((p.1 : Int), (p.2 : Int) + 1), ((p.1 : Int) + 1, (p.2 : Int))]) ⟨rfl, [], none, none, rfl, by simp, rfl⟩ ?_ ?_
  · rintro ⟨x, y⟩ rest σ W' k ⟨rfl, done, o4, o5, rfl, hl, he⟩ hk
    unfold tu
    walk_at "x"
    refine ifs fun T hT hF => ?_
    walk_at "x"
    simp only [List.length_cons] at hl
    have skip : ((decide (0 ≤ x) && decide (x < (R : Int))) && (decide (0 ≤ y) && decide (y < (C : Int)))) = false → T false W' := fun e => by
      refine hF _ ?_
      walk_at "x"
      refine hk _ _ ⟨rfl, done, _, _, rfl, by omega, ?_⟩
      rw [← he, List.filter_cons, if_neg (by simpa using e)]
    by_cases c1 : 0 ≤ x
    · by_cases c2 : x < (R : Int)
      · by_cases c3 : 0 ≤ y
        · by_cases c4 : y < (C : Int)
          · simp only [c1, c2, c3, c4, decide_true, if_true]
            refine hT _ ?_
            walk_at "x"
            refine ⟨s2, by rw [sizeLine_eq]; omega, ?_⟩
            refine hk _ _ ⟨rfl, done ++ [(x, y)], _, _, by rw [List.map_append]; rfl, by simp; omega, ?_⟩
            rw [← he, List.filter_cons, if_pos (by simp [c1, c2, c3, c4]), List.append_assoc]
            rfl
          · simp only [c1, c2, c3, c4, decide_true, decide_false, Bool.false_eq_true, if_true, if_false]
            exact skip (by simp [c4])
        · simp only [c1, c2, c3, decide_true, decide_false, Bool.false_eq_true, if_true, if_false]
          exact skip (by simp [c3])
      · simp only [c1, c2, decide_true, decide_false, Bool.false_eq_true, if_true, if_false]
        exact skip (by simp [c2])
    · simp only [c1, decide_true, decide_false, Bool.false_eq_true, if_true, if_false]
      exact skip (by simp [c1])
  · rintro σ W' ⟨rfl, done, o4, o5, rfl, hl, he⟩
    refine hK _ _ ?_
    walk_at "x"
    rw [List.filter_nil, List.append_nil] at he
    rw [he, nbs_filter hp]
    exact hq
theorem counted_ok {s : List Sq} (hs : ∀ p ∈ s, inR R C p) (hR : 1 ≤ R ∧ R ≤ 6) (hC : C ≤ 6) (hq : Q .st (tu R C fun x y => cnt s x y) W) : sp_counted [tu R C g, .lst (s.map sqD)] W Q := by
  show b_counted _ [some (.val (tu R C g)), some (.val (.lst (s.map sqD))), none, none, none, none] W
  unfold b_counted
  refine stp fun K hK => ?_
  unfold tu
  walk_at "x"
  refine ⟨by omega, by omega, ?_⟩
  simp only [upTo_map]
  refine compD_enc (fun i : Nat => D.int (0 + i)) (fun r => D.lst ((List.range C).map fun _ => .int 0)) (by simpa using s6 hR.2) ?_ ?_
  · intro r _ k hk
    walk_at "x"
    simp only [Nat.one_mul, zeros_row]
    refine ⟨by rw [sizeLine_eq]; decide, by omega, by omega, by have := s6 hC; simpa using this, ⟨_, rfl⟩, hk⟩
  · refine ⟨gr R C fun _ _ => 0, by rw [gr_lst]; rfl, ?_⟩
    refine hK _ _ (stp fun K hK => ?_)
    walk_at "x"
    refine forD_enc sqD (fun rest σ W' => W' = W ∧ ∃ (done : List Sq) (o3 o4 o5 : Option SV), done ++ rest = s ∧ σ = [some (SV.val (tu R C g)), some (.val (.lst (s.map sqD))), some (.mg (gr R C fun x y => cnt done x y)), o3, o4, o5]) (items := s) ⟨rfl, [], none, none, none, rfl, rfl⟩ ?_ ?_
    · rintro p rest σ W' k ⟨rfl, done, o3, o4, o5, he, rfl⟩ hk
      obtain ⟨h1, h2⟩ := hs p (by rw [← he]; simp)
      unfold sqD
      walk_at "x"
      refine hk _ _ ⟨rfl, done ++ [p], some (.val (.int p.1)), some (.val (.int p.2)), o5, by rw [← he]; simp, ?_⟩
      have e : (gr R C fun x y => if x = p.fst ∧ y = p.snd then (cnt done p.fst p.snd : Int) + 1 else cnt done x y) = gr R C fun x y => cnt (done ++ [p]) x y := gr_congr fun x y _ _ => by
        have e1 : Sand.cnt (done ++ [p]) x y = Sand.cnt done x y + (if x = p.1 ∧ y = p.2 then 1 else 0) := by
          unfold Sand.cnt
          rw [List.count_append, List.count_cons]
          obtain ⟨a, b⟩ := p
          simp
          by_cases h : x = a ∧ y = b
          · obtain ⟨rfl, rfl⟩ := h; simp
          · have : ¬(a = x ∧ b = y) := fun ⟨u, v⟩ => h ⟨u.symm, v.symm⟩
            simp [h, this]
        rw [e1]
        by_cases h : x = p.1 ∧ y = p.2
        · obtain ⟨rfl, rfl⟩ := h; simp
        · simp [h]
      rw [e]
      rfl
    · rintro σ W' ⟨rfl, done, o3, o4, o5, he, rfl⟩
      rw [List.append_nil] at he
      subst he
      refine hK _ _ ?_
      show sFn dTuple _ _ _ _
      exact frz_rows (i := 2) (j := 3) rfl (by decide) (by simp) (s6 hR.2) hq
theorem law_topple_ok {p : Sq} (hp : inR R C p) (hR : R ≤ 6) (hC : C ≤ 6) (hq : Q .st (tu R C (top R C g p)) W) : sp__law_topple [tu R C g, sqD p] W Q := by
  show b__law_topple _ [some (.val (tu R C g)), some (.val (sqD p)), none, none, none, none, none, none] W
  have hp' := hp
  obtain ⟨h1, h2⟩ := hp'
  unfold b__law_topple
  refine stp fun K hK => ?_
  unfold sOwn
  refine own_rows (i := 0) (j := 7) rfl (by decide) (by simp) (s6 hR) ?_
  refine ⟨_, rfl, hK _ _ (stp fun K hK => ?_)⟩
  unfold sqD
  walk_at "x"
  refine hK _ _ (stp fun K hK => ?_)
  walk_at "x"
  have e0 : (gr R C fun x y => if x = p.fst ∧ y = p.snd then g p.fst p.snd - 4 else g x y) = gr R C (bump g p (-4)) := by
    rw [← bump_eq]
    congr 1
  rw [e0]
  refine hK _ _ (stp fun K hK => ?_)
  walk_at "x"
  refine law_beside_ok hp hR hC ?_
  walk_at "x"
  refine forD_enc sqD (fun rest σ W' => W' = W ∧ ∃ (done : List Sq) (o5 o6 : Option SV), done ++ rest = nbs R C p ∧ σ = [some (SV.val (tu R C g)), some (.val (sqD p)), some (.mg (gr R C (bumps (bump g p (-4)) done))), some (.val (.int p.1)), some (.val (.int p.2)), o5, o6, none]) (items := nbs R C p) ⟨rfl, [], none, none, rfl, rfl⟩ ?_ ?_
  · rintro q rest σ W' k ⟨rfl, done, o5, o6, he, rfl⟩ hk
    obtain ⟨q1, q2⟩ := nbs_in (q := q) hp (by rw [← he]; simp)
    unfold sqD
    walk_at "x"
    refine hk _ _ ⟨rfl, done ++ [q], some (.val (.int q.1)), some (.val (.int q.2)), by rw [← he]; simp, ?_⟩
    have e : bumps (bump g p (-4)) (done ++ [q]) = bump (bumps (bump g p (-4)) done) q 1 := by
      unfold bumps
      rw [List.foldl_append]
      rfl
    rw [e, ← bump_eq (g := bumps _ done)]
    rfl
  · rintro σ W' ⟨rfl, done, o5, o6, he, rfl⟩
    rw [List.append_nil] at he
    subst he
    refine hK _ _ ?_
    show sFn dTuple _ _ _ _
    exact frz_rows (i := 2) (j := 7) rfl (by decide) (by simp) (s6 hR) hq
end
end L80

set_option maxHeartbeats 4000000
namespace L80
open PySem PySem.Spec PyProof.Rows L2 VL Sand
local macro_rules | `(tactic| walk_at "x") => `(tactic| simp (disch := omega) only [x_C, x_Bin, x_Un, x_Fn, x_aNil, x_aCons, x_Var, x_Call, x_Lc, x_Lc2, x_If, x_Sl, x_pN, x_Bor, x_Iter, x_And, x_Or, x_Not, x_Yes, x_Nil, x_Pass, x_Own, x_Set, x_For, x_Ret, x_Asg, x_App, x_Put, x_Put2, x_Drop, x_Break, x_Cont, x_RetN, x_Tup, x_Lst, x_frz, x_Ghost, x_ok1, x_ok2,
  sTest_eq, sRng1_eq, sRng2_eq, sRngD_eq, sChain_eq, sAnd_eq, sOr_eq, sNot_eq, spS_eq, frozenTg, VL.sv_val, VL.sv_ml, VL.sv_mg, VL.sv_md, wipeD, setsD_cons, setsD_nil, frzAll, frzV_val, frzV_ml, frzV_mg, borTag, retTag, callTag, allSto, stoB, isI_int, isB_bl, isNon,
  dAdd_int, dAdd_str, dAdd_lst, dAdd_tup, dI0_int, dII_int, dMul_int, dMul_lst, dMul_tup, dEq_int, dNe_int, dEq_str, dNe_str, dEq_bl, dNe_bl, dEq_tup, dNe_tup, dEq_lst, dNe_lst, dIs_non, dIsNot_non, dIs_bl, dIn_lst, dIn_tup, dNotIn_lst, dNotIn_tup, dIx_lst_rng, dIx_tup_rng, dIx_lst_rng0, dIx_tup_rng0, dIx_lst_0, dIx_tup_0, dIx_lst_1, dIx_tup_1, dIx_lst_2, dIx_tup_2,
  dSl_lst, dSl_tup, dLen_lst, dLen_tup, dLen_str, dLen_scr, dList_lst, dList_tup, dTuple_lst, dTuple_tup, dF1_int, dF2_int, dNeg_int, dIsi_non, dIsi_bl, dIsi_int, dIsi_str, dIsi_tup, dIsi_lst, dIsi_dct, itemsOf_lst, itemsOf_tup, tgD_name, tgD_tup, tgD_lst, ownOf_ml, ownOf_mg, putML_rng, atRow_gr, gr_lst, gr_set, flatEl_lst, flat_rows,
  cutD_init, cutD_tail, Int.zero_add, Int.toNat_natCast, ty_NoneType_bool, ty_NoneType_int, ty_NoneType_str, ty_NoneType_tuple, ty_NoneType_list, ty_NoneType_dict, ty_bool_bool, ty_bool_int, ty_bool_str, ty_bool_tuple, ty_bool_list, ty_bool_dict, ty_int_bool, ty_int_int, ty_int_str, ty_int_tuple, ty_int_list, ty_int_dict, ty_str_bool, ty_str_int, ty_str_str, ty_str_tuple, ty_str_list, ty_str_dict, ty_tuple_bool, ty_tuple_int, ty_tuple_str, ty_tuple_tuple, ty_tuple_list, ty_tuple_dict, ty_list_bool, ty_list_int, ty_list_str, ty_list_tuple, ty_list_list, ty_list_dict, ty_dict_bool, ty_dict_int, ty_dict_str, ty_dict_tuple, ty_dict_list, ty_dict_dict,
  sto, est, el, List.getElem?_cons_succ, List.getElem?_cons_zero, List.set_cons_succ, List.set_cons_zero, List.map_cons, List.map_nil, List.all_cons, List.all_nil, Bool.and_true, Bool.true_and, if_true, if_false, and_true, true_and, List.length_nil, List.length_cons, List.length_map, List.length_range, reduceIte, Bool.false_eq_true, decide_eq_true_eq, Bool.not_true, Bool.not_false, Option.map_some, Option.map_none])
section
variable {R C : Nat} {g : Gr} {W : Wd} {Q : Tg → D → Wd → Prop}
/-- the chart behind the squares gone through, if each was in turn -/
def bo (R C : Nat) : Gr → List Sq → Option Gr
  | g, [] => some g
  | g, p :: s => if inR R C p ∧ 4 ≤ g p.1 p.2 then bo R C (top R C g p) s else none
theorem bo_cons {R C : Nat} {g : Gr} {p : Sq} {s : List Sq} : bo R C g (p :: s) = if inR R C p ∧ 4 ≤ g p.1 p.2 then bo R C (top R C g p) s else none := rfl
theorem bo_legal {R C : Nat} : ∀ {s : List Sq} {g : Gr}, Legal R C g s → bo R C g s = some (run R C g s)
  | [], _, _ => rfl
  | p :: s, g, ⟨a, b, c⟩ => by
    unfold bo
    rw [if_pos ⟨a, b⟩, bo_legal c]
    rfl
theorem bo_append {R C : Nat} : ∀ {s t : List Sq} {g : Gr}, Legal R C g s → bo R C g (s ++ t) = bo R C (run R C g s) t
  | [], _, _, _ => rfl
  | p :: s, t, g, ⟨a, b, c⟩ => by
    show bo R C g (p :: (s ++ t)) = _
    unfold bo
    rw [if_pos ⟨a, b⟩, bo_append c]
    cases t <;> rfl
def optD (R C : Nat) : Option Gr → D
  | none => .non
  | some g => tu R C g
theorem sub_eq {g : Gr} {p : Sq} : (gr R C fun x y => if x = p.fst ∧ y = p.snd then g p.fst p.snd - 4 else g x y) = gr R C (Sand.bump g p (-4)) := by
  rw [← bump_eq]
  congr 1
theorem behind_ok {s : List Sq} (hR : 1 ≤ R ∧ R ≤ 6) (hC : 1 ≤ C ∧ C ≤ 6) (hs : s.length < 2 ^ 62) (hq : Q .st (optD R C (bo R C g s)) W) : sp_behind_order [tu R C g, .lst (s.map sqD)] W Q := by
  show b_behind_order _ [some (.val (tu R C g)), some (.val (.lst (s.map sqD))), none, none, none, none, none] W
  unfold b_behind_order
  refine stp fun K hK => ?_
  unfold sOwn
  refine own_rows (i := 0) (j := 6) rfl (by decide) (by simp) (s6 hR.2) ?_
  refine ⟨_, rfl, hK _ _ (stp fun K hK => ?_)⟩
  walk_at "x"
  refine places_ok hR hC ?_
  walk_at "x"
  refine hK _ _ (stp fun K hK => ?_)
  walk_at "x"
  refine forD_enc sqD (fun rest σ W' => W' = W ∧ ∃ (g' : Gr) (o4 o5 : Option SV), bo R C g s = bo R C g' rest ∧ σ = [some (SV.val (tu R C g)), some (.val (.lst (s.map sqD))), some (.mg (gr R C g')), some (.val (.lst ((places R C).map sqD))), o4, o5, none]) (items := s) ⟨rfl, g, none, none, rfl, rfl⟩ ?_ ?_
  · rintro p rest σ W' k ⟨rfl, g', o4, o5, he, rfl⟩ hk
    rw [bo_cons] at he
    walk_at "x"
    refine stp fun K hK => ifs fun T hT hF => ?_
    walk_at "x"
    simp only [any_sq]
    refine ⟨fits_eqOk (fits_sq (b := false)), fits_eqOk (fits_lstM (n := 1) (b := false) ?_ fun _ _ => fits_sq), ?_⟩
    · rw [places_len]
      have := rc36 hR.2 hC.2
      omega
    by_cases hp : p ∈ places R C
    · rw [decide_eq_true hp]
      have hp := places_mem.mp hp
      have hp' : inR R C p := hp
      obtain ⟨h1, h2⟩ := hp
      simp only [Bool.not_true, Bool.false_eq_true, if_false]
      unfold sqD
      walk_at "x"
      refine br (fun c => hT _ ?_) fun c => hF _ ?_
      · rw [if_neg (by omega)] at he
        rw [he] at hq
        walk_at "x"
        exact hq
      · rw [if_pos ⟨hp', by omega⟩] at he
        walk_at "x"
        refine hK _ _ (stp fun K hK => ?_)
        unfold sqD
        walk_at "x"
        rw [sub_eq]
        refine hK _ _ ?_
        walk_at "x"
        refine beside_ok (p := p) hp' hR.2 hC.2 ?_
        walk_at "x"
        refine forD_enc sqD (fun rest2 σ W'' => W'' = W' ∧ ∃ (done : List Sq) (o5 : Option SV), done ++ rest2 = nbs R C p ∧ σ = [some (SV.val (tu R C g)), some (.val (.lst (s.map sqD))), some (.mg (gr R C (bumps (Sand.bump g' p (-4)) done))), some (.val (.lst ((places R C).map sqD))), some (.val (sqD p)), o5, none]) (items := nbs R C p) ⟨rfl, [], o5, rfl, rfl⟩ ?_ ?_
        · rintro q rest2 σ W'' k2 ⟨rfl, done, o5, he2, rfl⟩ hk2
          obtain ⟨q1, q2⟩ := nbs_in (q := q) hp' (by rw [← he2]; simp)
          unfold sqD
          walk_at "x"
          refine hk2 _ _ ⟨rfl, done ++ [q], some (.val (sqD q)), by rw [← he2]; simp, ?_⟩
          have e : bumps (Sand.bump g' p (-4)) (done ++ [q]) = Sand.bump (bumps (Sand.bump g' p (-4)) done) q 1 := by
            unfold bumps
            rw [List.foldl_append]
            rfl
          rw [e, ← bump_eq (g := bumps _ done)]
          rfl
        · rintro σ W'' ⟨rfl, done, o5, he2, rfl⟩
          rw [List.append_nil] at he2
          subst he2
          exact hk _ _ ⟨rfl, top R C g' p, _, _, he, rfl⟩
    · rw [decide_eq_false hp]
      have hp := fun h => hp (places_mem.mpr h)
      simp only [Bool.not_false, if_true]
      refine hT _ ?_
      rw [if_neg (fun h => hp h.1)] at he
      rw [he] at hq
      walk_at "x"
      exact hq
  · rintro σ W' ⟨rfl, g', o4, o5, he, rfl⟩
    refine hK _ _ ?_
    rw [he] at hq
    show sFn dTuple _ _ _ _
    exact frz_rows (i := 2) (j := 6) rfl (by decide) (by simp) (s6 hR.2) hq
theorem gone_ok {s : List Sq} (hR : 1 ≤ R ∧ R ≤ 6) (hC : C ≤ 6) (hl : Legal R C g s) (hq : Q .st (tu R C (run R C g s)) W) : sp__law_gone_through [tu R C g, .lst (s.map sqD)] W Q := by
  show b__law_gone_through _ [some (.val (tu R C g)), some (.val (.lst (s.map sqD))), none, none] W
  unfold b__law_gone_through
  refine stp fun K hK => ?_
  walk_at "x"
  refine forD_enc sqD (fun rest σ W' => W' = W ∧ ∃ (g' : Gr) (o2 o3 : Option SV), Legal R C g' rest ∧ run R C g s = run R C g' rest ∧ σ = [some (SV.val (tu R C g')), some (.val (.lst (s.map sqD))), o2, o3]) (items := s) ⟨rfl, g, none, none, hl, rfl, rfl⟩ ?_ ?_
  · rintro p rest σ W' k ⟨rfl, g', o2, o3, ⟨l1, l2, l3⟩, he, rfl⟩ hk
    have l1' := l1
    obtain ⟨h1, h2⟩ := l1'
    unfold sqD
    walk_at "x"
    refine stp fun K hK => ifs fun T hT hF => ?_
    unfold tu
    walk_at "x"
    have a1 : (0 : Int) ≤ (p.1 : Int) := by omega
    have a2 : (p.1 : Int) < (R : Int) := by omega
    have a3 : (0 : Int) ≤ (p.2 : Int) := by omega
    have a4 : (p.2 : Int) < (C : Int) := by omega
    simp only [a1, a2, a3, a4, decide_true, if_true, Bool.not_true, Bool.false_eq_true, if_false]
    refine br (fun c => absurd l2 (by omega)) fun c => hF _ ?_
    walk_at "x"
    refine hK _ _ ?_
    walk_at "x"
    refine ⟨s2, law_topple_ok (p := p) l1 hR.2 hC ?_⟩
    walk_at "x"
    exact hk _ _ ⟨rfl, top R C g' p, _, _, l3, he, rfl⟩
  · rintro σ W' ⟨rfl, g', o2, o3, _, he, rfl⟩
    refine hK _ _ ?_
    walk_at "x"
    rw [he] at hq
    exact hq
end
end L80

set_option maxHeartbeats 4000000
namespace L80
open PySem PySem.Spec PyProof.Rows L2 VL Sand
local macro_rules | `(tactic| walk_at "x") => `(tactic| simp (disch := omega) only [x_C, x_Bin, x_Un, x_Fn, x_aNil, x_aCons, x_Var, x_Call, x_Lc, x_Lc2, x_If, x_Sl, x_pN, x_Bor, x_Iter, x_And, x_Or, x_Not, x_Yes, x_Nil, x_Pass, x_Own, x_Set, x_For, x_Ret, x_Asg, x_App, x_Put, x_Put2, x_Drop, x_Break, x_Cont, x_RetN, x_Tup, x_Lst, x_frz, x_Ghost, x_ok1, x_ok2,
  sTest_eq, sRng1_eq, sRng2_eq, sRngD_eq, sChain_eq, sAnd_eq, sOr_eq, sNot_eq, spS_eq, frozenTg, VL.sv_val, VL.sv_ml, VL.sv_mg, VL.sv_md, wipeD, setsD_cons, setsD_nil, frzAll, frzV_val, frzV_ml, frzV_mg, borTag, retTag, callTag, allSto, stoB, isI_int, isB_bl, isNon,
  dAdd_int, dAdd_str, dAdd_lst, dAdd_tup, dI0_int, dII_int, dMul_int, dMul_lst, dMul_tup, dEq_int, dNe_int, dEq_str, dNe_str, dEq_bl, dNe_bl, dEq_tup, dNe_tup, dEq_lst, dNe_lst, dIs_non, dIsNot_non, dIs_bl, dIn_lst, dIn_tup, dNotIn_lst, dNotIn_tup, dIx_lst_rng, dIx_tup_rng, dIx_lst_rng0, dIx_tup_rng0, dIx_lst_0, dIx_tup_0, dIx_lst_1, dIx_tup_1, dIx_lst_2, dIx_tup_2,
  dSl_lst, dSl_tup, dLen_lst, dLen_tup, dLen_str, dLen_scr, dList_lst, dList_tup, dTuple_lst, dTuple_tup, dF1_int, dF2_int, dNeg_int, dIsi_non, dIsi_bl, dIsi_int, dIsi_str, dIsi_tup, dIsi_lst, dIsi_dct, itemsOf_lst, itemsOf_tup, tgD_name, tgD_tup, tgD_lst, ownOf_ml, ownOf_mg, putML_rng, atRow_gr, gr_lst, gr_set, flatEl_lst, flat_rows, VL.flat_lst, Bool.false_and, Bool.and_false,
  cutD_init, cutD_tail, Int.zero_add, Int.toNat_natCast, ty_NoneType_bool, ty_NoneType_int, ty_NoneType_str, ty_NoneType_tuple, ty_NoneType_list, ty_NoneType_dict, ty_bool_bool, ty_bool_int, ty_bool_str, ty_bool_tuple, ty_bool_list, ty_bool_dict, ty_int_bool, ty_int_int, ty_int_str, ty_int_tuple, ty_int_list, ty_int_dict, ty_str_bool, ty_str_int, ty_str_str, ty_str_tuple, ty_str_list, ty_str_dict, ty_tuple_bool, ty_tuple_int, ty_tuple_str, ty_tuple_tuple, ty_tuple_list, ty_tuple_dict, ty_list_bool, ty_list_int, ty_list_str, ty_list_tuple, ty_list_list, ty_list_dict, ty_dict_bool, ty_dict_int, ty_dict_str, ty_dict_tuple, ty_dict_list, ty_dict_dict,
  sto, est, el, List.getElem?_cons_succ, List.getElem?_cons_zero, List.set_cons_succ, List.set_cons_zero, List.map_cons, List.map_nil, List.all_cons, List.all_nil, Bool.and_true, Bool.true_and, if_true, if_false, and_true, true_and, List.length_nil, List.length_cons, List.length_map, List.length_range, reduceIte, Bool.false_eq_true, decide_eq_true_eq, Bool.not_true, Bool.not_false, Option.map_some, Option.map_none])
section
variable {R C : Nat} {g : Gr} {W : Wd} {Q : Tg → D → Wd → Prop}
theorem run_snoc (s : List Sq) (p : Sq) : run R C g (s ++ [p]) = top R C (run R C g s) p := by
  rw [run_append]
  rfl
theorem legal_snoc {s : List Sq} {p : Sq} (h : Legal R C g s) (hp : inR R C p) (h4 : 4 ≤ run R C g s p.1 p.2) : Legal R C g (s ++ [p]) :=
  (legal_append s [p] g).mpr ⟨h, hp, h4, trivial⟩
/-- all the full squares stand in the queue, from here on -/
def Cov (R C : Nat) (h : Gr) (q : List Sq) (a : Nat) : Prop := ∀ p : Sq, Sand.inR R C p → 4 ≤ h p.1 p.2 → ∃ i, a ≤ i ∧ q[i]? = some p
theorem cov_skip {h : Gr} {q : List Sq} {a : Nat} {p : Sq} (hc : Cov R C h q a) (hp : q[a]? = some p) (hn : ¬ 4 ≤ h p.1 p.2) : Cov R C h q (a + 1) := by
  intro p' i' h4
  obtain ⟨i, hi, he⟩ := hc p' i' h4
  by_cases e : i = a
  · subst e
    rw [hp] at he
    cases he
    exact absurd h4 hn
  · exact ⟨i, by omega, he⟩
theorem cov_step {h : Gr} {q : List Sq} {a : Nat} {p : Sq} (hc : Cov R C h q a) (hp : q[a]? = some p) : Cov R C (top R C h p) (q ++ [p] ++ nbs R C p) (a + 1) := by
  have ha : a < q.length := (List.getElem?_eq_some_iff.mp hp).1
  intro p' i' h4
  by_cases e : p' = p
  · subst e
    refine ⟨q.length, by omega, ?_⟩
    rw [List.append_assoc, List.getElem?_append_right (Nat.le_refl _)]
    simp
  · by_cases m : p' ∈ nbs R C p
    · obtain ⟨j, hj, ej⟩ := List.getElem_of_mem m
      refine ⟨(q ++ [p]).length + j, by simp; omega, ?_⟩
      rw [List.getElem?_append_right (by omega), show (q ++ [p]).length + j - (q ++ [p]).length = j by omega, List.getElem?_eq_getElem hj, ej]
    · have hv : top R C h p p'.1 p'.2 = h p'.1 p'.2 := by
        unfold top
        rw [bumps_at, List.count_eq_zero.mpr m]
        unfold Sand.bump
        rw [if_neg (fun ⟨u, v⟩ => e (Prod.ext u v))]
        simp
      rw [hv] at h4
      obtain ⟨i, hi, he⟩ := hc p' i' h4
      have hl : i < q.length := (List.getElem?_eq_some_iff.mp he).1
      refine ⟨i, ?_, by rw [List.append_assoc, List.getElem?_append_left hl]; exact he⟩
      by_cases e2 : i = a
      · subst e2
        rw [hp] at he
        cases he
        exact absurd rfl e
      · omega
theorem add_eq {h : Gr} {p : Sq} : (gr R C fun x y => if x = p.fst ∧ y = p.snd then h p.fst p.snd + 1 else h x y) = gr R C (Sand.bump h p 1) := by
  rw [← bump_eq]
theorem bumps_snoc {h : Gr} {l : List Sq} {q : Sq} : bumps h (l ++ [q]) = Sand.bump (bumps h l) q 1 := by
  unfold bumps
  rw [List.foldl_append]
  rfl
theorem toppled_ok (hR : 1 ≤ R ∧ R ≤ 3) (hC : 1 ≤ C ∧ C ≤ 4) (h0 : NonNeg R C g) (h20 : ∀ x y, x < R → y < C → g x y ≤ 20)
    (hq : ∀ s, Legal R C g s → Calm R C (run R C g s) → s.length ≤ 1000 → Q .st (.tup [.lst (s.map sqD), lu R C (run R C g s)]) W) : sp_toppled [tu R C g] W Q := by
  show b_toppled _ [some (.val (tu R C g)), none, none, none, none, none, none, none] W
  have hR6 : R ≤ 6 := by omega
  have hC6 : C ≤ 6 := by omega
  have hpot := pot_le hR.2 hC.2 h0 h20
  unfold b_toppled
  refine stp fun K hK => ?_
  unfold sOwn
  refine own_rows (i := 0) (j := 5) rfl (by decide) (by simp) (s6 hR6) ?_
  refine ⟨_, rfl, hK _ _ (stp fun K hK => ?_)⟩
  walk_at "x"
  refine ⟨Nat.zero_le _, hK _ _ (stp fun K hK => ?_)⟩
  walk_at "x"
  refine places_ok ⟨hR.1, hR6⟩ ⟨hC.1, hC6⟩ ?_
  walk_at "x"
  refine hK _ _ (stp fun K hK => ?_)
  walk_at "x"
  refine hK _ _ (stp fun K hK => ?_)
  refine whl (fun m σ W' => W' = W ∧ ∃ (s q : List Sq) (a : Nat) (o5 o6 o7 : Option SV), Legal R C g s ∧ (∀ p ∈ q, inR R C p) ∧ a ≤ q.length ∧ Cov R C (run R C g s) q a ∧
    (q.length : Int) + 3 * pot R C (run R C g s) ≤ 36 + 3 * pot R C g ∧ 2 * (s.length : Int) + pot R C (run R C g s) ≤ pot R C g ∧ (m : Int) = 6 * pot R C (run R C g s) + (q.length - a) ∧
    σ = [some (SV.val (tu R C g)), some (.mg (gr R C (run R C g s))), some (.ml (s.map sqD)), some (.ml (q.map sqD)), some (.val (.int a)), o5, o6, o7]) (6 * (pot R C g).toNat + (places R C).length) ?_ ?_
  · refine ⟨rfl, [], places R C, 0, none, none, none, trivial, fun p m => places_mem.mp m, Nat.zero_le _, ?_, ?_, ?_, ?_, rfl⟩
    · intro p hp _
      obtain ⟨i, hi, e⟩ := List.getElem_of_mem (places_mem.mpr hp)
      exact ⟨i, Nat.zero_le _, by rw [List.getElem?_eq_getElem hi, e]⟩
    · have := rc36 hR6 hC6
      rw [places_len]
      show ((R * C : Nat) : Int) + 3 * pot R C g ≤ _
      omega
    · show 2 * (0 : Int) + pot R C g ≤ _
      omega
    · have hn := pot_nonneg h0
      show ((6 * (pot R C g).toNat + (places R C).length : Nat) : Int) = 6 * pot R C g + ((places R C).length - (0 : Nat))
      omega
  · rintro m σ W' k ⟨rfl, s, q, a, o5, o6, o7, ls, hin, ha, hcov, b1, b2, bm, rfl⟩ hk
    have hnn := run_nonneg h0 ls
    have hpn := pot_nonneg hnn
    walk_at "x"
    by_cases hlt : (a : Int) < (q.length : Int)
    · rw [if_pos hlt]
      have hlt' : a < q.length := by omega
      have hqa : q[a]? = some q[a] := List.getElem?_eq_getElem hlt'
      generalize hpd : q[a] = p at hqa
      have hp : inR R C p := hin p (by rw [← hpd]; exact List.getElem_mem _)
      have hp' := hp
      obtain ⟨h1, h2⟩ := hp'
      have hx : ∀ {q2 : List Sq} {t u : Tg} {R' : Tg → D → Prop}, dIx t (.lst ((q ++ q2).map sqD)) u (.int a) R' = R' (el t) (sqD p) := fun {q2 t u R'} =>
        ex_some (atI_nat (by rw [List.getElem?_map, List.getElem?_append_left hlt', hqa]; rfl))
      have hx0 : ∀ {t u : Tg} {R' : Tg → D → Prop}, dIx t (.lst (q.map sqD)) u (.int a) R' = R' (el t) (sqD p) := fun {t u R'} =>
        ex_some (atI_nat (by rw [List.getElem?_map, hqa]; rfl))
      refine stp fun K hK => ?_
      walk_at "x"
      rw [hx0]
      unfold sqD
      walk_at "x"
      refine hK _ _ (stp fun K5 hK5 => ifs fun T hT hF => ?_)
      walk_at "x"
      have zq : q.length + 5 ≤ sizeLine := by rw [sizeLine_eq]; omega
      have zs : s.length + 5 ≤ sizeLine := by rw [sizeLine_eq]; omega
      refine br (fun c => hT _ (stp fun K hK => ?_)) fun c => hF _ ?_
      · have c' : 4 ≤ run R C g s p.1 p.2 := c
        have pt := pot_top hR.2 (run R C g s) hp
        walk_at "x"
        rw [sub_eq]
        refine hK _ _ (stp fun K hK => ?_)
        have hx1 : ∀ {t u : Tg} {R' : Tg → D → Prop}, dIx t (.lst (List.map (fun p : Sq => D.tup [.int p.1, .int p.2]) q)) u (.int a) R' = R' (el t) (.tup [.int p.1, .int p.2]) := hx0
        walk_at "x"
        rw [hx1]
        walk_at "x"
        refine ⟨by omega, hK _ _ (stp fun K hK => ?_)⟩
        walk_at "x"
        rw [hx1]
        walk_at "x"
        refine ⟨by omega, hK _ _ ?_⟩
        walk_at "x"
        have hx2 : ∀ {t u : Tg} {R' : Tg → D → Prop}, dIx t (.lst (List.map (fun p : Sq => D.tup [.int p.1, .int p.2]) q ++ [.tup [.int p.1, .int p.2]])) u (.int a) R' = R' (el t) (.tup [.int p.1, .int p.2]) := fun {t u R'} => by
          have := hx (q2 := [p]) (t := t) (u := u) (R' := R')
          rw [List.map_append] at this
          exact this
        rw [hx2]
        walk_at "x"
        refine beside_ok (p := p) hp hR6 hC6 ?_
        walk_at "x"
        refine forD_enc sqD (fun rest σ W'' => W'' = W' ∧ ∃ (done : List Sq) (o7 : Option SV), done ++ rest = nbs R C p ∧ σ = [some (SV.val (tu R C g)), some (.mg (gr R C (bumps (Sand.bump (run R C g s) p (-4)) done))), some (.ml ((s ++ [p]).map sqD)), some (.ml ((q ++ [p] ++ done).map sqD)), some (.val (.int a)), some (.val (.int p.1)), some (.val (.int p.2)), o7]) (items := nbs R C p) ⟨rfl, [], o7, rfl, by simp [bumps, sqD, List.map_append]⟩ ?_ ?_
        · rintro r rest σ W'' k2 ⟨rfl, done, o7, he2, rfl⟩ hk2
          obtain ⟨q1, q2⟩ := nbs_in (q := r) hp (by rw [← he2]; simp)
          have nl := nbs_len R C p
          rw [← he2] at nl
          simp only [List.length_append, List.length_cons] at nl
          walk_at "x"
          refine stp fun K hK => ?_
          unfold sqD
          walk_at "x"
          rw [add_eq]
          refine hK _ _ ?_
          walk_at "x"
          refine ⟨by simp only [List.length_append, List.length_cons, List.length_nil]; omega, ?_⟩
          refine hk2 _ _ ⟨rfl, done ++ [r], some (.val (sqD r)), by rw [← he2]; simp, ?_⟩
          rw [bumps_snoc, ← List.append_assoc (q ++ [p]) done [r], List.map_append (l₁ := q ++ [p] ++ done)]
          rfl
        · rintro σ W'' ⟨rfl, done, o7, he2, rfl⟩
          rw [List.append_nil] at he2
          subst he2
          refine hK5 _ _ ?_
          walk_at "x"
          have e1 : bumps (Sand.bump (run R C g s) p (-4)) (nbs R C p) = run R C g (s ++ [p]) := (run_snoc s p).symm
          rw [e1]
          have nl := nbs_len R C p
          have pt' : pot R C (run R C g (s ++ [p])) ≤ pot R C (run R C g s) - 2 := by rw [run_snoc]; exact pt
          have pn' := pot_nonneg (run_nonneg h0 (legal_snoc ls hp c'))
          have lq : ((q ++ [p] ++ nbs R C p).length : Int) = q.length + 1 + (nbs R C p).length := by simp only [List.length_append, List.length_cons, List.length_nil]; omega
          have lsn : ((s ++ [p]).length : Int) = s.length + 1 := by simp
          refine hk (6 * (pot R C (run R C g (s ++ [p]))).toNat + ((q ++ [p] ++ nbs R C p).length - (a + 1))) _ _ (by simp only [List.length_append, List.length_cons, List.length_nil]; omega) ⟨rfl, s ++ [p], q ++ [p] ++ nbs R C p, a + 1, some (.val (.int p.1)), some (.val (.int p.2)), o7, legal_snoc ls hp c', ?_, ?_, ?_, ?_, ?_, ?_, rfl⟩
          · intro r hr
            simp only [List.mem_append, List.mem_singleton] at hr
            rcases hr with (hr | rfl) | hr
            · exact hin r hr
            · exact hp
            · exact nbs_in hp hr
          · simp only [List.length_append, List.length_cons, List.length_nil]; omega
          · rw [run_snoc]
            exact cov_step hcov hqa
          · rw [lq]; omega
          · rw [lsn]; omega
          · simp only [List.length_append, List.length_cons, List.length_nil]; omega
      · walk_at "x"
        refine hK5 _ _ ?_
        walk_at "x"
        exact hk (m - 1) _ _ (by omega) ⟨rfl, s, q, a + 1, some (.val (.int p.1)), some (.val (.int p.2)), o7, ls, hin, hlt', cov_skip hcov hqa (by omega), b1, b2, by omega, rfl⟩
    · rw [if_neg hlt]
      refine hK _ _ ?_
      walk_at "x"
      refine ⟨s2, ?_⟩
      refine hq s ls ?_ (by omega)
      intro x y hx hy
      by_cases h4 : 4 ≤ run R C g s x y
      · obtain ⟨i, hi, he⟩ := hcov (x, y) ⟨hx, hy⟩ h4
        have := (List.getElem?_eq_some_iff.mp he).1
        omega
      · omega
end
end L80

set_option maxHeartbeats 4000000
namespace L80
open PySem PySem.Spec PyProof.Rows L2 VL Sand
local macro_rules | `(tactic| walk_at "x") => `(tactic| simp (disch := omega) only [x_C, x_Bin, x_Un, x_Fn, x_aNil, x_aCons, x_Var, x_Call, x_Lc, x_Lc2, x_If, x_Sl, x_pN, x_Bor, x_Iter, x_And, x_Or, x_Not, x_Yes, x_Nil, x_Pass, x_Own, x_Set, x_For, x_Ret, x_Asg, x_App, x_Put, x_Put2, x_Drop, x_Break, x_Cont, x_RetN, x_Tup, x_Lst, x_frz, x_Ghost, x_ok1, x_ok2,
  sTest_eq, sRng1_eq, sRng2_eq, sRngD_eq, sChain_eq, sAnd_eq, sOr_eq, sNot_eq, spS_eq, frozenTg, VL.sv_val, VL.sv_ml, VL.sv_mg, VL.sv_md, wipeD, setsD_cons, setsD_nil, frzAll, frzV_val, frzV_ml, frzV_mg, borTag, retTag, callTag, allSto, stoB, isI_int, isB_bl, isNon,
  dAdd_int, dAdd_str, dAdd_lst, dAdd_tup, dI0_int, dII_int, dMul_int, dMul_lst, dMul_tup, dEq_int, dNe_int, dEq_str, dNe_str, dEq_bl, dNe_bl, dEq_tup, dNe_tup, dEq_lst, dNe_lst, dIs_non, dIsNot_non, dIs_bl, dIn_lst, dIn_tup, dNotIn_lst, dNotIn_tup, dIx_lst_rng, dIx_tup_rng, dIx_lst_rng0, dIx_tup_rng0, dIx_lst_0, dIx_tup_0, dIx_lst_1, dIx_tup_1, dIx_lst_2, dIx_tup_2,
  dSl_lst, dSl_tup, dLen_lst, dLen_tup, dLen_str, dLen_scr, dList_lst, dList_tup, dTuple_lst, dTuple_tup, dF1_int, dF2_int, dNeg_int, dIsi_non, dIsi_bl, dIsi_int, dIsi_str, dIsi_tup, dIsi_lst, dIsi_dct, itemsOf_lst, itemsOf_tup, tgD_name, tgD_tup, tgD_lst, ownOf_ml, ownOf_mg, putML_rng, atRow_gr, gr_lst, gr_set, flatEl_lst, flat_rows, VL.flat_lst, Bool.false_and, Bool.and_false,
  cutD_init, cutD_tail, Int.zero_add, Int.toNat_natCast, ty_NoneType_bool, ty_NoneType_int, ty_NoneType_str, ty_NoneType_tuple, ty_NoneType_list, ty_NoneType_dict, ty_bool_bool, ty_bool_int, ty_bool_str, ty_bool_tuple, ty_bool_list, ty_bool_dict, ty_int_bool, ty_int_int, ty_int_str, ty_int_tuple, ty_int_list, ty_int_dict, ty_str_bool, ty_str_int, ty_str_str, ty_str_tuple, ty_str_list, ty_str_dict, ty_tuple_bool, ty_tuple_int, ty_tuple_str, ty_tuple_tuple, ty_tuple_list, ty_tuple_dict, ty_list_bool, ty_list_int, ty_list_str, ty_list_tuple, ty_list_list, ty_list_dict, ty_dict_bool, ty_dict_int, ty_dict_str, ty_dict_tuple, ty_dict_list, ty_dict_dict,
  sto, est, el, List.getElem?_cons_succ, List.getElem?_cons_zero, List.set_cons_succ, List.set_cons_zero, List.map_cons, List.map_nil, List.all_cons, List.all_nil, Bool.and_true, Bool.true_and, if_true, if_false, and_true, true_and, List.length_nil, List.length_cons, List.length_map, List.length_range, reduceIte, Bool.false_eq_true, decide_eq_true_eq, Bool.not_true, Bool.not_false, Option.map_some, Option.map_none])
section
variable {R C : Nat} {g : Gr} {W : Wd} {Q : Tg → D → Wd → Prop}
theorem law_calm_ok (hR : 1 ≤ R ∧ R ≤ 3) (hC : 1 ≤ C ∧ C ≤ 4) (h0 : NonNeg R C g) (h20 : ∀ x y, x < R → y < C → g x y ≤ 20)
    (hq : ∀ s, Legal R C g s → Calm R C (run R C g s) → Q .fr (.lst [tu R C (run R C g s), tu R C fun x y => Sand.cnt s x y]) W) : sp__law_calm [tu R C g] W Q := by
  show b__law_calm _ [some (.val (tu R C g)), none, none, none, none, none, none] W
  have hR6 : R ≤ 6 := by omega
  have hC6 : C ≤ 6 := by omega
  have hpot := pot_le hR.2 hC.2 h0 h20
  unfold b__law_calm
  refine stp fun K hK => ?_
  unfold tu
  walk_at "x"
  refine compD_enc (fun r : Nat => D.tup ((List.range C).map fun c => .int (g r c))) (fun r => D.lst ((List.range C).map fun _ => .int 0)) (by simpa using s6 hR6) ?_ ?_
  · intro r _ k hk
    walk_at "x"
    simp only [Nat.one_mul, zeros_row]
    refine ⟨by rw [sizeLine_eq]; decide, by omega, by omega, by have := s6 hC6; simpa using this, ⟨_, rfl⟩, hk⟩
  refine ⟨gr R C fun _ _ => 0, by rw [gr_lst]; rfl, ?_⟩
  refine hK _ _ (stp fun K0 hK0 => ?_)
  walk_at "x"
  refine ⟨by decide, by decide, ?_⟩
  refine forD_up (hi := 20000) (fun i σ W' => W' = W ∧ ∃ (s : List Sq) (o2 o3 o4 o5 : Option SV), Legal R C g s ∧ (s.length : Int) = i ∧ 2 * (s.length : Int) + pot R C (run R C g s) ≤ pot R C g ∧
    σ = [some (SV.val (tu R C (run R C g s))), some (.mg (gr R C fun x y => Sand.cnt s x y)), o2, o3, o4, o5, none]) (by decide) ⟨rfl, [], none, none, none, none, trivial, rfl, by show 2 * (0 : Int) + pot R C g ≤ _; omega, rfl⟩ ?_ ?_
  · rintro i σ W' k i0 i1 hk ⟨rfl, s, o2, o3, o4, o5, ls, li, b2, rfl⟩
    have hnn := run_nonneg h0 ls
    have hpn := pot_nonneg hnn
    generalize hh : run R C g s = h at hnn hpn b2
    walk_at "x"
    refine stp fun K hK => ?_
    walk_at "x"
    refine ⟨Nat.zero_le _, hK _ _ (stp fun K1 hK1 => ?_)⟩
    unfold tu
    walk_at "x"
    have eR : ((R : Int) - 1 - -1).toNat = R := by omega
    have eC : ((C : Int) - 1 - -1).toNat = C := by omega
    refine ⟨by omega, ?_⟩
    rw [eR, downTo_map]
    have z36 := rc36 hR6 hC6
    refine forD_enc (fun i : Nat => D.int ((R : Int) - 1 - i)) (fun rest σ W'' => W'' = W' ∧ ∃ (full : List Sq) (o4 o5 : Option SV), (∀ p ∈ full, inR R C p ∧ 4 ≤ h p.1 p.2) ∧ (∀ x y, x < R → y < C → 4 ≤ h x y → full ≠ [] ∨ ∃ j ∈ rest, (x : Int) = R - 1 - j) ∧ (∀ j ∈ rest, j < R) ∧ full.length + rest.length * 6 ≤ 36 ∧
      σ = [some (SV.val (tu R C h)), some (.mg (gr R C fun x y => Sand.cnt s x y)), some (.val (.int i)), some (.ml (full.map sqD)), o4, o5, none]) (items := List.range R) ⟨rfl, [], o4, o5, by simp, ?_, fun j hj => List.mem_range.mp hj, by simp; omega, rfl⟩ ?_ ?_
    · intro x y hx hy _
      exact .inr ⟨R - 1 - x, List.mem_range.mpr (by omega), by omega⟩
    · rintro j rest σ W'' k1 ⟨rfl, full, o4, o5, hf, hcov, hin, hz, rfl⟩ hk1
      have hj := hin j (by simp)
      have ej : ((R : Int) - 1 - j) = ((R - 1 - j : Nat) : Int) := by omega
      unfold tu
      walk_at "x"
      refine ⟨by omega, ?_⟩
      rw [eC, downTo_map]
      refine forD_enc (fun i : Nat => D.int ((C : Int) - 1 - i)) (fun rest2 σ W3 => W3 = W'' ∧ ∃ (full : List Sq) (o5 : Option SV), (∀ p ∈ full, inR R C p ∧ 4 ≤ h p.1 p.2) ∧ (∀ x y, x < R → y < C → 4 ≤ h x y → full ≠ [] ∨ (∃ j ∈ rest, (x : Int) = R - 1 - j) ∨ (x : Int) = R - 1 - j ∧ ∃ l ∈ rest2, (y : Int) = C - 1 - l) ∧ (∀ l ∈ rest2, l < C) ∧ full.length + rest2.length + rest.length * 6 ≤ 36 ∧
        σ = [some (SV.val (tu R C h)), some (.mg (gr R C fun x y => Sand.cnt s x y)), some (.val (.int i)), some (.ml (full.map sqD)), some (.val (.int ((R : Int) - 1 - j))), o5, none]) (items := List.range C) ⟨rfl, full, o5, hf, ?_, fun j hj => List.mem_range.mp hj, by simp at hz ⊢; omega, rfl⟩ ?_ ?_
      · intro x y hx hy h4
        rcases hcov x y hx hy h4 with e | ⟨j', m, e⟩
        · exact .inl e
        · cases m with
          | head => exact .inr (.inr ⟨e, C - 1 - y, List.mem_range.mpr (by omega), by omega⟩)
          | tail _ m => exact .inr (.inl ⟨j', m, e⟩)
      · rintro l rest2 σ W3 k2 ⟨rfl, full, o5, hf, hcov, hin2, hz, rfl⟩ hk2
        have hl := hin2 l (by simp)
        have el : ((C : Int) - 1 - l) = ((C - 1 - l : Nat) : Int) := by omega
        simp only [ej, el]
        unfold tu
        walk_at "x"
        refine ifs fun T hT hF => ?_
        walk_at "x"
        simp only [List.length_cons] at hz
        refine br (fun c => hT _ ?_) fun c => hF _ ?_
        · walk_at "x"
          refine ⟨s2, by rw [sizeLine_eq]; omega, ?_⟩
          refine hk2 _ _ ⟨rfl, full ++ [(R - 1 - j, C - 1 - l)], some (.val (.int ((C : Int) - 1 - l))), ?_, ?_, fun l' m => hin2 l' (by simp [m]), by simp; omega, ?_⟩
          · intro p m
            rcases List.mem_append.mp m with m | m
            · exact hf p m
            · simp only [List.mem_singleton] at m
              subst m
              exact ⟨⟨by show R - 1 - j < R; omega, by show C - 1 - l < C; omega⟩, c⟩
          · intro x y hx hy h4
            exact .inl (by simp)
          · rw [List.map_append, ej, el]
            rfl
        · walk_at "x"
          refine hk2 _ _ ⟨rfl, full, some (.val (.int ((C : Int) - 1 - l))), hf, ?_, fun l' m => hin2 l' (by simp [m]), by omega, by rw [ej, el]; rfl⟩
          intro x y hx hy h4
          rcases hcov x y hx hy h4 with e | e | ⟨e, l', m, e2⟩
          · exact .inl e
          · exact .inr (.inl e)
          · cases m with
            | head =>
              have ex : x = R - 1 - j := by omega
              have ey : y = C - 1 - l := by omega
              subst ex; subst ey
              exact absurd h4 c
            | tail _ m => exact .inr (.inr ⟨e, l', m, e2⟩)
      · rintro σ W3 ⟨rfl, full, o5, hf, hcov, hin2, hz, rfl⟩
        refine hk1 _ _ ⟨rfl, full, _, _, hf, ?_, fun j' m => hin j' (by simp [m]), by simp at hz ⊢; omega, rfl⟩
        intro x y hx hy h4
        rcases hcov x y hx hy h4 with e | e | ⟨e, l', m, e2⟩
        · exact .inl e
        · exact .inr e
        · cases m
    · rintro σ W'' ⟨rfl, full, o4, o5, hf, hcov, _, hz, rfl⟩
      refine hK1 _ _ (stp fun K2 hK2 => ifs fun T hT hF => ?_)
      walk_at "x"
      cases full with
      | nil =>
        rw [decide_eq_true (by rfl)]
        refine hT _ ?_
        walk_at "x"
        refine hK0 _ _ ?_
        rw [x_Ret, x_Fn, x_aCons, x_Var]
        simp only [List.getElem?_cons_zero, VL.sv_val]
        rw [x_aCons]
        refine frz_rows (i := 1) (j := 6) rfl (by decide) (by simp) (s6 hR6) ?_
        walk_at "x"
        refine ⟨s2, ?_⟩
        rw [← hh]
        refine hq s ls ?_
        rw [hh]
        intro x y hx hy
        by_cases h4 : 4 ≤ h x y
        · rcases hcov x y hx hy h4 with e | ⟨j, m, _⟩
          · exact absurd rfl e
          · cases m
        · omega
      | cons p full =>
        rw [decide_eq_false (by simp; omega)]
        refine hF _ ?_
        obtain ⟨hp, h4⟩ := hf p (by simp)
        have hp' := hp
        obtain ⟨h1, h2⟩ := hp'
        walk_at "x"
        refine hK2 _ _ (stp fun K hK => ?_)
        walk_at "x"
        refine law_topple_ok (p := p) hp hR6 hC6 ?_
        walk_at "x"
        refine hK _ _ ?_
        unfold sqD
        walk_at "x"
        subst hh
        have pt := pot_top hR.2 (run R C g s) hp
        have e : (gr R C fun x y => if x = p.fst ∧ y = p.snd then (Sand.cnt s p.fst p.snd : Int) + 1 else Sand.cnt s x y) = gr R C fun x y => Sand.cnt (s ++ [p]) x y := gr_congr fun x y _ _ => by
          have e1 : Sand.cnt (s ++ [p]) x y = Sand.cnt s x y + (if x = p.1 ∧ y = p.2 then 1 else 0) := by
            unfold Sand.cnt
            rw [List.count_append, List.count_cons]
            obtain ⟨a, b⟩ := p
            simp
            by_cases h : x = a ∧ y = b
            · obtain ⟨rfl, rfl⟩ := h; simp
            · have : ¬(a = x ∧ b = y) := fun ⟨u, v⟩ => h ⟨u.symm, v.symm⟩
              simp [h, this]
          rw [e1]
          by_cases h : x = p.1 ∧ y = p.2
          · obtain ⟨rfl, rfl⟩ := h; simp
          · simp [h]
        rw [e, ← run_snoc]
        exact hk _ _ ⟨rfl, s ++ [p], _, _, _, _, legal_snoc ls hp h4, by simp; omega, by rw [run_snoc]; simp; omega, rfl⟩
  · rintro σ W' ⟨rfl, s, o2, o3, o4, o5, ls, li, b2, rfl⟩
    have hpn := pot_nonneg (run_nonneg h0 ls)
    omega
end
end L80

set_option maxHeartbeats 4000000
namespace L80
open PySem PySem.Spec PyProof.Rows L2 VL Sand
local macro_rules | `(tactic| walk_at "x") => `(tactic| simp (disch := omega) only [x_C, x_Bin, x_Un, x_Fn, x_aNil, x_aCons, x_Var, x_Call, x_Lc, x_Lc2, x_If, x_Sl, x_pN, x_Bor, x_Iter, x_And, x_Or, x_Not, x_Yes, x_Nil, x_Pass, x_Own, x_Set, x_For, x_Ret, x_Asg, x_App, x_Put, x_Put2, x_Drop, x_Break, x_Cont, x_RetN, x_Tup, x_Lst, x_frz, x_Ghost, x_ok1, x_ok2, x_Best_lst, x_Best_tup,
  sTest_eq, sRng1_eq, sRng2_eq, sRngD_eq, sChain_eq, sAnd_eq, sOr_eq, sNot_eq, spS_eq, frozenTg, VL.sv_val, VL.sv_ml, VL.sv_mg, VL.sv_md, wipeD, setsD_cons, setsD_nil, frzAll, frzV_val, frzV_ml, frzV_mg, borTag, retTag, callTag, allSto, stoB, isI_int, isB_bl, isNon,
  dAdd_int, dAdd_str, dAdd_lst, dAdd_tup, dI0_int, dII_int, dMul_int, dMul_lst, dMul_tup, dEq_int, dNe_int, dEq_str, dNe_str, dEq_bl, dNe_bl, dEq_tup, dNe_tup, dEq_lst, dNe_lst, dIs_non, dIsNot_non, dIs_bl, dIn_lst, dIn_tup, dNotIn_lst, dNotIn_tup, dIx_lst_rng, dIx_tup_rng, dIx_lst_rng0, dIx_tup_rng0, dIx_lst_0, dIx_tup_0, dIx_lst_1, dIx_tup_1, dIx_lst_2, dIx_tup_2,
  dSl_lst, dSl_tup, dLen_lst, dLen_tup, dLen_str, dLen_scr, dList_lst, dList_tup, dTuple_lst, dTuple_tup, dF1_int, dF2_int, dNeg_int, dIsi_non, dIsi_bl, dIsi_int, dIsi_str, dIsi_tup, dIsi_lst, dIsi_dct, itemsOf_lst, itemsOf_tup, tgD_name, tgD_tup, tgD_lst, ownOf_ml, ownOf_mg, putML_rng, atRow_gr, gr_lst, gr_set, flatEl_lst, flat_rows, VL.flat_lst, Bool.false_and, Bool.and_false,
  cutD_init, cutD_tail, Int.zero_add, Int.toNat_natCast, ty_NoneType_bool, ty_NoneType_int, ty_NoneType_str, ty_NoneType_tuple, ty_NoneType_list, ty_NoneType_dict, ty_bool_bool, ty_bool_int, ty_bool_str, ty_bool_tuple, ty_bool_list, ty_bool_dict, ty_int_bool, ty_int_int, ty_int_str, ty_int_tuple, ty_int_list, ty_int_dict, ty_str_bool, ty_str_int, ty_str_str, ty_str_tuple, ty_str_list, ty_str_dict, ty_tuple_bool, ty_tuple_int, ty_tuple_str, ty_tuple_tuple, ty_tuple_list, ty_tuple_dict, ty_list_bool, ty_list_int, ty_list_str, ty_list_tuple, ty_list_list, ty_list_dict, ty_dict_bool, ty_dict_int, ty_dict_str, ty_dict_tuple, ty_dict_list, ty_dict_dict,
  sto, est, el, List.getElem?_cons_succ, List.getElem?_cons_zero, List.set_cons_succ, List.set_cons_zero, List.map_cons, List.map_nil, List.all_cons, List.all_nil, Bool.and_true, Bool.true_and, if_true, if_false, and_true, true_and, List.length_nil, List.length_cons, List.length_map, List.length_range, reduceIte, Bool.false_eq_true, decide_eq_true_eq, Bool.not_true, Bool.not_false, Option.map_some, Option.map_none])
section
variable {R C : Nat} {g : Gr} {W : Wd} {Q : Tg → D → Wd → Prop}
theorem calm_ok (hR : 1 ≤ R ∧ R ≤ 3) (hC : 1 ≤ C ∧ C ≤ 4) (h0 : NonNeg R C g) (h20 : ∀ x y, x < R → y < C → g x y ≤ 20)
    (hq : ∀ s, Legal R C g s → Calm R C (run R C g s) → Q .st (tu R C (run R C g s)) W) : sp_calm [tu R C g] W Q := by
  show b_calm _ [some (.val (tu R C g)), none] W
  unfold b_calm
  walk_at "x"
  refine toppled_ok hR hC h0 h20 fun s ls cs _ => ?_
  unfold lu
  walk_at "x"
  refine compD_enc (fun r : Nat => D.lst ((List.range C).map fun c => .int (run R C g s r c))) (fun r => D.tup ((List.range C).map fun c => .int (run R C g s r c))) (by simpa using s6 (R := R) (by omega)) ?_ ?_
  · intro r _ k hk
    walk_at "x"
    exact hk
  · exact hq s ls cs
theorem tcounts_ok (hR : 1 ≤ R ∧ R ≤ 3) (hC : 1 ≤ C ∧ C ≤ 4) (h0 : NonNeg R C g) (h20 : ∀ x y, x < R → y < C → g x y ≤ 20)
    (hq : ∀ s, Legal R C g s → Calm R C (run R C g s) → Q .st (tu R C fun x y => Sand.cnt s x y) W) : sp_toppling_counts [tu R C g] W Q := by
  show b_toppling_counts _ [some (.val (tu R C g))] W
  unfold b_toppling_counts
  walk_at "x"
  refine toppled_ok hR hC h0 h20 fun s ls cs _ => ?_
  walk_at "x"
  refine counted_ok (legal_in ls) ⟨hR.1, by omega⟩ (by omega) ?_
  walk_at "x"
  exact hq s ls cs
theorem paper_ok (hR : 1 ≤ R ∧ R ≤ 3) (hC : 1 ≤ C ∧ C ≤ 4) (h0 : NonNeg R C g) (h20 : ∀ x y, x < R → y < C → g x y ≤ 20)
    (hq : ∀ s t, Legal R C g s → Calm R C (run R C g s) → Legal R C g t → Calm R C (run R C g t) → t.length ≤ 1000 → Q .st (.tup [tu R C fun x y => Sand.cnt s x y, .lst (t.map sqD)]) W) : sp_toppling_paper [tu R C g] W Q := by
  show b_toppling_paper _ [some (.val (tu R C g))] W
  unfold b_toppling_paper
  walk_at "x"
  refine tcounts_ok hR hC h0 h20 fun s ls cs => ?_
  walk_at "x"
  refine toppled_ok hR hC h0 h20 fun t lt ct ht => ?_
  walk_at "x"
  exact ⟨s2, hq s t ls cs lt ct ht⟩
def mxl (l : List Int) : Int := l.max?.getD 0
theorem mxl_eq {l : List Int} {m : Int} (h : m ∈ l) (hm : ∀ y, y ∈ l → y ≤ m) : m = mxl l := by
  unfold mxl
  rw [List.max?_eq_some_iff.mpr ⟨h, hm⟩]
  rfl
theorem bo_in {s : List Sq} {g' : Gr} : ∀ {g : Gr}, bo R C g s = some g' → ∀ p ∈ s, inR R C p := by
  induction s with
  | nil => intro g _ p m; cases m
  | cons q s ih =>
    intro g h p m
    rw [bo_cons] at h
    split at h
    · rename_i c
      cases m with
      | head => exact c.1
      | tail _ m => exact ih h p m
    · cases h
theorem shows_ok {o k : Gr} {s : List Sq} (hR : 1 ≤ R ∧ R ≤ 6) (hC : 1 ≤ C ∧ C ≤ 6) (hs : s.length < 2 ^ 62)
    (hq : ∀ b : Bool, (b = true ↔ ∃ g', bo R C g s = some g' ∧ same R C g' o ∧ same R C (fun x y => Sand.cnt s x y) k ∧ Calm R C g') → Q .st (.bl b) W) : sp_shows_toppling [tu R C g, tu R C o, .tup [tu R C k, .lst (s.map sqD)]] W Q := by
  show b_shows_toppling _ [some (.val (tu R C g)), some (.val (tu R C o)), some (.val (.tup [tu R C k, .lst (s.map sqD)])), none, none, none, none] W
  unfold b_shows_toppling
  have ft : ∀ {h : Gr}, fits false 2 (tu R C h) := fun {h} => fits_tu (by omega) (by omega)
  refine stp fun K hK => ?_
  walk_at "x"
  refine hK _ _ (stp fun K hK => ?_)
  walk_at "x"
  refine behind_ok hR hC hs ?_
  walk_at "x"
  refine hK _ _ (stp fun K hK => ifs fun T hT hF => ?_)
  walk_at "x"
  cases hb : bo R C g s with
  | none =>
    unfold optD
    walk_at "x"
    refine hT _ ?_
    walk_at "x"
    exact hq false ⟨(by intro h; cases h), fun ⟨g', h, _⟩ => by rw [hb] at h; cases h⟩
  | some g' =>
    show (_ : Prop)
    have e : optD R C (some g') = .tup ((List.range R).map fun r => .tup ((List.range C).map fun c => .int (g' r c))) := rfl
    rw [e]
    walk_at "x"
    refine ⟨fits_eqOk (ft (h := g')), fits_eqOk (ft (h := o)), ?_⟩
    show if (!deq (tu R C g') (tu R C o)) = true then _ else _
    by_cases e1 : tu R C g' = tu R C o
    · rw [(deq_iff ft ft).mpr e1]
      simp only [Bool.not_true, Bool.false_eq_true, if_false]
      refine counted_ok (bo_in hb) hR hC.2 ?_
      unfold tu
      walk_at "x"
      refine ⟨fits_eqOk (ft (h := fun x y => Sand.cnt s x y)), fits_eqOk (ft (h := k)), ?_⟩
      show T (!deq (tu R C fun x y => Sand.cnt s x y) (tu R C k)) W
      by_cases e2 : (tu R C fun x y => (Sand.cnt s x y : Int)) = tu R C k
      · rw [(deq_iff ft ft).mpr e2]
        refine hF _ ?_
        walk_at "x"
        refine hK _ _ ?_
        walk_at "x"
        rw [hb, e]
        walk_at "x"
        refine compD_enc (fun r : Nat => D.tup ((List.range C).map fun c => .int (g' r c))) (fun r => D.int (mxl ((List.range C).map (g' r)))) (by simpa using s6 hR.2) ?_ ?_
        · intro r _ k hk
          walk_at "x"
          refine ⟨(List.range C).map (g' r), by rw [List.map_map]; rfl, by simp; omega, fun m h1 h2 => ?_⟩
          rw [mxl_eq h1 h2]
          exact hk
        · refine ⟨(List.range R).map fun r => mxl ((List.range C).map (g' r)), by rw [List.nil_append, List.map_map]; rfl, by simp; omega, fun m h1 h2 => ?_⟩
          refine hq _ ⟨fun h => ⟨g', hb, tu_inj e1, tu_inj e2, ?_⟩, fun ⟨g2, a1, a2, a3, a4⟩ => ?_⟩
          · have h : m < 4 := of_decide_eq_true h
            intro x y hx hy
            have b1 : mxl ((List.range C).map (g' x)) ≤ m := h2 _ (List.mem_map.mpr ⟨x, List.mem_range.mpr hx, rfl⟩)
            have b2 : ∃ v, ((List.range C).map (g' x)).max? = some v := by
              cases e : ((List.range C).map (g' x)).max? with
              | some v => exact ⟨v, rfl⟩
              | none =>
                rw [List.max?_eq_none_iff] at e
                simp at e
                omega
            obtain ⟨v, hv⟩ := b2
            have b3 := (List.max?_eq_some_iff.mp hv).2 (g' x y) (List.mem_map.mpr ⟨y, List.mem_range.mpr hy, rfl⟩)
            unfold mxl at b1
            rw [hv] at b1
            simp at b1
            omega
          · rw [hb] at a1
            cases a1
            refine decide_eq_true ?_
            obtain ⟨r, hr, er⟩ := List.mem_map.mp h1
            have b2 : ∃ v, ((List.range C).map (g' r)).max? = some v := by
              cases e : ((List.range C).map (g' r)).max? with
              | some v => exact ⟨v, rfl⟩
              | none =>
                rw [List.max?_eq_none_iff] at e
                simp at e
                omega
            obtain ⟨v, hv⟩ := b2
            have b3 := (List.max?_eq_some_iff.mp hv).1
            obtain ⟨c, hc, ec⟩ := List.mem_map.mp b3
            have := a4 r c (List.mem_range.mp hr) (List.mem_range.mp hc)
            unfold mxl at er
            rw [hv] at er
            simp at er
            omega
      · have e3 : deq (tu R C fun x y => (Sand.cnt s x y : Int)) (tu R C k) = false := by
          cases e : deq (tu R C fun x y => (Sand.cnt s x y : Int)) (tu R C k) with
          | false => rfl
          | true => exact absurd ((deq_iff ft ft).mp e) e2
        rw [e3]
        refine hT _ ?_
        walk_at "x"
        exact hq false ⟨(by intro h; cases h), fun ⟨g2, a1, a2, a3, a4⟩ => absurd (tu_congr a3) e2⟩
    · have e3 : deq (tu R C g') (tu R C o) = false := by
        cases e : deq (tu R C g') (tu R C o) with
        | false => rfl
        | true => exact absurd ((deq_iff ft ft).mp e) e1
      rw [e3]
      simp only [Bool.not_false, if_true]
      refine hT _ ?_
      walk_at "x"
      refine hq false ⟨(by intro h; cases h), fun ⟨g2, a1, a2, a3, a4⟩ => ?_⟩
      rw [hb] at a1
      cases a1
      exact absurd (tu_congr a2) e1
end
end L80

set_option maxHeartbeats 4000000
namespace L80
open PySem PySem.Spec PyProof.Rows L2 VL Sand
local macro_rules | `(tactic| walk_at "x") => `(tactic| simp (disch := omega) only [x_C, x_Bin, x_Un, x_Fn, x_aNil, x_aCons, x_Var, x_Call, x_Lc, x_Lc2, x_If, x_Sl, x_pN, x_Bor, x_Iter, x_And, x_Or, x_Not, x_Yes, x_Nil, x_Pass, x_Own, x_Set, x_For, x_Ret, x_Asg, x_App, x_Put, x_Put2, x_Drop, x_Break, x_Cont, x_RetN, x_Tup, x_Lst, x_frz, x_Ghost, x_ok1, x_ok2, x_Best_lst, x_Best_tup,
  sTest_eq, sRng1_eq, sRng2_eq, sRngD_eq, sChain_eq, sAnd_eq, sOr_eq, sNot_eq, spS_eq, frozenTg, VL.sv_val, VL.sv_ml, VL.sv_mg, VL.sv_md, wipeD, setsD_cons, setsD_nil, frzAll, frzV_val, frzV_ml, frzV_mg, borTag, retTag, callTag, allSto, stoB, isI_int, isB_bl, isNon,
  dAdd_int, dAdd_str, dAdd_lst, dAdd_tup, dI0_int, dII_int, dMul_int, dMul_lst, dMul_tup, dEq_int, dNe_int, dEq_str, dNe_str, dEq_bl, dNe_bl, dEq_tup, dNe_tup, dEq_lst, dNe_lst, dIs_non, dIsNot_non, dIs_bl, dIn_lst, dIn_tup, dNotIn_lst, dNotIn_tup, dIx_lst_rng, dIx_tup_rng, dIx_lst_rng0, dIx_tup_rng0, dIx_lst_0, dIx_tup_0, dIx_lst_1, dIx_tup_1, dIx_lst_2, dIx_tup_2,
  dSl_lst, dSl_tup, dLen_lst, dLen_tup, dLen_str, dLen_scr, dList_lst, dList_tup, dTuple_lst, dTuple_tup, dF1_int, dF2_int, dNeg_int, dIsi_non, dIsi_bl, dIsi_int, dIsi_str, dIsi_tup, dIsi_lst, dIsi_dct, itemsOf_lst, itemsOf_tup, tgD_name, tgD_tup, tgD_lst, ownOf_ml, ownOf_mg, putML_rng, atRow_gr, gr_lst, gr_set, flatEl_lst, flat_rows, VL.flat_lst, Bool.false_and, Bool.and_false,
  cutD_init, cutD_tail, Int.zero_add, Int.toNat_natCast, ty_NoneType_bool, ty_NoneType_int, ty_NoneType_str, ty_NoneType_tuple, ty_NoneType_list, ty_NoneType_dict, ty_bool_bool, ty_bool_int, ty_bool_str, ty_bool_tuple, ty_bool_list, ty_bool_dict, ty_int_bool, ty_int_int, ty_int_str, ty_int_tuple, ty_int_list, ty_int_dict, ty_str_bool, ty_str_int, ty_str_str, ty_str_tuple, ty_str_list, ty_str_dict, ty_tuple_bool, ty_tuple_int, ty_tuple_str, ty_tuple_tuple, ty_tuple_list, ty_tuple_dict, ty_list_bool, ty_list_int, ty_list_str, ty_list_tuple, ty_list_list, ty_list_dict, ty_dict_bool, ty_dict_int, ty_dict_str, ty_dict_tuple, ty_dict_list, ty_dict_dict,
  sto, est, el, List.getElem?_cons_succ, List.getElem?_cons_zero, List.set_cons_succ, List.set_cons_zero, List.map_cons, List.map_nil, List.all_cons, List.all_nil, Bool.and_true, Bool.true_and, if_true, if_false, and_true, true_and, List.length_nil, List.length_cons, List.length_map, List.length_range, reduceIte, Bool.false_eq_true, decide_eq_true_eq, Bool.not_true, Bool.not_false, Option.map_some, Option.map_none])
theorem take_ok {t : Tape} {a : Addr} {m : Int} {Q : Tg → D → Wd → Prop} (ha : t.a = a) (hm : 0 < m) (hp : t.pos < 2 ^ 60) (h : ∀ r t', 0 ≤ r → r < m → t'.a = a → t'.pos = t.pos + 1 → Q .st (.int r) (some t')) : takeSp [.deal a, .int m] (some t) Q :=
  ⟨ha.symm, hm, hp, fun r h0 h1 => h r _ h0 h1 ha rfl⟩
theorem same_eq : ∀ n, sp__law_same n = spSame n
  | 0 => rfl
  | n + 1 => by
    show mkSp 3 (b__law_same (sp__law_same n)) = mkSp 3 (b_same (spSame n))
    rw [same_eq n]
    rfl
section
variable {R C : Nat} {g : Gr} {W : Wd} {Q : Tg → D → Wd → Prop}
def grOf (rows : List (List Int)) : Gr := fun x y => ((rows[x]?).getD [])[y]?.getD 0
theorem map_rng {α β : Type} (l : List α) (d : α) (f : α → β) : l.map f = (List.range l.length).map fun i => f ((l[i]?).getD d) := by
  apply List.ext_getElem
  · simp
  · intro i h1 h2
    simp only [List.length_map] at h1
    simp [List.getElem?_eq_getElem h1]
theorem enc_tu {rows : List (List Int)} (hr : ∀ r ∈ rows, r.length = C) : enc rows = tu rows.length C (grOf rows) := by
  unfold enc tu
  rw [map_rng rows []]
  congr 1
  apply List.map_congr_left
  intro i hi
  have hi := List.mem_range.mp hi
  have hl : ((rows[i]?).getD []).length = C := by
    rw [List.getElem?_eq_getElem hi]
    exact hr _ (List.getElem_mem _)
  congr 1
  rw [map_rng _ (0 : Int), hl]
  rfl
theorem grOf_mem {rows : List (List Int)} (hr : ∀ r ∈ rows, r.length = C) {P : Int → Prop} (hp : ∀ r ∈ rows, ∀ i ∈ r, P i) : ∀ x y, x < rows.length → y < C → P (grOf rows x y) := by
  intro x y hx hy
  unfold grOf
  rw [List.getElem?_eq_getElem hx]
  have hl := hr _ (List.getElem_mem hx)
  simp only [Option.getD_some]
  rw [List.getElem?_eq_getElem (by omega)]
  exact hp _ (List.getElem_mem hx) _ (List.getElem_mem _)
theorem bump_last {F : Gr} (hR : 1 ≤ R) (hC : 1 ≤ C) {a : Int} : D.tup (((List.range R).map fun r => D.tup ((List.range C).map fun c => .int (F r c))).dropLast ++ [.tup ([.int (F (R - 1) 0 + a)] ++ ((List.range C).map fun c => D.int (F (R - 1) c)).drop 1)]) = tu R C (Sand.bump F (R - 1, 0) a) := by
  obtain ⟨R, rfl⟩ : ∃ R', R = R' + 1 := ⟨R - 1, by omega⟩
  obtain ⟨C, rfl⟩ : ∃ C', C = C' + 1 := ⟨C - 1, by omega⟩
  unfold tu
  rw [List.range_succ (n := R), List.map_append, List.map_append, List.map_singleton, List.map_singleton, List.dropLast_concat]
  congr 2
  · apply List.map_congr_left
    intro r hr
    have := List.mem_range.mp hr
    congr 1
    apply List.map_congr_left
    intro c _
    unfold Sand.bump
    rw [if_neg (by simp only [Nat.add_sub_cancel]; omega)]
  · congr 2
    rw [List.range_succ_eq_map, List.map_cons, List.map_cons, List.drop_one, List.tail_cons, List.map_map, List.map_map]
    have e1 : Sand.bump F (R + 1 - 1, 0) a R 0 = F (R + 1 - 1) 0 + a := by
      unfold Sand.bump
      simp
    rw [e1]
    show _ :: _ = _ :: _
    congr 1
    apply List.map_congr_left
    intro c _
    simp only [Function.comp]
    unfold Sand.bump
    rw [if_neg (by simp)]
    rfl
theorem isHeap_yes {rows : List (List Int)} (h1 : 1 ≤ rows.length ∧ rows.length ≤ 6) (hC : 1 ≤ C ∧ C ≤ 6) (hr : ∀ r ∈ rows, r.length = C) (hv : ∀ r ∈ rows, ∀ i ∈ r, 0 ≤ i ∧ i ≤ 20) : isHeap rows = true := by
  cases rows with
  | nil => simp at h1
  | cons r0 rows =>
    have e0 := hr r0 (by simp)
    unfold isHeap
    simp only [List.headD_cons, e0]
    rw [decide_eq_true h1.1, decide_eq_true h1.2, decide_eq_true hC.1, decide_eq_true hC.2]
    simp only [Bool.true_and]
    rw [List.all_eq_true]
    intro r m
    rw [hr r m]
    simp only [decide_true, Bool.true_and]
    rw [List.all_eq_true]
    intro i mi
    have := hv r m i mi
    simp [this.1, this.2]
theorem isHeap_no {rows : List (List Int)} {r : List Int} {r0 : List Int} (h0 : rows.head? = some r0) (hm : r ∈ rows) (h : r.length ≠ r0.length ∨ ∃ i ∈ r, ¬(0 ≤ i ∧ i ≤ 20)) : isHeap rows = false := by
  cases e : isHeap rows with
  | false => rfl
  | true =>
    unfold isHeap at e
    simp only [Bool.and_eq_true, List.all_eq_true, decide_eq_true_eq] at e
    have hd : rows.headD [] = r0 := by
      cases rows with
      | nil => cases h0
      | cons x l => simp at h0; simpa using h0
    rw [hd] at e
    have e2 := e.2 r hm
    rcases h with h | ⟨i, hi, h⟩
    · exact absurd e2.1 h
    · exact absurd (e2.2 i hi) h
theorem gone_off {s : List Sq} {p : Sq} (h : Legal R C g s) (hn : ¬ (inR R C p ∧ 4 ≤ run R C g s p.1 p.2)) : bo R C g (s ++ [p]) = none := by
  rw [bo_append h, bo_cons, if_neg hn]
end
end L80

set_option maxHeartbeats 4000000
namespace L80
open PySem PySem.Spec PyProof.Rows L2 VL Sand
local macro_rules | `(tactic| walk_at "x") => `(tactic| simp (disch := omega) only [x_C, x_Bin, x_Un, x_Fn, x_aNil, x_aCons, x_Var, x_Call, x_Lc, x_Lc2, x_If, x_Sl, x_pN, x_Bor, x_Iter, x_And, x_Or, x_Not, x_Yes, x_Nil, x_Pass, x_Own, x_Set, x_For, x_Ret, x_Asg, x_App, x_Put, x_Put2, x_Drop, x_Break, x_Cont, x_RetN, x_Tup, x_Lst, x_frz, x_Ghost, x_ok1, x_ok2, x_Best_lst, x_Best_tup,
  sTest_eq, sRng1_eq, sRng2_eq, sRngD_eq, sChain_eq, sAnd_eq, sOr_eq, sNot_eq, spS_eq, frozenTg, VL.sv_val, VL.sv_ml, VL.sv_mg, VL.sv_md, wipeD, setsD_cons, setsD_nil, frzAll, frzV_val, frzV_ml, frzV_mg, borTag, retTag, callTag, allSto, stoB, isI_int, isB_bl, isNon,
  dAdd_int, dAdd_str, dAdd_lst, dAdd_tup, dI0_int, dII_int, dMul_int, dMul_lst, dMul_tup, dEq_int, dNe_int, dEq_str, dNe_str, dEq_bl, dNe_bl, dEq_tup, dNe_tup, dEq_lst, dNe_lst, dIs_non, dIsNot_non, dIs_bl, dIn_lst, dIn_tup, dNotIn_lst, dNotIn_tup, dIx_lst_rng, dIx_tup_rng, dIx_lst_rng0, dIx_tup_rng0, dIx_tup_rngL, dIx_lst_0, dIx_tup_0, dIx_lst_1, dIx_tup_1, dIx_lst_2, dIx_tup_2,
  dSl_lst, dSl_tup, dLen_lst, dLen_tup, dLen_str, dLen_scr, dList_lst, dList_tup, dTuple_lst, dTuple_tup, dF1_int, dF2_int, dNeg_int, dIsi_non, dIsi_bl, dIsi_int, dIsi_str, dIsi_tup, dIsi_lst, dIsi_dct, itemsOf_lst, itemsOf_tup, tgD_name, tgD_tup, tgD_lst, ownOf_ml, ownOf_mg, putML_rng, atRow_gr, gr_lst, gr_set, flatEl_lst, flat_rows, VL.flat_lst, Bool.false_and, Bool.and_false,
  cutD_init, cutD_tail, Int.zero_add, Int.toNat_natCast, ty_NoneType_bool, ty_NoneType_int, ty_NoneType_str, ty_NoneType_tuple, ty_NoneType_list, ty_NoneType_dict, ty_bool_bool, ty_bool_int, ty_bool_str, ty_bool_tuple, ty_bool_list, ty_bool_dict, ty_int_bool, ty_int_int, ty_int_str, ty_int_tuple, ty_int_list, ty_int_dict, ty_str_bool, ty_str_int, ty_str_str, ty_str_tuple, ty_str_list, ty_str_dict, ty_tuple_bool, ty_tuple_int, ty_tuple_str, ty_tuple_tuple, ty_tuple_list, ty_tuple_dict, ty_list_bool, ty_list_int, ty_list_str, ty_list_tuple, ty_list_list, ty_list_dict, ty_dict_bool, ty_dict_int, ty_dict_str, ty_dict_tuple, ty_dict_list, ty_dict_dict,
  sto, est, el, List.getElem?_cons_succ, List.getElem?_cons_zero, List.set_cons_succ, List.set_cons_zero, List.map_cons, List.map_nil, List.all_cons, List.all_nil, Bool.and_true, Bool.true_and, if_true, if_false, and_true, true_and, List.length_nil, List.length_cons, List.length_map, List.length_range, reduceIte, Bool.false_eq_true, decide_eq_true_eq, Bool.not_true, Bool.not_false, Option.map_some, Option.map_none])
section
variable {R C : Nat} {g : Gr} {W : Wd} {Q : Tg → D → Wd → Prop}
def rowsG (R C : Nat) (g : Gr) : List (List Int) := (List.range R).map fun r => (List.range C).map (g r)
theorem tu_enc : tu R C g = enc (rowsG R C g) := by
  unfold tu enc rowsG
  rw [List.map_map]
  congr 1
  apply List.map_congr_left
  intro r _
  simp only [Function.comp, List.map_map]
  rfl
theorem rowsG_head (hR : 1 ≤ R) : (rowsG R C g).head? = some ((List.range C).map (g 0)) := by
  obtain ⟨R, rfl⟩ : ∃ R', R = R' + 1 := ⟨R - 1, by omega⟩
  unfold rowsG
  rw [List.range_succ_eq_map]
  rfl
theorem enc_snoc {l : List (List Int)} {r : List Int} : D.tup (l.map (fun r => D.tup (r.map .int)) ++ [.tup (r.map .int)]) = enc (l ++ [r]) := by
  unfold enc
  rw [List.map_append]
  rfl
theorem row_eq {f : Nat → Int} : ((List.range C).map fun c => D.int (f c)) = ((List.range C).map f).map D.int := by
  rw [List.map_map]
  rfl
theorem rows_eq : ((List.range R).map fun r => D.tup ((List.range C).map fun c => D.int (g r c))) = (rowsG R C g).map fun r => D.tup (r.map .int) := D.tup.inj tu_enc
theorem wrong1 {v : Int} : D.tup (((List.range R).map fun r => D.tup ((List.range C).map fun c => D.int (g r c))).dropLast ++ [.tup ([.int v] ++ ((List.range C).map fun c => D.int (g (R - 1) c)).drop 1)]) = enc ((rowsG R C g).dropLast ++ [v :: ((List.range C).map (g (R - 1))).drop 1]) := by
  rw [rows_eq, row_eq, ← enc_snoc, List.map_dropLast, List.map_cons, List.map_drop]
  rfl
theorem wrong2 : D.tup (((List.range R).map fun r => D.tup ((List.range C).map fun c => D.int (g r c))) ++ [.tup (((List.range C).map fun c => D.int (g 0 c)) ++ [.int 0])]) = enc (rowsG R C g ++ [(List.range C).map (g 0) ++ [0]]) := by
  rw [rows_eq, row_eq, ← enc_snoc, List.map_append]
  rfl
theorem no2 (hR : 1 ≤ R) : isHeap (rowsG R C g ++ [(List.range C).map (g 0) ++ [0]]) = false :=
  isHeap_no (r0 := (List.range C).map (g 0)) (r := (List.range C).map (g 0) ++ [0]) (by rw [List.head?_append, rowsG_head hR]; rfl) (by simp) (.inl (by simp))
theorem no1 {v : Int} (h : ¬(0 ≤ v ∧ v ≤ 20)) : isHeap ((rowsG R C g).dropLast ++ [v :: ((List.range C).map (g (R - 1))).drop 1]) = false := by
  cases e : ((rowsG R C g).dropLast ++ [v :: ((List.range C).map (g (R - 1))).drop 1]).head? with
  | none => simp at e
  | some r0 => exact isHeap_no e (r := v :: ((List.range C).map (g (R - 1))).drop 1) (by simp) (.inr ⟨v, by simp, h⟩)
def wz (R C : Nat) (w : Gr × Gr × List Sq) : D := .lst [tu R C w.1, .tup [tu R C w.2.1, .lst (w.2.2.map sqD)]]
def Bad (R C : Nat) (g : Gr) (w : Gr × Gr × List Sq) : Prop := w.2.2.length < 2 ^ 62 ∧ ¬∃ g', bo R C g w.2.2 = some g' ∧ same R C g' w.1 ∧ same R C (fun x y => Sand.cnt w.2.2 x y) w.2.1 ∧ Calm R C g'
theorem law_holds : LawOk 15 b_law := by
  intro ns row tot a c hl
  show b_law _ [some (.val (.scr ns)), some (.val (.deal a)), none, none, none, none, none, none, none, none, none, none, none, none, none, none, none] _
  generalize ht : ({ a := a, c := c, row := row, tot := tot, pos := 0 } : Tape) = t
  have ta : t.a = a := by rw [← ht]
  have tp : t.pos = 0 := by rw [← ht]
  clear ht
  unfold b_law
  refine stp fun K hK => ?_
  walk_at "x"
  refine take_ok ta (by decide) (by rw [tp]; decide) fun rc t1 c0 c1 ta1 tp1 => ?_
  walk_at "x"
  refine hK _ _ (stp fun K hK => ?_)
  walk_at "x"
  refine ⟨by rw [sizeLine_eq]; decide, ?_⟩
  refine take_ok ta1 (by decide) (by omega) fun rm t2 m0 m1 ta2 tp2 => ?_
  walk_at "x"
  have hmo : ∃ mo : Int, atI [D.int 4, D.int 8, D.int 20] rm = some (.int mo) ∧ 4 ≤ mo ∧ mo ≤ 20 := by
    have : rm = 0 ∨ rm = 1 ∨ rm = 2 := by omega
    rcases this with rfl | rfl | rfl
    · exact ⟨4, atI_cons0, by decide, by decide⟩
    · exact ⟨8, atI_cons1, by decide, by decide⟩
    · exact ⟨20, atI_cons2, by decide, by decide⟩
  obtain ⟨mo, hmo, mo4, mo20⟩ := hmo
  rw [dIx_lst, ex_some hmo]
  walk_at "x"
  refine hK _ _ (stp fun K hK => ?_)
  walk_at "x"
  refine take_ok ta2 (by decide) (by omega) fun rr t3 r0 r1 ta3 tp3 => ?_
  walk_at "x"
  refine ⟨by omega, by omega, ?_⟩
  rw [upTo_map]
  obtain ⟨C, rfl⟩ : ∃ C : Nat, rc = (C : Int) - 1 := ⟨(rc + 1).toNat, by omega⟩
  obtain ⟨R, hR⟩ : ∃ R : Nat, 1 + rr = (R : Int) := ⟨(rr + 1).toNat, by omega⟩
  rw [hR]
  have eC : 1 + ((C : Int) - 1) = C := by omega
  simp only [eC, Int.toNat_natCast]
  have hR3 : 1 ≤ R ∧ R ≤ 3 := by omega
  have hC4 : 1 ≤ C ∧ C ≤ 4 := by omega
  refine compD_W (fun i : Nat => D.int (0 + i)) (fun acc rest W => ∃ (rows : List (List Int)) (t : Tape), W = some t ∧ t.a = a ∧ acc = rows.map (fun r => D.tup (r.map .int)) ∧ rows.length + rest.length = R ∧ (∀ r ∈ rows, r.length = C ∧ ∀ i ∈ r, 0 ≤ i ∧ i ≤ 20) ∧ t.pos ≤ 3 + rows.length * 4) (by rw [sizeLine_eq]; simp; omega) ⟨[], t3, rfl, ta3, rfl, by simp, by simp, by simp; omega⟩ ?_ ?_
  · rintro x xs acc W ⟨rows, t4, rfl, ta4, rfl, hn, hrows, hp⟩ k hk
    simp only [List.length_cons] at hn
    walk_at "x"
    refine ⟨by omega, by omega, ?_⟩
    rw [upTo_map]
    refine compD_W (fun i : Nat => D.int (0 + i)) (fun acc rest W => ∃ (rw : List Int) (t : Tape), W = some t ∧ t.a = a ∧ acc = rw.map .int ∧ rw.length + rest.length = C ∧ (∀ i ∈ rw, 0 ≤ i ∧ i ≤ 20) ∧ t.pos ≤ 3 + rows.length * 4 + rw.length) (by rw [sizeLine_eq]; simp; omega) ⟨[], t4, rfl, ta4, rfl, by simp, by simp, by simpa using hp⟩ ?_ ?_
    · rintro x xs acc W ⟨rw, t5, rfl, ta5, rfl, hn2, hrw, hp2⟩ k hk
      simp only [List.length_cons] at hn2
      walk_at "x"
      refine take_ok ta5 (by omega) (by omega) fun v t6 v0 v1 ta6 tp6 => ?_
      walk_at "x"
      refine hk _ _ ⟨rw ++ [v], t6, rfl, ta6, by simp, by simp; omega, ?_, by simp; omega⟩
      intro i m
      rcases List.mem_append.mp m with m | m
      · exact hrw i m
      · simp only [List.mem_singleton] at m
        subst m
        omega
    · rintro acc W ⟨rw, t5, rfl, ta5, rfl, hn2, hrw, hp2⟩
      simp only [List.length_nil, Nat.add_zero] at hn2
      refine hk _ _ ⟨rows ++ [rw], t5, rfl, ta5, by simp, by simp; omega, ?_, by simp; omega⟩
      intro r m
      rcases List.mem_append.mp m with m | m
      · exact hrows r m
      · simp only [List.mem_singleton] at m
        subst m
        exact ⟨hn2, hrw⟩
  rintro acc W ⟨rows, t4, rfl, ta4, rfl, hn, hrows, hp⟩
  simp only [List.length_nil, Nat.add_zero] at hn
  have hrl : ∀ r ∈ rows, r.length = C := fun r m => (hrows r m).1
  have hrv : ∀ r ∈ rows, ∀ i ∈ r, 0 ≤ i ∧ i ≤ 20 := fun r m => (hrows r m).2
  have hen : D.tup (rows.map fun r => D.tup (r.map .int)) = tu R C (grOf rows) := by
    have := enc_tu hrl
    rw [hn] at this
    exact this
  generalize (some t4 : Wd) = W
  have h0 : NonNeg R C (grOf rows) := fun x y hx hy => grOf_mem hrl (P := fun i => 0 ≤ i) (fun r m i mi => (hrv r m i mi).1) x y (by omega) hy
  have h20 : ∀ x y, x < R → y < C → grOf rows x y ≤ 20 := fun x y hx hy => grOf_mem hrl (P := fun i => i ≤ 20) (fun r m i mi => (hrv r m i mi).2) x y (by omega) hy
  have hyes : isHeap rows = true := isHeap_yes (by omega) (by omega) hrl hrv
  have hen2 : enc rows = tu R C (grOf rows) := hen
  rw [hen]
  generalize hg : grOf rows = g at h0 h20 hen hen2
  refine hK _ _ (stp fun K hK => ifs fun T hT hF => ?_)
  walk_at "x"
  rw [← hen2]
  refine is_heap_ok (h := rows) ?_
  refine bool_ok ?_
  walk_at "x"
  rw [hyes]
  refine hF _ ?_
  clear hrv hrl hrows hen hen2 hyes hg hn hmo
  walk_at "x"
  refine hK _ _ (stp fun K hK => ?_)
  unfold tu
  walk_at "x"
  repeat (refine And.intro (by simp [sizeLine_eq] <;> omega) ?_)
  rw [wrong2, wrong1, wrong1]
  have e21 := no1 (R := R) (C := C) (g := g) (v := 21) (by decide)
  have em1 := no1 (R := R) (C := C) (g := g) (v := -1) (by decide)
  have e2 := no2 (C := C) (g := g) hR3.1
  generalize (rowsG R C g).dropLast ++ [21 :: ((List.range C).map (g (R - 1))).drop 1] = x21 at e21
  generalize (rowsG R C g).dropLast ++ [-1 :: ((List.range C).map (g (R - 1))).drop 1] = xm1 at em1
  generalize rowsG R C g ++ [(List.range C).map (g 0) ++ [0]] = x2 at e2
  refine forD_enc enc (fun rest σ W' => W' = W ∧ (∀ w ∈ rest, isHeap w = false) ∧ ∃ o : Option SV, σ = [some (SV.val (.scr ns)), some (.val (.deal a)), some (.val (.int C)), some (.val (.int mo)), some (.val (tu R C g)), o, none, none, none, none, none, none, none, none, none, none, none]) (items := [[], [[]], x2, x21, xm1]) ⟨rfl, ?_, none, rfl⟩ ?_ ?_
  · intro w m
    simp only [List.mem_cons, List.not_mem_nil, or_false] at m
    rcases m with rfl | rfl | rfl | rfl | rfl
    · rfl
    · rfl
    · exact e2
    · exact e21
    · exact em1
  · rintro w rest σ W' k ⟨rfl, hno, o, rfl⟩ hk
    unfold enc
    walk_at "x"
    refine ifs fun T hT hF => ?_
    walk_at "x"
    refine is_heap_ok (h := w) ?_
    refine bool_ok ?_
    walk_at "x"
    rw [hno w (by simp)]
    refine hF _ ?_
    walk_at "x"
    exact hk _ _ ⟨rfl, fun v m => hno v (by simp [m]), _, rfl⟩
  rintro σ W' ⟨rfl, _, o5, rfl⟩
  clear e21 em1 e2
  refine hK _ _ (stp fun K hK => ifs fun T hT hF => ?_)
  have s0 : ∀ n, n ≤ 5000 → n ≤ sizeLine := fun n h => by rw [sizeLine_eq]; omega
  walk_at "x"
  repeat (refine And.intro (by simp [sizeLine_eq]) ?_)
  refine is_heap_ok (h := [[0, 0, 0, 0, 0, 0, 0]]) ?_
  refine bool_ok ?_
  rw [show isHeap [[0, 0, 0, 0, 0, 0, 0]] = false from rfl]
  walk_at "x"
  repeat (refine And.intro (by simp [sizeLine_eq]) ?_)
  refine is_heap_ok (h := [[0], [0], [0], [0], [0], [0], [0]]) ?_
  refine bool_ok ?_
  rw [show isHeap [[0], [0], [0], [0], [0], [0], [0]] = false from rfl]
  walk_at "x"
  refine hF _ ?_
  walk_at "x"
  refine hK _ _ (stp fun K hK => ?_)
  walk_at "x"
  refine law_calm_ok hR3 hC4 h0 h20 fun s ls cs => ?_
  walk_at "x"
  refine hK _ _ (stp fun K hK => ifs fun T hT hF => ?_)
  have hu : ∀ {s2}, Legal R C g s2 → Calm R C (run R C g s2) → tu R C (run R C g s2) = tu R C (run R C g s) := fun l2 c2 => tu_congr (unique l2 ls c2 cs).2
  have hu2 : ∀ {s2}, Legal R C g s2 → Calm R C (run R C g s2) → (tu R C fun x y => (Sand.cnt s2 x y : Int)) = tu R C fun x y => (Sand.cnt s x y : Int) := fun l2 c2 => tu_congr fun x y _ _ => by rw [(unique l2 ls c2 cs).1 x y]
  have ft : ∀ {h : Gr}, fits false 2 (tu R C h) := fun {h} => fits_tu (by omega) (by omega)
  walk_at "x"
  refine calm_ok hR3 hC4 h0 h20 fun s1 ls1 cs1 => ?_
  rw [hu ls1 cs1]
  try walk_at "x"
  rw [same_eq]
  refine same_ok (fits_le ft (by decide)) ?_
  try walk_at "x"
  refine tcounts_ok hR3 hC4 h0 h20 fun s1 ls1 cs1 => ?_
  rw [hu2 ls1 cs1]
  try walk_at "x"
  refine same_ok (fits_le ft (by decide)) ?_
  try walk_at "x"
  refine hF _ ?_
  try walk_at "x"
  refine hK _ _ (stp fun K hK => ?_)
  try walk_at "x"
  refine paper_ok hR3 hC4 h0 h20 fun s1 t ls1 cs1 lt ct htl => ?_
  rw [hu2 ls1 cs1]
  try walk_at "x"
  refine hK _ _ (stp fun K hK => ifs fun T hT hF => ?_)
  try walk_at "x"
  rw [decide_eq_true (by rfl)]
  simp only [Bool.not_true, Bool.false_eq_true, if_false]
  rw [same_eq]
  refine same_ok (fits_le ft (by decide)) ?_
  try walk_at "x"
  refine hF _ ?_
  walk_at "x"
  refine hK _ _ (stp fun K hK => ?_)
  walk_at "x"
  refine hK _ _ (stp fun K hK => ifs fun T hT hF => ?_)
  walk_at "x"
  refine gone_ok ⟨hR3.1, by omega⟩ (by omega) lt ?_
  rw [hu lt ct]
  try walk_at "x"
  rw [same_eq]
  refine same_ok (fits_le ft (by decide)) ?_
  try walk_at "x"
  refine hF _ ?_
  walk_at "x"
  have hR6 : 1 ≤ R ∧ R ≤ 6 := by omega
  have hC6 : 1 ≤ C ∧ C ≤ 6 := by omega
  have z2 := s2
  refine hK _ _ (stp fun K hK => ifs fun T hT hF => ?_)
  walk_at "x"
  refine ⟨z2, ?_⟩
  refine shows_ok hR6 hC6 (by omega) fun b hb => ?_
  have hb' : b = true := hb.mpr ⟨_, bo_legal lt, tu_inj (hu lt ct), fun x y _ _ => congrArg (fun n : Nat => (n : Int)) ((unique lt ls ct cs).1 x y), ct⟩
  subst hb'
  refine bool_ok ?_
  try walk_at "x"
  refine hF _ ?_
  walk_at "x"
  generalize hFn : run R C g s = F at *
  refine hK _ _ (stp fun K hK => ?_)
  unfold tu
  walk_at "x"
  repeat (refine And.intro (by simp [sizeLine_eq] <;> omega) ?_)
  rw [bump_last hR3.1 hC4.1]
  refine hK _ _ (stp fun K hK => ?_)
  walk_at "x"
  repeat (refine And.intro (by simp [sizeLine_eq] <;> omega) ?_)
  have em := bump_last (R := R) (C := C) (F := fun x y => (Sand.cnt s x y : Int)) hR3.1 hC4.1 (a := 1)
  rw [em]
  refine hK _ _ (stp fun K hK => ?_)
  walk_at "x"
  repeat (refine And.intro (by simp [sizeLine_eq] <;> omega) ?_)
  rw [show List.map sqD t ++ [D.tup [D.int 0, D.int 0]] = (t ++ [(0, 0)]).map sqD by rw [List.map_append]; rfl, show List.map sqD t ++ [D.tup [D.int 9, D.int 9]] = (t ++ [(9, 9)]).map sqD by rw [List.map_append]; rfl]
  have hF : tu R C (run R C g t) = tu R C F := hu lt ct
  have hFe := tu_inj hF
  have hcn : ∀ x y, Sand.cnt t x y = Sand.cnt s x y := fun x y => (unique lt ls ct (by rw [hFn]; exact cs)).1 x y
  have hcn' : (fun x y => (Sand.cnt t x y : Int)) = fun x y => (Sand.cnt s x y : Int) := by funext x y; rw [hcn]
  have bt := bo_legal lt
  have bad1 : Bad R C g (Sand.bump F (R - 1, 0) 1, (fun x y => (Sand.cnt s x y : Int)), t) := by
    refine ⟨by show t.length < 2 ^ 62; omega, ?_⟩
    rintro ⟨g', h1, h2, _, _⟩
    simp only at h1 h2
    rw [bt] at h1
    cases h1
    have a1 := h2 (R - 1) 0 (by omega) (by omega)
    have a2 := hFe (R - 1) 0 (by omega) (by omega)
    unfold Sand.bump at a1
    simp only [and_self, if_true] at a1
    omega
  have bad2 : Bad R C g (F, Sand.bump (fun x y => (Sand.cnt s x y : Int)) (R - 1, 0) 1, t) := by
    refine ⟨by show t.length < 2 ^ 62; omega, ?_⟩
    rintro ⟨g', h1, _, h2, _⟩
    have a1 := h2 (R - 1) 0 (by omega) (by omega)
    unfold Sand.bump at a1
    simp only [and_self, if_true] at a1
    rw [hcn] at a1
    omega
  have off : ∀ (p : Sq) (o k : Gr), ¬ (Sand.inR R C p ∧ 4 ≤ run R C g t p.1 p.2) → Bad R C g (o, k, t ++ [p]) := fun p o k hn => by
    refine ⟨by show (t ++ [p]).length < 2 ^ 62; simp; omega, ?_⟩
    rintro ⟨g', h1, _⟩
    simp only at h1
    rw [gone_off lt hn] at h1
    cases h1
  have bad3 := off (0, 0) F (fun x y => (Sand.cnt s x y : Int)) (fun h => by have := ct 0 0 (by omega) (by omega); have := h.2; simp only at this; omega)
  have bad4 := off (9, 9) F (fun x y => (Sand.cnt s x y : Int)) (fun h => by have := h.1.1; simp only at this; omega)
  refine hK _ _ (stp fun K hK => ifs fun T hT hFF => ?_)
  have fin : ∀ L : List (Gr × Gr × List Sq), (∀ w ∈ L, Bad R C g w) → K [some (SV.val (.scr ns)), some (.val (.deal a)), some (.val (.int C)), some (.val (.int mo)), some (.val (tu R C g)), some (.ml (L.map (wz R C))), some (.val (tu R C F)), some (.val (tu R C fun x y => (Sand.cnt s x y : Int))), some (.val (.tup [tu R C fun x y => (Sand.cnt s x y : Int), .lst (t.map sqD)])), some (.val (.lst (t.map sqD))), some (.val (tu R C (Sand.bump F (R - 1, 0) 1))), some (.val (tu R C (Sand.bump (fun x y => (Sand.cnt s x y : Int)) (R - 1, 0) 1))), none, none, none, none, none] W' := fun L hL => by
    refine hK _ _ ?_
    rw [x_Ghost, x_frz]
    simp only [List.getElem?_cons_succ, List.getElem?_cons_zero]
    refine stp fun K hK => ?_
    walk_at "x"
    refine forD_enc (wz R C) (fun rest σ W'' => W'' = W' ∧ (∀ w ∈ rest, Bad R C g w) ∧ ∃ o12 o13 : Option SV, σ = [some (SV.val (.scr ns)), some (.val (.deal a)), some (.val (.int C)), some (.val (.int mo)), some (.val (tu R C g)), some (.val (.lst (L.map (wz R C)))), some (.val (tu R C F)), some (.val (tu R C fun x y => (Sand.cnt s x y : Int))), some (.val (.tup [tu R C fun x y => (Sand.cnt s x y : Int), .lst (t.map sqD)])), some (.val (.lst (t.map sqD))), some (.val (tu R C (Sand.bump F (R - 1, 0) 1))), some (.val (tu R C (Sand.bump (fun x y => (Sand.cnt s x y : Int)) (R - 1, 0) 1))), o12, o13, none, none, none]) (items := L) ⟨rfl, hL, none, none, rfl⟩ ?_ ?_
    · rintro w rest σ W'' k ⟨rfl, hno, o12, o13, rfl⟩ hk
      unfold wz
      walk_at "x"
      refine ifs fun T hT hF => ?_
      walk_at "x"
      obtain ⟨hw1, hw2⟩ := hno w (by simp)
      refine shows_ok hR6 hC6 hw1 fun b hb => ?_
      have hb' : b = false := by
        cases b with
        | false => rfl
        | true => exact absurd (hb.mp rfl) hw2
      subst hb'
      refine bool_ok ?_
      try walk_at "x"
      refine hF _ ?_
      walk_at "x"
      exact hk _ _ ⟨rfl, fun v m => hno v (by simp [m]), _, _, rfl⟩
    · rintro σ W'' ⟨rfl, _, o12, o13, rfl⟩
      refine hK _ _ ?_
      unfold tu
      walk_at "x"
      refine compD_enc (fun r : Nat => D.tup ((List.range C).map fun c => .int (g r c))) (fun r => D.tup ((List.range C).map fun _ => .int 0)) (by simpa using s6 hR6.2) ?_ ?_
      · intro r _ k hk
        walk_at "x"
        refine compD_enc (fun c : Nat => D.int (g r c)) (fun _ => D.int 0) (by simpa using s6 hC6.2) ?_ ?_
        · intro c _ k hk
          walk_at "x"
          exact hk
        · exact hk
      · repeat (with_reducible refine And.intro ?sz ?_; (case sz => (simp [sizeLine_eq] <;> omega)))
        have hcF : Calm R C F := by rw [← hFn]; rw [hFn]; exact cs
        refine shows_ok (g := F) (o := F) (k := fun _ _ => 0) (s := []) hR6 hC6 (by simp) fun b hb => ?_
        have hb' : b = true := hb.mpr ⟨F, rfl, fun _ _ _ _ => rfl, fun _ _ _ _ => rfl, hcF⟩
        subst hb'
        refine bool_ok ?_
        try walk_at "x"
        rfl
  have bads : ∀ w ∈ [(Sand.bump F (R - 1, 0) 1, (fun x y => (Sand.cnt s x y : Int)), t), (F, Sand.bump (fun x y => (Sand.cnt s x y : Int)) (R - 1, 0) 1, t), (F, (fun x y => (Sand.cnt s x y : Int)), t ++ [(0, 0)]), (F, (fun x y => (Sand.cnt s x y : Int)), t ++ [(9, 9)])], Bad R C g w := by
    intro w m
    simp only [List.mem_cons, List.not_mem_nil, or_false] at m
    rcases m with rfl | rfl | rfl | rfl
    · exact bad1
    · exact bad2
    · exact bad3
    · exact bad4
  walk_at "x"
  refine br (fun htpos => hT _ ?_) fun htz => hFF _ ?_
  · have hne : t ≠ [] := by intro e; subst e; simp at htpos
    have ed : (t.map sqD).dropLast = t.dropLast.map sqD := by rw [List.map_dropLast]
    have es := (List.dropLast_concat_getLast hne).symm
    generalize t.dropLast = t1 at es ed
    generalize t.getLast hne = v at es
    have lt1 : Legal R C g t1 := by rw [es] at lt; exact ((legal_append t1 [v] g).mp lt).1
    have tl1 : t1.length + 1 = t.length := by rw [es]; simp
    have cnv : Sand.cnt s v.1 v.2 = Sand.cnt t1 v.1 v.2 + 1 := by
      rw [← hcn, es]
      unfold Sand.cnt
      rw [List.count_append]
      simp
    have vin : Sand.inR R C v := legal_in lt v (by rw [es]; simp)
    have nk : ∀ o : Gr, Bad R C g (o, (fun x y => (Sand.cnt s x y : Int)), t1) := fun o => by
      refine ⟨by show t1.length < 2 ^ 62; omega, ?_⟩
      rintro ⟨g', _, _, h2, _⟩
      have a1 := h2 v.1 v.2 vin.1 vin.2
      simp only at a1
      omega
    have nz : Bad R C g (g, (fun _ _ => 0), []) := by
      refine ⟨by simp, ?_⟩
      rintro ⟨g', h1, _, _, h3⟩
      cases h1
      cases t with
      | nil => exact hne rfl
      | cons p t =>
        have a1 := h3 p.1 p.2 lt.1.1 lt.1.2
        have a2 := lt.2.1
        omega
    refine stp fun K1 hK1 => ?_
    walk_at "x"
    rw [ed]
    repeat (refine And.intro (by simp [sizeLine_eq] <;> omega) ?_)
    refine hK1 _ _ (stp fun K2 hK2 => ?_)
    walk_at "x"
    rw [ed]
    refine gone_ok (g := g) ⟨hR3.1, by omega⟩ (by omega) lt1 ?_
    walk_at "x"
    repeat (with_reducible refine And.intro ?sz ?_; (case sz => (simp [sizeLine_eq] <;> omega)))
    refine hK2 _ _ ?_
    walk_at "x"
    refine compD_enc (fun r : Nat => D.tup ((List.range C).map fun c => .int (g r c))) (fun r => D.tup ((List.range C).map fun _ => .int 0)) (by simpa using s6 hR6.2) ?_ ?_
    · intro r _ k hk
      walk_at "x"
      refine compD_enc (fun c : Nat => D.int (g r c)) (fun _ => D.int 0) (by simpa using s6 hC6.2) ?_ ?_
      · intro c _ k hk
        walk_at "x"
        exact hk
      · exact hk
    · repeat (with_reducible refine And.intro ?sz ?_; (case sz => (simp [sizeLine_eq] <;> omega)))
      refine fin ([(Sand.bump F (R - 1, 0) 1, (fun x y => (Sand.cnt s x y : Int)), t), (F, Sand.bump (fun x y => (Sand.cnt s x y : Int)) (R - 1, 0) 1, t), (F, (fun x y => (Sand.cnt s x y : Int)), t ++ [(0, 0)]), (F, (fun x y => (Sand.cnt s x y : Int)), t ++ [(9, 9)])] ++ [(F, (fun x y => (Sand.cnt s x y : Int)), t1)] ++ [(run R C g t1, (fun x y => (Sand.cnt s x y : Int)), t1)] ++ [(g, (fun _ _ => 0), [])]) ?_
      intro w m
      simp only [List.mem_append, List.mem_singleton] at m
      rcases m with ((m | rfl) | rfl) | rfl
      · exact bads w m
      · exact nk _
      · exact nk _
      · exact nz
  · walk_at "x"
    exact fin _ bads
end
end L80

open PySem PySem.W PyProof.Rows
set_option maxRecDepth 100000 in
set_option maxHeartbeats 0 in
theorem PySem.Challenge.cw_landandwater_k80_whole_sand_becomes_calm_holds : PySem.Challenge.rw_landandwater_k80_whole_sand_becomes_calm.Holds := by
  w_on; o_law; k_head; (case hw => w_witness2)
  k_fill
  refine L2.walk_of (l := PySem.Challenge.rw_landandwater_k80_whole_sand_becomes_calm) (n := 63) (k := 7) (x := "script") (CX := fun _ => L2.CX0) (sp := fun w => VL.spLaw _) rfl (by decide) rfl ⟨rfl, by decide, by decide⟩ (fun w h Y => PySem.W.kIn_of Y) ?F (fun _ _ a ns hl _ hS => ⟨a, ns, rfl, hS, hl, fun _ => rfl⟩) (fun _ _ _ _ _ h => h)
  case F =>
    intro w mg fa h KX G hmg
    refine' L80.ok_law (L80.txt_mk KX G ?a0 ?l0 ?c0 ?k0 ?a1 ?l1 ?c1 ?k1 ?a2 ?l2 ?c2 ?k2 ?a3 ?l3 ?c3 ?k3 ?a4 ?l4 ?c4 ?k4 ?a5 ?l5 ?c5 ?k5 ?a6 ?l6 ?c6 ?k6 ?a7 ?l7 ?c7 ?k7 ?a8 ?l8 ?c8 ?k8 ?a9 ?l9 ?c9 ?k9 ?a10 ?l10 ?c10 ?k10 ?a11 ?l11 ?c11 ?k11 ?a12 ?l12 ?c12 ?k12 ?a13 ?l13 ?c13 ?k13 ?a14 ?l14 ?c14 ?k14 ?a15 ?l15 ?c15 ?k15 ?a16 ?l16 ?c16 ?k16 ?a17 ?l17 ?c17 ?k17 ?a18 ?l18 ?c18 ?k18 ?z_abs ?z_bool ?z_int ?z_isinstance ?z_len ?z_list ?z_max ?z_min ?z_range ?z_str ?z_sum ?z_tuple ?g_FALL ?g_LONGEST ?g_MOST) hmg L80.law_holds
    (case a0 => k_is); (case l0 => k_is); (case c0 => k_is); (case k0 => k_is); (case a1 => k_is); (case l1 => k_is); (case c1 => k_is); (case k1 => k_is); (case a2 => k_is); (case l2 => k_is); (case c2 => k_is); (case k2 => k_is); (case a3 => k_is); (case l3 => k_is); (case c3 => k_is); (case k3 => k_is); (case a4 => k_is); (case l4 => k_is); (case c4 => k_is); (case k4 => k_is); (case a5 => k_is); (case l5 => k_is); (case c5 => k_is); (case k5 => k_is); (case a6 => k_is); (case l6 => k_is); (case c6 => k_is); (case k6 => k_is); (case a7 => k_is); (case l7 => k_is); (case c7 => k_is); (case k7 => k_is); (case a8 => k_is); (case l8 => k_is); (case c8 => k_is); (case k8 => k_is); (case a9 => k_is); (case l9 => k_is); (case c9 => k_is); (case k9 => k_is); (case a10 => k_is); (case l10 => k_is); (case c10 => k_is); (case k10 => k_is); (case a11 => k_is); (case l11 => k_is); (case c11 => k_is); (case k11 => k_is); (case a12 => k_is); (case l12 => k_is); (case c12 => k_is); (case k12 => k_is); (case a13 => k_is); (case l13 => k_is); (case c13 => k_is); (case k13 => k_is); (case a14 => k_is); (case l14 => k_is); (case c14 => k_is); (case k14 => k_is); (case a15 => k_is); (case l15 => k_is); (case c15 => k_is); (case k15 => k_is); (case a16 => k_is); (case l16 => k_is); (case c16 => k_is); (case k16 => k_is); (case a17 => k_is); (case l17 => k_is); (case c17 => k_is); (case k17 => k_is); (case a18 => k_is); (case l18 => k_is); (case c18 => k_is); (case k18 => k_is); (case z_abs => k_is); (case z_bool => k_is); (case z_int => k_is); (case z_isinstance => k_is); (case z_len => k_is); (case z_list => k_is); (case z_max => k_is); (case z_min => k_is); (case z_range => k_is); (case z_str => k_is); (case z_sum => k_is); (case z_tuple => k_is); (case g_FALL => k_is); (case g_LONGEST => k_is); (case g_MOST => k_is)

