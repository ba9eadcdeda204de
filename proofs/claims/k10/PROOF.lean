import PyProof.Rows.All
import Wide.All
import OpenK.AllK
import Wide.FinOn
import HandS.ForMost
import HandS.ForExc
import HandS.Lambda
import HandS.TryOnly
import HandS.TupAny
import HandS.TupMul
import HandS.Deep
import HandS.IsInst
import HandS.SetFor
import HandS.Strs
import HandS.More
import HandS.RaiseMore
import HandS.SortInts
import HandS.Style
import KE.KDictPairs
import PyProof.DictUpdate
import HandS.ExcIs
import HandS.ExcField
import HandS.EndOwn
import HandS.NestedK
import KE.SortData
import HandS.Conv
import HandS.Iter
import HandS.SortKw
import PySem.Challenge.RW_tilekeep_k10_by_the_last
set_option Elab.async false
set_option linter.all false
set_option maxRecDepth 100000
namespace TK
open PySem PySem.Spec PyProof.Rows L2
variable {K : PySem.W.Frag}

/-! ## data by value, ghost cells -/
inductive D where
  | non | bl (b : Bool) | int (i : Int) | str (x : Str) | tup (xs : List D) | lst (xs : List D) | frz (xs : List D) | ref (a : Addr) | ty (n : String) | code (q : Str)

inductive GO where
  | lst (xs : List D)
  | dK (kvs : List (Key × D))
  | dT (kvs : List (List Key × D))
  | ins (n : Str) (fs : List (Str × D))
  | tb (q : Str)
  | lkK (o : Obj) (us : List (Key × V)) (kvs : List (Key × D))
  | lkT (o : Obj) (us : List (List Key × V)) (kvs : List (List Key × D))

abbrev GH := Addr → Option GO
abbrev ZS := Addr → Prop
def gup (G : GH) (a : Addr) (o : GO) : GH := fun b => if b = a then some o else G b
def gdel (G : GH) (a : Addr) : GH := fun b => if b = a then none else G b
def g0 : GH := fun _ => none
theorem gup_same {G : GH} {a : Addr} {o : GO} : gup G a o a = some o := by unfold gup; rw [if_pos rfl]
theorem gup_ne {G : GH} {a b : Addr} {o : GO} (h : b ≠ a) : gup G a o b = G b := by unfold gup; rw [if_neg h]
theorem gup_gup {G : GH} {a : Addr} {o u : GO} : gup (gup G a o) a u = gup G a u := by
  funext b; unfold gup; split <;> rfl
theorem gdel_gup {G : GH} {a : Addr} {o : GO} (h : G a = none) : gdel (gup G a o) a = G := by
  funext b; unfold gdel gup
  by_cases e : b = a
  · subst e; rw [if_pos rfl, h]
  · rw [if_neg e, if_neg e]
theorem gup_comm {G : GH} {a b : Addr} {o u : GO} (h : a ≠ b) : gup (gup G a o) b u = gup (gup G b u) a o := by
  funext c; unfold gup
  by_cases e1 : c = a
  · subst e1; rw [if_neg h, if_pos rfl, if_pos rfl]
  · by_cases e2 : c = b
    · subst e2; rw [if_pos rfl, if_neg e1, if_pos rfl]
    · rw [if_neg e2, if_neg e1, if_neg e1, if_neg e2]

/-! ## what represents what -/
/-- a list of the written part -/
def Wrt (K : PySem.W.Frag) (a : Addr) (xs : List V) : Prop := ∃ (o : Obj) (its : Array Value) (n : Nat), K.lookup a = some o ∧ o.cls = .type "list" ∧ o.dict = none ∧ o.data = .seq its n ∧ its.size ≤ sizeLine ∧ Vals xs its.toList
mutual
inductive Rp (K : PySem.W.Frag) (H : Hp) (G : GH) (Z : ZS) : V → D → Prop
  | non : Rp K H G Z .non .non
  | bl (b : Bool) : Rp K H G Z (.bl b) (.bl b)
  | int (i : Int) : Rp K H G Z (.int i) (.int i)
  | str (x : Str) : Rp K H G Z (.str x) (.str x)
  | ref (a : Addr) : Rp K H G Z (.ref a) (.ref a)
  | ty (n : String) : Rp K H G Z (.ty n) (.ty n)
  | tup {a : Addr} {vs : List V} {ds : List D} : G a = none → ¬ Z a → H a = some (.tup vs) → RpAll K H G Z vs ds → Rp K H G Z (.ref a) (.tup ds)
  | lst {a : Addr} {vs : List V} {ds : List D} : G a = none → ¬ Z a → H a = some (.lst vs) → RpAll K H G Z vs ds → Rp K H G Z (.ref a) (.lst ds)
  | frz {a : Addr} {vs : List V} {ds : List D} {o : Obj} : G a = none → ¬ Z a → H a = some (.frz o (.lst vs)) → RpAll K H G Z vs ds → Rp K H G Z (.ref a) (.frz ds)
  | frl {a : Addr} {vs : List V} {ds : List D} : G a = none → ¬ Z a → H a = some (.lst vs) → RpAll K H G Z vs ds → Rp K H G Z (.ref a) (.frz ds)
  | code {a : Addr} {q : Str} : G a = none → ¬ Z a → H a = some (LamX.CodeO a q) → Rp K H G Z (.ref a) (.code q)
  | wrt {a : Addr} {vs : List V} {ds : List D} : Wrt K a vs → RpAll K H G Z vs ds → Rp K H G Z (.ref a) (.frz ds)
inductive RpAll (K : PySem.W.Frag) (H : Hp) (G : GH) (Z : ZS) : List V → List D → Prop
  | nil : RpAll K H G Z [] []
  | cons {v : V} {vs : List V} {d : D} {ds : List D} : Rp K H G Z v d → RpAll K H G Z vs ds → RpAll K H G Z (v :: vs) (d :: ds)
end

/-- no table of code objects -/
def ntb : HO → Prop
  | .tbl _ => False
  | _ => True
/-- what is no cell stands still -/
def Ext (H : Hp) (G : GH) (H' : Hp) (G' : GH) : Prop := ∀ a o, G a = none → H a = some o → ntb o → G' a = none ∧ H' a = some o
theorem Ext.refl {H : Hp} {G : GH} : Ext H G H G := fun _ _ g h _ => ⟨g, h⟩
theorem Ext.trans {H H1 H2 : Hp} {G G1 G2 : GH} (x : Ext H G H1 G1) (y : Ext H1 G1 H2 G2) : Ext H G H2 G2 := fun a o g h n => y a o (x a o g h n).1 (x a o g h n).2 n

mutual
theorem Rp.ext {H H' : Hp} {G G' : GH} {Z : ZS} (x : Ext H G H' G') : ∀ {v : V} {d : D}, Rp K H G Z v d → Rp K H' G' Z v d
  | _, _, .non => .non
  | _, _, .bl b => .bl b
  | _, _, .int i => .int i
  | _, _, .str s => .str s
  | _, _, .ref a => .ref a
  | _, _, .ty n => .ty n
  | _, _, .tup g z r al => .tup (x _ _ g r trivial).1 z (x _ _ g r trivial).2 (RpAll.ext x al)
  | _, _, .lst g z r al => .lst (x _ _ g r trivial).1 z (x _ _ g r trivial).2 (RpAll.ext x al)
  | _, _, .frz g z r al => .frz (x _ _ g r trivial).1 z (x _ _ g r trivial).2 (RpAll.ext x al)
  | _, _, .frl g z r al => .frl (x _ _ g r trivial).1 z (x _ _ g r trivial).2 (RpAll.ext x al)
  | _, _, .code g z r => .code (x _ _ g r trivial).1 z (x _ _ g r trivial).2
  | _, _, .wrt w al => .wrt w (RpAll.ext x al)
theorem RpAll.ext {H H' : Hp} {G G' : GH} {Z : ZS} (x : Ext H G H' G') : ∀ {vs : List V} {ds : List D}, RpAll K H G Z vs ds → RpAll K H' G' Z vs ds
  | _, _, .nil => .nil
  | _, _, .cons h t => .cons (Rp.ext x h) (RpAll.ext x t)
end

mutual
/-- other cells, other hidden ones: what is read is the same -/
theorem Rp.re {H : Hp} {G G' : GH} {Z Z' : ZS} (x : ∀ a, G a = none → ¬ Z a → (H a).isSome → G' a = none ∧ ¬ Z' a) : ∀ {v : V} {d : D}, Rp K H G Z v d → Rp K H G' Z' v d
  | _, _, .non => .non
  | _, _, .bl b => .bl b
  | _, _, .int i => .int i
  | _, _, .str s => .str s
  | _, _, .ref a => .ref a
  | _, _, .ty n => .ty n
  | _, _, .tup g z r al => .tup (x _ g z (by rw [r]; rfl)).1 (x _ g z (by rw [r]; rfl)).2 r (RpAll.re x al)
  | _, _, .lst g z r al => .lst (x _ g z (by rw [r]; rfl)).1 (x _ g z (by rw [r]; rfl)).2 r (RpAll.re x al)
  | _, _, .frz g z r al => .frz (x _ g z (by rw [r]; rfl)).1 (x _ g z (by rw [r]; rfl)).2 r (RpAll.re x al)
  | _, _, .frl g z r al => .frl (x _ g z (by rw [r]; rfl)).1 (x _ g z (by rw [r]; rfl)).2 r (RpAll.re x al)
  | _, _, .code g z r => .code (x _ g z (by rw [r]; rfl)).1 (x _ g z (by rw [r]; rfl)).2 r
  | _, _, .wrt w al => .wrt w (RpAll.re x al)
theorem RpAll.re {H : Hp} {G G' : GH} {Z Z' : ZS} (x : ∀ a, G a = none → ¬ Z a → (H a).isSome → G' a = none ∧ ¬ Z' a) : ∀ {vs : List V} {ds : List D}, RpAll K H G Z vs ds → RpAll K H G' Z' vs ds
  | _, _, .nil => .nil
  | _, _, .cons h t => .cons (Rp.re x h) (RpAll.re x t)
end

mutual
/-- one address written that is a cell or hidden: what is read is the same -/
theorem Rp.wr {H : Hp} {G G' : GH} {Z : ZS} {c : Addr} {ho : HO} (hc : G c ≠ none ∨ Z c) (hG : ∀ a, a ≠ c → G a = none → G' a = none) : ∀ {v : V} {d : D}, Rp K H G Z v d → Rp K (upd H c ho) G' Z v d
  | _, _, .non => .non
  | _, _, .bl b => .bl b
  | _, _, .int i => .int i
  | _, _, .str s => .str s
  | _, _, .ref a => .ref a
  | _, _, .ty n => .ty n
  | _, _, .tup (a := a) g z r al =>
    have ne : a ≠ c := fun e => by subst e; exact hc.elim (fun q => q g) z
    .tup (hG a ne g) z ((upd_ne ne).trans r) (RpAll.wr hc hG al)
  | _, _, .lst (a := a) g z r al =>
    have ne : a ≠ c := fun e => by subst e; exact hc.elim (fun q => q g) z
    .lst (hG a ne g) z ((upd_ne ne).trans r) (RpAll.wr hc hG al)
  | _, _, .frz (a := a) g z r al =>
    have ne : a ≠ c := fun e => by subst e; exact hc.elim (fun q => q g) z
    .frz (hG a ne g) z ((upd_ne ne).trans r) (RpAll.wr hc hG al)
  | _, _, .frl (a := a) g z r al =>
    have ne : a ≠ c := fun e => by subst e; exact hc.elim (fun q => q g) z
    .frl (hG a ne g) z ((upd_ne ne).trans r) (RpAll.wr hc hG al)
  | _, _, .code (a := a) g z r =>
    have ne : a ≠ c := fun e => by subst e; exact hc.elim (fun q => q g) z
    .code (hG a ne g) z ((upd_ne ne).trans r)
  | _, _, .wrt w al => .wrt w (RpAll.wr hc hG al)
theorem RpAll.wr {H : Hp} {G G' : GH} {Z : ZS} {c : Addr} {ho : HO} (hc : G c ≠ none ∨ Z c) (hG : ∀ a, a ≠ c → G a = none → G' a = none) : ∀ {vs : List V} {ds : List D}, RpAll K H G Z vs ds → RpAll K (upd H c ho) G' Z vs ds
  | _, _, .nil => .nil
  | _, _, .cons h t => .cons (Rp.wr hc hG h) (RpAll.wr hc hG t)
end

section
variable {H H' : Hp} {G G' : GH} {Z Z' : ZS}
theorem RpAll.length : ∀ {vs : List V} {ds : List D}, RpAll K H G Z vs ds → vs.length = ds.length
  | _, _, .nil => rfl
  | _, _, .cons _ t => by rw [List.length_cons, List.length_cons, RpAll.length t]
theorem RpAll.get : ∀ {vs : List V} {ds : List D} {i : Nat} {d : D}, RpAll K H G Z vs ds → ds[i]? = some d → ∃ v, vs[i]? = some v ∧ Rp K H G Z v d
  | _, _, _, _, .nil, e => by simp at e
  | _, _, 0, _, .cons r _, e => by simp at e; subst e; exact ⟨_, rfl, r⟩
  | _, _, i + 1, d, .cons _ t, e => by
    obtain ⟨u, h1, h2⟩ := RpAll.get (i := i) (d := d) t (by simpa using e)
    exact ⟨u, by simpa using h1, h2⟩
theorem RpAll.getV : ∀ {vs : List V} {ds : List D} {i : Nat} {v : V}, RpAll K H G Z vs ds → vs[i]? = some v → ∃ d, ds[i]? = some d ∧ Rp K H G Z v d
  | _, _, _, _, .nil, e => by simp at e
  | _, _, 0, _, .cons r _, e => by simp at e; subst e; exact ⟨_, rfl, r⟩
  | _, _, i + 1, d, .cons _ t, e => by
    obtain ⟨u, h1, h2⟩ := RpAll.getV (i := i) (v := d) t (by simpa using e)
    exact ⟨u, by simpa using h1, h2⟩
theorem RpAll.append : ∀ {vs ws : List V} {ds es : List D}, RpAll K H G Z vs ds → RpAll K H G Z ws es → RpAll K H G Z (vs ++ ws) (ds ++ es)
  | _, _, _, _, .nil, s => s
  | _, _, _, _, .cons r t, s => .cons r (RpAll.append t s)
theorem RpAll.take : ∀ {vs : List V} {ds : List D} (n : Nat), RpAll K H G Z vs ds → RpAll K H G Z (vs.take n) (ds.take n)
  | _, _, 0, _ => .nil
  | _, _, _ + 1, .nil => .nil
  | _, _, n + 1, .cons r t => .cons r (RpAll.take n t)
theorem RpAll.drop : ∀ {vs : List V} {ds : List D} (n : Nat), RpAll K H G Z vs ds → RpAll K H G Z (vs.drop n) (ds.drop n)
  | _, _, 0, r => r
  | _, _, _ + 1, .nil => .nil
  | _, _, n + 1, .cons _ t => RpAll.drop n t
theorem RpAll.set {v : V} {d : D} (r : Rp K H G Z v d) : ∀ {vs : List V} {ds : List D} (i : Nat), RpAll K H G Z vs ds → RpAll K H G Z (vs.set i v) (ds.set i d)
  | _, _, _, .nil => .nil
  | _, _, 0, .cons _ t => .cons r t
  | _, _, i + 1, .cons q t => .cons q (RpAll.set r i t)
theorem RpAll.rep {vs : List V} {ds : List D} (h : RpAll K H G Z vs ds) : ∀ k : Nat, RpAll K H G Z (List.replicate k vs).flatten (List.replicate k ds).flatten
  | 0 => .nil
  | k + 1 => by rw [List.replicate_succ, List.replicate_succ, List.flatten_cons, List.flatten_cons]; exact h.append (RpAll.rep h k)
theorem RpAll.erase : ∀ {vs : List V} {ds : List D} (i : Nat), RpAll K H G Z vs ds → RpAll K H G Z (vs.eraseIdx i) (ds.eraseIdx i)
  | _, _, _, .nil => .nil
  | _, _, 0, .cons _ t => t
  | _, _, i + 1, .cons q t => .cons q (RpAll.erase i t)

/-! ## cells -/
def PairR {κ : Type} (K : PySem.W.Frag) (H : Hp) (G : GH) (Z : ZS) : List (κ × V) → List (κ × D) → Prop
  | [], [] => True
  | p :: r, q :: s => p.1 = q.1 ∧ Rp K H G Z p.2 q.2 ∧ PairR K H G Z r s
  | _, _ => False
def GR (K : PySem.W.Frag) (H : Hp) (G : GH) (Z : ZS) : HO → GO → Prop
  | .lst vs, .lst ds => RpAll K H G Z vs ds
  | .dK kvs, .dK kds => PairR K H G Z kvs kds
  | .dT kvs, .dT kds => PairR K H G Z kvs kds
  | .tbl ps, .tb q => TriplesOk ps.toList ∧ ∀ (pos : Pos) (cv : Value), codeAmong pos ps.toList = some cv → ∃ c, cv = .ref c ∧ Rp K H G Z (.ref c) (.code q)
  | .frz o' u, .lkK o us kds => o' = o ∧ u = .dK us ∧ PairR K H G Z us kds
  | .frz o' u, .lkT o us kds => o' = o ∧ u = .dT us ∧ PairR K H G Z us kds
  | .ins C _ fs, .ins n gs => PySem.W.nsIn K mainGlobals n = some (some (.ref C)) ∧ PairR K H G Z fs gs
  | _, _ => False
theorem PairR.map {κ : Type} {f : ∀ {v : V} {d : D}, Rp K H G Z v d → Rp K H' G' Z' v d} : ∀ {kvs : List (κ × V)} {kds : List (κ × D)}, PairR K H G Z kvs kds → PairR K H' G' Z' kvs kds
  | [], [], _ => trivial
  | _ :: _, _ :: _, ⟨e, r, t⟩ => ⟨e, f r, PairR.map (f := f) t⟩
  | [], _ :: _, h => h.elim
  | _ :: _, [], h => h.elim
theorem RpAll.map {f : ∀ {v : V} {d : D}, Rp K H G Z v d → Rp K H' G' Z' v d} : ∀ {vs : List V} {ds : List D}, RpAll K H G Z vs ds → RpAll K H' G' Z' vs ds
  | _, _, .nil => .nil
  | _, _, .cons h t => .cons (f h) (RpAll.map (f := f) t)
theorem GR.map {f : ∀ {v : V} {d : D}, Rp K H G Z v d → Rp K H' G' Z' v d} {ho : HO} {o : GO} (h : GR K H G Z ho o) : GR K H' G' Z' ho o := by
  cases o with
  | lst ds => cases ho <;> first | exact RpAll.map (f := f) h | exact h.elim
  | dK ds => cases ho <;> first | exact PairR.map (f := f) h | exact h.elim
  | dT ds => cases ho <;> first | exact PairR.map (f := f) h | exact h.elim
  | tb q => cases ho <;> first | exact ⟨h.1, fun pos cv e => let ⟨c, e1, r⟩ := h.2 pos cv e; ⟨c, e1, f r⟩⟩ | exact h.elim
  | ins n fs => cases ho <;> first | exact ⟨h.1, PairR.map (f := f) h.2⟩ | exact h.elim
  | lkK o us ds => cases ho <;> first | exact ⟨h.1, h.2.1, PairR.map (f := f) h.2.2⟩ | exact h.elim
  | lkT o us ds => cases ho <;> first | exact ⟨h.1, h.2.1, PairR.map (f := f) h.2.2⟩ | exact h.elim
/-- the cells are held; the hidden ones are there -/
structure HRep (K : PySem.W.Frag) (H : Hp) (G : GH) (Z : ZS) : Prop where
  cell : ∀ c o, G c = some o → ∃ ho, H c = some ho ∧ GR K H G Z ho o
  hid : ∀ c, Z c → G c = none ∧ (H c).isSome
  nco : ∀ c, Z c → (∀ q, H c ≠ some (LamX.CodeO c q)) ∧ (∀ ps, H c ≠ some (.tbl ps)) ∧ ∀ vs, H c ≠ some (.tup vs)
theorem HRep.noneAt (h : HRep K H G Z) {p : Addr} (n : H p = none) : G p = none ∧ ¬ Z p := by
  constructor
  · cases e : G p with
    | none => rfl
    | some o => obtain ⟨ho, q, _⟩ := h.cell p o e; rw [n] at q; cases q
  · intro z; have := (h.hid p z).2; rw [n] at this; cases this
theorem ext_new (h : HRep K H G Z) {p : Addr} {o : HO} (n : H p = none) : Ext H G (upd H p o) G := fun a u g e _ => ⟨g, by rw [upd_ne (ne_of_none e n)]; exact e⟩
theorem ext_newC (h : HRep K H G Z) {p : Addr} {o : HO} {g : GO} (n : H p = none) : Ext H G (upd H p o) (gup G p g) := fun a u q e _ => ⟨by rw [gup_ne (ne_of_none e n)]; exact q, by rw [upd_ne (ne_of_none e n)]; exact e⟩
/-- a new object that is none of the cells -/
theorem HRep.new (h : HRep K H G Z) {p : Addr} {o : HO} (n : H p = none) : HRep K (upd H p o) G Z :=
  ⟨fun c u e => by
    obtain ⟨ho, q, r⟩ := h.cell c u e
    exact ⟨ho, by rw [upd_ne (ne_of_none q n)]; exact q, GR.map (f := Rp.ext (ext_new h n)) r⟩,
   fun c z => ⟨(h.hid c z).1, by
    obtain ⟨g, s⟩ := h.hid c z
    have ne : c ≠ p := fun e => by subst e; rw [n] at s; cases s
    rw [upd_ne ne]; exact s⟩,
   fun c z => by
    obtain ⟨g, s⟩ := h.hid c z
    have ne : c ≠ p := fun e => by subst e; rw [n] at s; cases s
    rw [upd_ne ne]; exact h.nco c z⟩
/-- a new cell -/
theorem HRep.newC (h : HRep K H G Z) {p : Addr} {o : HO} {g : GO} (n : H p = none) (r : GR K (upd H p o) (gup G p g) Z o g) : HRep K (upd H p o) (gup G p g) Z :=
  ⟨fun c u e => by
    by_cases hc : c = p
    · subst hc; rw [gup_same] at e; cases e; exact ⟨o, upd_same, r⟩
    · rw [gup_ne hc] at e
      obtain ⟨ho, q, r⟩ := h.cell c u e
      exact ⟨ho, by rw [upd_ne hc]; exact q, GR.map (f := Rp.ext (ext_newC h n)) r⟩,
   fun c z => by
    obtain ⟨g1, s⟩ := h.hid c z
    have ne : c ≠ p := fun e => by subst e; rw [n] at s; cases s
    rw [gup_ne ne, upd_ne ne]; exact ⟨g1, s⟩,
   fun c z => by
    obtain ⟨g, s⟩ := h.hid c z
    have ne : c ≠ p := fun e => by subst e; rw [n] at s; cases s
    rw [upd_ne ne]; exact h.nco c z⟩
theorem ext_put {c : Addr} {o : HO} {g g' : GO} (e : G c = some g') : Ext H G (upd H c o) (gup G c g) := fun a u q r _ => by
  have ne : a ≠ c := fun z => by subst z; rw [q] at e; cases e
  rw [gup_ne ne, upd_ne ne]; exact ⟨q, r⟩
/-- a cell is written -/
theorem HRep.put (h : HRep K H G Z) {c : Addr} {o : HO} {g g' : GO} (e : G c = some g') (r : GR K (upd H c o) (gup G c g) Z o g) : HRep K (upd H c o) (gup G c g) Z :=
  ⟨fun b u q => by
    by_cases hc : b = c
    · subst hc; rw [gup_same] at q; cases q; exact ⟨o, upd_same, r⟩
    · rw [gup_ne hc] at q
      obtain ⟨ho, z, r⟩ := h.cell b u q
      exact ⟨ho, by rw [upd_ne hc]; exact z, GR.map (f := Rp.ext (ext_put e)) r⟩,
   fun b z => by
    obtain ⟨g1, s⟩ := h.hid b z
    have ne : b ≠ c := fun w => by subst w; rw [g1] at e; cases e
    rw [gup_ne ne, upd_ne ne]; exact ⟨g1, s⟩,
   fun b z => by
    obtain ⟨g1, s⟩ := h.hid b z
    have ne : b ≠ c := fun w => by subst w; rw [g1] at e; cases e
    rw [upd_ne ne]; exact h.nco b z⟩
end
end TK

namespace TK
open PySem PySem.Spec L2
variable {K : PySem.W.Frag}

/-! ## slots -/
abbrev GEnv := List (Option D)
def EnvR (K : PySem.W.Frag) (H : Hp) (G : GH) (Z : ZS) : St → GEnv → Prop
  | [], [] => True
  | v :: r, d :: s => (∀ d', d = some d' → ∃ v', v = some v' ∧ Rp K H G Z v' d') ∧ EnvR K H G Z r s
  | _, _ => False
section
variable {H H' : Hp} {G G' : GH} {Z Z' : ZS}
theorem EnvR.map {f : ∀ {v : V} {d : D}, Rp K H G Z v d → Rp K H' G' Z' v d} : ∀ {σ : St} {Γ : GEnv}, EnvR K H G Z σ Γ → EnvR K H' G' Z' σ Γ
  | [], [], _ => trivial
  | _ :: _, _ :: _, ⟨h, t⟩ => ⟨fun d e => let ⟨v, q, r⟩ := h d e; ⟨v, q, f r⟩, EnvR.map (f := f) t⟩
  | [], _ :: _, h => h.elim
  | _ :: _, [], h => h.elim
theorem EnvR.get : ∀ {σ : St} {Γ : GEnv} {i : Nat} {d : D}, EnvR K H G Z σ Γ → Γ[i]? = some (some d) → ∃ v, σ[i]? = some (some v) ∧ Rp K H G Z v d
  | [], [], _, _, _, e => by simp at e
  | _ :: _, _ :: _, 0, d, ⟨h, _⟩, e => by
    obtain ⟨v, q, r⟩ := h d (by simpa using e)
    exact ⟨v, by simp [q], r⟩
  | _ :: _, _ :: _, i + 1, d, ⟨_, t⟩, e => by
    obtain ⟨v, q, r⟩ := EnvR.get (i := i) (d := d) t (by simpa using e)
    exact ⟨v, by simpa using q, r⟩
  | [], _ :: _, _, _, h, _ => h.elim
  | _ :: _, [], _, _, h, _ => h.elim
theorem EnvR.set {v : V} {d : D} (r : Rp K H G Z v d) : ∀ {σ : St} {Γ : GEnv} (i : Nat), EnvR K H G Z σ Γ → EnvR K H G Z (σ.set i (some v)) (Γ.set i (some d))
  | [], [], _, _ => trivial
  | _ :: _, _ :: _, 0, ⟨_, t⟩ => ⟨fun d' e => ⟨v, rfl, by cases e; exact r⟩, t⟩
  | _ :: _, _ :: _, i + 1, ⟨h, t⟩ => ⟨h, EnvR.set r i t⟩
  | [], _ :: _, _, h => h.elim
  | _ :: _, [], _, h => h.elim
theorem EnvR.setN : ∀ {σ : St} {Γ : GEnv} (i : Nat) (o : Option V), EnvR K H G Z σ Γ → EnvR K H G Z (σ.set i o) (Γ.set i none)
  | [], [], _, _, _ => trivial
  | _ :: _, _ :: _, 0, _, ⟨_, t⟩ => ⟨fun d' e => (nomatch e), t⟩
  | _ :: _, _ :: _, i + 1, o, ⟨h, t⟩ => ⟨h, EnvR.setN i o t⟩
  | [], _ :: _, _, _, h => h.elim
  | _ :: _, [], _, _, h => h.elim
def wipeD (Γ : GEnv) : List Nat → GEnv
  | [] => Γ
  | v :: vs => (wipeD Γ vs).set v none
theorem EnvR.wipe {σ : St} {Γ : GEnv} (h : EnvR K H G Z σ Γ) : ∀ vs : List Nat, EnvR K H G Z (L2.wipe σ vs) (wipeD Γ vs)
  | [] => h
  | v :: vs => (EnvR.wipe h vs).setN v none
theorem EnvR.start : ∀ {vs : List V} {ds : List D} (n : Nat), RpAll K H G Z vs ds → EnvR K H G Z (vs.map some ++ List.replicate n none) (ds.map some ++ List.replicate n none)
  | _, _, 0, .nil => trivial
  | _, _, n + 1, .nil => ⟨fun d e => (nomatch e), EnvR.start (vs := []) (ds := []) n .nil⟩
  | _, _, n, .cons h t => ⟨fun d e => ⟨_, rfl, by cases e; exact h⟩, EnvR.start n t⟩
end

structure SR (K : PySem.W.Frag) (Γ : GEnv) (G : GH) (Z : ZS) (σ : St) (H : Hp) : Prop where
  env : EnvR K H G Z σ Γ
  rep : HRep K H G Z
theorem SR.ext {Γ : GEnv} {G G' : GH} {Z : ZS} {σ : St} {H H' : Hp} (S : SR K Γ G Z σ H) (x : Ext H G H' G') (r : HRep K H' G' Z) : SR K Γ G' Z σ H' := ⟨EnvR.map (f := Rp.ext x) S.env, r⟩

/-! ## readings over data -/
/-- b: A, else B -/
def cnd (b : Bool) (A B : Prop) : Prop := match b with | true => A | false => B
theorem cnd_t {A B : Prop} : cnd true A B = A := rfl
theorem cnd_f {A B : Prop} : cnd false A B = B := rfl
theorem cnd_not {b : Bool} {A B : Prop} : cnd (!b) A B = cnd b B A := by cases b <;> rfl
theorem cnd_p {p : Prop} [Decidable p] {A B : Prop} (h : p) : cnd (decide p) A B = A := by rw [decide_eq_true h]; rfl
theorem cnd_n {p : Prop} [Decidable p] {A B : Prop} (h : ¬ p) : cnd (decide p) A B = B := by rw [decide_eq_false h]; rfl
theorem cndI {b : Bool} {A B : Prop} (h1 : b = true → A) (h2 : b = false → B) : cnd b A B := by
  cases b with
  | true => exact h1 rfl
  | false => exact h2 rfl
theorem cndP {p : Prop} [Decidable p] {A B : Prop} (h1 : p → A) (h2 : ¬ p → B) : cnd (decide p) A B := cndI (fun e => h1 (of_decide_eq_true e)) fun e => h2 (of_decide_eq_false e)
abbrev DK := D → GH → Prop
abbrev DE := GEnv → GH → DK → Prop
abbrev DT := GEnv → GH → (Bool → GH → Prop) → Prop
abbrev DA := GEnv → GH → (List D → GH → Prop) → Prop
/-- what is wished of an exception: its class's name, its fields -/
abbrev XD := Str → Option (List (Str × D)) → GH → Prop
def XRep (K : PySem.W.Frag) (H : Hp) (G : GH) (Z : ZS) : Option Addr → Option (List (Str × D)) → Prop
  | none, none => True
  | some d, some gs => ∃ fs, H d = some (.xd fs) ∧ G d = none ∧ ¬ Z d ∧ PairR K H G Z fs gs
  | _, _ => False
/-- the class of that name -/
def ClsAt (K : PySem.W.Frag) (n : Str) (C : Addr) : Prop := PySem.W.nsIn K mainGlobals n = some (some (.ref C))
/-- what a context asks of an exception at these slots, this heap -/
def Wst (X : Cx) : WX := fun cls d σ H => ∀ u s', XE X (fun c' d' σ' H' => c' = cls ∧ d' = d ∧ σ' = σ ∧ H' = H) u s' → X.xe u s'
theorem takes_st {X : Cx} : Takes X (Wst X) := fun u s' ⟨a, B, sI, pins, σ, H, cls, d, e, I, nb, up, sky, na, os, ag, w⟩ => w u s' ⟨a, B, sI, pins, σ, H, cls, d, e, I, nb, up, sky, na, os, ag, rfl, rfl, rfl, rfl⟩
theorem Wst.of {X : Cx} {W : WX} (tk : Takes X W) {cls : Value} {d : Option Addr} {σ : St} {H : Hp} (h : W cls d σ H) : Wst X cls d σ H := fun u s' ⟨a, B, sI, pins, σ', H', cls', d', e, I, nb, up, sky, na, os, ag, e1, e2, e3, e4⟩ => tk u s' ⟨a, B, sI, pins, σ', H', cls', d', e, I, nb, up, sky, na, os, ag, by subst e1 e2 e3 e4; exact h⟩
structure DEnds where
  nx : GEnv → GH → Prop
  rt : DK
  bk : GEnv → GH → Prop := fun _ _ => False
  ct : GEnv → GH → Prop := fun _ _ => False
  ex : XD := fun _ _ _ => False
abbrev DS := DEnds → GEnv → GH → Prop

/-- what is wanted of a value, from what is wanted of data -/
def Cont (K : PySem.W.Frag) (H : Hp) (G : GH) (Z : ZS) (Q0 : DK) (Q : VK) : Prop := ∀ d G' v H', Q0 d G' → Rp K H' G' Z v d → HRep K H' G' Z → Ext H G H' G' → Q v H'
theorem Cont.mono {H H1 : Hp} {G G1 : GH} {Z : ZS} {Q0 : DK} {Q : VK} (k : Cont K H G Z Q0 Q) (x : Ext H G H1 G1) : Cont K H1 G1 Z Q0 Q := fun d G' v H' q r h y => k d G' v H' q r h (x.trans y)
def liftE (K : PySem.W.Frag) (T : DE) : TE := fun σ H Q => ∃ Γ G Z Q0, SR K Γ G Z σ H ∧ T Γ G Q0 ∧ Cont K H G Z Q0 Q
def liftT (K : PySem.W.Frag) (T : DT) : TT := fun σ H Q => ∃ Γ G Z Q0, SR K Γ G Z σ H ∧ T Γ G Q0 ∧ ∀ b G' H', Q0 b G' → HRep K H' G' Z → Ext H G H' G' → Q b H'
def liftA (K : PySem.W.Frag) (T : DA) : TA := fun σ H Q => ∃ Γ G Z Q0, SR K Γ G Z σ H ∧ T Γ G Q0 ∧ ∀ ds G' vs H', Q0 ds G' → RpAll K H' G' Z vs ds → HRep K H' G' Z → Ext H G H' G' → Q vs H'
structure EOk (X : Cx) (H : Hp) (G : GH) (Z : ZS) (D0 : DEnds) (D : Ends) : Prop where
  nx : ∀ Γ' G' σ' H', D0.nx Γ' G' → SR X.K Γ' G' Z σ' H' → Ext H G H' G' → D.nx σ' H'
  rt : Cont X.K H G Z D0.rt D.rt
  bk : ∀ Γ' G' σ' H', D0.bk Γ' G' → SR X.K Γ' G' Z σ' H' → Ext H G H' G' → D.bk σ' H'
  ct : ∀ Γ' G' σ' H', D0.ct Γ' G' → SR X.K Γ' G' Z σ' H' → Ext H G H' G' → D.ct σ' H'
  ex : ∀ n gs C d G' σ' H', D0.ex n gs G' → ClsAt X.K n C → XRep X.K H' G' Z d gs → HRep X.K H' G' Z → Ext H G H' G' → Wst X (.ref C) d σ' H'
theorem EOk.mono {X : Cx} {H H1 : Hp} {G G1 : GH} {Z : ZS} {D0 : DEnds} {D : Ends} (k : EOk X H G Z D0 D) (x : Ext H G H1 G1) : EOk X H1 G1 Z D0 D :=
  ⟨fun _ _ _ _ q s y => k.nx _ _ _ _ q s (x.trans y), k.rt.mono x, fun _ _ _ _ q s y => k.bk _ _ _ _ q s (x.trans y), fun _ _ _ _ q s y => k.ct _ _ _ _ q s (x.trans y), fun n gs C d G' σ' H' q c r R y => k.ex n gs C d G' σ' H' q c r R (x.trans y)⟩
def liftS (X : Cx) (T : DS) : TS := fun D σ H => ∃ Γ G Z D0, SR X.K Γ G Z σ H ∧ T D0 Γ G ∧ EOk X H G Z D0 D

section
variable {X : Cx}
theorem pe_imp {e : Expr} {t t' : TE} (h : PE X e t) (i : ∀ σ H Q, t' σ H Q → t σ H Q) : PE X e t' := ⟨fun pins s σ H Q I q => h.run pins s σ H Q I (i σ H Q q)⟩
theorem pt_imp {e : Expr} {t t' : TT} (h : PT X e t) (i : ∀ σ H Q, t' σ H Q → t σ H Q) : PT X e t' := ⟨fun pins s σ H Q I q => h.run pins s σ H Q I (i σ H Q q)⟩
theorem pw_imp {e : Expr} {t t' : TT} (h : PW X e t) (i : ∀ σ H Q, t' σ H Q → t σ H Q) : PW X e t' := ⟨fun wh pins s σ H Q I q => h.run wh pins s σ H Q I (i σ H Q q)⟩
theorem pa_imp {es : List Expr} {t t' : TA} (h : PA X es t) (i : ∀ σ H Q, t' σ H Q → t σ H Q) : PA X es t' := ⟨fun pos pins s σ H Q I q => h.run pos pins s σ H Q I (i σ H Q q)⟩
theorem ps_imp {st : Stmt} {t t' : TS} (h : PS X st t) (i : ∀ D σ H, t' D σ H → t D σ H) : PS X st t' := ⟨fun pins s σ H D I q => h.run pins s σ H D I (i D σ H q)⟩
theorem pss_imp {st : List Stmt} {t t' : TS} (h : PSs X st t) (i : ∀ D σ H, t' D σ H → t D σ H) : PSs X st t' := ⟨fun pins s σ H D I q => h.run pins s σ H D I (i D σ H q)⟩
theorem po_imp {e : Option Expr} {t t' : TO} (h : PO X e t) (i : ∀ σ H Q, t' σ H Q → t σ H Q) : PO X e t' := ⟨fun pins s σ H Q I q => h.run pins s σ H Q I (i σ H Q q)⟩
abbrev PD (X : Cx) (e : Expr) (T : DE) : Prop := PE X e (liftE X.K T)
abbrev PDT (X : Cx) (e : Expr) (T : DT) : Prop := PT X e (liftT X.K T)
abbrev PDW (X : Cx) (e : Expr) (T : DT) : Prop := PW X e (liftT X.K T)
abbrev PDA (X : Cx) (es : List Expr) (T : DA) : Prop := PA X es (liftA X.K T)
abbrev PDS (X : Cx) (st : Stmt) (T : DS) : Prop := PS X st (liftS X T)
abbrev PDSs (X : Cx) (st : List Stmt) (T : DS) : Prop := PSs X st (liftS X T)

/-! ## names, constants -/
def dVar (i : Nat) : DE := fun Γ G Q => match Γ[i]? with | some (some d) => Q d G | _ => False
def dC (d : D) : DE := fun _ G Q => Q d G
theorem pd_of_var {e : Expr} {i : Nat} (h : PE X e (tVar i)) : PD X e (dVar i) := pe_imp h fun σ H Q ⟨Γ, G, Z, Q0, S, h, k⟩ => by
  unfold dVar at h
  split at h
  · rename_i d e
    obtain ⟨v, q, r⟩ := S.env.get e
    exact ⟨v, q, k d G v H h r S.rep .refl⟩
  · exact h.elim
theorem pdv (i : Nat) {x : Str} {pos : Pos} (hN : X.N[i]? = some x := by rfl) (hv : Vis X.env.scope x := by first | exact Or.inl rfl | exact Or.inr (Or.inl rfl) | exact Or.inr (Or.inr rfl)) (hd : (x == ("__debug__" : Str)) = false := by decide)
    (hcd : (x == ("__classdict__" : Str)) = false := by decide) : PD X (.Name x pos) (dVar i) := pd_of_var (pe_var hN hv hd hcd)
theorem pd_of_const {e : Expr} {v : V} {d : D} (h : PE X e (tC v)) (r : ∀ H G Z, Rp X.K H G Z v d) : PD X e (dC d) := pe_imp h fun σ H Q ⟨Γ, G, Z, Q0, S, h, k⟩ => k d G v H h (r _ _ _) S.rep .refl
theorem pd_int {i j pos} : PD X (.Constant (.int i) j pos) (dC (.int i)) := pd_of_const pe_int fun _ _ _ => .int i
theorem pd_bl {b j pos} : PD X (.Constant (.bool b) j pos) (dC (.bl b)) := pd_of_const pe_bl fun _ _ _ => .bl b
theorem pd_non {j pos} : PD X (.Constant .none j pos) (dC .non) := pd_of_const pe_non fun _ _ _ => .non
theorem pd_str {x j pos} : PD X (.Constant (.str x) j pos) (dC (.str x)) := pd_of_const pe_str fun _ _ _ => .str x
theorem pd_gint {x : Str} {i : Int} {u : Value} {pos : Pos} (hg : Gl X x) (hm : X.mg x = some u) (r : RelV (.int i) u) (hd : (x == ("__debug__" : Str)) = false := by decide) : PD X (.Name x pos) (dC (.int i)) :=
  pd_of_const (pe_glob hg hm r hd) fun _ _ _ => .int i
theorem pd_gstr {x : Str} {i : Str} {u : Value} {pos : Pos} (hg : Gl X x) (hm : X.mg x = some u) (r : RelV (.str i) u) (hd : (x == ("__debug__" : Str)) = false := by decide) : PD X (.Name x pos) (dC (.str i)) :=
  pd_of_const (pe_glob hg hm r hd) fun _ _ _ => .str i
theorem pd_gref {x : Str} {a : Addr} {pos : Pos} (hg : Gl X x) (hm : X.mg x = some (.ref a)) (hd : (x == ("__debug__" : Str)) = false := by decide) : PD X (.Name x pos) (dC (.ref a)) :=
  pd_of_const (v := .ref a) (pe_glob hg hm rfl hd) fun _ _ _ => .ref a
theorem pd_ty {x : Str} {n : String} {pos : Pos} (hg : Gl X x) (hm : X.mg x = none) (hv : bootBuiltins x = some (.type n)) (hn : x ≠ "__name__" := by decide) (hd : (x == ("__debug__" : Str)) = false := by decide) : PD X (.Name x pos) (dC (.ty n)) :=
  pd_of_const (v := .ty n) (pe_bltn hg hm hv rfl hn hd) fun _ _ _ => .ty n

/-! ## argument lists -/
def dNil : DA := fun _ G Q => Q [] G
def dCons (t : DE) (u : DA) : DA := fun Γ G Q => t Γ G fun d G1 => u Γ G1 fun ds G2 => Q (d :: ds) G2
theorem pda_nil : PDA X [] dNil := pa_imp pa_nil fun σ H Q ⟨Γ, G, Z, Q0, S, h, k⟩ => k [] G [] H h .nil S.rep .refl
theorem pda_cons {e : Expr} {es : List Expr} {T : DE} {U : DA} (ha : PD X e T) (hr : PDA X es U) (hs : starEach (e :: es) X.env = (false, eval e X.env) :: starEach es X.env := by rfl) : PDA X (e :: es) (dCons T U) :=
  pa_imp (pa_cons ha hr hs) fun σ H Q ⟨Γ, G, Z, Q0, S, h, k⟩ =>
    ⟨Γ, G, Z, _, S, h, fun d G1 v H1 q r R x => ⟨Γ, G1, Z, _, S.ext x R, q, fun ds G2 vs H2 q2 r2 R2 x2 => k _ _ _ _ q2 (.cons (r.ext x2) r2) R2 (x.trans x2)⟩⟩

/-! ## operators -/
abbrev DR2 := D → D → GH → DK → Prop
def R2D (K : PySem.W.Frag) (r : R2) (r' : DR2) : Prop := ∀ {H : Hp} {G : GH} {Z : ZS} {x y : V} {a b : D} {Q0 : DK} {Q : VK}, HRep K H G Z → Rp K H G Z x a → Rp K H G Z y b → r' a b G Q0 → Cont K H G Z Q0 Q → r x y H Q
def dOp (r : DR2) (ta tb : DE) : DE := fun Γ G Q => ta Γ G fun x G1 => tb Γ G1 fun y G2 => r x y G2 Q
theorem op_lift {r : R2} {r' : DR2} {Ta Tb : DE} (hr : R2D X.K r r') {σ : St} {H : Hp} {Q : VK} (h : liftE X.K (dOp r' Ta Tb) σ H Q) : tOp r (liftE X.K Ta) (liftE X.K Tb) σ H Q := by
  obtain ⟨Γ, G, Z, Q0, S, h, k⟩ := h
  exact ⟨Γ, G, Z, _, S, h, fun x G1 v H1 q rx R x1 => ⟨Γ, G1, Z, _, S.ext x1 R, q, fun y G2 u H2 q2 ry R2 x2 => hr R2 (rx.ext x2) ry q2 (k.mono (x1.trans x2))⟩⟩
section
variable {a b : Expr} {Ta Tb : DE} {pos : Pos}
theorem pd_op {op : Operator} {r : R2} {r' : DR2} (ho : OpR X (binaryOp op) r) (hr : R2D X.K r r') (ha : PD X a Ta) (hb : PD X b Tb) : PD X (.BinOp a op b pos) (dOp r' Ta Tb) :=
  pe_imp (pe_op ho ha hb) fun _ _ _ h => op_lift hr h
theorem pd_cmp {op : CmpOp} {r : R2} {r' : DR2} (ho : OpR X (compareOp op) r) (hr : R2D X.K r r') (ha : PD X a Ta) (hb : PD X b Tb) (hm : behindInMarks op b = false := by first | exact nomark _ | rfl) : PD X (.Compare a [op] [b] pos) (dOp r' Ta Tb) :=
  pe_imp (pe_cmpR ho ha hb hm) fun _ _ _ h => op_lift hr h
/-- a value that is a bool, as a test -/
def dTest (t : DE) : DT := fun Γ G Q => t Γ G fun x G' => match x with | .bl k => Q k G' | _ => False
theorem pdt_cmp {op : CmpOp} {r : R2} {r' : DR2} (ho : OpR X (compareOp op) r) (hr : R2D X.K r r') (ha : PD X a Ta) (hb : PD X b Tb) (hm : behindInMarks op b = false := by first | exact nomark _ | rfl) : PDT X (.Compare a [op] [b] pos) (dTest (dOp r' Ta Tb)) :=
  pt_imp (pt_cmpR ho ha hb hm) fun σ H Q ⟨Γ, G, Z, Q0, S, h, k⟩ => op_lift hr ⟨Γ, G, Z, _, S, h, fun d G' v H' q r R x => by
    cases d <;> first | exact q.elim | skip
    cases r
    exact ⟨_, rfl, k _ _ _ q R x⟩⟩
theorem pdt_val {e : Expr} {T : DE} (h : PD X e T) (he : ∀ whole, isTrue e X.env whole = (do let v ← whole; standAt e.pos; holding [v] (truthy v)) := by intro _; rfl) : PDT X e (dTest T) :=
  pt_imp (pt_val h he) fun σ H Q ⟨Γ, G, Z, Q0, S, h, k⟩ => ⟨Γ, G, Z, _, S, h, fun d G' v H' q r R x => by
    cases d <;> first | exact q.elim | skip
    cases r
    exact ⟨_, rfl, k _ _ _ q R x⟩⟩
def dChain (r r' : DR2) (ta tb tc : DE) : DE := fun Γ G Q => ta Γ G fun x G1 => tb Γ G1 fun y G2 => r x y G2 fun z G3 => match z with
  | .bl k => cnd k (tc Γ G3 fun u G4 => r' y u G4 Q) (Q (.bl false) G3)
  | _ => False
/-! ## and, or, not -/
def dAnd (t u : DT) : DT := fun Γ G Q => t Γ G fun c G1 => cnd c (u Γ G1 Q) (Q false G1)
def dOr (t u : DT) : DT := fun Γ G Q => t Γ G fun c G1 => cnd c (Q true G1) (u Γ G1 Q)
def dNot (t : DT) : DT := fun Γ G Q => t Γ G fun c G1 => Q (!c) G1
variable {Tt Tu : DT} {rest : List Expr}
theorem pdw_and1 (ha : PDT X a Tt) : PDW X (.BoolOp .And [a] pos) Tt := pw_and1 ha
theorem pdw_or1 (ha : PDT X a Tt) : PDW X (.BoolOp .Or [a] pos) Tt := pw_or1 ha
theorem pdw_and (ha : PDT X a Tt) (hb : PDW X (.BoolOp .And (b :: rest) pos) Tu) : PDW X (.BoolOp .And (a :: b :: rest) pos) (dAnd Tt Tu) :=
  pw_imp (pw_and ha hb) fun σ H Q ⟨Γ, G, Z, Q0, S, h, k⟩ => ⟨Γ, G, Z, _, S, h, fun c G1 H1 q R x => by
    cases c with
    | true => rw [if_pos rfl]; exact ⟨Γ, G1, Z, _, S.ext x R, q, fun b G' H' q R' x' => k b G' H' q R' (x.trans x')⟩
    | false => rw [if_neg Bool.false_ne_true]; exact k false G1 H1 q R x⟩
theorem pdw_or (ha : PDT X a Tt) (hb : PDW X (.BoolOp .Or (b :: rest) pos) Tu) : PDW X (.BoolOp .Or (a :: b :: rest) pos) (dOr Tt Tu) :=
  pw_imp (pw_or ha hb) fun σ H Q ⟨Γ, G, Z, Q0, S, h, k⟩ => ⟨Γ, G, Z, _, S, h, fun c G1 H1 q R x => by
    cases c with
    | false => rw [if_neg Bool.false_ne_true]; exact ⟨Γ, G1, Z, _, S.ext x R, q, fun b G' H' q R' x' => k b G' H' q R' (x.trans x')⟩
    | true => rw [if_pos rfl]; exact k true G1 H1 q R x⟩
theorem pdt_not (ha : PDT X a Tt) : PDT X (.UnaryOp .Not a pos) (dNot Tt) :=
  pt_imp (pt_not ha) fun σ H Q ⟨Γ, G, Z, Q0, S, h, k⟩ => ⟨Γ, G, Z, _, S, h, fun c G1 H1 q R x => k _ G1 H1 q R x⟩
def dAndV (ta tb : DE) : DE := fun Γ G Q => ta Γ G fun x G1 => match x with | .bl c => cnd c (tb Γ G1 Q) (Q (.bl false) G1) | _ => False
def dOrV (ta tb : DE) : DE := fun Γ G Q => ta Γ G fun x G1 => match x with | .bl c => cnd c (Q (.bl true) G1) (tb Γ G1 Q) | _ => False
def dNotV (ta : DE) : DE := fun Γ G Q => ta Γ G fun x G1 => match x with | .bl c => Q (.bl (!c)) G1 | _ => False
theorem pd_one {op} {T : DE} (h : PD X a T) : PD X (.BoolOp op [a] pos) T := pe_one h
theorem pd_and (ha : PD X a Ta) (hb : PD X (.BoolOp .And (b :: rest) pos) Tb) : PD X (.BoolOp .And (a :: b :: rest) pos) (dAndV Ta Tb) :=
  pe_imp (pe_and ha hb) fun σ H Q ⟨Γ, G, Z, Q0, S, h, k⟩ => ⟨Γ, G, Z, _, S, h, fun d G1 v H1 q r R x => by
    cases d <;> first | exact q.elim | skip
    rename_i c
    cases r
    refine ⟨c, rfl, ?_⟩
    cases c with
    | true => rw [if_pos rfl]; exact ⟨Γ, G1, Z, _, S.ext x R, q, k.mono x⟩
    | false => rw [if_neg Bool.false_ne_true]; exact k _ G1 _ H1 q (.bl _) R x⟩
theorem pd_or (ha : PD X a Ta) (hb : PD X (.BoolOp .Or (b :: rest) pos) Tb) : PD X (.BoolOp .Or (a :: b :: rest) pos) (dOrV Ta Tb) :=
  pe_imp (pe_or ha hb) fun σ H Q ⟨Γ, G, Z, Q0, S, h, k⟩ => ⟨Γ, G, Z, _, S, h, fun d G1 v H1 q r R x => by
    cases d <;> first | exact q.elim | skip
    rename_i c
    cases r
    refine ⟨c, rfl, ?_⟩
    cases c with
    | true => rw [if_pos rfl]; exact k _ G1 _ H1 q (.bl _) R x
    | false => rw [if_neg Bool.false_ne_true]; exact ⟨Γ, G1, Z, _, S.ext x R, q, k.mono x⟩⟩
theorem pd_not (ha : PD X a Ta) : PD X (.UnaryOp .Not a pos) (dNotV Ta) :=
  pe_imp (pe_not ha) fun σ H Q ⟨Γ, G, Z, Q0, S, h, k⟩ => ⟨Γ, G, Z, _, S, h, fun d G1 v H1 q r R x => by
    cases d <;> first | exact q.elim | skip
    cases r
    exact ⟨_, rfl, k _ G1 _ H1 q (.bl _) R x⟩⟩
def dIf (t : DT) (ta tb : DE) : DE := fun Γ G Q => t Γ G fun c G1 => cnd c (ta Γ G1 Q) (tb Γ G1 Q)
theorem pd_if {c : Expr} (hc : PDT X c Tt) (ha : PD X a Ta) (hb : PD X b Tb) : PD X (.IfExp c a b pos) (dIf Tt Ta Tb) :=
  pe_imp (pe_ifExp hc ha hb) fun σ H Q ⟨Γ, G, Z, Q0, S, h, k⟩ => ⟨Γ, G, Z, _, S, h, fun c G1 H1 q R x => by
    cases c with
    | true => rw [if_pos rfl]; exact ⟨Γ, G1, Z, _, S.ext x R, q, k.mono x⟩
    | false => rw [if_neg Bool.false_ne_true]; exact ⟨Γ, G1, Z, _, S.ext x R, q, k.mono x⟩⟩
end

/-! ## statements -/
def dNext : DS := fun D Γ G => D.nx Γ G
def dSeq (t u : DS) : DS := fun D Γ G => t { D with nx := u D } Γ G
theorem pdss_nil : PDSs X [] dNext := pss_imp pss_nil fun D σ H ⟨Γ, G, Z, D0, S, h, k⟩ => k.nx Γ G σ H h S .refl
theorem pdss_cons {st : Stmt} {rest : List Stmt} {T U : DS} (h1 : PDS X st T) (h2 : PDSs X rest U) : PDSs X (st :: rest) (dSeq T U) :=
  pss_imp (pss_cons h1 h2) fun D σ H ⟨Γ, G, Z, D0, S, h, k⟩ => ⟨Γ, G, Z, { D0 with nx := U D0 }, S, h,
    ⟨fun Γ' G' σ' H' q S' x => ⟨Γ', G', Z, D0, S', q, k.mono x⟩, k.rt, k.bk, k.ct, k.ex⟩⟩
theorem pdss_one {st : Stmt} {T : DS} (h1 : PDS X st T) : PDSs X [st] T := pss_one h1
def dBreak : DS := fun D Γ G => D.bk Γ G
def dCont : DS := fun D Γ G => D.ct Γ G
theorem pds_pass {pos : Pos} : PDS X (.Pass pos) dNext := ps_imp ps_pass fun D σ H ⟨Γ, G, Z, D0, S, h, k⟩ => k.nx Γ G σ H h S .refl
theorem pds_break {pos : Pos} : PDS X (.Break pos) dBreak := ps_imp ps_break fun D σ H ⟨Γ, G, Z, D0, S, h, k⟩ => k.bk Γ G σ H h S .refl
theorem pds_continue {pos : Pos} : PDS X (.Continue pos) dCont := ps_imp ps_continue fun D σ H ⟨Γ, G, Z, D0, S, h, k⟩ => k.ct Γ G σ H h S .refl
def dNever : DS := fun _ _ _ => False
theorem pds_never {st : Stmt} : PDS X st dNever := ⟨fun _ _ _ _ _ _ h => by obtain ⟨_, _, _, _, _, h, _⟩ := h; exact h.elim⟩
theorem pdss_never {sts : List Stmt} : PDSs X sts dNever := ⟨fun _ _ _ _ _ _ h => by obtain ⟨_, _, _, _, _, h, _⟩ := h; exact h.elim⟩
def dDrop (te : DE) : DS := fun D Γ G => te Γ G fun _ G1 => D.nx Γ G1
theorem pds_expr {e : Expr} {T : DE} {pos : Pos} (he : PD X e T) (hs : swapsWith e none pos.line X.env = pure false := by rfl) : PDS X (.Expr e pos) (dDrop T) :=
  ps_imp (ps_expr he hs) fun D σ H ⟨Γ, G, Z, D0, S, h, k⟩ => ⟨Γ, G, Z, _, S, h, fun d G1 v H1 q r R x => k.nx Γ G1 σ H1 q (S.ext x R) x⟩
def dRet (te : DE) : DS := fun D Γ G => te Γ G D.rt
theorem pds_ret {e : Expr} {T : DE} {pos : Pos} (he : PD X e T) : PDS X (.Return (some e) pos) (dRet T) :=
  ps_imp (ps_ret he) fun D σ H ⟨Γ, G, Z, D0, S, h, k⟩ => ⟨Γ, G, Z, _, S, h, k.rt⟩
def dRetN : DS := fun D _ G => D.rt .non G
theorem pds_retN {pos : Pos} : PDS X (.Return none pos) dRetN := ps_imp ps_retN fun D σ H ⟨Γ, G, Z, D0, S, h, k⟩ => k.rt .non G .non H h .non S.rep .refl
def dIfS (c : DT) (t u : DS) : DS := fun D Γ G => c Γ G fun b G1 => cnd b (t D Γ G1) (u D Γ G1)
theorem pds_if {c : Expr} {a b : List Stmt} {Tc : DT} {T U : DS} {pos : Pos} (hc : PDT X c Tc) (ha : PDSs X a T) (hb : PDSs X b U) : PDS X (.If c a b pos) (dIfS Tc T U) :=
  ps_imp (ps_if hc ha hb) fun D σ H ⟨Γ, G, Z, D0, S, h, k⟩ => ⟨Γ, G, Z, _, S, h, fun c G1 H1 q R x => by
    cases c with
    | true => rw [if_pos rfl]; exact ⟨Γ, G1, Z, D0, S.ext x R, q, k.mono x⟩
    | false => rw [if_neg Bool.false_ne_true]; exact ⟨Γ, G1, Z, D0, S.ext x R, q, k.mono x⟩⟩

/-! ## targets; vs: the slots that may be stored to -/
abbrev DG := D → GEnv → GH → (GEnv → GH → Prop) → Prop
abbrev DGs := List D → GEnv → GH → (GEnv → GH → Prop) → Prop
def liftG (K : PySem.W.Frag) (vs : List Nat) (T : DG) : TG := fun v σ H Q => ∃ d Γ G Z Q0, Rp K H G Z v d ∧ SR K Γ G Z σ H ∧ T d Γ G Q0 ∧ ∀ Γ' G' σ' H', Q0 Γ' G' → SR K Γ' G' Z σ' H' → Ext H G H' G' → wipe σ' vs = wipe σ vs → Q σ' H'
def liftGs (K : PySem.W.Frag) (vs : List Nat) (T : DGs) : TGs := fun us σ H Q => ∃ ds Γ G Z Q0, RpAll K H G Z us ds ∧ SR K Γ G Z σ H ∧ T ds Γ G Q0 ∧ ∀ Γ' G' σ' H', Q0 Γ' G' → SR K Γ' G' Z σ' H' → Ext H G H' G' → wipe σ' vs = wipe σ vs → Q σ' H'
abbrev PDG (X : Cx) (vs : List Nat) (tg : Expr) (T : DG) : Prop := PG X tg (liftG X.K vs T)
abbrev PDGs (X : Cx) (vs : List Nat) (tg : List Expr) (T : DGs) : Prop := PGs X tg (liftGs X.K vs T)
theorem pg_imp {e : Expr} {t t' : TG} (h : PG X e t) (i : ∀ v σ H Q, t' v σ H Q → t v σ H Q) : PG X e t' := ⟨fun pins s σ H v u Q I r q => h.run pins s σ H v u Q I r (i v σ H Q q)⟩
theorem pgs_imp {e : List Expr} {t t' : TGs} (h : PGs X e t) (i : ∀ v σ H Q, t' v σ H Q → t v σ H Q) : PGs X e t' := ⟨fun pins s σ H v u Q I r q => h.run pins s σ H v u Q I r (i v σ H Q q)⟩
theorem wipe_set {σ : St} {i : Nat} {o : Option V} : ∀ {vs : List Nat}, i ∈ vs → wipe (σ.set i o) vs = wipe σ vs
  | [], h => by simp at h
  | v :: vs, h => by
    unfold wipe
    by_cases hv : i ∈ vs
    · rw [wipe_set hv]
    · have e : i = v := by
        rcases List.mem_cons.mp h with e | e
        · exact e
        · exact absurd e hv
      subst e
      clear h
      have : ∀ ws : List Nat, (wipe (σ.set i o) ws).set i none = (wipe σ ws).set i none := by
        intro ws
        induction ws with
        | nil => simp [wipe]
        | cons w ws ih =>
          unfold wipe
          by_cases e : w = i
          · subst e; simp [ih]
          · rw [List.set_comm _ _ e, ih, List.set_comm _ _ e]
      exact this vs
def dgName (i : Nat) : DG := fun d Γ G Q => Q (Γ.set i (some d)) G
theorem pdg_name {vs : List Nat} {i : Nat} {x : Str} {pos : Pos} (hN : X.N.Nodup) (hi : X.N[i]? = some x) (hx : Loc X.env.scope x) (hv : i ∈ vs := by decide) (hf : X.fn x = true ∨ X.env.scope.names.lookup x = some .local := by first | exact .inl rfl | exact .inr rfl | assumption) : PDG X vs (.Name x pos) (dgName i) :=
  pg_imp (pg_name hN hi hx hf) fun v σ H Q ⟨d, Γ, G, Z, Q0, r, S, h, k⟩ => k _ G _ H h ⟨S.env.set r i, S.rep⟩ .refl (wipe_set hv)
def dgNil : DGs := fun ds Γ G Q => match ds with | [] => Q Γ G | _ => False
def dgCons (t : DG) (u : DGs) : DGs := fun ds Γ G Q => match ds with | d :: r => t d Γ G fun Γ' G' => u r Γ' G' Q | [] => False
theorem pdgs_nil {vs : List Nat} : PDGs X vs [] dgNil := pgs_imp pgs_nil fun us σ H Q ⟨ds, Γ, G, Z, Q0, r, S, h, k⟩ => by
  cases r with
  | nil => exact ⟨rfl, k Γ G σ H h S .refl rfl⟩
  | cons _ _ => exact h.elim
theorem pdgs_cons {vs : List Nat} {e : Expr} {es : List Expr} {T : DG} {U : DGs} (h1 : PDG X vs e T) (h2 : PDGs X vs es U)
    (hs : (assignEach (e :: es) X.env).map (·.2) = assign e X.env :: (assignEach es X.env).map (·.2) := by rfl) : PDGs X vs (e :: es) (dgCons T U) :=
  pgs_imp (pgs_cons h1 h2 hs) fun us σ H Q ⟨ds, Γ, G, Z, Q0, r, S, h, k⟩ => by
    cases r with
    | nil => exact h.elim
    | cons r1 rr =>
      exact ⟨_, _, rfl, _, Γ, G, Z, _, r1, S, h, fun Γ' G' σ' H' q S' x w => ⟨_, Γ', G', Z, _, rr.ext x, S', q, fun Γ2 G2 σ2 H2 q2 S2 x2 w2 => k _ _ _ _ q2 S2 (x.trans x2) (w2.trans w)⟩⟩
/-- what a value is to be read as: a cell's list is a list -/
def vw (G : GH) : D → D
  | .ref c => match G c with | some (.lst ds) => .lst ds | _ => .ref c
  | d => d
theorem vw_lst {H : Hp} {G : GH} {Z : ZS} {v : V} {d : D} {ds : List D} (R : HRep K H G Z) (r : Rp K H G Z v d) (e : vw G d = .lst ds) : ∃ a vs, v = .ref a ∧ H a = some (.lst vs) ∧ RpAll K H G Z vs ds := by
  cases r with
  | ref a =>
    simp only [vw] at e
    split at e
    · rename_i ds' q
      cases e
      obtain ⟨ho, h1, h2⟩ := R.cell a _ q
      cases ho <;> first | exact h2.elim | skip
      exact ⟨a, _, rfl, h1, h2⟩
    · cases e
  | lst g z h al => cases e; exact ⟨_, _, rfl, h, al⟩
  | _ => cases e
theorem vw_tup {H : Hp} {G : GH} {Z : ZS} {v : V} {d : D} {ds : List D} (r : Rp K H G Z v d) (e : vw G d = .tup ds) : ∃ a vs, v = .ref a ∧ H a = some (.tup vs) ∧ RpAll K H G Z vs ds := by
  cases r with
  | ref a => simp only [vw] at e; split at e <;> cases e
  | tup g z h al => cases e; exact ⟨_, _, rfl, h, al⟩
  | _ => cases e
theorem vw_frz {H : Hp} {G : GH} {Z : ZS} {v : V} {d : D} {ds : List D} (r : Rp K H G Z v d) (e : vw G d = .frz ds) : ∃ a vs, v = .ref a ∧ SqL K H a vs ∧ RpAll K H G Z vs ds := by
  cases r with
  | ref a => simp only [vw] at e; split at e <;> cases e
  | frz g z h al => cases e; exact ⟨_, _, rfl, .inl (.inr ⟨_, h⟩), al⟩
  | frl g z h al => cases e; exact ⟨_, _, rfl, .inl (.inl h), al⟩
  | wrt w al => cases e; exact ⟨_, _, rfl, .inr w, al⟩
  | _ => cases e
theorem pg_or {e : Expr} {t u : TG} (h : PG X e t) (h' : PG X e u) : PG X e (fun v σ H Q => t v σ H Q ∨ u v σ H Q) := ⟨fun pins s σ H v x Q I r q => q.elim (h.run pins s σ H v x Q I r) (h'.run pins s σ H v x Q I r)⟩
def dgTup (n : Nat) (t : DGs) : DG := fun d Γ G Q => match vw G d with | .tup ds => ds.length = n ∧ t ds Γ G Q | .lst ds => ds.length = n ∧ t ds Γ G Q | _ => False
theorem pdg_tup {vs : List Nat} {es : List Expr} {k : Nat} {T : DGs} {n : Nat} {pos : Pos} (hc : X.calm = true) (h : PDGs X vs es T)
    (hn : (assignEach es X.env).length = n := by rfl) (hst : (assignEach es X.env).findIdx? (·.1) = none := by rfl) : PDG X vs (.Tuple es k pos) (dgTup n T) :=
  pg_imp (pg_or (pg_tup hc h hn hst) (pg_lst hc h hn hst)) fun v σ H Q ⟨d, Γ, G, Z, Q0, r, S, h, k⟩ => by
    unfold dgTup at h
    split at h
    · rename_i ds e
      obtain ⟨a, us, rfl, ha, al⟩ := vw_tup r e
      exact .inl ⟨a, us, rfl, .of ha, al.length.trans h.1, ds, Γ, G, Z, Q0, al, S, h.2, k⟩
    · rename_i ds e
      obtain ⟨a, us, rfl, ha, al⟩ := vw_lst S.rep r e
      exact .inr ⟨a, us, rfl, .of ha, al.length.trans h.1, ds, Γ, G, Z, Q0, al, S, h.2, k⟩
    · exact h.elim
/-! ## assignment -/
def dAsg (te : DE) (g : DG) : DS := fun D Γ G => te Γ G fun x G1 => g x Γ G1 D.nx
theorem pds_asg {vs : List Nat} {tg e : Expr} {T : DE} {g : DG} {pos : Pos} (he : PD X e T) (hg : PDG X vs tg g) (hs : swapsWithSole [tg] e pos.line X.env = pure false := by rfl) (hw : swappedStores [tg] e X.env = pure none := by rfl) (h1 : (assignEach [tg] X.env).map (·.2) = [assign tg X.env] := by rfl) : PDS X (.Assign [tg] e pos) (dAsg T g) :=
  ps_imp (ps_asg he hg hs hw h1) fun D σ H ⟨Γ, G, Z, D0, S, h, k⟩ => ⟨Γ, G, Z, _, S, h, fun d G1 v H1 q r R x => ⟨d, Γ, G1, Z, _, r, S.ext x R, q, fun Γ' G' σ' H' q' S' x' _ => k.nx _ _ _ _ q' S' (x.trans x')⟩⟩
def dSet (i : Nat) (te : DE) : DS := fun D Γ G => te Γ G fun x G1 => D.nx (Γ.set i (some x)) G1
theorem pds_set {i : Nat} {x : Str} {e : Expr} {T : DE} {pos' pos : Pos} (hN : X.N.Nodup) (hi : X.N[i]? = some x) (hx : Loc X.env.scope x) (he : PD X e T) (hs : swapsWith e (some (.Name x pos')) pos.line X.env = pure false := by rfl) (hf : X.fn x = true ∨ X.env.scope.names.lookup x = some .local := by first | exact .inl rfl | exact .inr rfl | assumption) :
    PDS X (.Assign [.Name x pos'] e pos) (dSet i T) :=
  ps_imp (ps_set hN hi hx he hs hf) fun D σ H ⟨Γ, G, Z, D0, S, h, k⟩ => ⟨Γ, G, Z, _, S, h, fun d G1 v H1 q r R x => k.nx _ _ _ _ q ⟨(S.ext x R).env.set r i, R⟩ x⟩
/-- a, b = x, y with plain local names -/
def dPar (i j : Nat) (ta : DA) : DS := fun D Γ G => ta Γ G fun ds G1 => match ds with | [x, y] => D.nx ((Γ.set i (some x)).set j (some y)) G1 | _ => False
theorem pds_par {i j : Nat} {x y : Str} {a b : Expr} {T : DA} {px py pt pos : Pos} {kt k2 pt2} (hc : X.calm = true) (hN : X.N.Nodup) (hi : X.N[i]? = some x) (hj : X.N[j]? = some y) (hij : i ≠ j)
    (hx : X.env.scope.names.lookup x = some .local) (hy : X.env.scope.names.lookup y = some .local) (ha : PDA X [a, b] T)
    (hw : swappedStores [.Tuple [.Name x px, .Name y py] kt pt] (.Tuple [a, b] k2 pt2) X.env = pure (some [x, y]))
    (hs : swapsWithSole [.Tuple [.Name x px, .Name y py] kt pt] (.Tuple [a, b] k2 pt2) pos.line X.env = pure false := by rfl) :
    PDS X (.Assign [.Tuple [.Name x px, .Name y py] kt pt] (.Tuple [a, b] k2 pt2) pos) (dPar i j T) :=
  ps_imp (ps_par hc hN hi hj hij hx hy ha hw hs) fun D σ H ⟨Γ, G, Z, D0, S, h, k⟩ => ⟨Γ, G, Z, _, S, h, fun ds G1 vs H1 q r R x => by
    cases r with
    | nil => exact q.elim
    | cons r1 r =>
      cases r with
      | nil => exact q.elim
      | cons r2 r =>
        cases r with
        | nil => exact ⟨_, _, rfl, k.nx _ _ _ _ q ⟨((S.ext x R).env.set r1 i).set r2 j, R⟩ x⟩
        | cons _ _ => exact q.elim⟩
end
end TK

namespace TK
open PySem PySem.Spec L2
variable {K : PySem.W.Frag}

/-! ## new lists, new tuples -/
/-- a new list: a cell (true), or data that never changes (false) -/
def newL (c : Bool) (ds : List D) (G : GH) (Q : DK) : Prop := match c with
  | true => ∀ p, G p = none → Q (.ref p) (gup G p (.lst ds))
  | false => Q (.lst ds) G
section
variable {H : Hp} {G : GH} {Z : ZS} {vs : List V} {ds : List D} {Q0 : DK} {Q : VK} {c : Bool}
theorem newL_ok (R : HRep K H G Z) (al : RpAll K H G Z vs ds) (h : newL c ds G Q0) (k : Cont K H G Z Q0 Q) : ∀ p, H p = none → Q (.ref p) (upd H p (.lst vs)) := fun p n => by
  have hz := R.noneAt n
  cases c with
  | true =>
    have x : Ext H G (upd H p (.lst vs)) (gup G p (.lst ds)) := ext_newC R n
    exact k _ _ _ _ (h p hz.1) (.ref p) (R.newC n (al.ext x)) x
  | false =>
    have x : Ext H G (upd H p (.lst vs)) G := ext_new R n
    exact k _ _ _ _ h (.lst hz.1 hz.2 upd_same (al.ext x)) (R.new n) x
theorem newT_ok (R : HRep K H G Z) (al : RpAll K H G Z vs ds) (h : Q0 (.tup ds) G) (k : Cont K H G Z Q0 Q) : ∀ p, H p = none → Q (.ref p) (upd H p (.tup vs)) := fun p n => by
  have hz := R.noneAt n
  have x : Ext H G (upd H p (.tup vs)) G := ext_new R n
  exact k _ _ _ _ h (.tup hz.1 hz.2 upd_same (al.ext x)) (R.new n) x
theorem Rp.at_int {x : V} {i : Int} (r : Rp K H G Z x (.int i)) : x = .int i := by cases r; rfl
theorem Rp.at_str {x : V} {i : Str} (r : Rp K H G Z x (.str i)) : x = .str i := by cases r; rfl
theorem Rp.at_bl {x : V} {i : Bool} (r : Rp K H G Z x (.bl i)) : x = .bl i := by cases r; rfl
theorem Rp.at_ref {x : V} {i : Addr} (r : Rp K H G Z x (.ref i)) : x = .ref i := by cases r; rfl
theorem Rp.at_ty {x : V} {i : String} (r : Rp K H G Z x (.ty i)) : x = .ty i := by cases r; rfl
theorem Rp.at_non {x : V} (r : Rp K H G Z x .non) : x = .non := by cases r; rfl
theorem vw_int {x : V} {d : D} {i : Int} (r : Rp K H G Z x d) (e : vw G d = .int i) : x = .int i := by
  cases r <;> first | (cases e; rfl) | (cases e; done) | (simp only [vw] at e; split at e <;> cases e)
theorem vw_str {x : V} {d : D} {i : Str} (r : Rp K H G Z x d) (e : vw G d = .str i) : x = .str i := by
  cases r <;> first | (cases e; rfl) | (cases e; done) | (simp only [vw] at e; split at e <;> cases e)
theorem vw_bl {x : V} {d : D} {i : Bool} (r : Rp K H G Z x d) (e : vw G d = .bl i) : x = .bl i := by
  cases r <;> first | (cases e; rfl) | (cases e; done) | (simp only [vw] at e; split at e <;> cases e)
theorem Cont.here {d : D} {v : V} (k : Cont K H G Z Q0 Q) (R : HRep K H G Z) (q : Q0 d G) (r : Rp K H G Z v d) : Q v H := k _ _ _ _ q r R .refl
end

/-! ## arithmetic -/
/-- x + y; c: a new list is a cell -/
def dAddR (c : Bool) : DR2 := fun x y G Q => match vw G x, vw G y with
  | .int i, .int j => Q (.int (i + j)) G
  | .str a, .str b => a.length + b.length ≤ sizeLine ∧ Q (.str (a ++ b)) G
  | .lst xs, .lst ys => xs.length + ys.length ≤ sizeLine ∧ newL c (xs ++ ys) G Q
  | .tup xs, .tup ys => xs.length + ys.length ≤ sizeLine ∧ Q (.tup (xs ++ ys)) G
  | _, _ => False
def rAddV (K : PySem.W.Frag) : R2 := fun x y H Q => rI0 (fun i j => .int (i + j)) x y H Q ∨ (∃ i j, x = .str i ∧ y = .str j ∧ i.length + j.length ≤ sizeLine ∧ Q (.str (i ++ j)) H) ∨ rCat x y H Q ∨ rCatA K x y H Q
theorem r2_add (K : PySem.W.Frag) (c : Bool) : R2D K (rAddV K) (dAddR c) := fun {H G Z x y a b Q0 Q} R rx ry h k => by
  unfold dAddR at h
  split at h
  · rename_i i j e1 e2
    exact .inl ⟨i, j, vw_int rx e1, vw_int ry e2, k.here R h (.int _)⟩
  · rename_i i j e1 e2
    exact .inr (.inl ⟨i, j, vw_str rx e1, vw_str ry e2, h.1, k.here R h.2 (.str _)⟩)
  · rename_i i j e1 e2
    obtain ⟨p, vs, rfl, hp, al⟩ := vw_lst R rx e1
    obtain ⟨q, us, rfl, hq, al2⟩ := vw_lst R ry e2
    exact .inr (.inr (.inl ⟨p, q, vs, us, rfl, rfl, hp, hq, by rw [al.length, al2.length]; exact h.1, newL_ok R (al.append al2) h.2 k⟩))
  · rename_i i j e1 e2
    obtain ⟨p, vs, e3, hp, al⟩ := vw_tup rx e1
    obtain ⟨q, us, e4, hq, al2⟩ := vw_tup ry e2
    subst e3 e4
    refine .inr (.inr (.inr ⟨p, q, vs, us, rfl, rfl, .of hp, .of hq, by rw [al.length, al2.length]; exact h.1, fun z => ?_, fun _ z => ?_, fun _ _ => newT_ok R (al.append al2) h.2 k⟩))
    · subst z; cases al
      cases ry <;> first | (cases e2; done) | (simp only [vw] at e2; split at e2 <;> cases e2; done) | skip
      cases e2
      exact k.here R h.2 (.tup ‹_› ‹_› ‹_› ‹_›)
    · subst z; cases al2
      cases rx <;> first | (cases e1; done) | (simp only [vw] at e1; split at e1 <;> cases e1; done) | skip
      cases e1
      rw [List.append_nil] at h
      exact k.here R h.2 (.tup ‹_› ‹_› ‹_› ‹_›)
  · exact h.elim
def dSubR : DR2 := fun x y G Q => match x, y with | .int i, .int j => Q (.int (i - j)) G | _, _ => False
theorem r2_sub : R2D K (rI0 fun i j => .int (i - j)) dSubR := fun {H G Z x y a b Q0 Q} R rx ry h k => by
  unfold dSubR at h
  split at h
  · exact ⟨_, _, rx.at_int, ry.at_int, k.here R h (.int _)⟩
  · exact h.elim
def dMulR (c : Bool) : DR2 := fun x y G Q => match vw G x, y with
  | .int i, .int j => CMul i j ∧ Q (.int (i * j)) G
  | .lst xs, .int k => -(2 ^ 63) ≤ k ∧ k < 2 ^ 63 ∧ xs.length * k.toNat ≤ sizeLine ∧ newL c (List.replicate k.toNat xs).flatten G Q
  | .tup xs, .int k => xs ≠ [] ∧ 1 ≤ k ∧ k ≤ 1000 ∧ xs.length ≤ 1000 ∧ Q (.tup (List.replicate k.toNat xs).flatten) G
  | _, _ => False
def rMulV (K : PySem.W.Frag) : R2 := fun x y H Q => rI CMul (fun i j => .int (i * j)) x y H Q ∨ rRep x y H Q
theorem r2_mul (K : PySem.W.Frag) (c : Bool) : R2D K (rMulV K) (fun x y G Q => match vw G x, y with
  | .int i, .int j => CMul i j ∧ Q (.int (i * j)) G
  | .lst xs, .int k => -(2 ^ 63) ≤ k ∧ k < 2 ^ 63 ∧ xs.length * k.toNat ≤ sizeLine ∧ newL c (List.replicate k.toNat xs).flatten G Q
  | _, _ => False) := fun {H G Z x y a b Q0 Q} R rx ry h k => by
  simp only at h
  split at h
  · rename_i e1
    exact .inl ⟨_, _, vw_int rx e1, ry.at_int, h.1, k.here R h.2 (.int _)⟩
  · rename_i e1
    obtain ⟨p, vs, rfl, hp, al⟩ := vw_lst R rx e1
    exact .inr ⟨p, _, vs, rfl, ry.at_int, hp, h.1, h.2.1, by rw [al.length]; exact h.2.2.1, newL_ok R (al.rep _) h.2.2.2 k⟩
  · exact h.elim
def dFdivR : DR2 := fun x y G Q => match x, y with | .int i, .int j => CDiv i j ∧ Q (.int (i / j)) G | _, _ => False
theorem r2_fdiv : R2D K (rI CDiv fun i j => .int (i / j)) dFdivR := fun {H G Z x y a b Q0 Q} R rx ry h k => by
  unfold dFdivR at h
  split at h
  · exact ⟨_, _, rx.at_int, ry.at_int, h.1, k.here R h.2 (.int _)⟩
  · exact h.elim
def dModR : DR2 := fun x y G Q => match x, y with | .int i, .int j => 0 < j ∧ Q (.int (i % j)) G | _, _ => False
theorem r2_mod : R2D K (rI (fun _ j => 0 < j) fun i j => .int (i % j)) dModR := fun {H G Z x y a b Q0 Q} R rx ry h k => by
  unfold dModR at h
  split at h
  · exact ⟨_, _, rx.at_int, ry.at_int, h.1, k.here R h.2 (.int _)⟩
  · exact h.elim
def dPowR : DR2 := fun x y G Q => match x, y with | .int i, .int j => CPow i j ∧ Q (.int (i ^ j.toNat)) G | _, _ => False
theorem r2_pow : R2D K (rI CPow fun i j => .int (i ^ j.toNat)) dPowR := fun {H G Z x y a b Q0 Q} R rx ry h k => by
  unfold dPowR at h
  split at h
  · exact ⟨_, _, rx.at_int, ry.at_int, h.1, k.here R h.2 (.int _)⟩
  · exact h.elim
/-! ## comparisons -/
def dCmpI (p : Int → Int → Bool) : DR2 := fun x y G Q => match x, y with | .int i, .int j => Q (.bl (p i j)) G | _, _ => False
theorem r2_cmpI (p : Int → Int → Bool) : R2D K (rI0 fun i j => .bl (p i j)) (dCmpI p) := fun {H G Z x y a b Q0 Q} R rx ry h k => by
  unfold dCmpI at h
  split at h
  · exact ⟨_, _, rx.at_int, ry.at_int, k.here R h (.bl _)⟩
  · exact h.elim
abbrev dLt : DR2 := dCmpI fun i j => decide (i < j)
abbrev dLe : DR2 := dCmpI fun i j => decide (i ≤ j)
abbrev dGt : DR2 := dCmpI fun i j => decide (j < i)
abbrev dGe : DR2 := dCmpI fun i j => decide (j ≤ i)
def isNon : D → Bool | .non => true | _ => false
theorem Rp.isNon {H : Hp} {G : GH} {Z : ZS} {v : V} {d : D} (r : Rp K H G Z v d) : decide (v = .non) = isNon d := by
  cases r <;> first | rfl | exact decide_eq_false (by intro e; cases e)
def dIsNR : DR2 := fun x y G Q => match y with | .non => Q (.bl (isNon x)) G | _ => False
def dNotNR : DR2 := fun x y G Q => match y with | .non => Q (.bl (!isNon x)) G | _ => False
theorem r2_isN : R2D K (fun x y H Q => y = .non ∧ Q (.bl (decide (x = .non))) H) dIsNR := fun {H G Z x y a b Q0 Q} R rx ry h k => by
  unfold dIsNR at h
  split at h
  · exact ⟨ry.at_non, k.here R h (by rw [rx.isNon]; exact .bl _)⟩
  · exact h.elim
theorem r2_notN : R2D K (fun x y H Q => y = .non ∧ Q (.bl (!decide (x = .non))) H) dNotNR := fun {H G Z x y a b Q0 Q} R rx ry h k => by
  unfold dNotNR at h
  split at h
  · exact ⟨ry.at_non, k.here R h (by rw [rx.isNon]; exact .bl _)⟩
  · exact h.elim
/-! ## plain data, == -/
mutual
def toPy : D → PyData
  | .non => .none
  | .bl b => .bool b
  | .int i => .int i
  | .str x => .str x
  | .tup xs => .tuple (toPys xs)
  | .lst xs => .list (toPys xs)
  | .frz xs => .list (toPys xs)
  | .ref _ => .none
  | .ty _ => .none
  | .code _ => .none
def toPys : List D → List PyData
  | [] => []
  | x :: r => toPy x :: toPys r
end
mutual
def plain : D → Bool
  | .tup xs => plains xs
  | .lst xs => plains xs
  | .frz _ => false
  | .ref _ => false
  | .ty _ => false
  | .code _ => false
  | _ => true
def plains : List D → Bool
  | [] => true
  | x :: r => plain x && plains r
end
mutual
theorem Rp.dp (K : PySem.W.Frag) {H : Hp} {G : GH} {Z : ZS} : ∀ {v : V} {d : D}, Rp K H G Z v d → plain d = true → Dp K H v (toPy d)
  | _, _, .non, _ => .non
  | _, _, .bl b, _ => .bl b
  | _, _, .int i, _ => .int i
  | _, _, .str x, _ => .str x
  | _, _, .ref a, h => by simp [plain] at h
  | _, _, .ty n, h => by simp [plain] at h
  | _, _, .code _ _ _, h => by simp [plain] at h
  | _, _, .frz _ _ _ _, h => by simp [plain] at h
  | _, _, .frl _ _ _ _, h => by simp [plain] at h
  | _, _, .wrt _ _, h => by simp [plain] at h
  | _, _, .tup g z r al, h => by rw [toPy]; exact .tup (.of r) (RpAll.dp K al (by simpa [plain] using h))
  | _, _, .lst g z r al, h => by rw [toPy]; exact .lst (.of r) (RpAll.dp K al (by simpa [plain] using h))
theorem RpAll.dp (K : PySem.W.Frag) {H : Hp} {G : GH} {Z : ZS} : ∀ {vs : List V} {ds : List D}, RpAll K H G Z vs ds → plains ds = true → DpAll K H vs (toPys ds)
  | _, _, .nil, _ => by rw [toPys]; exact .nil
  | _, _, .cons h t, e => by
    simp only [plains, Bool.and_eq_true] at e
    rw [toPys]; exact .cons (Rp.dp K h e.1) (RpAll.dp K t e.2)
end
def okE (d : D) : Bool := plain d && SeqAt.shaped (toPy d)
def eqD (x y : D) : Bool := PyData.eqv (toPy x) (toPy y)
theorem vw_dp (K : PySem.W.Frag) {H : Hp} {G : GH} {Z : ZS} {v : V} {d : D} (R : HRep K H G Z) (r : Rp K H G Z v d) (h : plain (vw G d) = true) : Dp K H v (toPy (vw G d)) := by
  cases r with
  | ref a =>
    simp only [vw] at h ⊢
    split
    · rename_i ds' q
      rw [q] at h
      obtain ⟨ho, h1, h2⟩ := R.cell a _ q
      cases ho <;> first | exact h2.elim | skip
      rw [toPy]
      exact .lst (.of h1) (RpAll.dp K h2 (by simpa [plain] using h))
    · rename_i q
      split at h
      · rename_i q2; exact absurd q2 (by rename_i ds; exact q ds)
      · simp [plain] at h
  | non => exact Rp.dp K (G := G) (Z := Z) .non h
  | bl b => exact Rp.dp K (G := G) (Z := Z) (.bl b) h
  | int b => exact Rp.dp K (G := G) (Z := Z) (.int b) h
  | str b => exact Rp.dp K (G := G) (Z := Z) (.str b) h
  | ty b => exact Rp.dp K (G := G) (Z := Z) (.ty b) h
  | code g z r => exact Rp.dp K (.code g z r) h
  | tup g z r al => exact Rp.dp K (.tup g z r al) h
  | lst g z r al => exact Rp.dp K (.lst g z r al) h
  | frz g z r al => exact Rp.dp K (.frz g z r al) h
  | frl g z r al => exact Rp.dp K (.frl g z r al) h
  | wrt w al => exact Rp.dp K (.wrt w al) h
def dEqR : DR2 := fun x y G Q => okE (vw G x) = true ∧ okE (vw G y) = true ∧ Q (.bl (eqD (vw G x) (vw G y))) G
def dNeR : DR2 := fun x y G Q => okE (vw G x) = true ∧ okE (vw G y) = true ∧ Q (.bl (!eqD (vw G x) (vw G y))) G
theorem okE_and {d : D} (h : okE d = true) : plain d = true ∧ SeqAt.shaped (toPy d) = true := by simpa [okE] using h
theorem r2_eq (K : PySem.W.Frag) : R2D K (rEqD K) dEqR := fun {H G Z x y a b Q0 Q} R rx ry h k => by
  obtain ⟨h1, h2, h3⟩ := h
  exact ⟨_, _, vw_dp K R rx (okE_and h1).1, vw_dp K R ry (okE_and h2).1, (okE_and h1).2, (okE_and h2).2, k.here R h3 (.bl _)⟩
theorem r2_ne (K : PySem.W.Frag) : R2D K (rNeD K) dNeR := fun {H G Z x y a b Q0 Q} R rx ry h k => by
  obtain ⟨h1, h2, h3⟩ := h
  exact ⟨_, _, vw_dp K R rx (okE_and h1).1, vw_dp K R ry (okE_and h2).1, (okE_and h1).2, (okE_and h2).2, k.here R h3 (.bl _)⟩
theorem toPys_any {f : PyData → Bool} : ∀ {ds : List D}, (toPys ds).any f = ds.any fun z => f (toPy z)
  | [] => by rw [toPys]; rfl
  | x :: r => by rw [toPys, List.any_cons, List.any_cons, toPys_any]
/-- x in y: y a list of data -/
def dInL (n : Bool) : DR2 := fun x y G Q => match vw G y with
  | .lst ds => okE (vw G x) = true ∧ okE (.lst ds) = true ∧ Q (.bl (n != ds.any fun z => eqD z (vw G x))) G
  | _ => False
theorem in_core (K : PySem.W.Frag) {H : Hp} {G : GH} {Z : ZS} {x y : V} {a b : D} {ds : List D} (R : HRep K H G Z) (rx : Rp K H G Z x a) (ry : Rp K H G Z y b) (e : vw G b = .lst ds) (h1 : okE (vw G a) = true) (h2 : okE (.lst ds) = true) :
    Dp K H x (toPy (vw G a)) ∧ Dp K H y (.list (toPys ds)) ∧ SeqAt.shaped (toPy (vw G a)) = true ∧ SeqAt.shaped (.list (toPys ds)) = true := by
  have e2 := vw_dp K R ry (by rw [e]; exact (okE_and h2).1)
  rw [e, toPy] at e2
  have e3 := (okE_and h2).2
  rw [toPy] at e3
  exact ⟨vw_dp K R rx (okE_and h1).1, e2, (okE_and h1).2, e3⟩
theorem r2_inL (K : PySem.W.Frag) : R2D K (rInD K) (dInL false) := fun {H G Z x y a b Q0 Q} R rx ry h k => by
  unfold dInL at h
  split at h
  · rename_i ds e
    obtain ⟨h1, h2, h3⟩ := h
    obtain ⟨q1, q2, q3, q4⟩ := in_core K R rx ry e h1 h2
    exact ⟨_, _, q1, q2, q3, q4, k.here R h3 (by rw [toPys_any, Bool.false_bne]; exact .bl _)⟩
  · exact h.elim
theorem r2_notInL (K : PySem.W.Frag) : R2D K (rNotInD K) (dInL true) := fun {H G Z x y a b Q0 Q} R rx ry h k => by
  unfold dInL at h
  split at h
  · rename_i ds e
    obtain ⟨h1, h2, h3⟩ := h
    obtain ⟨q1, q2, q3, q4⟩ := in_core K R rx ry e h1 h2
    exact ⟨_, _, q1, q2, q3, q4, k.here R h3 (by rw [toPys_any, Bool.true_bne]; exact .bl _)⟩
  · exact h.elim
end TK

namespace TK
open PySem PySem.Spec L2
variable {K : PySem.W.Frag}

/-! ## what is walked -/
abbrev DI := GEnv → GH → (List D → (GH → Prop) → GH → Prop) → Prop
/-- hidden ones that were hidden, or not there -/
def ZExt (H : Hp) (Z Z' : ZS) : Prop := ∀ a, (H a).isSome → ¬ Z a → ¬ Z' a
def ItOk (K : PySem.W.Frag) (J : It) (xs : List D) (gd : GH → Prop) (H0 : Hp) (G0 : GH) (Z : ZS) : Prop :=
  ∀ i H G Z', ZExt H0 Z Z' → HRep K H G Z' → Ext H0 G0 H G → gd G → (xs.length ≤ i → J.stop i H) ∧ ∀ d, xs[i]? = some d → J.go i H ∧ ∀ x H', J.yld i H x H' → Rp K H' G Z' x d ∧ HRep K H' G Z' ∧ Ext H G H' G
def liftI (K : PySem.W.Frag) (T : DI) : TI := fun σ H R => ∃ Γ G Z Q0, SR K Γ G Z σ H ∧ T Γ G Q0 ∧ ∀ xs gd G' H' J, Q0 xs gd G' → HRep K H' G' Z → Ext H G H' G' → ItOk K J xs gd H' G' Z → R J H'
abbrev PDI (X : Cx) (tg e : Expr) (T : DI) : Prop := PI X tg e (liftI X.K T)
theorem Rp.zext {H : Hp} {G : GH} {Z Z' : ZS} {v : V} {d : D} (z : ZExt H Z Z') (r : Rp K H G Z v d) : Rp K H G Z' v d := r.re fun a g n s => ⟨g, z a s n⟩
theorem RpAll.zext {H : Hp} {G : GH} {Z Z' : ZS} {v : List V} {d : List D} (z : ZExt H Z Z') (r : RpAll K H G Z v d) : RpAll K H G Z' v d := r.re fun a g n s => ⟨g, z a s n⟩
section
variable {X : Cx} {tg : Expr}
theorem pi_imp {e : Expr} {t t' : TI} (h : PI X tg e t) (i : ∀ σ H Q, t' σ H Q → t σ H Q) : PI X tg e t' := ⟨fun pins s σ H Q I q => h.run pins s σ H Q I (i σ H Q q)⟩
/-- a list, a tuple, a text by its signs -/
def iAny (K : PySem.W.Frag) (tl : TE) : TI := fun σ H R => tl σ H fun x H1 => (∃ a xs, x = .ref a ∧ SqL K H1 a xs ∧ R (Itl K a) H1) ∨ (∃ a xs, x = .ref a ∧ SqT K H1 a xs ∧ R (Itt K a) H1) ∨ (∃ z, x = .str z ∧ R (Its z) H1)
theorem pi_any {l : Expr} {tl : TE} (hl : PE X l tl) : PI X tg l (iAny X.K tl) := by
  refine ⟨fun pins s σ H R I h => ?_⟩
  refine thn (hl.run pins s σ H _ I h) fun v s1 ⟨x, H1, I1, r1, q1⟩ => ?_
  rcases q1 with ⟨a, xs, e, hq, q⟩ | ⟨a, xs, e, hq, q⟩ | ⟨z, e, q⟩
  · subst e
    cases r1
    obtain ⟨its, rv, p, hz⟩ := I1.list hq
    refine wpAny_pyIter_list p.isList ?_
    refine ⟨s1.heap.objs.size, [s1.heap.objs.size], _, _, H1, rfl, I1.kept (t' := s1.toks) fun b o e => Heap.get?_push_of_some _ e, turn_list a _, ⟨_, Heap.get?_push_size _ rfl, rfl, rfl⟩, fun b hb => ?_, q⟩
    have e : b = s1.heap.objs.size := by simpa using hb
    subst e
    exact I1.fpOk (Nat.le_refl _) (I1.hok.fresh (Nat.le_refl _))
  · subst e
    cases r1
    obtain ⟨its, rv, p, hz⟩ := I1.tuple hq
    refine wpAny_pyIter_tuple (show s1.heap.IsTuple a its.toArray from p) ?_
    refine ⟨s1.heap.objs.size, [s1.heap.objs.size], _, _, H1, rfl, I1.kept (t' := s1.toks) fun b o e => Heap.get?_push_of_some _ e, turn_tuple a _, ⟨_, Heap.get?_push_size _ rfl, rfl, rfl⟩, fun b hb => ?_, q⟩
    have e : b = s1.heap.objs.size := by simpa using hb
    subst e
    exact I1.fpOk (Nat.le_refl _) (I1.hok.fresh (Nat.le_refl _))
  · subst e
    obtain ⟨t, rfl⟩ := r1
    cases ha : z.cps.all (· < 128)
    · exact wpAny_pyIter_wide ha (pi_one (tk := s1.toks) I1 _ (turn_str _ z t "str_iterator" (.inr rfl)) ⟨_, Heap.get?_push_size _ rfl, rfl, rfl⟩ q)
    · exact wpAny_pyIter_ascii ha (pi_one (tk := s1.toks) I1 _ (turn_str _ z t "str_ascii_iterator" (.inl rfl)) ⟨_, Heap.get?_push_size _ rfl, rfl, rfl⟩ q)
def signs (z : Str) : List D := z.cps.toList.map fun c => .str ⟨#[c]⟩
def diAny (t : DE) : DI := fun Γ G Q => t Γ G fun d G1 => match d with
  | .lst xs => Q xs (fun _ => True) G1
  | .frz xs => Q xs (fun _ => True) G1
  | .tup xs => Q xs (fun _ => True) G1
  | .str z => Q (signs z) (fun _ => True) G1
  | .ref c => match G1 c with | some (.lst xs) => Q xs (fun G => G c = some (.lst xs)) G1 | _ => False
  | _ => False
theorem itok_list {K : PySem.W.Frag} {H : Hp} {G : GH} {Z : ZS} {a : Addr} {ds : List D} {gd : GH → Prop}
    (h : ∀ H' G' Z', ZExt H Z Z' → HRep K H' G' Z' → Ext H G H' G' → gd G' → ∃ vs', SqL K H' a vs' ∧ RpAll K H' G' Z' vs' ds) : ItOk K (Itl K a) ds gd H G Z := fun i H' G' Z' z R x g => by
  obtain ⟨vs', sq, al⟩ := h H' G' Z' z R x g
  refine ⟨fun hi => ⟨vs', sq, by rw [al.length]; exact hi⟩, fun d e => ?_⟩
  obtain ⟨v, ev, r⟩ := al.get e
  refine ⟨⟨vs', v, sq, ev⟩, fun y H2 hy => ?_⟩
  obtain ⟨e1, e2⟩ := hy
  subst e1
  have e3 : y = v := Option.some.inj ((e2 vs' sq).symm.trans ev)
  subst e3
  exact ⟨r, R, .refl⟩
theorem itok_tup {K : PySem.W.Frag} {H : Hp} {G : GH} {Z : ZS} {a : Addr} {ds : List D} {gd : GH → Prop}
    (h : ∀ H' G' Z', ZExt H Z Z' → HRep K H' G' Z' → Ext H G H' G' → gd G' → ∃ vs', SqT K H' a vs' ∧ RpAll K H' G' Z' vs' ds) : ItOk K (Itt K a) ds gd H G Z := fun i H' G' Z' z R x g => by
  obtain ⟨vs', sq, al⟩ := h H' G' Z' z R x g
  refine ⟨fun hi => ⟨vs', sq, by rw [al.length]; exact hi⟩, fun d e => ?_⟩
  obtain ⟨v, ev, r⟩ := al.get e
  refine ⟨⟨vs', v, sq, ev⟩, fun y H2 hy => ?_⟩
  obtain ⟨e1, e2⟩ := hy
  subst e1
  have e3 : y = v := Option.some.inj ((e2 vs' sq).symm.trans ev)
  subst e3
  exact ⟨r, R, .refl⟩
theorem itok_str {H : Hp} {G : GH} {Z : ZS} {z : Str} {gd : GH → Prop} : ItOk K (Its z) (signs z) gd H G Z := fun i H' G' Z' _ R x g => by
  refine ⟨fun hi => ?_, fun d e => ?_⟩
  · show z.cps.size ≤ i
    simpa [signs] using hi
  · simp only [signs, List.getElem?_map, Option.map_eq_some_iff] at e
    obtain ⟨c, ec, rfl⟩ := e
    refine ⟨?_, fun y H2 hy => ?_⟩
    · have := (List.getElem?_eq_some_iff.mp ec).1
      show i < z.cps.size
      simpa using this
    · obtain ⟨e1, c', e2, e3⟩ := hy
      subst e1 e3
      have : c' = c := by
        rw [← Array.getElem?_toList] at e2
        exact Option.some.inj (e2.symm.trans ec)
      subst this
      exact ⟨.str _, R, .refl⟩
theorem pdi_any {l : Expr} {T : DE} (hl : PD X l T) : PDI X tg l (diAny T) := pi_imp (pi_any hl) fun σ H R ⟨Γ, G, Z, Q0, S, h, k⟩ => ⟨Γ, G, Z, _, S, h, fun d G1 v H1 q r R1 x1 => by
  cases r with
  | lst g z hh al =>
    exact .inl ⟨_, _, rfl, .of hh, k _ _ _ _ _ q R1 x1 (itok_list fun H' G' Z' z' R' x' _ => ⟨_, .of (x' _ _ g hh trivial).2, (al.zext z').ext x'⟩)⟩
  | frz g z hh al =>
    exact .inl ⟨_, _, rfl, .inl (.inr ⟨_, hh⟩), k _ _ _ _ _ q R1 x1 (itok_list fun H' G' Z' z' R' x' _ => ⟨_, .inl (.inr ⟨_, (x' _ _ g hh trivial).2⟩), (al.zext z').ext x'⟩)⟩
  | frl g z hh al =>
    exact .inl ⟨_, _, rfl, .of hh, k _ _ _ _ _ q R1 x1 (itok_list fun H' G' Z' z' R' x' _ => ⟨_, .of (x' _ _ g hh trivial).2, (al.zext z').ext x'⟩)⟩
  | wrt w al =>
    exact .inl ⟨_, _, rfl, .inr w, k _ _ _ _ _ q R1 x1 (itok_list fun H' G' Z' z' R' x' _ => ⟨_, .inr w, (al.zext z').ext x'⟩)⟩
  | tup g z hh al =>
    exact .inr (.inl ⟨_, _, rfl, .of hh, k _ _ _ _ _ q R1 x1 (itok_tup fun H' G' Z' z' R' x' _ => ⟨_, .of (x' _ _ g hh trivial).2, (al.zext z').ext x'⟩)⟩)
  | str z => exact .inr (.inr ⟨z, rfl, k _ _ _ _ _ q R1 x1 itok_str⟩)
  | ref c =>
    simp only at q
    split at q
    · rename_i xs e
      obtain ⟨ho, h1, h2⟩ := R1.cell c _ e
      cases ho <;> first | exact h2.elim | skip
      refine .inl ⟨_, _, rfl, .of h1, k _ _ _ _ _ q R1 x1 (itok_list fun H' G' Z' z' R' x' g' => ?_)⟩
      obtain ⟨ho, h1, h2⟩ := R'.cell c _ g'
      cases ho <;> first | exact h2.elim | skip
      exact ⟨_, .of h1, h2⟩
    · exact q.elim
  | non => exact q.elim
  | bl _ => exact q.elim
  | int _ => exact q.elim
  | ty _ => exact q.elim
  | code _ _ _ => exact q.elim⟩
def rngD (lo : Int) (n : Nat) : List D := (List.range n).map fun (i : Nat) => .int (lo + (i : Int))
theorem itok_rng {H : Hp} {G : GH} {Z : ZS} {lo : Int} {n : Nat} {gd : GH → Prop} : ItOk K (Itr lo n) (rngD lo n) gd H G Z := fun i H' G' Z' _ R x g => by
  refine ⟨fun hi => ?_, fun d e => ?_⟩
  · show n ≤ i
    simpa [rngD] using hi
  · simp only [rngD, List.getElem?_map, Option.map_eq_some_iff] at e
    obtain ⟨c, ec, rfl⟩ := e
    obtain ⟨hc, e2⟩ := List.getElem?_eq_some_iff.mp ec
    simp only [List.getElem_range] at e2
    subst e2
    refine ⟨(show i < n by simpa using hc), fun y H2 hy => ?_⟩
    obtain ⟨e1, e3⟩ := hy
    subst e1 e3
    exact ⟨.int _, R, .refl⟩
def small62 (i : Int) : Prop := -(2 ^ 62) ≤ i ∧ i < 2 ^ 62
def diRng1 (t : DA) : DI := fun Γ G Q => t Γ G fun ds G1 => match ds with | [.int j] => small62 j ∧ Q (rngD 0 j.toNat) (fun _ => True) G1 | _ => False
def diRng2 (t : DA) : DI := fun Γ G Q => t Γ G fun ds G1 => match ds with | [.int i, .int j] => small62 i ∧ small62 j ∧ Q (rngD i (j - i).toNat) (fun _ => True) G1 | _ => False
theorem pdi_rng1 {a : Expr} {T : DA} {p pos : Pos} (hg : Gl X "range") (hm : X.mg "range" = none) (ha : PDA X [a] T) (hs : starEach [a] X.env = [(false, eval a X.env)] := by rfl) : PDI X tg (.Call (.Name "range" p) [a] [] pos) (diRng1 T) :=
  pi_imp (pi_range1 hg hm ha hs) fun σ H R ⟨Γ, G, Z, Q0, S, h, k⟩ => ⟨Γ, G, Z, _, S, h, fun ds G1 vs H1 q r R1 x1 => by
    split at q
    · cases r with
      | cons r1 r2 => cases r2; cases r1; exact ⟨_, rfl, q.1.1, q.1.2, k _ _ _ _ _ q.2 R1 x1 itok_rng⟩
    · exact q.elim⟩
theorem pdi_rng2 {a b : Expr} {T : DA} {p pos : Pos} (hg : Gl X "range") (hm : X.mg "range" = none) (ha : PDA X [a, b] T) (hs : starEach [a, b] X.env = [(false, eval a X.env), (false, eval b X.env)] := by rfl) (hs2 : starEach [b] X.env = [(false, eval b X.env)] := by rfl) : PDI X tg (.Call (.Name "range" p) [a, b] [] pos) (diRng2 T) :=
  pi_imp (pi_range2 hg hm ha hs hs2) fun σ H R ⟨Γ, G, Z, Q0, S, h, k⟩ => ⟨Γ, G, Z, _, S, h, fun ds G1 vs H1 q r R1 x1 => by
    split at q
    · cases r with
      | cons r1 r2 =>
        cases r2 with
        | cons r2 r3 => cases r3; cases r1; cases r2; exact ⟨_, _, rfl, ⟨q.1.1, q.1.2, q.2.1.1, q.2.1.2⟩, k _ _ _ _ _ q.2.2 R1 x1 itok_rng⟩
    · exact q.elim⟩

/-! ## for -/
def dLoop (gd : GH → Prop) (g : DG) (tb : DS) (D0 : DEnds) : List D → GEnv → GH → Prop
  | [], Γ, G => gd G ∧ D0.nx Γ G
  | x :: r, Γ, G => gd G ∧ g x Γ G fun Γ' G' => tb { nx := dLoop gd g tb D0 r, rt := D0.rt, bk := D0.nx, ct := dLoop gd g tb D0 r, ex := D0.ex } Γ' G'
def dFor (ti : DI) (g : DG) (tb : DS) : DS := fun D0 Γ G => ti Γ G fun xs gd G1 => dLoop gd g tb D0 xs Γ G1
theorem pds_for {vs : List Nat} {iter : Expr} {body : List Stmt} {Ti : DI} {g : DG} {Tb : DS} {pos : Pos} (hp : PassesOwn (model X.prog X.w) X.A X.env X.xe) (hc : X.calm = true) (hi : PDI X tg iter Ti) (hg : PDG X vs tg g) (hb : PDSs X body Tb)
    (hs : ∀ x, foldedSetIterable iter X.env x = pure x := by intro _; rfl) : PDS X (.For tg iter body [] pos) (dFor Ti g Tb) :=
  ps_imp (ps_for hp hc hi hg hb hs) fun D σ H ⟨Γ, G, Z, D0, S, h, k⟩ => by
    refine ⟨Γ, G, Z, _, S, h, fun xs gd G1 H1 J q R1 x1 ok => ?_⟩
    refine ⟨fun i m σ' H' => ∃ Γ' G', SR X.K Γ' G' Z σ' H' ∧ Ext H1 G1 H' G' ∧ m + i = xs.length ∧ dLoop gd g Tb D0 (xs.drop i) Γ' G', ⟨xs.length, Γ, G1, S.ext x1 R1, .refl, rfl, q⟩, ?_⟩
    rintro i m σ' H' ⟨Γ', G', S', x', hm, q'⟩
    by_cases hi : i < xs.length
    · have e : xs.drop i = xs[i] :: xs.drop (i + 1) := List.drop_eq_getElem_cons hi
      rw [e] at q'
      obtain ⟨hgd, q'⟩ := q'
      obtain ⟨hgo, hy⟩ := (ok i H' G' Z (fun _ _ z => z) S'.rep x' hgd).2 xs[i] (List.getElem?_eq_getElem hi)
      refine .inr ⟨hgo, fun σ2 H2 => ∃ Γ2 G2, SR X.K Γ2 G2 Z σ2 H2 ∧ Ext H1 G1 H2 G2 ∧ dLoop gd g Tb D0 (xs.drop (i + 1)) Γ2 G2, ?_, fun y H2 hyl => ?_⟩
      · rintro σ2 H2 ⟨Γ2, G2, S2, x2, q2⟩
        exact ⟨m - 1, by omega, Γ2, G2, S2, x2, by omega, q2⟩
      · obtain ⟨r, R2, x2⟩ := hy y H2 hyl
        refine ⟨_, Γ', G', Z, _, r, S'.ext x2 R2, q', fun Γ3 G3 σ3 H3 q3 S3 x3 _ => ?_⟩
        have xx : Ext H1 G1 H3 G3 := x'.trans (x2.trans x3)
        exact ⟨Γ3, G3, Z, _, S3, q3, ⟨fun Γ4 G4 σ4 H4 q4 S4 x4 => ⟨Γ4, G4, S4, xx.trans x4, q4⟩, k.rt.mono (x1.trans xx), fun Γ4 G4 σ4 H4 q4 S4 x4 => k.nx _ _ _ _ q4 S4 (x1.trans (xx.trans x4)), fun Γ4 G4 σ4 H4 q4 S4 x4 => ⟨Γ4, G4, S4, xx.trans x4, q4⟩, fun n gs C d G4 σ4 H4 q4 c4 r4 R4 x4 => k.ex n gs C d G4 σ4 H4 q4 c4 r4 R4 (x1.trans (xx.trans x4))⟩⟩
    · have e : xs.drop i = [] := List.drop_eq_nil_of_le (by omega)
      rw [e] at q'
      exact .inl ⟨(ok i H' G' Z (fun _ _ z => z) S'.rep x' q'.1).1 (by omega), k.nx _ _ _ _ q'.2 S' (x1.trans x')⟩

/-! ## while -/
/-- at most n turns -/
def dWhileN (c : DT) (tb : DS) (D0 : DEnds) : Nat → GEnv → GH → Prop
  | 0, _, _ => False
  | n + 1, Γ, G => c Γ G fun b G1 => cnd b (tb { nx := dWhileN c tb D0 n, rt := D0.rt, bk := D0.nx, ct := dWhileN c tb D0 n, ex := D0.ex } Γ G1) (D0.nx Γ G1)
def dWhile (c : DT) (tb : DS) : DS := fun D0 Γ G => ∃ n, dWhileN c tb D0 n Γ G
theorem pds_while {c : Expr} {body : List Stmt} {Tc : DT} {Tb : DS} {pos : Pos} (hp : PassesOwn (model X.prog X.w) X.A X.env X.xe) (hc : PDT X c Tc) (hb : PDSs X body Tb) : PDS X (.While c body [] pos) (dWhile Tc Tb) :=
  ps_imp (ps_while hp hc hb) fun D σ H ⟨Γ, G, Z, D0, S, ⟨n, h⟩, k⟩ => by
    refine ⟨fun m σ' H' => ∃ Γ' G', SR X.K Γ' G' Z σ' H' ∧ Ext H G H' G' ∧ dWhileN Tc Tb D0 m Γ' G', ⟨n, Γ, G, S, .refl, h⟩, ?_⟩
    rintro m σ' H' ⟨Γ', G', S', x', q'⟩
    cases m with
    | zero => exact q'.elim
    | succ m =>
      refine ⟨Γ', G', Z, _, S', q', fun b G1 H1 q1 R1 x1 => ?_⟩
      cases b with
      | true =>
        rw [if_pos rfl]
        refine ⟨fun σ2 H2 => ∃ Γ2 G2, SR X.K Γ2 G2 Z σ2 H2 ∧ Ext H G H2 G2 ∧ dWhileN Tc Tb D0 m Γ2 G2, fun σ2 H2 ⟨Γ2, G2, S2, x2, q2⟩ => ⟨m, Nat.lt_succ_self _, Γ2, G2, S2, x2, q2⟩, ?_⟩
        have xx := x'.trans x1
        exact ⟨Γ', G1, Z, _, S'.ext x1 R1, q1, ⟨fun Γ4 G4 σ4 H4 q4 S4 x4 => ⟨Γ4, G4, S4, xx.trans x4, q4⟩, k.rt.mono xx, fun Γ4 G4 σ4 H4 q4 S4 x4 => k.nx _ _ _ _ q4 S4 (xx.trans x4), fun Γ4 G4 σ4 H4 q4 S4 x4 => ⟨Γ4, G4, S4, xx.trans x4, q4⟩, fun n gs C d G4 σ4 H4 q4 c4 r4 R4 x4 => k.ex n gs C d G4 σ4 H4 q4 c4 r4 R4 (xx.trans x4)⟩⟩
      | false =>
        rw [if_neg Bool.false_ne_true]
        exact k.nx _ _ _ _ q1 (S'.ext x1 R1) (x'.trans x1)
end
end TK

namespace TK
open PySem PySem.Spec L2
variable {K : PySem.W.Frag}
/-! ## comprehensions -/
def dComp (gd : GH → Prop) (g : DG) (tt : DT) (te : DE) (Γ : GEnv) (Q : List D → GH → Prop) : List D → List D → GH → Prop
  | [], acc, G => gd G ∧ Q acc G
  | x :: r, acc, G => gd G ∧ g x Γ G fun Γ2 G2 => tt Γ2 G2 fun b G3 => cnd b (te Γ2 G3 fun d G4 => dComp gd g tt te Γ Q r (acc ++ [d]) G4) (dComp gd g tt te Γ Q r acc G3)
def dLc (c : Bool) (ti : DI) (g : DG) (tt : DT) (te : DE) (vs : List Nat) : DE := fun Γ G Q => ti Γ G fun xs gd G1 => xs.length ≤ sizeLine ∧ dComp gd g tt te (wipeD Γ vs) (fun acc G2 => newL c acc G2 Q) xs [] G1
theorem wipe_wipe (σ : St) : ∀ vs : List Nat, wipe (wipe σ vs) vs = wipe σ vs := by
  have key : ∀ (vs : List Nat) (i : Nat) (τ : St), wipe (τ.set i none) vs = (wipe τ vs).set i none := by
    intro vs
    induction vs with
    | nil => intro i τ; rfl
    | cons v vs ih =>
      intro i τ
      unfold wipe
      rw [ih]
      by_cases e : i = v
      · subst e; rfl
      · rw [List.set_comm _ _ e]
  intro vs
  induction vs with
  | nil => rfl
  | cons v vs ih =>
    have h : wipe σ (v :: vs) = (wipe σ vs).set v none := rfl
    rw [h]
    show (wipe ((wipe σ vs).set v none) vs).set v none = _
    rw [key, ih]
    simp
section
variable {H : Hp} {G : GH} {Z : ZS}
theorem zext_new {D : Addr} (n : H D = none) : ZExt H Z (fun a => Z a ∨ a = D) := fun a s z => by
  rintro (h | h)
  · exact z h
  · subst h; rw [n] at s; cases s
theorem HRep.hide (R : HRep K H G Z) {D : Addr} {o : HO} (n : H D = none) (nc : (∀ q, o ≠ LamX.CodeO D q) ∧ (∀ ps, o ≠ .tbl ps) ∧ ∀ vs, o ≠ .tup vs := by exact ⟨(by intro q z; unfold LamX.CodeO at z; cases z), (by intro q z; cases z), (by intro q z; cases z)⟩) : HRep K (upd H D o) G (fun a => Z a ∨ a = D) :=
  ⟨fun c u e => by
    obtain ⟨ho, q, r⟩ := R.cell c u e
    exact ⟨ho, by rw [upd_ne (ne_of_none q n)]; exact q, GR.map (f := Rp.ext (ext_new R n)) (GR.map (f := Rp.zext (zext_new n)) r)⟩,
   fun c z => by
    rcases z with z | z
    · obtain ⟨g, s⟩ := R.hid c z
      have ne : c ≠ D := fun e => by subst e; rw [n] at s; cases s
      rw [upd_ne ne]; exact ⟨g, s⟩
    · subst z; rw [upd_same]; exact ⟨(R.noneAt n).1, rfl⟩,
   fun c z => by
    rcases z with z | z
    · obtain ⟨g, s⟩ := R.hid c z
      have ne : c ≠ D := fun e => by subst e; rw [n] at s; cases s
      rw [upd_ne ne]; exact R.nco c z
    · subst z; rw [upd_same]; exact ⟨fun q e => nc.1 q (Option.some.inj e), fun q e => nc.2.1 q (Option.some.inj e), fun q e => nc.2.2 q (Option.some.inj e)⟩⟩
theorem HRep.wrHid (R : HRep K H G Z) {D : Addr} {o : HO} (z : Z D) (nc : (∀ q, o ≠ LamX.CodeO D q) ∧ (∀ ps, o ≠ .tbl ps) ∧ ∀ vs, o ≠ .tup vs := by exact ⟨(by intro q z; unfold LamX.CodeO at z; cases z), (by intro q z; cases z), (by intro q z; cases z)⟩) : HRep K (upd H D o) G Z :=
  ⟨fun c u e => by
    obtain ⟨ho, q, r⟩ := R.cell c u e
    have ne : c ≠ D := fun w => by subst w; rw [(R.hid c z).1] at e; cases e
    exact ⟨ho, by rw [upd_ne ne]; exact q, GR.map (f := Rp.wr (.inr z) fun _ _ q => q) r⟩,
   fun c w => by
    obtain ⟨g, s⟩ := R.hid c w
    by_cases ne : c = D
    · subst ne; rw [upd_same]; exact ⟨g, rfl⟩
    · rw [upd_ne ne]; exact ⟨g, s⟩,
   fun c w => by
    by_cases ne : c = D
    · subst ne; rw [upd_same]; exact ⟨fun q e => nc.1 q (Option.some.inj e), fun q e => nc.2.1 q (Option.some.inj e), fun q e => nc.2.2 q (Option.some.inj e)⟩
    · rw [upd_ne ne]; exact R.nco c w⟩
theorem rp_less {P : ZS} {v : V} {d : D} (r : Rp K H G (fun a => Z a ∨ P a) v d) : Rp K H G Z v d := r.re fun a g n _ => ⟨g, fun z => n (.inl z)⟩
theorem rpall_less {P : ZS} {v : List V} {d : List D} (r : RpAll K H G (fun a => Z a ∨ P a) v d) : RpAll K H G Z v d := r.re fun a g n _ => ⟨g, fun z => n (.inl z)⟩
theorem HRep.unhide {P : ZS} (R : HRep K H G (fun a => Z a ∨ P a)) : HRep K H G Z :=
  ⟨fun c u e => by
    obtain ⟨ho, q, r⟩ := R.cell c u e
    exact ⟨ho, q, GR.map (f := rp_less) r⟩, fun c z => R.hid c (.inl z), fun c z => R.nco c (.inl z)⟩
theorem rp_toC {D : Addr} {o : GO} {v : V} {d : TK.D} (r : Rp K H G (fun a => Z a ∨ a = D) v d) : Rp K H (gup G D o) Z v d := r.re fun a g n _ => by
  have ne : a ≠ D := fun e => n (.inr e)
  rw [gup_ne ne]; exact ⟨g, fun z => n (.inl z)⟩
theorem HRep.toC {D : Addr} {o : GO} {ho : HO} (R : HRep K H G (fun a => Z a ∨ a = D)) (nz : ¬ Z D) (h : H D = some ho) (r : GR K H G (fun a => Z a ∨ a = D) ho o) : HRep K H (gup G D o) Z :=
  ⟨fun c u e => by
    by_cases hc : c = D
    · subst hc; rw [gup_same] at e; cases e; exact ⟨ho, h, GR.map (f := rp_toC) r⟩
    · rw [gup_ne hc] at e
      obtain ⟨ho, q, r⟩ := R.cell c u e
      exact ⟨ho, q, GR.map (f := rp_toC) r⟩,
   fun c z => by
    have ne : c ≠ D := fun e => by subst e; exact nz z
    rw [gup_ne ne]; exact R.hid c (.inl z), fun c z => R.nco c (.inl z)⟩
end
section
variable {X : Cx}
abbrev PDTs (X : Cx) (ifs : List Expr) (T : DT) : Prop := PTs X ifs (liftT X.K T)
def dYes : DT := fun _ G Q => Q true G
theorem pts_imp {e : List Expr} {t t' : TT} (h : PTs X e t) (i : ∀ σ H Q, t' σ H Q → t σ H Q) : PTs X e t' := ⟨fun pins s σ H Q I q => h.run pins s σ H Q I (i σ H Q q)⟩
theorem pdts_nil : PDTs X [] dYes := pts_imp pts_nil fun σ H Q ⟨Γ, G, Z, Q0, S, h, k⟩ => k _ _ _ h S.rep .refl
theorem pdts_one {c : Expr} {T : DT} (h : PDT X c T) : PDTs X [c] T := pts_one h
theorem lc_lift (c : Bool) {Ti : DI} {g : DG} {Tt : DT} {Te : DE} {vs : List Nat} {σ : St} {H : Hp} {Q : VK} (h : liftE X.K (dLc c Ti g Tt Te vs) σ H Q) : tLc (liftI X.K Ti) (liftG X.K vs g) (liftT X.K Tt) (liftE X.K Te) vs σ H Q := by
  obtain ⟨Γ, G, Z, Q0, S, h, k⟩ := h
  refine ⟨Γ, G, Z, _, S, h, fun xs gd G1 H1 J q R1 x1 ok D nD => ?_⟩
  obtain ⟨hsz, q⟩ := q
  have nz := R1.noneAt nD
  have zx : ZExt H1 Z (fun a => Z a ∨ a = D) := zext_new nD
  have xD : ∀ {H' : Hp} {G' : GH} {o : HO}, Ext H1 G1 H' G' → Ext H1 G1 (upd H' D o) G' := fun {H' G' o} x a u g e n => ⟨(x a u g e n).1, by rw [upd_ne (ne_of_none e nD)]; exact (x a u g e n).2⟩
  refine ⟨fun i m H' => ∃ G' acc vacc, HRep X.K H' G' (fun a => Z a ∨ a = D) ∧ Ext H1 G1 H' G' ∧ H' D = some (.lst vacc) ∧ RpAll X.K H' G' (fun a => Z a ∨ a = D) vacc acc ∧ acc.length ≤ i ∧ m + i = xs.length ∧ dComp gd g Tt Te (wipeD Γ vs) (fun acc G2 => newL c acc G2 Q0) (xs.drop i) acc G',
    ⟨xs.length, G1, [], [], R1.hide nD, xD .refl, upd_same, .nil, Nat.le_refl _, rfl, q⟩, ?_⟩
  rintro i m H' ⟨G', acc, vacc, R', x', hD, al, hl, hm, q'⟩
  have hid := R'.hid D (.inr rfl)
  by_cases hi : i < xs.length
  · have e : xs.drop i = xs[i] :: xs.drop (i + 1) := List.drop_eq_getElem_cons hi
    rw [e] at q'
    obtain ⟨hgd, q'⟩ := q'
    obtain ⟨hgo, hy⟩ := (ok i H' G' _ zx R' x' hgd).2 xs[i] (List.getElem?_eq_getElem hi)
    refine .inr ⟨hgo, fun H2 => ∃ G2 acc2 vacc2, HRep X.K H2 G2 (fun a => Z a ∨ a = D) ∧ Ext H1 G1 H2 G2 ∧ H2 D = some (.lst vacc2) ∧ RpAll X.K H2 G2 (fun a => Z a ∨ a = D) vacc2 acc2 ∧ acc2.length ≤ i + 1 ∧ dComp gd g Tt Te (wipeD Γ vs) (fun acc G2 => newL c acc G2 Q0) (xs.drop (i + 1)) acc2 G2, ?_, fun y H2 hyl => ?_⟩
    · rintro H2 ⟨G2, acc2, vacc2, R2, x2, h2, al2, hl2, q2⟩
      exact ⟨m - 1, by omega, G2, acc2, vacc2, R2, x2, h2, al2, hl2, by omega, q2⟩
    · obtain ⟨r, R2, x2⟩ := hy y H2 hyl
      have hD2 := (x2 D _ hid.1 hD trivial)
      have env : EnvR X.K H2 G' (fun a => Z a ∨ a = D) (wipe σ vs) (wipeD Γ vs) := ((EnvR.map (f := Rp.ext x2) (EnvR.map (f := Rp.ext x') (EnvR.map (f := Rp.zext zx) (S.ext x1 R1).env)))).wipe vs
      refine ⟨_, wipeD Γ vs, G', _, _, r, ⟨env, R2⟩, q', fun Γ3 G3 σ3 H3 q3 S3 x3 w3 => ⟨w3.trans (wipe_wipe σ vs), ?_⟩⟩
      refine ⟨Γ3, G3, _, _, S3, q3, fun b G4 H4 q4 R4 x4 => ?_⟩
      have x24 := x2.trans (x3.trans x4)
      cases b with
      | false =>
        refine iteF ?_
        exact ⟨G4, acc, vacc, R4, x'.trans x24, (x24 D _ hid.1 hD trivial).2, al.ext x24, by omega, q4⟩
      | true =>
        refine iteT ?_
        refine ⟨Γ3, G4, _, _, S3.ext x4 R4, q4, fun d G5 v H5 q5 r5 R5 x5 => ?_⟩
        have x25 := x24.trans x5
        have hD5 := (x25 D _ hid.1 hD trivial).2
        refine ⟨vacc, hD5, by rw [al.length]; omega, G5, acc ++ [d], vacc ++ [v], R5.wrHid (.inr rfl), xD (x'.trans x25), upd_same, ?_, by simp; omega, q5⟩
        exact ((al.ext x25).append (.cons r5 .nil)).wr (.inr (.inr rfl)) fun _ _ q => q
  · have e : xs.drop i = [] := List.drop_eq_nil_of_le (by omega)
    rw [e] at q'
    refine .inl ⟨(ok i H' G' _ zx R' x' q'.1).1 (by omega), ?_⟩
    have q2 := q'.2
    cases c with
    | true =>
      exact k _ _ _ _ (q2 D hid.1) (.ref D) (R'.toC nz.2 hD al) (fun a u g e n => by
        have z := (x1.trans x') a u g e n
        have s1 := (x1 a u g e n).2
        have ne : a ≠ D := ne_of_none s1 nD
        rw [gup_ne ne]; exact z)
    | false => exact k _ _ _ _ q2 (.lst hid.1 nz.2 hD (rpall_less al)) R'.unhide (x1.trans x')
theorem pd_lc (c : Bool) {elt tg iter : Expr} {ifs : List Expr} {scope : Scope} {own : List (Str × Nat)} {pos : Pos} {Ti : DI} {g : DG} {Tt : DT} {Te : DE} (hc : X.calm = true) (hN : X.N.Nodup) (hi : PDI X tg iter Ti) (ok : BlkOk X.N X.env.scope scope own)
    (hg : ∀ (s : Shared) (H : Hp) (C : Addr) (cl : List (Str × Addr)) (fp : List Addr), PDG (X.blk s H scope (compEnvC scope cl C X.env) fp) (own.map (·.2)) tg g) (ht : ∀ (s : Shared) (H : Hp) (C : Addr) (cl : List (Str × Addr)) (fp : List Addr), PDTs (X.blk s H scope (compEnvC scope cl C X.env) fp) ifs Tt)
    (he : ∀ (s : Shared) (H : Hp) (C : Addr) (cl : List (Str × Addr)) (fp : List Addr), PD (X.blk s H scope (compEnvC scope cl C X.env) fp) elt Te) (hs : ∀ x, foldedSetIterable iter X.env x = pure x := by intro _; rfl) :
    PD X (.ListComp elt [⟨tg, iter, ifs, 0⟩] scope pos) (dLc c Ti g Tt Te (own.map (·.2))) :=
  pe_imp (pe_lc hc hN hi ok hg ht he hs) fun _ _ _ h => lc_lift c h
theorem pds_setLc (c : Bool) {i : Nat} {y : Str} {py : Pos} {elt tg iter : Expr} {ifs : List Expr} {scope : Scope} {own : List (Str × Nat)} {pos spos : Pos} {Ti : DI} {g : DG} {Tt : DT} {Te : DE} (hc : X.calm = true) (hN : X.N.Nodup) (hy : X.N[i]? = some y) (hyl : X.env.scope.names.lookup y = some .local)
    (hsw : swapsWith (.ListComp elt [⟨tg, iter, ifs, 0⟩] scope pos) (some (.Name y py)) spos.line X.env = pure true) (hi : PDI X tg iter Ti) (ok : BlkOk X.N X.env.scope scope own)
    (hg : ∀ (s : Shared) (H : Hp) (C : Addr) (cl : List (Str × Addr)) (fp : List Addr), PDG (X.blk s H scope (compEnvC scope cl C X.env) fp) (own.map (·.2)) tg g) (ht : ∀ (s : Shared) (H : Hp) (C : Addr) (cl : List (Str × Addr)) (fp : List Addr), PDTs (X.blk s H scope (compEnvC scope cl C X.env) fp) ifs Tt)
    (he : ∀ (s : Shared) (H : Hp) (C : Addr) (cl : List (Str × Addr)) (fp : List Addr), PD (X.blk s H scope (compEnvC scope cl C X.env) fp) elt Te) (hs : ∀ x, foldedSetIterable iter X.env x = pure x := by intro _; rfl) :
    PDS X (.Assign [.Name y py] (.ListComp elt [⟨tg, iter, ifs, 0⟩] scope pos) spos) (dSet i (dLc c Ti g Tt Te (own.map (·.2)))) :=
  ps_imp (ps_setLc hc hN hy hyl hsw hi ok hg ht he hs) fun D σ H ⟨Γ, G, Z, D0, S, h, k⟩ => lc_lift c ⟨Γ, G, Z, _, S, h, fun d G1 v H1 q r R x => k.nx _ _ _ _ q ⟨(S.ext x R).env.set r i, R⟩ x⟩
end
end TK

namespace TK
open PySem PySem.Spec L2
variable {K : PySem.W.Frag}
section
variable {X : Cx}
theorem vw_tup_eq {G : GH} {d : D} {ds : List D} (e : vw G d = .tup ds) : d = .tup ds := by
  cases d <;> first | exact e | (cases e; done) | (simp only [vw] at e; split at e <;> cases e)
/-! ## displays -/
def dTup (t : DA) : DE := fun Γ G Q => t Γ G fun ds G1 => ds.length ≤ sizeLine ∧ Q (.tup ds) G1
def dLst (c : Bool) (t : DA) : DE := fun Γ G Q => t Γ G fun ds G1 => ds.length ≤ sizeLine ∧ newL c ds G1 Q
theorem pd_tup {es : List Expr} {T : DA} {x1} {pos : Pos} (h : PDA X es T) : PD X (.Tuple es x1 pos) (dTup T) :=
  pe_imp (pe_tup h) fun σ H Q ⟨Γ, G, Z, Q0, S, h, k⟩ => ⟨Γ, G, Z, _, S, h, fun ds G1 vs H1 q r R x => ⟨by rw [r.length]; exact q.1, newT_ok R r q.2 (k.mono x)⟩⟩
theorem pd_lst (c : Bool) {es : List Expr} {T : DA} {pos : Pos} (h : PDA X es T) : PD X (.List es pos) (dLst c T) :=
  pe_imp (pe_lst h) fun σ H Q ⟨Γ, G, Z, Q0, S, h, k⟩ => ⟨Γ, G, Z, _, S, h, fun ds G1 vs H1 q r R x => ⟨by rw [r.length]; exact q.1, newL_ok R r q.2 (k.mono x)⟩⟩
/-! ## calls of built-ins -/
abbrev DC := List D → GH → DK → Prop
def CD (K : PySem.W.Frag) (r : List V → Hp → VK → Prop) (r' : DC) : Prop := ∀ {H : Hp} {G : GH} {Z : ZS} {vs : List V} {ds : List D} {Q0 : DK} {Q : VK}, HRep K H G Z → RpAll K H G Z vs ds → r' ds G Q0 → Cont K H G Z Q0 Q → r vs H Q
def dCB (r : DC) (t : DA) : DE := fun Γ G Q => t Γ G fun ds G1 => r ds G1 Q
theorem cb_lift {r : List V → Hp → VK → Prop} {r' : DC} {T : DA} (hr : CD X.K r r') {σ : St} {H : Hp} {Q : VK} (h : liftE X.K (dCB r' T) σ H Q) : tCB r (liftA X.K T) σ H Q := by
  obtain ⟨Γ, G, Z, Q0, S, h, k⟩ := h
  exact ⟨Γ, G, Z, _, S, h, fun ds G1 vs H1 q r R x => hr R r q (k.mono x)⟩
theorem pd_callB {id : String} {x : Str} {e : Expr} {es : List Expr} {r : List V → Hp → VK → Prop} {r' : DC} {T : DA} {p pos : Pos} (hc : CallR X (.builtin id) r) (hr : CD X.K r r') (hg : Gl X x) (hm : X.mg x = none) (hv : bootBuiltins x = some (.builtin id)) (ha : PDA X (e :: es) T) (hn : x ≠ "__name__" := by decide) (hdb : (x == ("__debug__" : Str)) = false := by decide)
    (he : starEach (e :: es) X.env = (false, eval e X.env) :: starEach es X.env := by rfl) (hpl : (backTo pos (starEach es X.env)).any (·.1) = false := by rfl) : PD X (.Call (.Name x p) (e :: es) [] pos) (dCB r' T) :=
  pe_imp (pe_callB hc hg hm hv ha hn hdb he hpl) fun _ _ _ h => cb_lift hr h
theorem pd_callTy {id : String} {x : Str} {e : Expr} {es : List Expr} {r : List V → Hp → VK → Prop} {r' : DC} {T : DA} {p pos : Pos} (hc : CallR X (.type id) r) (hr : CD X.K r r') (hg : Gl X x) (hm : X.mg x = none) (hv : bootBuiltins x = some (.type id)) (ha : PDA X (e :: es) T) (hn : x ≠ "__name__" := by decide) (hdb : (x == ("__debug__" : Str)) = false := by decide)
    (he : starEach (e :: es) X.env = (false, eval e X.env) :: starEach es X.env := by rfl) (hpl : (backTo pos (starEach es X.env)).any (·.1) = false := by rfl) : PD X (.Call (.Name x p) (e :: es) [] pos) (dCB r' T) :=
  pe_imp (pe_callTy hc hg hm hv ha hn hdb he hpl) fun _ _ _ h => cb_lift hr h
theorem CD.or {r s : List V → Hp → VK → Prop} {r' : DC} (h : ∀ {H : Hp} {G : GH} {Z : ZS} {vs : List V} {ds : List D} {Q0 : DK} {Q : VK}, HRep K H G Z → RpAll K H G Z vs ds → r' ds G Q0 → Cont K H G Z Q0 Q → r vs H Q ∨ s vs H Q) : CD K (fun xs H Q => r xs H Q ∨ s xs H Q) r' := fun R al q k => h R al q k
theorem RpAll.one {H : Hp} {G : GH} {Z : ZS} {vs : List V} {d : D} (r : RpAll K H G Z vs [d]) : ∃ v, vs = [v] ∧ Rp K H G Z v d := by cases r with | cons h t => cases t; exact ⟨_, rfl, h⟩
theorem RpAll.two {H : Hp} {G : GH} {Z : ZS} {vs : List V} {d e : D} (r : RpAll K H G Z vs [d, e]) : ∃ v u, vs = [v, u] ∧ Rp K H G Z v d ∧ Rp K H G Z u e := by cases r with | cons h t => obtain ⟨u, rfl, r2⟩ := RpAll.one t; exact ⟨_, _, rfl, h, r2⟩
/-- len -/
def dLen : DC := fun ds G Q => match ds with
  | [d] => match vw G d with
    | .lst xs => Q (.int xs.length) G
    | .frz xs => Q (.int xs.length) G
    | .tup xs => Q (.int xs.length) G
    | .str z => z.length ≤ sizeLine ∧ Q (.int z.length) G
    | _ => False
  | _ => False
theorem cd_len (K : PySem.W.Frag) : CD K (fun xs H Q => ∃ x n, xs = [x] ∧ LenV K x H n ∧ Q (.int n) H) dLen := fun {H G Z vs ds Q0 Q} R al h k => by
  unfold dLen at h
  split at h
  · obtain ⟨v, rfl, r⟩ := al.one
    split at h
    · rename_i e
      obtain ⟨a, us, rfl, ha, al⟩ := vw_lst R r e
      exact ⟨_, _, rfl, .inl ⟨us, .of ha, rfl⟩, k.here R h (by rw [al.length]; exact .int _)⟩
    · rename_i e
      obtain ⟨a, us, rfl, ha, al⟩ := vw_frz r e
      exact ⟨_, _, rfl, .inl ⟨us, ha, rfl⟩, k.here R h (by rw [al.length]; exact .int _)⟩
    · rename_i e
      obtain ⟨a, us, rfl, ha, al⟩ := vw_tup r e
      exact ⟨_, _, rfl, .inr ⟨us, .of ha, rfl⟩, k.here R h (by rw [al.length]; exact .int _)⟩
    · rename_i z e
      have e2 := vw_str r e
      subst e2
      exact ⟨_, _, rfl, ⟨h.1, rfl⟩, k.here R h.2 (.int _)⟩
    · exact h.elim
  · exact h.elim
/-- ints of a list -/
theorem RpAll.ints {H : Hp} {G : GH} {Z : ZS} : ∀ {vs : List V} {ns : List Int}, RpAll K H G Z vs (ns.map D.int) → vs = ns.map V.int
  | _, [], .nil => rfl
  | _, n :: r, .cons h t => by rw [List.map_cons, h.at_int, RpAll.ints t]
theorem RpAll.ofInts {H : Hp} {G : GH} {Z : ZS} : ∀ (ns : List Int), RpAll K H G Z (ns.map V.int) (ns.map D.int)
  | [] => .nil
  | n :: r => .cons (.int n) (RpAll.ofInts r)
theorem RpAll.strs {H : Hp} {G : GH} {Z : ZS} : ∀ {vs : List V} {ns : List Str}, RpAll K H G Z vs (ns.map D.str) → vs = ns.map V.str
  | _, [], .nil => rfl
  | _, n :: r, .cons h t => by rw [List.map_cons, h.at_str, RpAll.strs t]
theorem RpAll.ofStrs {H : Hp} {G : GH} {Z : ZS} : ∀ (ns : List Str), RpAll K H G Z (ns.map V.str) (ns.map D.str)
  | [] => .nil
  | n :: r => .cons (.str n) (RpAll.ofStrs r)
def isMax (m : Int) (ns : List Int) : Prop := m ∈ ns ∧ ∀ y, y ∈ ns → y ≤ m
def isMin (m : Int) (ns : List Int) : Prop := m ∈ ns ∧ ∀ y, y ∈ ns → m ≤ y
def dMax : DC := fun ds G Q => match ds with
  | [.int i, .int j] => Q (.int (if j > i then j else i)) G
  | [d] => ∃ ns : List Int, vw G d = .lst (ns.map D.int) ∧ 0 < ns.length ∧ ∀ m, isMax m ns → Q (.int m) G
  | _ => False
def dMin : DC := fun ds G Q => match ds with
  | [.int i, .int j] => Q (.int (if j < i then j else i)) G
  | [d] => ∃ ns : List Int, vw G d = .lst (ns.map D.int) ∧ 0 < ns.length ∧ ∀ m, isMin m ns → Q (.int m) G
  | _ => False
theorem cd_max (K : PySem.W.Frag) : CD K (fun xs H Q => (∃ i j, xs = [.int i, .int j] ∧ Q (.int (if j > i then j else i)) H) ∨ rMax K xs H Q) dMax := fun {H G Z vs ds Q0 Q} R al h k => by
  unfold dMax at h
  split at h
  · obtain ⟨v, u, rfl, r1, r2⟩ := al.two
    cases r1.at_int; cases r2.at_int
    exact .inl ⟨_, _, rfl, k.here R h (.int _)⟩
  · obtain ⟨v, rfl, r⟩ := al.one
    obtain ⟨ns, e, h0, h⟩ := h
    obtain ⟨a, us, rfl, ha, al⟩ := vw_lst R r e
    have e3 := al.ints
    subst e3
    exact .inr ⟨a, ns, rfl, .of ha, h0, fun m h1 h2 => k.here R (h m ⟨h1, h2⟩) (.int _)⟩
  · exact h.elim
theorem cd_min (K : PySem.W.Frag) : CD K (fun xs H Q => (∃ i j, xs = [.int i, .int j] ∧ Q (.int (if j < i then j else i)) H) ∨ rMin K xs H Q) dMin := fun {H G Z vs ds Q0 Q} R al h k => by
  unfold dMin at h
  split at h
  · obtain ⟨v, u, rfl, r1, r2⟩ := al.two
    cases r1.at_int; cases r2.at_int
    exact .inl ⟨_, _, rfl, k.here R h (.int _)⟩
  · obtain ⟨v, rfl, r⟩ := al.one
    obtain ⟨ns, e, h0, h⟩ := h
    obtain ⟨a, us, rfl, ha, al⟩ := vw_lst R r e
    have e3 := al.ints
    subst e3
    exact .inr ⟨a, ns, rfl, .of ha, h0, fun m h1 h2 => k.here R (h m ⟨h1, h2⟩) (.int _)⟩
  · exact h.elim
theorem call_max (hc : X.calm = true) : CallR X (.builtin "max") (fun xs H Q => (∃ i j, xs = [.int i, .int j] ∧ Q (.int (if j > i then j else i)) H) ∨ rMax X.K xs H Q) := (call_max2 hc).or (cr_max hc)
theorem call_min (hc : X.calm = true) : CallR X (.builtin "min") (fun xs H Q => (∃ i j, xs = [.int i, .int j] ∧ Q (.int (if j < i then j else i)) H) ∨ rMin X.K xs H Q) := (call_min2 hc).or (cr_min hc)
/-- tuple(..), list(..) -/
def dTuple : DC := fun ds G Q => match ds with
  | [d] => match vw G d with | .lst xs => Q (.tup xs) G | .tup xs => Q (.tup xs) G | _ => False
  | _ => False
theorem cd_tuple (K : PySem.W.Frag) : CD K (fun xs H Q => ∃ p ys, xs = [.ref p] ∧ ((SqL K H p ys ∧ ∀ l, H l = none → Q (.ref l) (upd H l (.tup ys))) ∨ (SqT K H p ys ∧ Q (.ref p) H))) dTuple := fun {H G Z vs ds Q0 Q} R al h k => by
  unfold dTuple at h
  split at h
  · obtain ⟨v, rfl, r⟩ := al.one
    split at h
    · rename_i e
      obtain ⟨a, us, rfl, ha, al⟩ := vw_lst R r e
      exact ⟨a, us, rfl, .inl ⟨.of ha, newT_ok R al h k⟩⟩
    · rename_i e
      have r' := r
      obtain ⟨a, us, rfl, ha, al⟩ := vw_tup r e
      rw [vw_tup_eq e] at r'
      exact ⟨a, us, rfl, .inr ⟨.of ha, k.here R h r'⟩⟩
    · exact h.elim
  · exact h.elim
def dList (c : Bool) : DC := fun ds G Q => match ds with
  | [d] => match vw G d with | .lst xs => newL c xs G Q | .tup xs => newL c xs G Q | _ => False
  | _ => False
theorem cd_list (K : PySem.W.Frag) (c : Bool) : CD K (fun xs H Q => ∃ p ys, xs = [.ref p] ∧ (SqL K H p ys ∨ SqT K H p ys) ∧ ∀ l, H l = none → Q (.ref l) (upd H l (.lst ys))) (dList c) := fun {H G Z vs ds Q0 Q} R al h k => by
  unfold dList at h
  split at h
  · obtain ⟨v, rfl, r⟩ := al.one
    split at h
    · rename_i e
      obtain ⟨a, us, rfl, ha, al⟩ := vw_lst R r e
      exact ⟨a, us, rfl, .inl (.of ha), newL_ok R al h k⟩
    · rename_i e
      obtain ⟨a, us, rfl, ha, al⟩ := vw_tup r e
      exact ⟨a, us, rfl, .inr (.of ha), newL_ok R al h k⟩
    · exact h.elim
  · exact h.elim
/-- int(..) of an int, a bool, a text -/
def b2n : Bool → Int | true => 1 | false => 0
theorem b2n_t : b2n true = 1 := rfl
theorem b2n_f : b2n false = 0 := rfl
theorem b2n_ite {k : Bool} : (if k then (1 : Int) else 0) = b2n k := by cases k <;> rfl
def dInt : DC := fun ds G Q => match ds with
  | [.int i] => Q (.int i) G
  | [.bl b] => Q (.int (b2n b)) G
  | [.str z] => ∃ n, PySem.intText? z = some n ∧ z.length ≤ 640 ∧ Q (.int n) G
  | _ => False
theorem cd_int : CD K (fun xs H Q => ((∃ i, xs = [.int i] ∧ Q (.int i) H) ∨ ∃ k, xs = [.bl k] ∧ Q (.int (if k then 1 else 0)) H) ∨ ∃ a n, xs = [.str a] ∧ PySem.intText? a = some n ∧ a.length ≤ 640 ∧ Q (.int n) H) dInt := fun {H G Z vs ds Q0 Q} R al h k => by
  unfold dInt at h
  split at h
  · obtain ⟨v, rfl, r⟩ := al.one
    cases r.at_int
    exact .inl (.inl ⟨_, rfl, k.here R h (.int _)⟩)
  · obtain ⟨v, rfl, r⟩ := al.one
    cases r.at_bl
    exact .inl (.inr ⟨_, rfl, by rw [b2n_ite]; exact k.here R h (.int _)⟩)
  · obtain ⟨v, rfl, r⟩ := al.one
    cases r.at_str
    obtain ⟨n, h1, h2, h3⟩ := h
    exact .inr ⟨_, n, rfl, h1, h2, k.here R h3 (.int _)⟩
  · exact h.elim
theorem call_intD : CallR X (.type "int") (fun xs H Q => ((∃ i, xs = [.int i] ∧ Q (.int i) H) ∨ ∃ k, xs = [.bl k] ∧ Q (.int (if k then 1 else 0)) H) ∨ ∃ a n, xs = [.str a] ∧ PySem.intText? a = some n ∧ a.length ≤ 640 ∧ Q (.int n) H) := call_int1.or call_int_str
/-! ## isinstance -/
def tyName : D → String | .non => "NoneType" | .bl _ => "bool" | .int _ => "int" | .str _ => "str" | .tup _ => "tuple" | .lst _ => "list" | .frz _ => "list" | .ref _ => "" | .ty _ => "" | .code _ => ""
def isaB (t u : String) : Bool := t == u || (t == "bool" && u == "int")
def okTy (t : String) : Bool := t == "NoneType" || t == "bool" || t == "int" || t == "str" || t == "tuple" || t == "list"
theorem kit_all {K : PySem.W.Frag} {t u : String} (ht : okTy t = true) (hu : okTy u = true) (hu2 : u ≠ "NoneType") : PySem.W.kitOne K (.type t) (.type u) = some (isaB t u) := by
  simp only [okTy, Bool.or_eq_true, beq_iff_eq] at ht hu
  rcases ht with ((((rfl | rfl) | rfl) | rfl) | rfl) | rfl <;> rcases hu with ((((rfl | rfl) | rfl) | rfl) | rfl) | rfl <;> first | exact absurd rfl hu2 | exact kit_ty (by decide +kernel)
theorem vw_ty (K : PySem.W.Frag) {H : Hp} {G : GH} {Z : ZS} {v : V} {d : D} (R : HRep K H G Z) (r : Rp K H G Z v d) (h : okTy (tyName (vw G d)) = true) : TyX K H v (.type (tyName (vw G d))) := by
  cases r with
  | non => exact .base .non
  | bl b => exact .base (.bl b)
  | int i => exact .base (.int i)
  | str x => exact .base (.str x)
  | ty n => exact absurd (show okTy "" = true from h) (by decide)
  | code _ _ _ => exact absurd (show okTy "" = true from h) (by decide)
  | tup g z q al => exact .base (.tup q)
  | lst g z q al => exact .base (.lst q)
  | frz g z q al => exact .base (.frz q)
  | frl g z q al => exact .base (.lst q)
  | wrt w al => obtain ⟨o, _, _, e, c, _⟩ := w; exact .kList e c
  | ref a =>
    simp only [vw] at h ⊢
    split
    · rename_i ds q
      obtain ⟨ho, h1, h2⟩ := R.cell a _ q
      cases ho <;> first | exact h2.elim | skip
      exact .base (.lst h1)
    · rename_i q
      split at h
      · rename_i ds q2; exact absurd q2 (q ds)
      · exact absurd (show okTy "" = true from h) (by decide)
/-- isinstance(x, T), isinstance(x, (T, U)) -/
def dIsi : DC := fun ds G Q => match ds with
  | [d, .ty u] => okTy (tyName (vw G d)) = true ∧ okTy u = true ∧ u ≠ "NoneType" ∧ Q (.bl (isaB (tyName (vw G d)) u)) G
  | [d, .tup [.ty u, .ty w]] => okTy (tyName (vw G d)) = true ∧ okTy u = true ∧ u ≠ "NoneType" ∧ okTy w = true ∧ w ≠ "NoneType" ∧ Q (.bl (isaB (tyName (vw G d)) u || isaB (tyName (vw G d)) w)) G
  | _ => False
theorem cd_isi (K : PySem.W.Frag) : CD K (fun xs H Q => rIsi K xs H Q ∨ rIsiT K xs H Q) dIsi := fun {H G Z vs ds Q0 Q} R al h k => by
  unfold dIsi at h
  split at h
  · obtain ⟨v, u, rfl, r, r2⟩ := al.two
    obtain ⟨h1, h2, h3, h4⟩ := h
    cases r2.at_ty
    exact .inl ⟨v, _, _, _, _, rfl, .ty _, vw_ty K R r h1, kit_all h1 h2 h3, k.here R h4 (.bl _)⟩
  · obtain ⟨v, u, rfl, r, r2⟩ := al.two
    obtain ⟨h1, h2, h3, h4, h5, h6⟩ := h
    cases r2 with
    | tup g z ht al2 =>
      obtain ⟨c1, c2, rfl, r3, r4⟩ := al2.two
      cases r3.at_ty; cases r4.at_ty
      refine .inr ⟨v, _, _, _, _, _, rfl, ht, .cons (.ty _) (.cons (.ty _) .nil), vw_ty K R r h1, kitAny_cons (r := isaB (tyName (vw G _)) _ || isaB (tyName (vw G _)) _) (kit_all h1 h2 h3) (fun e => ?_) ?_, k.here R h6 (.bl _)⟩
      · rw [e, Bool.false_or]
        exact kitAny_cons (kit_all h1 h4 h5) (fun e2 => by rw [e2]; exact kitAny_nil) (fun z => z)
      · intro e; rw [e]; rfl
  · exact h.elim
theorem call_isiD : CallR X (.builtin "isinstance") (fun xs H Q => rIsi X.K xs H Q ∨ rIsiT X.K xs H Q) := call_isi.or call_isiT
/-! ## subscripts -/
def dIxR : DR2 := fun x y G Q => match vw G x, y with
  | .lst ds, .int i => match atI ds i with | some d => Q d G | none => False
  | .frz ds, .int i => match atI ds i with | some d => Q d G | none => False
  | .tup ds, .int i => match atI ds i with | some d => Q d G | none => False
  | .str z, .int i => match atI z.cps.toList i with | some c => z.length ≤ sizeLine ∧ Q (.str ⟨#[c]⟩) G | none => False
  | _, _ => False
theorem RpAll.atI {H : Hp} {G : GH} {Z : ZS} {vs : List V} {ds : List D} {i : Int} {d : D} (al : RpAll K H G Z vs ds) (e : atI ds i = some d) : ∃ v, L2.atI vs i = some v ∧ Rp K H G Z v d := by
  unfold L2.atI at e ⊢
  rw [al.length]
  cases h : ixN ds.length i with
  | none => rw [h] at e; cases e
  | some j => rw [h] at e; exact al.get e
theorem r2_ix (K : PySem.W.Frag) : R2D K (rIx K) dIxR := fun {H G Z x y a b Q0 Q} R rx ry h k => by
  unfold dIxR at h
  split at h
  · rename_i e
    obtain ⟨p, vs, rfl, hp, al⟩ := vw_lst R rx e
    cases ry.at_int
    split at h
    · rename_i e2
      obtain ⟨v, ev, r⟩ := al.atI e2
      exact .inl ⟨p, vs, _, v, rfl, rfl, .of hp, ev, k.here R h r⟩
    · exact h.elim
  · rename_i e
    obtain ⟨p, vs, rfl, hp, al⟩ := vw_frz rx e
    cases ry.at_int
    split at h
    · rename_i e2
      obtain ⟨v, ev, r⟩ := al.atI e2
      exact .inl ⟨p, vs, _, v, rfl, rfl, hp, ev, k.here R h r⟩
    · exact h.elim
  · rename_i e
    obtain ⟨p, vs, rfl, hp, al⟩ := vw_tup rx e
    cases ry.at_int
    split at h
    · rename_i e2
      obtain ⟨v, ev, r⟩ := al.atI e2
      exact .inr (.inl ⟨p, vs, _, v, rfl, rfl, .of hp, ev, k.here R h r⟩)
    · exact h.elim
  · rename_i e
    have e2 := vw_str rx e
    subst e2
    cases ry.at_int
    split at h
    · rename_i c e2
      exact .inr (.inr ⟨_, _, c, rfl, rfl, h.1, e2, k.here R h.2 (.str _)⟩)
    · exact h.elim
  · exact h.elim
theorem pd_ix {r : R2} {r' : DR2} {a b : Expr} {Ta Tb : DE} {pos : Pos} (ho : IxR X r) (hr : R2D X.K r r') (ha : PD X a Ta) (hb : PD X b Tb) (hs : PlainIx b := by exact fun _ _ => rfl) : PD X (.Subscript a b pos) (dOp r' Ta Tb) :=
  pe_imp (pe_ix ho ha hb hs) fun _ _ _ h => op_lift hr h
/-! ## slices -/
abbrev DO := GEnv → GH → (Option Int → GH → Prop) → Prop
def liftO (K : PySem.W.Frag) (T : DO) : TO := fun σ H Q => ∃ Γ G Z Q0, SR K Γ G Z σ H ∧ T Γ G Q0 ∧ ∀ b G' H', Q0 b G' → HRep K H' G' Z → Ext H G H' G' → Q b H'
abbrev PDO (X : Cx) (e : Option Expr) (T : DO) : Prop := PO X e (liftO X.K T)
def doNone : DO := fun _ G Q => Q none G
def doSome (t : DE) : DO := fun Γ G Q => t Γ G fun d G1 => match d with | .int i => Q (some i) G1 | _ => False
theorem pdo_none : PDO X none doNone := po_imp po_none fun σ H Q ⟨Γ, G, Z, Q0, S, h, k⟩ => k _ _ _ h S.rep .refl
theorem pdo_some {e : Expr} {T : DE} (h : PD X e T) : PDO X (some e) (doSome T) := po_imp (po_some h) fun σ H Q ⟨Γ, G, Z, Q0, S, h, k⟩ => ⟨Γ, G, Z, _, S, h, fun d G1 v H1 q r R x => by
  cases d <;> first | exact q.elim | skip
  cases r
  exact ⟨_, rfl, k _ _ _ q R x⟩⟩
def cutD (xs : List D) (lo hi : Option Int) : List D := (xs.drop (HT.sIx xs.length 0 lo)).take (HT.sIx xs.length xs.length hi - HT.sIx xs.length 0 lo)
theorem RpAll.cut {H : Hp} {G : GH} {Z : ZS} {vs : List V} {ds : List D} (al : RpAll K H G Z vs ds) (lo hi : Option Int) : RpAll K H G Z (cutV vs lo hi) (cutD ds lo hi) := by
  unfold cutV cutD
  rw [al.length]
  exact (al.drop _).take _
def dSl (c : Bool) : D → Option Int → Option Int → GH → DK → Prop := fun x lo hi G Q => match vw G x with
  | .lst ds => newL c (cutD ds lo hi) G Q
  | .tup ds => Q (.tup (cutD ds lo hi)) G
  | .str z => z.length ≤ sizeLine ∧ Q (.str (cutS z lo hi)) G
  | _ => False
def rSlV (K : PySem.W.Frag) : V → Option Int → Option Int → Hp → VK → Prop := fun x lo hi H Q => rSlL K x lo hi H Q ∨ (rSlA K x lo hi H Q ∨ rSlS x lo hi H Q)
def dSlice (c : Bool) (te : DE) (tl th : DO) : DE := fun Γ G Q => te Γ G fun x G1 => tl Γ G1 fun l G2 => th Γ G2 fun u G3 => dSl c x l u G3 Q
theorem cut_whole {ds : List D} {lo hi : Option Int} (h : HT.sIx ds.length 0 lo = 0 ∧ HT.sIx ds.length ds.length hi = ds.length) : cutD ds lo hi = ds := by
  unfold cutD; rw [h.1, h.2]; simp
theorem pd_slice (c : Bool) {e : Expr} {lo hi : Option Expr} {T : DE} {Tl Th : DO} {p2 pos : Pos} (he : PD X e T) (hl : PDO X lo Tl) (hu : PDO X hi Th) : PD X (.Subscript e (.Slice lo hi none p2) pos) (dSlice c T Tl Th) :=
  pe_imp (pe_slice (sl_list.or (sl_tupA.or sl_str)) he hl hu) fun σ H Q ⟨Γ, G, Z, Q0, S, h, k⟩ => ⟨Γ, G, Z, _, S, h, fun d G1 v H1 q1 r1 R1 x1 => ⟨Γ, G1, Z, _, S.ext x1 R1, q1, fun l G2 H2 q2 R2 x2 => ⟨Γ, G2, Z, _, (S.ext x1 R1).ext x2 R2, q2, fun u G3 H3 q3 R3 x3 => by
    have r3 := (r1.ext x2).ext x3
    have k3 := k.mono (x1.trans (x2.trans x3))
    unfold dSl at q3
    split at q3
    · rename_i ds e
      obtain ⟨a, vs, rfl, ha, al⟩ := vw_lst R3 r3 e
      exact .inl ⟨a, vs, rfl, .of ha, newL_ok R3 (al.cut l u) q3 k3⟩
    · rename_i ds e
      have r4 := r3
      obtain ⟨a, vs, rfl, ha, al⟩ := vw_tup r3 e
      refine .inr (.inl ⟨a, vs, rfl, .of ha, fun z => ?_, fun _ => newT_ok R3 (al.cut l u) q3 k3⟩)
      rw [al.length] at z
      rw [cut_whole z] at q3
      rw [vw_tup_eq e] at r4
      exact k3.here R3 q3 r4
    · rename_i z e
      have e2 := vw_str r3 e
      subst e2
      exact .inr (.inr ⟨z, rfl, q3.1, k3.here R3 q3.2 (.str _)⟩)
    · exact q3.elim⟩⟩⟩
end
end TK

namespace TK
open PySem PySem.Spec L2
variable {K : PySem.W.Frag}
/-! ## list.extend of a tuple -/
set_option maxRecDepth 8000 in
theorem extend_tuple (l : Addr) (its : Array Value) (n : Nat) (b : Addr) (jts : Array Value) (m : Nat) (od : Option Addr) (sl : Array (Option Value)) (h0 : ¬(!its.isEmpty && Builtin.List.listTooLong (its.size + jts.size)) = true) (h1 : its.size ≤ sizeLine) (h2 : its.size + jts.size ≤ sizeLine + 1) :
    Meets (Builtin.«list.extend» ⟨[.ref l, .ref b], []⟩) (fun _ R s => s.heap.get? l = some { cls := .type "list", dict := none, data := .seq its n, slots := #[] } ∧ s.heap.get? b = some { cls := .type "tuple", dict := od, data := .seq jts m, slots := sl } ∧ R (.ok (.ret Value.none)) { s with heap := s.heap.update l (Obj.mapSeq fun x => x ++ jts), toks := s.toks }) :=
  .of_wp fun prog w A R s h => by
    obtain ⟨hp, g, d, tk, os⟩ := s
    obtain ⟨hl, hb, h⟩ := h
    have f1 := AutoSeq1.idx_int
    have f2 := AutoSeq1.sub_tuple_tuple
    have f3 := AutoSeq1.sub_list_list
    have f4 := AutoSeq1.sub_tuple_list
    have f5 := AutoSeq1.sub_list_tuple
    have hz : (its ++ jts).size ≤ sizeLine + 1 := by rw [Array.size_append]; exact h2
    wp_walk using (wpAny_updateSeq hl rfl (hz := h1) (_hz' := hz)), AutoSeq1.wpAny_loadPart' hl, AutoSeq1.wpAny_loadPart' hb; exact ⟨_, rfl, h⟩
def rExtendT : V → List V → Hp → VK → Prop := fun x vs H Q => ∃ l b xs zs, x = .ref l ∧ vs = [.ref b] ∧ H l = some (.lst xs) ∧ H b = some (.tup zs) ∧ xs.length + zs.length ≤ sizeLine ∧ Q .non (upd H l (.lst (xs ++ zs)))
section
variable {X : Cx}
theorem mt_extendT : MtM X "list.extend" rExtendT := by
  intro pins s σ H x vs v us Q I rx rv h
  obtain ⟨l, b, xs, zs, rfl, rfl, hH, hB, hz, q⟩ := h
  cases rx
  obtain ⟨u, rfl, ru⟩ := rv.one
  cases ru
  obtain ⟨_, its, n, r, hl, e⟩ := I.lstM hH
  obtain ⟨_, jts, r2, o, e2, c2, m, d2⟩ := I.hok b _ hB
  obtain ⟨oc, od, dt, sl⟩ := o
  simp only at c2 d2
  subst c2 d2
  have hl2 := r2.length
  have hsz : its.toArray.size + jts.toArray.size ≤ sizeLine := by rw [List.size_toArray, List.size_toArray]; omega
  have hlong : ¬ (!its.toArray.isEmpty && Builtin.List.listTooLong (its.toArray.size + jts.toArray.size)) = true := by
    rw [notLongL hsz, Bool.and_false]
    decide
  refine call_meets F.slot_list_extend ⟨_, e, rfl⟩ F.entry_list_extend (F.args_list_extend_2 _ _) (extend_tuple l its.toArray n b jts.toArray m od sl hlong (by rw [List.size_toArray]; omega) (by omega)) ⟨e, e2, ?_⟩
  exact ⟨.non, _, I.lset (its' := its ++ jts) hH e (by simp) (r.append r2) (by rw [List.length_append]; omega), rfl, q⟩
/-! ## methods -/
abbrev DM := D → List D → GH → DK → Prop
def MD (K : PySem.W.Frag) (r : V → List V → Hp → VK → Prop) (r' : DM) : Prop := ∀ {H : Hp} {G : GH} {Z : ZS} {x : V} {a : D} {vs : List V} {ds : List D} {Q0 : DK} {Q : VK}, HRep K H G Z → Rp K H G Z x a → RpAll K H G Z vs ds → r' a ds G Q0 → Cont K H G Z Q0 Q → r x vs H Q
def tyD (T : String) (d : D) (G : GH) : Prop := match vw G d with
  | .lst _ => T = "list"
  | .str _ => T = "str"
  | .ref c => match G c with | some (.dK _) => T = "dict" | some (.dT _) => T = "dict" | _ => False
  | _ => False
theorem tyD_ok (K : PySem.W.Frag) {H : Hp} {G : GH} {Z : ZS} {v : V} {d : D} {T : String} (R : HRep K H G Z) (r : Rp K H G Z v d) (h : tyD T d G) : tyV K T v H := by
  unfold tyD at h
  split at h
  · rename_i e
    obtain ⟨a, vs, rfl, ha, _⟩ := vw_lst R r e
    exact .inl ⟨h, vs, .of ha⟩
  · rename_i e
    have e2 := vw_str r e
    subst e2
    exact h
  · rename_i c e
    have ec : d = .ref c := by
      cases d <;> first | (cases e; done) | skip
      simp only [vw] at e
      split at e
      · cases e
      · exact e
    subst ec
    cases r
    split at h
    · rename_i kvs q
      obtain ⟨ho, h1, h2⟩ := R.cell c _ q
      cases ho <;> first | exact h2.elim | skip
      exact .inr (.inr (.inl ⟨h, .inl ⟨_, h1⟩⟩))
    · rename_i kvs q
      obtain ⟨ho, h1, h2⟩ := R.cell c _ q
      cases ho <;> first | exact h2.elim | skip
      exact .inr (.inr (.inl ⟨h, .inr ⟨_, h1⟩⟩))
    · exact h.elim
  · exact h.elim
def dMt (T : String) (r : DM) (to : DE) (t : DA) : DE := fun Γ G Q => to Γ G fun x G1 => tyD T x G1 ∧ t Γ G1 fun ds G2 => r x ds G2 Q
def dMt0 (T : String) (r : DM) (to : DE) : DE := fun Γ G Q => to Γ G fun x G1 => tyD T x G1 ∧ r x [] G1 Q
theorem pd_mt0 {o : Expr} {To : DE} {name : Str} {apos cpos : Pos} {T id : String} {r : V → List V → Hp → VK → Prop} {r' : DM} (pa : PlainAttrs T) (slot : Slot T name id) (hty : typeOf (.builtin id) = pure (.type "method_descriptor")) (hm : MtR X id r) (hr : MD X.K r r') (ho : PD X o To)
    (hbase : attributeBase o name X.env (eval o X.env) = eval o X.env := by rfl) (hline : (apos.endLine == cpos.line) = true := by rfl) : PD X (.Call (.Attribute o name apos) [] [] cpos) (dMt0 T r' To) :=
  pe_imp (pe_bm0 pa slot hty hm ho hbase hline) fun σ H Q ⟨Γ, G, Z, Q0, S, h, k⟩ => ⟨Γ, G, Z, _, S, h, fun d G1 v H1 q r R x => ⟨tyD_ok X.K R r q.1, hr R r .nil q.2 (k.mono x)⟩⟩
theorem pd_mt {o e : Expr} {es : List Expr} {To : DE} {Ta : DA} {name : Str} {apos cpos : Pos} {T id : String} {r : V → List V → Hp → VK → Prop} {r' : DM} (pa : PlainAttrs T) (slot : Slot T name id) (hty : typeOf (.builtin id) = pure (.type "method_descriptor")) (hm : MtR X id r) (hr : MD X.K r r') (ho : PD X o To) (ha : PDA X (e :: es) Ta)
    (hbase : attributeBase o name X.env (eval o X.env) = eval o X.env := by rfl)
    (hfew : ((backTo cpos (starEach (e :: es) X.env)).all (fun x => !x.1) && (backToKw cpos (keywordEach [] X.env)).all (fun x => x.1.isSome)
      && decide ((e :: es).length + ([] : List Keyword).length + (if ([] : List Keyword).isEmpty then 0 else 1) < 30)) = true := by rfl)
    (hline : (apos.endLine == cpos.line) = true := by rfl) (hs : starEach (e :: es) X.env = (false, eval e X.env) :: starEach es X.env := by rfl) (hplain : (backTo cpos (starEach es X.env)).any (·.1) = false := by rfl) :
    PD X (.Call (.Attribute o name apos) (e :: es) [] cpos) (dMt T r' To Ta) :=
  pe_imp (pe_bm pa slot hty hm ho ha hbase hfew hline hs hplain) fun σ H Q ⟨Γ, G, Z, Q0, S, h, k⟩ => ⟨Γ, G, Z, _, S, h, fun d G1 v H1 q r R x => ⟨tyD_ok X.K R r q.1, Γ, G1, Z, _, S.ext x R, q.2, fun ds G2 vs H2 q2 r2 R2 x2 => hr R2 (r.ext x2) r2 q2 (k.mono (x.trans x2))⟩⟩
/-- the list of a cell -/
theorem cell_lst {H : Hp} {G : GH} {Z : ZS} {c : Addr} {ds : List D} (R : HRep K H G Z) (e : G c = some (.lst ds)) : ∃ vs, H c = some (.lst vs) ∧ RpAll K H G Z vs ds := by
  obtain ⟨ho, h1, h2⟩ := R.cell c _ e
  cases ho <;> first | exact h2.elim | skip
  exact ⟨_, h1, h2⟩
/-- a cell's list is another one -/
theorem put_lst {H : Hp} {G : GH} {Z : ZS} {c : Addr} {ds ds' : List D} {vs' : List V} {d : D} {v : V} {Q0 : DK} {Q : VK} (R : HRep K H G Z) (e : G c = some (.lst ds)) (al : RpAll K H G Z vs' ds') (r : Rp K H G Z v d) (q : Q0 d (gup G c (.lst ds'))) (k : Cont K H G Z Q0 Q) : Q v (upd H c (.lst vs')) := by
  have x : Ext H G (upd H c (.lst vs')) (gup G c (.lst ds')) := ext_put e
  exact k _ _ _ _ q (r.ext x) (R.put e (al.ext x)) x
def dAppend : DM := fun x ds G Q => match x, ds with
  | .ref c, [y] => match G c with | some (.lst xs) => xs.length < sizeLine ∧ Q .non (gup G c (.lst (xs ++ [y]))) | _ => False
  | _, _ => False
theorem md_append : MD K rAppend dAppend := fun {H G Z x a vs ds Q0 Q} R rx al h k => by
  unfold dAppend at h
  split at h
  · cases rx
    obtain ⟨v, rfl, r⟩ := al.one
    split at h
    · rename_i e
      obtain ⟨us, h1, h2⟩ := cell_lst R e
      exact ⟨_, us, v, rfl, rfl, h1, by rw [h2.length]; exact h.1, put_lst R e (h2.append (.cons r .nil)) .non h.2 k⟩
    · exact h.elim
  · exact h.elim
def dExtend : DM := fun x ds G Q => match x, ds with
  | .ref c, [y] => match G c with
    | some (.lst xs) => match vw G y with
      | .lst zs => xs.length + zs.length ≤ sizeLine ∧ Q .non (gup G c (.lst (xs ++ zs)))
      | .tup zs => xs.length + zs.length ≤ sizeLine ∧ Q .non (gup G c (.lst (xs ++ zs)))
      | _ => False
    | _ => False
  | _, _ => False
theorem md_extend : MD K (fun x vs H Q => rExtend x vs H Q ∨ rExtendT x vs H Q) dExtend := fun {H G Z x a vs ds Q0 Q} R rx al h k => by
  unfold dExtend at h
  split at h
  · cases rx
    obtain ⟨v, rfl, r⟩ := al.one
    split at h
    · rename_i e
      obtain ⟨us, h1, h2⟩ := cell_lst R e
      split at h
      · rename_i e3
        obtain ⟨b, ws, rfl, hb, al2⟩ := vw_lst R r e3
        exact .inl ⟨_, b, us, ws, rfl, rfl, h1, hb, by rw [h2.length, al2.length]; exact h.1, put_lst R e (h2.append al2) .non h.2 k⟩
      · rename_i e3
        obtain ⟨b, ws, rfl, hb, al2⟩ := vw_tup r e3
        exact .inr ⟨_, b, us, ws, rfl, rfl, h1, hb, by rw [h2.length, al2.length]; exact h.1, put_lst R e (h2.append al2) .non h.2 k⟩
      · exact h.elim
    · exact h.elim
  · exact h.elim
theorem mt_extendD : MtR X "list.extend" (fun x vs H Q => rExtend x vs H Q ∨ rExtendT x vs H Q) := MtR.or mt_extend mt_extendT
/-! ## o[i] = v, o a list's cell -/
def dSetItem (to ti te : DE) : DS := fun D0 Γ G => te Γ G fun v G1 => to Γ G1 fun o G2 => ti Γ G2 fun i G3 => match o, i with
  | .ref c, .int n => match G3 c with
    | some (.lst xs) => match ixN xs.length n with
      | some j => D0.nx Γ (gup G3 c (.lst (xs.set j v)))
      | none => False
    | _ => False
  | _, _ => False
theorem pds_setItem {o i e : Expr} {To Ti Te : DE} {tpos pos : Pos} (he : PD X e Te) (ho : PD X o To) (hi : PD X i Ti) (hg : PG X (.Subscript o i tpos) (gSub (liftE X.K To) (liftE X.K Ti) rSetL))
    (hs : swapsWithSole [.Subscript o i tpos] e pos.line X.env = pure false := by rfl) (hw : swappedStores [.Subscript o i tpos] e X.env = pure none := by rfl) (h1 : (assignEach [.Subscript o i tpos] X.env).map (·.2) = [assign (.Subscript o i tpos) X.env] := by rfl) : PDS X (.Assign [.Subscript o i tpos] e pos) (dSetItem To Ti Te) :=
  ps_imp (ps_asg he hg hs hw h1) fun D σ H ⟨Γ, G, Z, D0, S, h, k⟩ => ⟨Γ, G, Z, _, S, h, fun v G1 u1 H1 q1 r1 R1 x1 => ⟨Γ, G1, Z, _, S.ext x1 R1, q1, fun o G2 u2 H2 q2 r2 R2 x2 => ⟨Γ, G2, Z, _, (S.ext x1 R1).ext x2 R2, q2, fun i G3 u3 H3 q3 r3 R3 x3 => by
    split at q3
    · cases r2; cases r3
      split at q3
      · rename_i c n _ xs e
        obtain ⟨us, h1, h2⟩ := cell_lst R3 e
        split at q3
        · rename_i j ej
          refine ⟨_, us, _, j, rfl, rfl, h1, by rw [h2.length]; exact ej, ?_⟩
          have al := h2.set ((r1.ext x2).ext x3) j
          have x : Ext H3 G3 (upd H3 c (.lst (us.set j u1))) (gup G3 c (.lst (xs.set j v))) := ext_put e
          exact k.nx _ _ _ _ q3 ((((S.ext x1 R1).ext x2 R2).ext x3 R3).ext x (R3.put e (al.ext x))) (x1.trans (x2.trans (x3.trans x)))
        · exact q3.elim
      · exact q3.elim
    · exact q3.elim⟩⟩⟩
/-! ## cells become data -/
/-- a list's cell that nobody writes any more -/
def dFrz (t : DE) : DE := fun Γ G Q => t Γ G fun d G1 => match d with
  | .ref c => match G1 c with | some (.lst xs) => Q (.lst xs) (gdel G1 c) | _ => False
  | d => Q d G1
theorem ext_del {H : Hp} {G : GH} {c : Addr} : Ext H G H (gdel G c) := fun a o g h _ => ⟨by unfold gdel; split <;> simp [*], h⟩
theorem HRep.del {H : Hp} {G : GH} {Z : ZS} {c : Addr} (R : HRep K H G Z) : HRep K H (gdel G c) Z :=
  ⟨fun b o e => by
    have ne : b ≠ c := fun z => by subst z; simp [gdel] at e
    have e2 : G b = some o := by simpa [gdel, ne] using e
    obtain ⟨ho, q, r⟩ := R.cell b o e2
    exact ⟨ho, q, GR.map (f := Rp.ext ext_del) r⟩,
   fun b z => ⟨by have g := (R.hid b z).1; unfold gdel; split <;> simp [*], (R.hid b z).2⟩, R.nco⟩
theorem pd_frz {e : Expr} {T : DE} (h : PD X e T) : PD X e (dFrz T) := pe_imp h fun σ H Q ⟨Γ, G, Z, Q0, S, h, k⟩ => ⟨Γ, G, Z, _, S, h, fun d G1 v H1 q r R x => by
  split at q
  · rename_i c
    cases r
    split at q
    · rename_i xs e
      obtain ⟨us, h1, h2⟩ := cell_lst R e
      have nz : ¬ Z c := fun z => by rw [(R.hid c z).1] at e; cases e
      exact k _ _ _ _ q (.lst (by simp [gdel]) nz h1 (h2.ext ext_del)) R.del (x.trans ext_del)
    · exact q.elim
  · exact k _ _ _ _ q r R x⟩
/-! ## defs -/
abbrev SpD := List D → GH → DK → XD → Prop
def XCont (K : PySem.W.Frag) (H : Hp) (G : GH) (Z : ZS) (E0 : XD) (E : XK) : Prop := ∀ n gs C d G' H', E0 n gs G' → ClsAt K n C → XRep K H' G' Z d gs → HRep K H' G' Z → Ext H G H' G' → E (.ref C) d H'
theorem XCont.mono {H H1 : Hp} {G G1 : GH} {Z : ZS} {E0 : XD} {E : XK} (k : XCont K H G Z E0 E) (x : Ext H G H1 G1) : XCont K H1 G1 Z E0 E := fun n gs C d G' H' q c r h y => k n gs C d G' H' q c r h (x.trans y)
def liftF (K : PySem.W.Frag) (S : SpD) : Sp := fun vs H Q E => ∃ ds G Z Q0 E0, RpAll K H G Z vs ds ∧ HRep K H G Z ∧ S ds G Q0 E0 ∧ Cont K H G Z Q0 Q ∧ XCont K H G Z E0 E
def XD0 : XD := fun _ _ _ => False
/-- f(..), nothing is raised -/
def dCall (S : SpD) (t : DA) : DE := fun Γ G Q => t Γ G fun ds G1 => S ds G1 Q XD0
theorem pd_call {k : Nat} {f : Addr} {fd : FuncData} {ps : List Str} {S : SpD} {x : Str} {p pos : Pos} {e : Expr} {es : List Expr} {T : DA} (F : FnOk X.prog X.w X.K X.mg X.base CX0 k f fd ps (liftF X.K S)) (hr : Room k X.A) (hg : Gl X x) (hm : X.mg x = some (.ref f)) (hk : PySem.W.keepIn X.K (.ref f) = true) (hb : Binds X.K fd ps [])
    (ha : PDA X (e :: es) T) (hdb : (x == ("__debug__" : Str)) = false := by decide) (he : starEach (e :: es) X.env = (false, eval e X.env) :: starEach es X.env := by rfl) (hpl : (backTo pos (starEach es X.env)).any (·.1) = false := by rfl) :
    PD X (.Call (.Name x p) (e :: es) [] pos) (dCall S T) :=
  pe_imp (pe_call F hr hg hm hk hb (dvs := []) .nil pass0 ha hdb he hpl) fun σ H Q ⟨Γ, G, Z, Q0, Sr, h, k⟩ => ⟨Γ, G, Z, _, Sr, h, fun ds G1 vs H1 q r R x => ⟨ds, G1, Z, Q0, XD0, by rw [List.append_nil]; exact r, R, q, k.mono x, fun _ _ _ _ _ _ z => z.elim⟩⟩
theorem pd_call0 {k : Nat} {f : Addr} {fd : FuncData} {ps : List Str} {S : SpD} {x : Str} {p pos : Pos} (F : FnOk X.prog X.w X.K X.mg X.base CX0 k f fd ps (liftF X.K S)) (hr : Room k X.A) (hg : Gl X x) (hm : X.mg x = some (.ref f)) (hk : PySem.W.keepIn X.K (.ref f) = true) (hb : Binds X.K fd ps [])
    (hdb : (x == ("__debug__" : Str)) = false := by decide) : PD X (.Call (.Name x p) [] [] pos) (dCall S dNil) :=
  pe_imp (pe_call0 F hr hg hm hk hb (dvs := []) .nil pass0 hdb) fun σ H Q ⟨Γ, G, Z, Q0, Sr, h, k⟩ => ⟨[], G, Z, Q0, XD0, .nil, Sr.rep, h, k, fun _ _ _ _ _ _ z => z.elim⟩
end
/-- cells that are forgotten -/
def GSub (G' G : GH) : Prop := ∀ a o, G' a = some o → G a = some o
def Drop (P : GH → Prop) (G : GH) : Prop := ∃ G', GSub G' G ∧ P G'
theorem GSub.refl {G : GH} : GSub G G := fun _ _ h => h
theorem GSub.trans {G1 G2 G3 : GH} (a : GSub G1 G2) (b : GSub G2 G3) : GSub G1 G3 := fun x o h => b x o (a x o h)
theorem GSub.gup {G : GH} {p : Addr} {o : GO} (h : G p = none) : GSub G (gup G p o) := fun a u e => by
  have ne : a ≠ p := fun z => by subst z; rw [h] at e; cases e
  rw [gup_ne ne]; exact e
theorem GSub.gup2 {G G' : GH} {p : Addr} {o : GO} (s : GSub G G') (h : G p = none) : GSub G (TK.gup G' p o) := fun a u e => by
  have ne : a ≠ p := fun z => by subst z; rw [h] at e; cases e
  rw [gup_ne ne]; exact s a u e
theorem GSub.put {G G' : GH} {p : Addr} {o : GO} (s : GSub G G') : GSub (TK.gup G p o) (TK.gup G' p o) := fun a u e => by
  by_cases ne : a = p
  · subst ne; rw [gup_same] at e ⊢; exact e
  · rw [gup_ne ne] at e ⊢; exact s a u e
theorem GSub.none {G G' : GH} (s : GSub G' G) {a : Addr} (h : G a = none) : G' a = none := by
  cases e : G' a with
  | none => rfl
  | some o => rw [s a o e] at h; cases h
theorem Drop.here {P : GH → Prop} {G : GH} (h : P G) : Drop P G := ⟨G, .refl, h⟩
theorem ext_sub {H : Hp} {G G' : GH} (s : GSub G' G) : Ext H G H G' := fun a o g h _ => ⟨s.none g, h⟩
theorem HRep.sub {H : Hp} {G G' : GH} {Z : ZS} (R : HRep K H G Z) (s : GSub G' G) : HRep K H G' Z :=
  ⟨fun c o e => by
    obtain ⟨ho, q, r⟩ := R.cell c o (s c o e)
    exact ⟨ho, q, GR.map (f := Rp.ext (ext_sub s)) r⟩, fun c z => ⟨s.none (R.hid c z).1, (R.hid c z).2⟩, R.nco⟩
theorem Cont.drop {H : Hp} {G : GH} {Z : ZS} {Q0 : DK} {Q : VK} (k : Cont K H G Z Q0 Q) : Cont K H G Z (fun d G' => Drop (Q0 d) G') Q := fun d G' v H' ⟨G2, s, q⟩ r R x =>
  k d G2 v H' q (r.ext (ext_sub s)) (R.sub s) (x.trans (ext_sub s))
def endsD (Q : DK) : DEnds := { nx := fun _ G' => Drop (Q .non) G', rt := fun d G' => Drop (Q d) G' }
/-- the slots at a def's entry -/
def startD (n : Nat) (ds : List D) : GEnv := ds.map some ++ List.replicate (n - ds.length) none
section
variable {P : Program} {w : World} {K : PySem.W.Frag} {mg : Str → Option Value} {base : Heap}
/-- a def by its body's reading -/
theorem okD {x qual : Str} {st : Stmt} {f : Addr} {fd : FuncData} {N ps : List Str} {k : Nat} {S : SpD} {T : DS} (F : Fun K x qual st f fd) (Sc : FnScope N ps (defScope st))
    (der : ∀ (cdv : Value) (A : Around) (outer : List Env) (s : Shared) (H : Hp) (E : XK), Room k (A.deeper (PyProof.Rows.envOfC qual (defScope st) s.heap.objs.size f cdv)) → PDSs (cxOf CX0 P w K mg base N qual (defScope st) f cdv A outer s H E).nox (defBody st) T)
    (sp : ∀ ds G Q E, S ds G Q E → ds.length = ps.length ∧ T (endsD Q) (startD N.length ds) G) : FnOk P w K mg base CX0 (k + 1) f fd ps (liftF K S) := by
  refine F.ok Sc (fun vs H Q E h => ?_) fun cdv A outer s H vs Q E hr h => ?_
  · obtain ⟨ds, G, Z, Q0, E0, al, R, h, k1, k2⟩ := h
    rw [al.length]; exact (sp _ _ _ _ h).1
  · obtain ⟨ds, G, Z, Q0, E0, al, R, h, k1, k2⟩ := h
    refine ⟨_, der cdv A outer s H E hr, _, G, Z, _, ⟨?_, R⟩, (sp _ _ _ _ h).2, ⟨fun Γ' G' σ' H' q S' x => k1.drop _ _ _ _ q .non S'.rep x, k1.drop, fun _ _ _ _ q => q.elim, fun _ _ _ _ q => q.elim, fun _ _ _ _ _ _ _ q => q.elim⟩⟩
    unfold L2.start startD
    rw [al.length]
    exact EnvR.start _ al
end
end TK

namespace TK
open PySem PySem.Spec L2
variable {K : PySem.W.Frag}
section
variable {X : Cx} {a b c : Expr} {Ta Tb Tc : DE} {pos : Pos}
theorem pd_add (m : Bool) (ha : PD X a Ta) (hb : PD X b Tb) : PD X (.BinOp a .Add b pos) (dOp (dAddR m) Ta Tb) := pd_op (op_add.or (op_add_str.or (op_cat.or op_catA))) (r2_add X.K m) ha hb
theorem pd_sub (ha : PD X a Ta) (hb : PD X b Tb) : PD X (.BinOp a .Sub b pos) (dOp dSubR Ta Tb) := pd_op op_sub r2_sub ha hb
def dMulI (m : Bool) : DR2 := fun x y G Q => match vw G x, y with
  | .int i, .int j => CMul i j ∧ Q (.int (i * j)) G
  | .lst xs, .int k => -(2 ^ 63) ≤ k ∧ k < 2 ^ 63 ∧ xs.length * k.toNat ≤ sizeLine ∧ newL m (List.replicate k.toNat xs).flatten G Q
  | _, _ => False
theorem pd_mul (m : Bool) (ha : PD X a Ta) (hb : PD X b Tb) : PD X (.BinOp a .Mult b pos) (dOp (dMulI m) Ta Tb) := pd_op (op_mul.or op_rep) (r2_mul X.K m) ha hb
theorem pd_fdiv (ha : PD X a Ta) (hb : PD X b Tb) : PD X (.BinOp a .FloorDiv b pos) (dOp dFdivR Ta Tb) := pd_op op_fdiv r2_fdiv ha hb
theorem pd_mod (ha : PD X a Ta) (hb : PD X b Tb) : PD X (.BinOp a .Mod b pos) (dOp dModR Ta Tb) := pd_op op_mod r2_mod ha hb
theorem pd_pow (ha : PD X a Ta) (hb : PD X b Tb) : PD X (.BinOp a .Pow b pos) (dOp dPowR Ta Tb) := pd_op op_pow r2_pow ha hb
def dNegR : D → GH → DK → Prop := fun x G Q => match x with | .int i => Q (.int (-i)) G | _ => False
def dUn (r : D → GH → DK → Prop) (t : DE) : DE := fun Γ G Q => t Γ G fun x G1 => r x G1 Q
theorem pd_neg (ha : PD X a Ta) : PD X (.UnaryOp .USub a pos) (dUn dNegR Ta) := pe_imp (pe_un un_neg ha) fun σ H Q ⟨Γ, G, Z, Q0, S, h, k⟩ => ⟨Γ, G, Z, _, S, h, fun d G1 v H1 q r R x => by
  unfold dNegR at q
  split at q
  · exact ⟨_, r.at_int, k _ _ _ _ q (.int _) R x⟩
  · exact q.elim⟩
theorem pd_lt (ha : PD X a Ta) (hb : PD X b Tb) : PD X (.Compare a [.Lt] [b] pos) (dOp dLt Ta Tb) := pd_cmp op_lt (r2_cmpI _) ha hb
theorem pd_le (ha : PD X a Ta) (hb : PD X b Tb) : PD X (.Compare a [.LtE] [b] pos) (dOp dLe Ta Tb) := pd_cmp op_le (r2_cmpI _) ha hb
theorem pd_gt (ha : PD X a Ta) (hb : PD X b Tb) : PD X (.Compare a [.Gt] [b] pos) (dOp dGt Ta Tb) := pd_cmp op_gt (r2_cmpI _) ha hb
theorem pd_ge (ha : PD X a Ta) (hb : PD X b Tb) : PD X (.Compare a [.GtE] [b] pos) (dOp dGe Ta Tb) := pd_cmp op_ge (r2_cmpI _) ha hb
theorem pd_eq (hu : X.A.units + 64 < cLine) (ha : PD X a Ta) (hb : PD X b Tb) : PD X (.Compare a [.Eq] [b] pos) (dOp dEqR Ta Tb) := pd_cmp (op_eqD hu) (r2_eq X.K) ha hb
theorem pd_ne (hu : X.A.units + 64 < cLine) (ha : PD X a Ta) (hb : PD X b Tb) : PD X (.Compare a [.NotEq] [b] pos) (dOp dNeR Ta Tb) := pd_cmp (op_neD hu) (r2_ne X.K) ha hb
theorem pd_is (ha : PD X a Ta) (hb : PD X b Tb) : PD X (.Compare a [.Is] [b] pos) (dOp dIsNR Ta Tb) := pd_cmp op_isN r2_isN ha hb
theorem pd_isnot (ha : PD X a Ta) (hb : PD X b Tb) : PD X (.Compare a [.IsNot] [b] pos) (dOp dNotNR Ta Tb) := pd_cmp op_notN r2_notN ha hb
theorem pdt_lt (ha : PD X a Ta) (hb : PD X b Tb) : PDT X (.Compare a [.Lt] [b] pos) (dTest (dOp dLt Ta Tb)) := pdt_cmp op_lt (r2_cmpI _) ha hb
theorem pdt_le (ha : PD X a Ta) (hb : PD X b Tb) : PDT X (.Compare a [.LtE] [b] pos) (dTest (dOp dLe Ta Tb)) := pdt_cmp op_le (r2_cmpI _) ha hb
theorem pdt_gt (ha : PD X a Ta) (hb : PD X b Tb) : PDT X (.Compare a [.Gt] [b] pos) (dTest (dOp dGt Ta Tb)) := pdt_cmp op_gt (r2_cmpI _) ha hb
theorem pdt_ge (ha : PD X a Ta) (hb : PD X b Tb) : PDT X (.Compare a [.GtE] [b] pos) (dTest (dOp dGe Ta Tb)) := pdt_cmp op_ge (r2_cmpI _) ha hb
theorem pdt_eq (hu : X.A.units + 64 < cLine) (ha : PD X a Ta) (hb : PD X b Tb) : PDT X (.Compare a [.Eq] [b] pos) (dTest (dOp dEqR Ta Tb)) := pdt_cmp (op_eqD hu) (r2_eq X.K) ha hb
theorem pdt_ne (hu : X.A.units + 64 < cLine) (ha : PD X a Ta) (hb : PD X b Tb) : PDT X (.Compare a [.NotEq] [b] pos) (dTest (dOp dNeR Ta Tb)) := pdt_cmp (op_neD hu) (r2_ne X.K) ha hb
theorem pdt_is (ha : PD X a Ta) (hb : PD X b Tb) : PDT X (.Compare a [.Is] [b] pos) (dTest (dOp dIsNR Ta Tb)) := pdt_cmp op_isN r2_isN ha hb
theorem pdt_isnot (ha : PD X a Ta) (hb : PD X b Tb) : PDT X (.Compare a [.IsNot] [b] pos) (dTest (dOp dNotNR Ta Tb)) := pdt_cmp op_notN r2_notN ha hb
/-! a < b < c of ints -/
theorem chain_lift {r r' : R2} {p p' : DR2} (hr : R2D X.K r p) (hr' : R2D X.K r' p') {σ : St} {H : Hp} {Q : VK} (h : liftE X.K (dChain p p' Ta Tb Tc) σ H Q) : tChain r r' (liftE X.K Ta) (liftE X.K Tb) (liftE X.K Tc) σ H Q := by
  obtain ⟨Γ, G, Z, Q0, S, h, k⟩ := h
  refine ⟨Γ, G, Z, _, S, h, fun x G1 v H1 q rx R1 x1 => ⟨Γ, G1, Z, _, S.ext x1 R1, q, fun y G2 u H2 q2 ry R2 x2 => hr R2 (rx.ext x2) ry q2 fun d G3 w H3 q3 r3 R3 x3 => ?_⟩⟩
  split at q3
  · rename_i kk
    cases r3.at_bl
    cases kk with
    | false => exact ⟨false, rfl, iteF (k _ _ _ _ q3 (.bl _) R3 (x1.trans (x2.trans x3)))⟩
    | true =>
    refine ⟨true, rfl, iteT ?_⟩
    exact ⟨Γ, G3, Z, _, ((S.ext x1 R1).ext x2 R2).ext x3 R3, q3, fun e G4 t H4 q4 r4 R4 x4 => hr' R4 ((ry.ext x3).ext x4) r4 q4 (k.mono (x1.trans (x2.trans (x3.trans x4))))⟩
  · exact q3.elim
/-- such a chain with its marks looked at -/
theorem pd_chainI {op op' : CmpOp} {r r' : R2} {p p' : DR2} (ho : OpR X (compareOp op) r) (hr : R2D X.K r p) (ho' : OpR X (compareOp op') r') (hr' : R2D X.K r' p') (ha : PD X a Ta) (hb : PD X b Tb) (hc : PD X c Tc)
    (hm : lastMarks [op, op'] [b, c] = false := by with_unfolding_all rfl) : PD X (.Compare a [op, op'] [b, c] pos) (dChain p p' Ta Tb Tc) := pe_imp (pe_chain ho ho' ha hb hc hm) fun _ _ _ h => chain_lift hr hr' h
theorem pdt_chainI {op op' : CmpOp} {r r' : R2} {p p' : DR2} (ho : OpR X (compareOp op) r) (hr : R2D X.K r p) (ho' : OpR X (compareOp op') r') (hr' : R2D X.K r' p') (ha : PD X a Ta) (hb : PD X b Tb) (hc : PD X c Tc)
    (hm : lastMarks [op, op'] [b, c] = false := by with_unfolding_all rfl) : PDT X (.Compare a [op, op'] [b, c] pos) (dTest (dChain p p' Ta Tb Tc)) :=
  pt_imp (pt_chain ho ho' ha hb hc hm) fun σ H Q ⟨Γ, G, Z, Q0, S, h, k⟩ => chain_lift hr hr' ⟨Γ, G, Z, _, S, h, fun d G' v H' q r R x => by
    cases d <;> first | exact q.elim | skip
    cases r
    exact ⟨_, rfl, k _ _ _ q R x⟩⟩
theorem pd_lt_lt (ha : PD X a Ta) (hb : PD X b Tb) (hc : PD X c Tc) (hm : lastMarks [.Lt, .Lt] [b, c] = false := by with_unfolding_all rfl) : PD X (.Compare a [.Lt, .Lt] [b, c] pos) (dChain dLt dLt Ta Tb Tc) := pd_chainI op_lt (r2_cmpI _) op_lt (r2_cmpI _) ha hb hc hm
theorem pdt_lt_lt (ha : PD X a Ta) (hb : PD X b Tb) (hc : PD X c Tc) (hm : lastMarks [.Lt, .Lt] [b, c] = false := by with_unfolding_all rfl) : PDT X (.Compare a [.Lt, .Lt] [b, c] pos) (dTest (dChain dLt dLt Ta Tb Tc)) := pdt_chainI op_lt (r2_cmpI _) op_lt (r2_cmpI _) ha hb hc hm
theorem pd_lt_le (ha : PD X a Ta) (hb : PD X b Tb) (hc : PD X c Tc) (hm : lastMarks [.Lt, .LtE] [b, c] = false := by with_unfolding_all rfl) : PD X (.Compare a [.Lt, .LtE] [b, c] pos) (dChain dLt dLe Ta Tb Tc) := pd_chainI op_lt (r2_cmpI _) op_le (r2_cmpI _) ha hb hc hm
theorem pdt_lt_le (ha : PD X a Ta) (hb : PD X b Tb) (hc : PD X c Tc) (hm : lastMarks [.Lt, .LtE] [b, c] = false := by with_unfolding_all rfl) : PDT X (.Compare a [.Lt, .LtE] [b, c] pos) (dTest (dChain dLt dLe Ta Tb Tc)) := pdt_chainI op_lt (r2_cmpI _) op_le (r2_cmpI _) ha hb hc hm
theorem pd_le_lt (ha : PD X a Ta) (hb : PD X b Tb) (hc : PD X c Tc) (hm : lastMarks [.LtE, .Lt] [b, c] = false := by with_unfolding_all rfl) : PD X (.Compare a [.LtE, .Lt] [b, c] pos) (dChain dLe dLt Ta Tb Tc) := pd_chainI op_le (r2_cmpI _) op_lt (r2_cmpI _) ha hb hc hm
theorem pdt_le_lt (ha : PD X a Ta) (hb : PD X b Tb) (hc : PD X c Tc) (hm : lastMarks [.LtE, .Lt] [b, c] = false := by with_unfolding_all rfl) : PDT X (.Compare a [.LtE, .Lt] [b, c] pos) (dTest (dChain dLe dLt Ta Tb Tc)) := pdt_chainI op_le (r2_cmpI _) op_lt (r2_cmpI _) ha hb hc hm
theorem pd_le_le (ha : PD X a Ta) (hb : PD X b Tb) (hc : PD X c Tc) (hm : lastMarks [.LtE, .LtE] [b, c] = false := by with_unfolding_all rfl) : PD X (.Compare a [.LtE, .LtE] [b, c] pos) (dChain dLe dLe Ta Tb Tc) := pd_chainI op_le (r2_cmpI _) op_le (r2_cmpI _) ha hb hc hm
theorem pdt_le_le (ha : PD X a Ta) (hb : PD X b Tb) (hc : PD X c Tc) (hm : lastMarks [.LtE, .LtE] [b, c] = false := by with_unfolding_all rfl) : PDT X (.Compare a [.LtE, .LtE] [b, c] pos) (dTest (dChain dLe dLe Ta Tb Tc)) := pdt_chainI op_le (r2_cmpI _) op_le (r2_cmpI _) ha hb hc hm
theorem pd_gt_gt (ha : PD X a Ta) (hb : PD X b Tb) (hc : PD X c Tc) (hm : lastMarks [.Gt, .Gt] [b, c] = false := by with_unfolding_all rfl) : PD X (.Compare a [.Gt, .Gt] [b, c] pos) (dChain dGt dGt Ta Tb Tc) := pd_chainI op_gt (r2_cmpI _) op_gt (r2_cmpI _) ha hb hc hm
theorem pdt_gt_gt (ha : PD X a Ta) (hb : PD X b Tb) (hc : PD X c Tc) (hm : lastMarks [.Gt, .Gt] [b, c] = false := by with_unfolding_all rfl) : PDT X (.Compare a [.Gt, .Gt] [b, c] pos) (dTest (dChain dGt dGt Ta Tb Tc)) := pdt_chainI op_gt (r2_cmpI _) op_gt (r2_cmpI _) ha hb hc hm
theorem pd_gt_ge (ha : PD X a Ta) (hb : PD X b Tb) (hc : PD X c Tc) (hm : lastMarks [.Gt, .GtE] [b, c] = false := by with_unfolding_all rfl) : PD X (.Compare a [.Gt, .GtE] [b, c] pos) (dChain dGt dGe Ta Tb Tc) := pd_chainI op_gt (r2_cmpI _) op_ge (r2_cmpI _) ha hb hc hm
theorem pdt_gt_ge (ha : PD X a Ta) (hb : PD X b Tb) (hc : PD X c Tc) (hm : lastMarks [.Gt, .GtE] [b, c] = false := by with_unfolding_all rfl) : PDT X (.Compare a [.Gt, .GtE] [b, c] pos) (dTest (dChain dGt dGe Ta Tb Tc)) := pdt_chainI op_gt (r2_cmpI _) op_ge (r2_cmpI _) ha hb hc hm
theorem pd_ge_gt (ha : PD X a Ta) (hb : PD X b Tb) (hc : PD X c Tc) (hm : lastMarks [.GtE, .Gt] [b, c] = false := by with_unfolding_all rfl) : PD X (.Compare a [.GtE, .Gt] [b, c] pos) (dChain dGe dGt Ta Tb Tc) := pd_chainI op_ge (r2_cmpI _) op_gt (r2_cmpI _) ha hb hc hm
theorem pdt_ge_gt (ha : PD X a Ta) (hb : PD X b Tb) (hc : PD X c Tc) (hm : lastMarks [.GtE, .Gt] [b, c] = false := by with_unfolding_all rfl) : PDT X (.Compare a [.GtE, .Gt] [b, c] pos) (dTest (dChain dGe dGt Ta Tb Tc)) := pdt_chainI op_ge (r2_cmpI _) op_gt (r2_cmpI _) ha hb hc hm
theorem pd_ge_ge (ha : PD X a Ta) (hb : PD X b Tb) (hc : PD X c Tc) (hm : lastMarks [.GtE, .GtE] [b, c] = false := by with_unfolding_all rfl) : PD X (.Compare a [.GtE, .GtE] [b, c] pos) (dChain dGe dGe Ta Tb Tc) := pd_chainI op_ge (r2_cmpI _) op_ge (r2_cmpI _) ha hb hc hm
theorem pdt_ge_ge (ha : PD X a Ta) (hb : PD X b Tb) (hc : PD X c Tc) (hm : lastMarks [.GtE, .GtE] [b, c] = false := by with_unfolding_all rfl) : PDT X (.Compare a [.GtE, .GtE] [b, c] pos) (dTest (dChain dGe dGe Ta Tb Tc)) := pdt_chainI op_ge (r2_cmpI _) op_ge (r2_cmpI _) ha hb hc hm
/-! a module's number, text -/
theorem pd_gi {x : Str} {i : Int} (hg : Gl X x) (hm : ∃ t, X.mg x = some (.int i t)) (hd : (x == ("__debug__" : Str)) = false := by decide) : PD X (.Name x pos) (dC (.int i)) := let ⟨t, h⟩ := hm; pd_gint hg h ⟨t, rfl⟩ hd
theorem pd_gs {x : Str} {i : Str} (hg : Gl X x) (hm : ∃ t, X.mg x = some (.str i t)) (hd : (x == ("__debug__" : Str)) = false := by decide) : PD X (.Name x pos) (dC (.str i)) := let ⟨t, h⟩ := hm; pd_gstr hg h ⟨t, rfl⟩ hd
end
end TK

namespace TK
open PySem PySem.Spec L2 PyProof.Rows
abbrev emptySet (w : World) : Obj := { cls := .type "set", dict := none, data := .set #[] 0 (.fresh 0 0 (!w.params.followText "set-order")) }
section
variable {P : Program} {w : World} {A : Around} {E : Value → Shared → Prop} {s : Shared}
set_option maxRecDepth 100000 in
set_option maxHeartbeats 3200000 in
theorem set_of_list {l : Addr} {vals : Array Value} (ns : List Int) {Q : Value → Shared → Prop} (hh : A.handled = none) (hl : s.heap.IsList l vals) (hit : IntsAre vals.toList ns) (hb : ns.length + 1 < scanBound)
    (h : ∀ (h' : Heap) (tk c : Nat), SetR w h' s.heap.objs.size (fun j => decide (j ∈ ns)) c → c ≤ ns.length → (∀ b o, s.heap.get? b = some o → h'.get? b = some o) → Q (.ref s.heap.objs.size) { s with heap := h', toks := tk }) :
    wpAny (model P w) A (call (.type "set") [.ref l]) Q E s := by
  have hcount : vals.size = ns.length := by
    have q := IntsAre.length hit
    rw [Array.length_toList] at q
    exact q
  obtain ⟨c, tl, hmro⟩ := F.called_set.mro
  have made0 := F.called_set.made
  have sub0 := F.called_set.sub
  refine wpAny_call (codeAny_of_tree ?_)
  show wpAny _ _ (callAny (.type "set") _) _ _ _
  refine wpAny_pure ⟨Code.quiet_builtin _ (by decide +kernel), codeAny_builtin F.entry_type_call ?_⟩
  rw [Around.under_plain (weight_type_call_type "set" [.ref l] []) rfl]
  have h1 := F.called_set.notType
  have h2 := F.called_set.canCreate
  have tc0 := F.typeCall_set_1 (.ref l)
  repeat (any_goals (first | assumption | wp_step))

  refine codeAny_mono (code_set_led1 (.ref l) (E := E) (Q₁ := fun obj s₁ => obj = .ref s.heap.objs.size ∧ s₁ = { s with heap := s.heap.push (emptySet w) }) ⟨rfl, rfl⟩) fun r s₁ hr => ?_
  cases r with
  | error e => exact hr
  | ok fl =>
    cases fl with
    | ret obj =>
      obtain ⟨rfl, rfl⟩ := hr
      have hS : (s.heap.push (emptySet w)).get? s.heap.objs.size = some (emptySet w) := Heap.get?_push_size _ rfl
      have hT : Shared.TypeIs { s with heap := s.heap.push (emptySet w) } (.ref s.heap.objs.size) "set" := ⟨_, hS, rfl⟩
      have li0 := F.called_set.init.lookup
      have bi0 := F.called_set.init.bind (.ref s.heap.objs.size)
      repeat (any_goals (first | assumption | wp_step))

      refine codeAny_mono (codeAny_call_builtin (R := wants (fun r s₂ => r = .none ∧ ∃ h' tk c, s₂ = { s with heap := h', toks := tk } ∧ SetR w h' s.heap.objs.size (fun j => decide (j ∈ ns)) c ∧ c ≤ ns.length ∧
          (∀ b o, s.heap.get? b = some o → h'.get? b = some o)) E) F.called_set.init.plain F.entry_set_init (check_set_init_1 hT ?_)) fun r₂ s₂ hr₂ => ?_
      · obtain ⟨ol, atl, hcl, nl, hdl⟩ := hl
        obtain ⟨ocls, odict, odata, oslots⟩ := ol
        simp only at hcl hdl
        subst hcl; subst hdl
        have atl' : (s.heap.push (emptySet w)).get? l = some { cls := .type "list", dict := odict, data := .seq vals nl, slots := oslots } := Heap.get?_push_of_some _ atl
        have hsls := F.sub_list_set
        have hslf := F.sub_list_frozenset
        have hne : (Value.type "list" == Value.type "dict") = false := by decide
        have hl1 : (s.heap.push (emptySet w)).IsList l vals := ⟨_, atl', rfl, nl, rfl⟩
        unfold Builtin.«set.__init__» noKeywords Builtin.Frozenset.updateFrom
        generalize hPI : pyIter = PI
        wp_walk
        subst hPI

        refine wpAny_pyIter_list hl1 ?_
        refine wpAny_bind (wpAny_runValue ?_)
        have lowS : l < s.heap.objs.size := Heap.lt_size atl
        have hh3 : A.in1.in1.in1.handled = none := by simp [hh]
        have hz1 : (s.heap.push (emptySet w)).objs.size = s.heap.objs.size + 1 := Heap.size_push ..
        have apartI : l ≠ (s.heap.push (emptySet w)).objs.size := by
          rw [Heap.size_push]; exact Nat.ne_of_lt (Nat.lt_succ_of_lt lowS)
        have notAmong : s.heap.objs.size ∉ [(s.heap.push (emptySet w)).objs.size, l] := by
          rw [Heap.size_push]; simp only [List.mem_cons, List.mem_singleton, List.not_mem_nil, or_false, not_or]
          exact ⟨Nat.ne_of_lt (Nat.lt_succ_self _), Nat.ne_of_gt lowS⟩
        have isVal : ∀ (i : Nat) (v : Value), vals[i]? = some v → ∃ k t, ns[i]? = some k ∧ v = .int k t := fun i v hv => by
          have hi : i < ns.length := by rw [← hcount]; exact (Array.getElem?_eq_some_iff.mp hv).1
          obtain ⟨t, e⟩ := PyProof.Rows.IntsAre.int_at hit i v (by rw [Array.getElem?_toList]; exact hv)
          refine ⟨ns[i], t, List.getElem?_eq_getElem hi, ?_⟩
          rw [e, List.getD_eq_getElem?_getD, List.getElem?_eq_getElem hi] <;> rfl
        refine set_update_ints ((Walks.list hh3 _ l apartI vals).toS) s.heap.objs.size
          notAmong ns hcount hb isVal (vals.size - 0) 0 _ (by omega) (Nat.zero_le _)
          ⟨⟨_, Heap.get?_push_size _ rfl, rfl, rfl⟩, (hl1.push _)⟩ ?hS0 ?hR
        case hS0 =>
          have hget : ((s.heap.push (emptySet w)).push { cls := .type "list_iterator", data := .fields #[.ref l, .int 0 0] }).get? s.heap.objs.size
              = some (emptySet w) := Heap.get?_push_of_some _ hS
          exact ⟨0, Nat.le_refl 0, setR_new_at hget⟩
        case hR =>
          intro s' c' hm hc' hS'
          obtain ⟨h', g2, d', tk', os'⟩ := s'
          have eg : g2 = s.gens := hm.gens
          have ed : d' = s.drawn := hm.drawn
          have eo : os' = s.os := hm.os
          subst eg; subst ed; subst eo
          show wpAny _ _ _ _ _ _
          refine wpAny_pure ?_
          show wpAny _ _ (ret Value.none) _ _ _
          rw [hcount] at hc'
          refine wpAny_pure ⟨rfl, h', tk', c', rfl, hS', hc', fun b o e => ?_⟩
          have hb0 : b < s.heap.objs.size := Heap.lt_size e
          have hb1 : b ≠ s.heap.objs.size := Nat.ne_of_lt hb0
          have hb2 : b ≠ (s.heap.push (emptySet w)).objs.size := by
            rw [Heap.size_push]; exact Nat.ne_of_lt (Nat.lt_succ_of_lt hb0)
          exact hm.heap b o (by simp only [List.mem_cons, List.mem_singleton, List.not_mem_nil, or_false, not_or]; exact ⟨hb1, hb2⟩) (Heap.get?_push_of_some _ (Heap.get?_push_of_some _ e))

      · cases r₂ with
        | error e => exact hr₂
        | ok fl₂ =>
          cases fl₂ with
          | ret r =>
            obtain ⟨rfl, h', tk, c', rfl, hS', hc', hk'⟩ := hr₂
            repeat (any_goals (first | assumption | wp_step))
            exact h _ _ _ hS' hc' hk'
          | _ => exact hr₂.elim
    | _ => exact hr.elim

end
end TK

namespace TK
open PySem PySem.Spec L2
variable {K : PySem.W.Frag}
section
variable {X : Cx}
/-- set(xs), xs a list or a tuple of ints -/
def rSetI (K : PySem.W.Frag) (w : World) : List V → Hp → VK → Prop := fun vs H Q => ∃ (a : Addr) (ns : List Int), vs = [V.ref a] ∧ (SqL K H a (ns.map V.int) ∨ SqT K H a (ns.map V.int)) ∧ ns.length + 1 < scanBound ∧
  ∀ p c, H p = none → c ≤ ns.length → Q (.ref p) (upd H p (SetO w p (fun j => decide (j ∈ ns)) c))
theorem cr_setI (hc : X.calm = true) : CallR X (.type "set") (rSetI X.K X.w) := by
  intro pins s σ H vs us Q I r h
  obtain ⟨a, ns, rfl, hq, hb, q⟩ := h
  rw [Vals.ref1 r]
  have fin : ∀ (h' : Heap) (tk c : Nat), SetR X.w h' s.heap.objs.size (fun j => decide (j ∈ ns)) c → c ≤ ns.length → (∀ b o, s.heap.get? b = some o → h'.get? b = some o) → EP X pins σ Q (.ref s.heap.objs.size) { s with heap := h', toks := tk } := fun h' tk c R hcn k =>
    ⟨.ref _, _, I.laid (t' := tk) k (Nat.le_refl _) (setO_new R), rfl, q _ _ (I.hok.fresh (Nat.le_refl _)) hcn⟩
  rcases hq with hq | hq
  · obtain ⟨its, rv, pl, _⟩ := I.list hq
    exact set_of_list ns (I.ok.hd hc) pl.isList (by simpa using rv.ints) hb fin
  · obtain ⟨its, rv, pt, _⟩ := I.tuple hq
    exact call_set_tupI ns (I.ok.hd hc) (show s.heap.IsTuple a its.toArray from pt) (by simpa using rv.ints) hb fin
/-- sorted(set(xs)) -/
def dSortSet (c : Bool) (t : DE) : DE := fun Γ G Q => t Γ G fun d G1 => ∃ ns : List Int, (vw G1 d = .lst (ns.map D.int) ∨ vw G1 d = .tup (ns.map D.int)) ∧ ns.length < 60 ∧
  ∀ ms : List Int, ms.Pairwise (· < ·) → (∀ k, k ∈ ms ↔ k ∈ ns) → newL c (ms.map D.int) G1 Q
theorem pd_sortSet (c : Bool) {a : Expr} {T : DE} {p p2 q pos : Pos} (hc : X.calm = true) (hg : Gl X "sorted") (hm : X.mg "sorted" = none) (hg2 : Gl X "set") (hm2 : X.mg "set" = none) (ha : PD X a T)
    (h1 : starEach [a] X.env = (false, eval a X.env) :: starEach [] X.env := by rfl) (h2 : starEach [.Call (.Name "set" p2) [a] [] q] X.env = (false, eval (.Call (.Name "set" p2) [a] [] q) X.env) :: starEach [] X.env := by rfl) : PD X (.Call (.Name "sorted" p) [.Call (.Name "set" p2) [a] [] q] [] pos) (dSortSet c T) := by
  refine pe_imp (pe_callB (cr_sortedSet hc) hg hm (by decide +kernel) (pa_cons (pe_callTy (cr_setI hc) hg2 hm2 (by decide +kernel) (pa_cons ha pa_nil h1) (by decide) (by decide) h1 (by rfl)) pa_nil h2) (by decide) (by decide) h2 (by rfl)) ?_
  rintro σ H Q ⟨Γ, G, Z, Q0, S, h, k⟩
  refine ⟨Γ, G, Z, _, S, h, fun d G1 v H1 q1 r R x => ?_⟩
  obtain ⟨ns, hd, hl, q1⟩ := q1
  have hs : ∃ b, v = .ref b ∧ (SqL X.K H1 b (ns.map V.int) ∨ SqT X.K H1 b (ns.map V.int)) := by
    rcases hd with hd | hd
    · obtain ⟨b, us, rfl, hb, al⟩ := vw_lst R r hd
      have e := al.ints
      subst e
      exact ⟨b, rfl, .inl (.of hb)⟩
    · obtain ⟨b, us, rfl, hb, al⟩ := vw_tup r hd
      have e := al.ints
      subst e
      exact ⟨b, rfl, .inr (.of hb)⟩
  obtain ⟨b, rfl, hs⟩ := hs
  refine ⟨b, ns, rfl, hs, by unfold scanBound; omega, fun p' n hp' hn => ?_⟩
  refine ⟨p', _, n, rfl, upd_same, by omega, fun ms l hup hmem hlen hl' => ?_⟩
  have R2 : HRep X.K (upd H1 p' (SetO X.w p' (fun j => decide (j ∈ ns)) n)) G1 Z := R.new hp'
  have x2 : Ext H1 G1 (upd H1 p' (SetO X.w p' (fun j => decide (j ∈ ns)) n)) G1 := ext_new R hp'
  exact newL_ok R2 (RpAll.ofInts ms) (q1 ms hup fun k => (hmem k).trans (by simp)) ((k.mono x).mono x2) l hl'
end
end TK

namespace TK
open PySem PySem.Spec L2
variable {K : PySem.W.Frag}
section
variable {X : Cx} {a b : Expr} {Ta Tb : DE} {pos : Pos}
/-! ## in, a list of data -/
theorem pd_inL (hu : X.A.units + 65 < cLine) (ha : PD X a Ta) (hb : PD X b Tb) (hm : behindInMarks .In b = false := by rfl) : PD X (.Compare a [.In] [b] pos) (dOp (dInL false) Ta Tb) := pd_cmp (op_inD hu) (r2_inL X.K) ha hb hm
theorem pd_notinL (hu : X.A.units + 65 < cLine) (ha : PD X a Ta) (hb : PD X b Tb) (hm : behindInMarks .NotIn b = false := by rfl) : PD X (.Compare a [.NotIn] [b] pos) (dOp (dInL true) Ta Tb) := pd_cmp (op_notInD hu) (r2_notInL X.K) ha hb hm
theorem pdt_inL (hu : X.A.units + 65 < cLine) (ha : PD X a Ta) (hb : PD X b Tb) (hm : behindInMarks .In b = false := by rfl) : PDT X (.Compare a [.In] [b] pos) (dTest (dOp (dInL false) Ta Tb)) := pdt_cmp (op_inD hu) (r2_inL X.K) ha hb hm
theorem pdt_notinL (hu : X.A.units + 65 < cLine) (ha : PD X a Ta) (hb : PD X b Tb) (hm : behindInMarks .NotIn b = false := by rfl) : PDT X (.Compare a [.NotIn] [b] pos) (dTest (dOp (dInL true) Ta Tb)) := pdt_cmp (op_notInD hu) (r2_notInL X.K) ha hb hm
end
/-! ## a call to which cells are lent as data -/
mutual
inductive View (G : GH) : D → D → Prop
  | non : View G .non .non
  | bl (b : Bool) : View G (.bl b) (.bl b)
  | int (i : Int) : View G (.int i) (.int i)
  | str (x : Str) : View G (.str x) (.str x)
  | ty (n : String) : View G (.ty n) (.ty n)
  | tup {xs ys : List D} : ViewAll G xs ys → View G (.tup xs) (.tup ys)
  | lst {xs ys : List D} : ViewAll G xs ys → View G (.lst xs) (.lst ys)
  | cell {c : Addr} {xs ys : List D} : G c = some (.lst xs) → ViewAll G xs ys → View G (.ref c) (.lst ys)
inductive ViewAll (G : GH) : List D → List D → Prop
  | nil : ViewAll G [] []
  | cons {x y : D} {xs ys : List D} : View G x y → ViewAll G xs ys → ViewAll G (x :: xs) (y :: ys)
end
/-- the tables alone -/
def gtb (G : GH) : GH := fun a => match G a with | some (.tb q) => some (.tb q) | _ => none
theorem gtb_sub {G : GH} : GSub (gtb G) G := fun a o e => by
  unfold gtb at e
  split at e
  · rename_i q h; cases e; exact h
  · cases e
theorem gtb_none {G : GH} {a : Addr} (h : G a = none) : gtb G a = none := gtb_sub.none h
theorem gtb_lst {G : GH} {a : Addr} {xs : List D} (h : G a = some (.lst xs)) : gtb G a = none := by unfold gtb; rw [h]
theorem GR.nco {H : Hp} {G : GH} {Z : ZS} {ho : HO} {o : GO} (r : GR K H G Z ho o) (c : Addr) (q : Str) : ho ≠ LamX.CodeO c q := fun z => by
  subst z
  unfold LamX.CodeO at r
  cases o <;> exact r.elim
mutual
theorem Rp.view {H : Hp} {G : GH} {Z : ZS} (R : HRep K H G Z) : ∀ {d e : D} {v : V}, View G d e → Rp K H G Z v d → Rp K H (gtb G) Z v e
  | _, _, _, .non, .non => .non
  | _, _, _, .bl b, .bl _ => .bl b
  | _, _, _, .int b, .int _ => .int b
  | _, _, _, .str b, .str _ => .str b
  | _, _, _, .ty b, .ty _ => .ty b
  | _, _, _, .tup vs, .tup g z h al => .tup (gtb_none g) z h (RpAll.view R vs al)
  | _, _, _, .lst vs, .lst g z h al => .lst (gtb_none g) z h (RpAll.view R vs al)
  | _, _, _, .cell (c := c) e vs, .ref _ => by
    obtain ⟨us, h1, h2⟩ := cell_lst R e
    exact .lst (gtb_lst e) (fun z => by rw [(R.hid c z).1] at e; cases e) h1 (RpAll.view R vs h2)
theorem RpAll.view {H : Hp} {G : GH} {Z : ZS} (R : HRep K H G Z) : ∀ {ds es : List D} {vs : List V}, ViewAll G ds es → RpAll K H G Z vs ds → RpAll K H (gtb G) Z vs es
  | _, _, _, .nil, .nil => .nil
  | _, _, _, .cons v vs, .cons r al => .cons (Rp.view R v r) (RpAll.view R vs al)
end
mutual
def nolst : D → Bool
  | .tup xs => nolsts xs
  | .lst _ => false
  | .frz _ => false
  | .ref _ => false
  | .code _ => false
  | _ => true
def nolsts : List D → Bool
  | [] => true
  | x :: r => nolst x && nolsts r
end
mutual
/-- data without lists does not lean on cells -/
theorem Rp.noL {H : Hp} {G G' : GH} {Z : ZS} (R : HRep K H G' Z) : ∀ {d : D} {v : V}, nolst d = true → Rp K H G Z v d → Rp K H G' Z v d
  | _, _, _, .non => .non
  | _, _, _, .bl b => .bl b
  | _, _, _, .int b => .int b
  | _, _, _, .str b => .str b
  | _, _, _, .ty b => .ty b
  | _, _, h, .ref _ => by simp [nolst] at h
  | _, _, h, .lst _ _ _ _ => by simp [nolst] at h
  | _, _, h, .frz _ _ _ _ => by simp [nolst] at h
  | _, _, h, .frl _ _ _ _ => by simp [nolst] at h
  | _, _, h, .wrt _ _ => by simp [nolst] at h
  | _, _, h, .code _ _ _ => by simp [nolst] at h
  | _, _, h, .tup (a := a) g z q al => by
    refine .tup ?_ z q (RpAll.noL R (by simpa [nolst] using h) al)
    cases e : G' a with
    | none => rfl
    | some o =>
      obtain ⟨ho, q2, r⟩ := R.cell a o e
      rw [q] at q2; cases q2
      cases o <;> exact r.elim
theorem RpAll.noL {H : Hp} {G G' : GH} {Z : ZS} (R : HRep K H G' Z) : ∀ {ds : List D} {vs : List V}, nolsts ds = true → RpAll K H G Z vs ds → RpAll K H G' Z vs ds
  | _, _, _, .nil => .nil
  | _, _, h, .cons r al => by
    simp only [nolsts, Bool.and_eq_true] at h
    exact .cons (Rp.noL R h.1 r) (RpAll.noL R h.2 al)
end
/-- f(..), the cells among its arguments lent as data; what comes back holds no list -/
def dCallV (S : SpD) (t : DA) : DE := fun Γ G Q => t Γ G fun ds G1 => ∃ es, ViewAll G1 ds es ∧ S es (gtb G1) (fun d G' => GSub (gtb G1) G' ∧ nolst d = true ∧ Q d G1) XD0
section
variable {X : Cx}
theorem pd_callV {k : Nat} {f : Addr} {fd : FuncData} {ps : List Str} {S : SpD} {x : Str} {p pos : Pos} {e : Expr} {es : List Expr} {T : DA} (F : FnOk X.prog X.w X.K X.mg X.base CX0 k f fd ps (liftF X.K S)) (hr : Room k X.A) (hg : Gl X x) (hm : X.mg x = some (.ref f)) (hk : PySem.W.keepIn X.K (.ref f) = true) (hb : Binds X.K fd ps [])
    (ha : PDA X (e :: es) T) (hdb : (x == ("__debug__" : Str)) = false := by decide) (he : starEach (e :: es) X.env = (false, eval e X.env) :: starEach es X.env := by rfl) (hpl : (backTo pos (starEach es X.env)).any (·.1) = false := by rfl) :
    PD X (.Call (.Name x p) (e :: es) [] pos) (dCallV S T) :=
  pe_imp (pe_call F hr hg hm hk hb (dvs := []) .nil pass0 ha hdb he hpl) fun σ H Q ⟨Γ, G, Z, Q0, Sr, h, k⟩ => ⟨Γ, G, Z, _, Sr, h, fun ds G1 vs H1 q r R x => by
    obtain ⟨es', hv, q⟩ := q
    refine ⟨es', gtb G1, Z, _, XD0, by rw [List.append_nil]; exact RpAll.view R hv r, R.sub gtb_sub, q, fun d G' v H' ⟨hG, hn, q'⟩ r' R' x' => ?_, fun _ _ _ _ _ _ z => z.elim⟩
    have xx : Ext H1 G1 H' G1 := fun a o g h n => ⟨g, (x' a o (gtb_sub.none g) h n).2⟩
    have stay : ∀ c o ho, G1 c = some o → (¬ ∃ q, o = .tb q) → H1 c = some ho → GR X.K H1 G1 Z ho o → H' c = some ho := fun c o ho e ht q2 r2 => by
      have hn2 : ntb ho := by
        cases ho <;> first | trivial | skip
        cases o <;> first | exact r2.elim | exact (ht ⟨_, rfl⟩).elim
      have hg : gtb G1 c = none := by
        unfold gtb; rw [e]
        cases o <;> first | rfl | exact (ht ⟨_, rfl⟩).elim
      exact (x' c ho hg q2 hn2).2
    have R2none : ∀ (cc : Addr) (q : Str), H' cc = some (LamX.CodeO cc q) → G1 cc = none := fun cc q hh => by
      cases e : G1 cc with
      | none => rfl
      | some o =>
        by_cases ht : ∃ q, o = .tb q
        · obtain ⟨qq, rfl⟩ := ht
          have e2 : gtb G1 cc = some (.tb qq) := by unfold gtb; rw [e]
          obtain ⟨ho', q3, r3⟩ := R'.cell cc _ (hG _ _ e2)
          rw [hh] at q3
          exact (r3.nco cc q (Option.some.inj q3).symm).elim
        · obtain ⟨ho, q2, r2⟩ := R.cell cc o e
          have := stay cc o ho e ht q2 r2
          rw [hh] at this
          exact (r2.nco cc q (Option.some.inj this).symm).elim
    have R2 : HRep X.K H' G1 Z := ⟨fun c o e => by
      obtain ⟨ho, q2, r2⟩ := R.cell c o e
      by_cases ht : ∃ q, o = .tb q
      · obtain ⟨qq, rfl⟩ := ht
        have e2 : gtb G1 c = some (.tb qq) := by unfold gtb; rw [e]
        obtain ⟨ho', q3, r3⟩ := R'.cell c _ (hG _ _ e2)
        refine ⟨ho', q3, ?_⟩
        cases ho' <;> first | exact r3.elim | skip
        refine ⟨r3.1, fun pos cv hc => ?_⟩
        obtain ⟨cc, e3, r4⟩ := r3.2 pos cv hc
        refine ⟨cc, e3, ?_⟩
        cases r4 with
        | code g z hh => exact .code (R2none cc _ hh) z hh
      · exact ⟨ho, stay c o ho e ht q2 r2, GR.map (f := Rp.ext xx) r2⟩, fun c z => ⟨(R.hid c z).1, by
        obtain ⟨o, eo⟩ := Option.isSome_iff_exists.mp (R'.hid c z).2
        rw [eo]; rfl⟩, R'.nco⟩
    exact k _ _ _ _ q' (Rp.noL R2 hn r') R2 (x.trans xx)⟩
end
theorem view_all {G : GH} : ∀ {xs : List D}, (∀ x ∈ xs, View G x x) → ViewAll G xs xs
  | [], _ => .nil
  | x :: r, h => .cons (h x List.mem_cons_self) (view_all fun y hy => h y (List.mem_cons_of_mem _ hy))
theorem gsub_refl {G : GH} : GSub G G = True := eq_true .refl
end TK

namespace TK
open PySem PySem.Spec L2
variable {K : PySem.W.Frag}
section
variable {X : Cx}
/-! ## texts -/
def txts (G : GH) (d : D) (ys : List Str) : Prop := vw G d = .lst (ys.map D.str) ∨ vw G d = .tup (ys.map D.str)
def dJoin : DM := fun x ds G Q => match x, ds with
  | .str a, [d] => ∃ ys : List Str, txts G d ys ∧ (ys.map (·.length)).sum + ys.length * a.length ≤ 16777216 ∧ Q (.str (Txt.join a ys)) G
  | _, _ => False
theorem md_join (K : PySem.W.Frag) : MD K (fun x xs H Q => ∃ a p, ∃ ys : List Str, x = .str a ∧ xs = [.ref p] ∧ (SqL K H p (ys.map V.str) ∨ SqT K H p (ys.map V.str)) ∧ (ys.map (·.length)).sum + ys.length * a.length ≤ 16777216 ∧ Q (.str (Txt.join a ys)) H) dJoin := fun {H G Z x a vs ds Q0 Q} R rx al h k => by
  unfold dJoin at h
  split at h
  · cases rx.at_str
    obtain ⟨v, rfl, r⟩ := al.one
    obtain ⟨ys, hy, hz, h⟩ := h
    rcases hy with e | e
    · obtain ⟨b, us, rfl, hb, al⟩ := vw_lst R r e
      have e3 := al.strs
      subst e3
      exact ⟨_, b, ys, rfl, rfl, .inl (.of hb), hz, k.here R h (.str _)⟩
    · obtain ⟨b, us, rfl, hb, al⟩ := vw_tup r e
      have e3 := al.strs
      subst e3
      exact ⟨_, b, ys, rfl, rfl, .inr (.of hb), hz, k.here R h (.str _)⟩
  · exact h.elim
def dSplit (c : Bool) : DM := fun x ds G Q => match x, ds with
  | .str a, [.str b] => (b.length == 0) = false ∧ a.length + 2 ≤ sizeLine ∧ newL c ((Txt.split a b).map D.str) G Q
  | _, _ => False
theorem md_split (c : Bool) : MD K (fun x xs H Q => ∃ a b, x = .str a ∧ xs = [.str b] ∧ (b.length == 0) = false ∧ a.length + 2 ≤ sizeLine ∧ rNewStrs (Txt.split a b) H Q) (dSplit c) := fun {H G Z x a vs ds Q0 Q} R rx al h k => by
  unfold dSplit at h
  split at h
  · cases rx.at_str
    obtain ⟨v, rfl, r⟩ := al.one
    cases r.at_str
    exact ⟨_, _, rfl, rfl, h.1, h.2.1, newL_ok R (RpAll.ofStrs _) h.2.2 k⟩
  · exact h.elim
def dStr : DC := fun ds G Q => match ds with
  | [.int i] => i.natAbs.log2 < 1920 ∧ Q (.str (toString i)) G
  | [.str a] => Q (.str a) G
  | _ => False
theorem cd_str : CD K (fun xs H Q => (∃ i, xs = [.int i] ∧ i.natAbs.log2 < 1920 ∧ Q (.str (toString i)) H) ∨ (∃ a, xs = [.str a] ∧ Q (.str a) H)) dStr := fun {H G Z vs ds Q0 Q} R al h k => by
  unfold dStr at h
  split at h
  · obtain ⟨v, rfl, r⟩ := al.one
    cases r.at_int
    exact .inl ⟨_, rfl, h.1, k.here R h.2 (.str _)⟩
  · obtain ⟨v, rfl, r⟩ := al.one
    cases r.at_str
    exact .inr ⟨_, rfl, k.here R h (.str _)⟩
  · exact h.elim
theorem call_strD : CallR X (.type "str") (fun xs H Q => (∃ i, xs = [.int i] ∧ i.natAbs.log2 < 1920 ∧ Q (.str (toString i)) H) ∨ (∃ a, xs = [.str a] ∧ Q (.str a) H)) := call_str_int.or SkE.call_str_str
/-- a sign in a text -/
def dInS (n : Bool) : DR2 := fun x y G Q => match x, y with
  | .str z, .str s => ∃ c, z = ⟨#[c]⟩ ∧ Q (.bl (n != decide (c ∈ s.cps.toList))) G
  | _, _ => False
theorem pd_inS {a b : Expr} {Ta Tb : DE} {pos : Pos} (ha : PD X a Ta) (hb : PD X b Tb) (hm : behindInMarks .In b = false := by rfl) : PD X (.Compare a [.In] [b] pos) (dOp (dInS false) Ta Tb) := pd_cmp op_in_sign (fun {H G Z x y a b Q0 Q} R rx ry h k => by
  unfold dInS at h
  split at h
  · cases rx.at_str; cases ry.at_str
    obtain ⟨c, rfl, h⟩ := h
    exact ⟨c, _, rfl, rfl, k.here R h (by rw [Bool.false_bne]; exact .bl _)⟩
  · exact h.elim) ha hb hm
theorem pdt_inS {a b : Expr} {Ta Tb : DE} {pos : Pos} (ha : PD X a Ta) (hb : PD X b Tb) (hm : behindInMarks .In b = false := by rfl) : PDT X (.Compare a [.In] [b] pos) (dTest (dOp (dInS false) Ta Tb)) := pdt_cmp op_in_sign (fun {H G Z x y a b Q0 Q} R rx ry h k => by
  unfold dInS at h
  split at h
  · cases rx.at_str; cases ry.at_str
    obtain ⟨c, rfl, h⟩ := h
    exact ⟨c, _, rfl, rfl, k.here R h (by rw [Bool.false_bne]; exact .bl _)⟩
  · exact h.elim) ha hb hm
theorem pdt_notinS {a b : Expr} {Ta Tb : DE} {pos : Pos} (ha : PD X a Ta) (hb : PD X b Tb) (hm : behindInMarks .NotIn b = false := by rfl) : PDT X (.Compare a [.NotIn] [b] pos) (dTest (dOp (dInS true) Ta Tb)) := pdt_cmp op_notIn_sign (fun {H G Z x y a b Q0 Q} R rx ry h k => by
  unfold dInS at h
  split at h
  · cases rx.at_str; cases ry.at_str
    obtain ⟨c, rfl, h⟩ := h
    exact ⟨c, _, rfl, rfl, k.here R h (by rw [Bool.true_bne]; exact .bl _)⟩
  · exact h.elim) ha hb hm
/-! ## enumerate -/
def numD (xs : List D) : List D := (List.range xs.length).zipWith (fun (i : Nat) x => .tup [.int i, x]) xs
theorem numD_get {xs : List D} {i : Nat} {d : D} (h : (numD xs)[i]? = some d) : ∃ x, xs[i]? = some x ∧ d = .tup [.int i, x] := by
  unfold numD at h
  rw [List.getElem?_zipWith] at h
  split at h
  · rename_i a b h1 h2
    have h3 := List.getElem?_eq_some_iff.mp h1
    obtain ⟨h4, h5⟩ := h3
    rw [List.getElem_range] at h5
    subst h5
    cases h
    exact ⟨_, h2, rfl⟩
  · cases h
theorem numD_len {xs : List D} : (numD xs).length = xs.length := by unfold numD; simp
def diEnumerate (t : DA) : DI := fun Γ G Q => t Γ G fun ds G1 => match ds with
  | [d] => match d with
    | .lst xs => Q (numD xs) (fun _ => True) G1
    | .frz xs => Q (numD xs) (fun _ => True) G1
    | .ref c => match G1 c with | some (.lst xs) => Q (numD xs) (fun G => G c = some (.lst xs)) G1 | _ => False
    | _ => False
  | _ => False
theorem itok_enum {H : Hp} {G : GH} {Z : ZS} {a : Addr} {ds : List D} {gd : GH → Prop}
    (h : ∀ H' G' Z', ZExt H Z Z' → HRep K H' G' Z' → Ext H G H' G' → gd G' → ∃ vs', SqL K H' a vs' ∧ RpAll K H' G' Z' vs' ds) : ItOk K (Ite K a) (numD ds) gd H G Z := fun i H' G' Z' z R x g => by
  obtain ⟨vs', sq, al⟩ := h H' G' Z' z R x g
  refine ⟨fun hi => ⟨vs', sq, by rw [al.length]; rw [numD_len] at hi; exact hi⟩, fun d e => ?_⟩
  obtain ⟨y, ey, rfl⟩ := numD_get e
  obtain ⟨v, ev, r⟩ := al.get ey
  refine ⟨⟨vs', v, sq, ev⟩, fun u H2 hy => ?_⟩
  obtain ⟨T, v2, e1, e2, e3, e4⟩ := hy
  subst e1 e3
  have e5 : v2 = v := Option.some.inj ((e4 vs' sq).symm.trans ev)
  subst e5
  obtain ⟨g1, z1⟩ := R.noneAt e2
  have x2 : Ext H' G' (upd H' T (.tup [.int (i : Nat), v2])) G' := ext_new R e2
  exact ⟨.tup g1 z1 upd_same (.cons (.int _) (.cons (r.ext x2) .nil)), R.new e2, x2⟩
theorem pdi_enumerate {e : Expr} {T : DA} {p pos tpos : Pos} {elts : List Expr} {kk : Nat} (hg : Gl X "enumerate") (hm : X.mg "enumerate" = none) (ha : PDA X [e] T) (hs : starEach [e] X.env = [(false, eval e X.env)] := by rfl) : PDI X (.Tuple elts kk tpos) (.Call (.Name "enumerate" p) [e] [] pos) (diEnumerate T) :=
  pi_imp (pi_enum hg hm ha hs) fun σ H R ⟨Γ, G, Z, Q0, S, h, k⟩ => ⟨Γ, G, Z, _, S, h, fun ds G1 vs H1 q r R1 x1 => by
    split at q
    · obtain ⟨v, rfl, r2⟩ := r.one
      cases r2 with
      | lst g z hh al => exact ⟨_, _, rfl, .of hh, k _ _ _ _ _ q R1 x1 (itok_enum fun H' G' Z' z' R' x' _ => ⟨_, .of (x' _ _ g hh trivial).2, (al.zext z').ext x'⟩)⟩
      | frz g z hh al => exact ⟨_, _, rfl, .inl (.inr ⟨_, hh⟩), k _ _ _ _ _ q R1 x1 (itok_enum fun H' G' Z' z' R' x' _ => ⟨_, .inl (.inr ⟨_, (x' _ _ g hh trivial).2⟩), (al.zext z').ext x'⟩)⟩
      | frl g z hh al => exact ⟨_, _, rfl, .of hh, k _ _ _ _ _ q R1 x1 (itok_enum fun H' G' Z' z' R' x' _ => ⟨_, .of (x' _ _ g hh trivial).2, (al.zext z').ext x'⟩)⟩
      | wrt w al => exact ⟨_, _, rfl, .inr w, k _ _ _ _ _ q R1 x1 (itok_enum fun H' G' Z' z' R' x' _ => ⟨_, .inr w, (al.zext z').ext x'⟩)⟩
      | ref c =>
        simp only at q
        split at q
        · rename_i xs e
          obtain ⟨us, h1, h2⟩ := cell_lst R1 e
          exact ⟨_, _, rfl, .of h1, k _ _ _ _ _ q R1 x1 (itok_enum fun H' G' Z' z' R' x' g' => by
            obtain ⟨us, h1, h2⟩ := cell_lst R' g'
            exact ⟨_, .of h1, h2⟩)⟩
        · exact q.elim
      | non => exact q.elim
      | bl _ => exact q.elim
      | int _ => exact q.elim
      | str _ => exact q.elim
      | ty _ => exact q.elim
      | code _ _ _ => exact q.elim
      | tup _ _ _ _ => exact q.elim
    · exact q.elim⟩
end
end TK

namespace TK
open PySem PySem.Spec L2
variable {K : PySem.W.Frag}
/-! ## a dict's pairs -/
section
variable {κ : Type} [DecidableEq κ]
def valD (kvs : List (κ × D)) (k : κ) : Option D := (kvs.find? fun kv => decide (kv.1 = k)).map (·.2)
def putD (kvs : List (κ × D)) (k : κ) (v : D) : List (κ × D) :=
  if (kvs.any fun kv => decide (kv.1 = k)) = true then kvs.map (fun kv => if kv.1 = k then (kv.1, v) else kv) else kvs ++ [(k, v)]
theorem PairR.val {H : Hp} {G : GH} {Z : ZS} {k : κ} : ∀ {kvs : List (κ × V)} {kds : List (κ × D)}, PairR K H G Z kvs kds → (∀ d, valD kds k = some d → ∃ v, valV kvs k = some v ∧ Rp K H G Z v d) ∧ (valD kds k = none → valV kvs k = none)
  | [], [], _ => ⟨fun d e => (nomatch e), fun _ => rfl⟩
  | p :: r, q :: s, ⟨e, rr, t⟩ => by
    by_cases h : q.1 = k
    · have h' : p.1 = k := e.trans h
      refine ⟨fun d ed => ?_, fun ed => ?_⟩
      · simp [valD, List.find?_cons, h] at ed
        subst ed
        exact ⟨p.2, by simp [valV, List.find?_cons, h'], rr⟩
      · simp [valD, List.find?_cons, h] at ed
    · have h' : ¬ p.1 = k := fun z => h (e.symm.trans z)
      have ih := PairR.val (k := k) t
      have e1 : valD (q :: s) k = valD s k := by simp [valD, List.find?_cons, h]
      have e2 : valV (p :: r) k = valV r k := by simp [valV, List.find?_cons, h']
      rw [e1, e2]
      exact ih
  | [], _ :: _, h => h.elim
  | _ :: _, [], h => h.elim
theorem PairR.any {H : Hp} {G : GH} {Z : ZS} {k : κ} : ∀ {kvs : List (κ × V)} {kds : List (κ × D)}, PairR K H G Z kvs kds → (kvs.any fun kv => decide (kv.1 = k)) = (kds.any fun kv => decide (kv.1 = k))
  | [], [], _ => rfl
  | p :: r, q :: s, ⟨e, rr, t⟩ => by rw [List.any_cons, List.any_cons, PairR.any t, e]
  | [], _ :: _, h => h.elim
  | _ :: _, [], h => h.elim
theorem PairR.app {H : Hp} {G : GH} {Z : ZS} : ∀ {kvs kvs' : List (κ × V)} {kds kds' : List (κ × D)}, PairR K H G Z kvs kds → PairR K H G Z kvs' kds' → PairR K H G Z (kvs ++ kvs') (kds ++ kds')
  | [], _, [], _, _, h => h
  | _ :: _, _, _ :: _, _, ⟨e, r, t⟩, h => ⟨e, r, PairR.app t h⟩
  | [], _, _ :: _, _, h, _ => h.elim
  | _ :: _, _, [], _, h, _ => h.elim
theorem PairR.repl {H : Hp} {G : GH} {Z : ZS} {k : κ} {v : V} {d : D} (r : Rp K H G Z v d) : ∀ {kvs : List (κ × V)} {kds : List (κ × D)}, PairR K H G Z kvs kds → PairR K H G Z (kvs.map fun kv => if kv.1 = k then (kv.1, v) else kv) (kds.map fun kv => if kv.1 = k then (kv.1, d) else kv)
  | [], [], _ => trivial
  | p :: r', q :: s, ⟨e, rr, t⟩ => by
    rw [List.map_cons, List.map_cons]
    by_cases h : q.1 = k
    · rw [if_pos h, if_pos (e.trans h)]; exact ⟨e, r, PairR.repl r t⟩
    · rw [if_neg h, if_neg fun z => h (e.symm.trans z)]; exact ⟨e, rr, PairR.repl r t⟩
  | [], _ :: _, h => h.elim
  | _ :: _, [], h => h.elim
theorem PairR.put {H : Hp} {G : GH} {Z : ZS} {k : κ} {v : V} {d : D} (r : Rp K H G Z v d) {kvs : List (κ × V)} {kds : List (κ × D)} (h : PairR K H G Z kvs kds) : PairR K H G Z (putK kvs k v) (putD kds k d) := by
  unfold putK putD
  rw [h.any]
  split
  · exact h.repl r
  · exact h.app ⟨rfl, r, trivial⟩
theorem PairR.len {H : Hp} {G : GH} {Z : ZS} : ∀ {kvs : List (κ × V)} {kds : List (κ × D)}, PairR K H G Z kvs kds → kvs.length = kds.length
  | [], [], _ => rfl
  | _ :: _, _ :: _, ⟨_, _, t⟩ => by rw [List.length_cons, List.length_cons, PairR.len t]
  | [], _ :: _, h => h.elim
  | _ :: _, [], h => h.elim
theorem PairR.keys {H : Hp} {G : GH} {Z : ZS} : ∀ {kvs : List (κ × V)} {kds : List (κ × D)}, PairR K H G Z kvs kds → kvs.map (·.1) = kds.map (·.1)
  | [], [], _ => rfl
  | _ :: _, _ :: _, ⟨e, _, t⟩ => by rw [List.map_cons, List.map_cons, PairR.keys t, e]
  | [], _ :: _, h => h.elim
  | _ :: _, [], h => h.elim
def mergeD (kvs more : List (κ × D)) : List (κ × D) := more.foldl (fun acc kv => putD acc kv.1 kv.2) kvs
end
theorem PairR.merge {H : Hp} {G : GH} {Z : ZS} : ∀ {more : List (Key × V)} {mored : List (Key × D)} {kvs : List (Key × V)} {kds : List (Key × D)}, PairR K H G Z more mored → PairR K H G Z kvs kds → PairR K H G Z (mergeK kvs more) (mergeD kds mored)
  | [], [], _, _, _, h => h
  | p :: _, q :: _, kvs, kds, ⟨e, r, t⟩, h => by
    show PairR K H G Z (mergeK (putK kvs p.1 p.2) _) (mergeD (putD kds q.1 q.2) _)
    rw [e]
    exact PairR.merge t (h.put r)
  | [], _ :: _, _, _, h, _ => h.elim
  | _ :: _, [], _, _, h, _ => h.elim
/-! ## keys -/
def keyOf : D → Option Key
  | .int i => some (.inl i)
  | .str x => some (.inr x)
  | _ => none
theorem keyOf_rp {H : Hp} {G : GH} {Z : ZS} {v : V} {d : D} {k : Key} (r : Rp K H G Z v d) (e : keyOf d = some k) : v = kV k := by
  cases d <;> first | (simp [keyOf] at e; done) | skip
  · simp [keyOf] at e; subst e; exact r.at_int
  · simp [keyOf] at e; subst e; exact r.at_str
def keysOf : List D → Option (List Key)
  | [] => some []
  | d :: r => match keyOf d, keysOf r with | some k, some ks => some (k :: ks) | _, _ => none
theorem keysOf_rp {H : Hp} {G : GH} {Z : ZS} : ∀ {vs : List V} {ds : List D} {ks : List Key}, RpAll K H G Z vs ds → keysOf ds = some ks → vs = ks.map kV
  | _, [], ks, .nil, e => by simp [keysOf] at e; subst e; rfl
  | _, d :: r, ks, .cons h t, e => by
    rw [keysOf] at e
    split at e
    · rename_i k ks' e1 e2
      cases e
      rw [keyOf_rp h e1, keysOf_rp t e2]; rfl
    · cases e
/-- what the dict at c holds at y -/
def getD (G : GH) (c : Addr) (y : D) (o : Option D) : Prop := match G c with
  | some (.dK kvs) => ∃ k, keyOf y = some k ∧ valD kvs k = o
  | some (.dT kvs) => ∃ ds k, y = .tup ds ∧ keysOf ds = some k ∧ valD kvs k = o
  | some (.lkT _ _ kvs) => ∃ ds k, y = .tup ds ∧ keysOf ds = some k ∧ valD kvs k = o
  | _ => False
theorem getD_ok {H : Hp} {G : GH} {Z : ZS} {c : Addr} {v : V} {y : D} {o : Option D} (R : HRep K H G Z) (r : Rp K H G Z v y) (h : getD G c y o) : ∃ u, DGet H c v u ∧ u.isSome = o.isSome ∧ ∀ d, o = some d → ∃ w, u = some w ∧ Rp K H G Z w d := by
  unfold getD at h
  split at h
  · rename_i kvs e
    obtain ⟨k, e1, e2⟩ := h
    obtain ⟨ho, h1, h2⟩ := R.cell c _ e
    cases ho <;> first | exact h2.elim | skip
    rename_i us
    have hv := PairR.val (k := k) h2
    rw [keyOf_rp r e1]
    refine ⟨valV us k, .k h1, ?_, fun d ed => ?_⟩
    · cases o with
      | none => rw [hv.2 e2]; rfl
      | some d => obtain ⟨w, q, _⟩ := hv.1 d e2; rw [q]; rfl
    · subst ed; exact hv.1 d e2
  · rename_i kvs e
    obtain ⟨ds, k, rfl, e1, e2⟩ := h
    obtain ⟨ho, h1, h2⟩ := R.cell c _ e
    cases ho <;> first | exact h2.elim | skip
    rename_i us
    have hv := PairR.val (k := k) h2
    cases r with
    | tup g z hh al =>
      rw [keysOf_rp al e1] at hh
      refine ⟨valV us k, .t h1 hh, ?_, fun d ed => ?_⟩
      · cases o with
        | none => rw [hv.2 e2]; rfl
        | some d => obtain ⟨w, q, _⟩ := hv.1 d e2; rw [q]; rfl
      · subst ed; exact hv.1 d e2
  · rename_i us kvs e
    obtain ⟨ds, k, rfl, e1, e2⟩ := h
    obtain ⟨ho, h1, h2⟩ := R.cell c _ e
    cases ho <;> first | exact h2.elim | skip
    obtain ⟨rfl, rfl, h2⟩ := h2
    have hv := PairR.val (k := k) h2
    cases r with
    | tup g z hh al =>
      rw [keysOf_rp al e1] at hh
      refine ⟨valV us k, .inr ⟨us, k, _, .inr ⟨_, h1⟩, rfl, hh, rfl⟩, ?_, fun d ed => ?_⟩
      · cases o with
        | none => rw [hv.2 e2]; rfl
        | some d => obtain ⟨w, q, _⟩ := hv.1 d e2; rw [q]; rfl
      · subst ed; exact hv.1 d e2
  · exact h.elim
/-- the same, as it is run -/
def lookD (G : GH) (c : Addr) (y : D) : Option (Option D) := match G c with
  | some (.dK kvs) => (match keyOf y with | some k => some (valD kvs k) | none => none)
  | some (.dT kvs) => (match y with | .tup ds => (match keysOf ds with | some k => some (valD kvs k) | none => none) | _ => none)
  | some (.lkT _ _ kvs) => (match y with | .tup ds => (match keysOf ds with | some k => some (valD kvs k) | none => none) | _ => none)
  | _ => none
theorem lookD_ok {G : GH} {c : Addr} {y : D} {o : Option D} (h : lookD G c y = some o) : getD G c y o := by
  unfold lookD at h
  unfold getD
  split at h
  · split at h
    · rename_i k ek; exact ⟨k, ek, Option.some.inj h⟩
    · cases h
  · split at h
    · split at h
      · rename_i k ek; exact ⟨_, k, rfl, ek, Option.some.inj h⟩
      · cases h
    · cases h
  · split at h
    · split at h
      · rename_i k ek; exact ⟨_, k, rfl, ek, Option.some.inj h⟩
      · cases h
    · cases h
  · cases h
section
variable {X : Cx} {a b i o value : Expr} {Ta Tb To Ti Tv : DE} {pos pos' : Pos}
def dDGet : DR2 := fun x y G Q => match x with | .ref c => (match lookD G c y with | some (some d) => Q d G | _ => False) | _ => False
theorem pd_dget (hu : X.A.units + 1 < cLine) (ho : PD X o To) (hi : PD X i Ti) (hs : NoSl i := by exact fun _ _ => rfl) : PD X (.Subscript o i pos) (dOp dDGet To Ti) :=
  pe_imp (pe_dget hu ho hi hs) fun _ _ _ h => op_lift (r := fun x y H Q => ∃ a v, x = .ref a ∧ DGet H a y (some v) ∧ Q v H) (fun {H G Z x y a b Q0 Q} R rx ry h k => by
    unfold dDGet at h
    split at h
    · cases rx
      split at h
      · rename_i d hg
        obtain ⟨u, g, _, hd⟩ := getD_ok R ry (lookD_ok hg)
        obtain ⟨w, rfl, rw'⟩ := hd d rfl
        exact ⟨_, w, rfl, g, k.here R h rw'⟩
      · exact h.elim
    · exact h.elim) h
/-- y in d -/
def dInD (n : Bool) : DR2 := fun y x G Q => match x with | .ref c => (match lookD G c y with | some o => Q (.bl (n != o.isSome)) G | none => False) | _ => False
theorem r2_din (K : PySem.W.Frag) : R2D K (fun y x H Q => ∃ a o, x = .ref a ∧ DGet H a y o ∧ Q (.bl o.isSome) H) (dInD false) := fun {H G Z x y a b Q0 Q} R rx ry h k => by
  unfold dInD at h
  split at h
  · cases ry
    split at h
    · rename_i o hg
      obtain ⟨u, g, e, _⟩ := getD_ok R rx (lookD_ok hg)
      exact ⟨_, u, rfl, g, k.here R h (by rw [e, Bool.false_bne]; exact .bl _)⟩
    · exact h.elim
  · exact h.elim
theorem r2_dnotin (K : PySem.W.Frag) : R2D K (fun y x H Q => ∃ a o, x = .ref a ∧ DGet H a y o ∧ Q (.bl (!o.isSome)) H) (dInD true) := fun {H G Z x y a b Q0 Q} R rx ry h k => by
  unfold dInD at h
  split at h
  · cases ry
    split at h
    · rename_i o hg
      obtain ⟨u, g, e, _⟩ := getD_ok R rx (lookD_ok hg)
      exact ⟨_, u, rfl, g, k.here R h (by rw [e, Bool.true_bne]; exact .bl _)⟩
    · exact h.elim
  · exact h.elim
theorem pd_inD (hu : X.A.units + 1 < cLine) (ha : PD X a Ta) (hb : PD X b Tb) (hm : behindInMarks .In b = false := by rfl) : PD X (.Compare a [.In] [b] pos) (dOp (dInD false) Ta Tb) :=
  pe_imp (pe_cmp (pc_din hu ha hb) hm) fun _ _ _ h => op_lift (r2_din X.K) h
theorem pd_notinD (hu : X.A.units + 1 < cLine) (ha : PD X a Ta) (hb : PD X b Tb) (hm : behindInMarks .NotIn b = false := by rfl) : PD X (.Compare a [.NotIn] [b] pos) (dOp (dInD true) Ta Tb) :=
  pe_imp (pe_cmp (pc_dnotin hu ha hb) hm) fun _ _ _ h => op_lift (r2_dnotin X.K) h
theorem tb_lift {r : R2} {r' : DR2} (hr : R2D X.K r r') {σ : St} {H : Hp} {Q : Bool → Hp → Prop} (h : liftT X.K (dTest (dOp r' Ta Tb)) σ H Q) : tOp r (liftE X.K Ta) (liftE X.K Tb) σ H fun x H' => ∃ k, x = .bl k ∧ Q k H' := by
  obtain ⟨Γ, G, Z, Q0, S, h, k⟩ := h
  exact op_lift hr ⟨Γ, G, Z, _, S, h, fun d G' v H' q r R x => by
    cases d <;> first | exact q.elim | skip
    cases r
    exact ⟨_, rfl, k _ _ _ q R x⟩⟩
end
end TK

namespace TK
open PySem PySem.Spec L2
variable {K : PySem.W.Frag}
section
variable {X : Cx} {a b i o value : Expr} {Ta Tb To Ti Tv : DE} {pos pos' : Pos}
theorem pdt_inD (hu : X.A.units + 1 < cLine) (ha : PD X a Ta) (hb : PD X b Tb) (hm : behindInMarks .In b = false := by rfl) : PDT X (.Compare a [.In] [b] pos) (dTest (dOp (dInD false) Ta Tb)) :=
  pt_imp (pt_cmp (pc_din hu ha hb) hm) fun _ _ _ h => tb_lift (r2_din X.K) h
theorem pdt_notinD (hu : X.A.units + 1 < cLine) (ha : PD X a Ta) (hb : PD X b Tb) (hm : behindInMarks .NotIn b = false := by rfl) : PDT X (.Compare a [.NotIn] [b] pos) (dTest (dOp (dInD true) Ta Tb)) :=
  pt_imp (pt_cmp (pc_dnotin hu ha hb) hm) fun _ _ _ h => tb_lift (r2_dnotin X.K) h
/-! d[y] = v -/
def putC (G : GH) (c : Addr) (y v : D) (Q : GH → Prop) : Prop := match G c with
  | some (.dK kvs) => (match keyOf y with | some k => kvs.length < sizeLine ∧ Q (gup G c (.dK (putD kvs k v))) | none => False)
  | some (.dT kvs) => (match y with | .tup ds => (match keysOf ds with | some k => kvs.length < sizeLine ∧ Q (gup G c (.dT (putD kvs k v))) | none => False) | _ => False)
  | _ => False
def dDPut (to ti te : DE) : DS := fun D0 Γ G => te Γ G fun v G1 => to Γ G1 fun o G2 => ti Γ G2 fun y G3 => match o with
  | .ref c => putC G3 c y v (D0.nx Γ)
  | _ => False
theorem pds_dput (hu : X.A.units + 1 < cLine) (he : PD X value Tv) (ho : PD X o To) (hi : PD X i Ti) (hs : swapsWith value (some (.Subscript o i pos')) pos.line X.env = pure false := by rfl) : PDS X (.Assign [.Subscript o i pos'] value pos) (dDPut To Ti Tv) :=
  ps_imp (ps_dput hu ho hi he hs) fun D σ H ⟨Γ, G, Z, D0, S, h, k⟩ => ⟨Γ, G, Z, _, S, h, fun v G1 u1 H1 q1 r1 R1 x1 => ⟨Γ, G1, Z, _, S.ext x1 R1, q1, fun o G2 u2 H2 q2 r2 R2 x2 => ⟨Γ, G2, Z, _, (S.ext x1 R1).ext x2 R2, q2, fun y G3 u3 H3 q3 r3 R3 x3 => by
    split at q3
    · rename_i c
      cases r2
      unfold putC at q3
      have r1' := (r1.ext x2).ext x3
      split at q3
      · rename_i kvs e
        split at q3
        case h_2 => exact q3.elim
        rename_i kk ek
        obtain ⟨hl, q3⟩ := q3
        obtain ⟨ho, h1, h2⟩ := R3.cell c _ e
        cases ho <;> first | exact h2.elim | skip
        rename_i us
        have hp := PairR.put (k := kk) r1' h2
        rw [keyOf_rp r3 ek]
        refine ⟨c, _, rfl, .k h1 (by rw [h2.len]; exact hl), ?_⟩
        have x : Ext H3 G3 (upd H3 c (.dK (putK us kk u1))) (gup G3 c (.dK (putD kvs kk v))) := ext_put e
        exact k.nx _ _ _ _ q3 ((((S.ext x1 R1).ext x2 R2).ext x3 R3).ext x (R3.put e (PairR.map (f := Rp.ext x) hp))) (x1.trans (x2.trans (x3.trans x)))
      · rename_i kvs e
        split at q3
        case h_2 => exact q3.elim
        split at q3
        case h_2 => exact q3.elim
        rename_i kk ek
        obtain ⟨hl, q3⟩ := q3
        obtain ⟨ho, h1, h2⟩ := R3.cell c _ e
        cases ho <;> first | exact h2.elim | skip
        rename_i us
        have hp := PairR.put (k := kk) r1' h2
        cases r3 with
        | tup g z hh al =>
          rw [keysOf_rp al ek] at hh
          refine ⟨c, _, rfl, .t h1 hh (by rw [h2.len]; exact hl), ?_⟩
          have x : Ext H3 G3 (upd H3 c (.dT (putK us kk u1))) (gup G3 c (.dT (putD kvs kk v))) := ext_put e
          exact k.nx _ _ _ _ q3 ((((S.ext x1 R1).ext x2 R2).ext x3 R3).ext x (R3.put e (PairR.map (f := Rp.ext x) hp))) (x1.trans (x2.trans (x3.trans x)))
      · exact q3.elim
    · exact q3.elim⟩⟩⟩
/-! {} -/
def dNewD (t : Bool) : DE := fun _ G Q => ∀ p, G p = none → Q (.ref p) (gup G p (if t then .dT [] else .dK []))
theorem pd_newD (t : Bool) : PD X (.Dict [] [] pos) (dNewD t) := by
  cases t
  · exact pe_imp pe_dnewK fun σ H Q ⟨Γ, G, Z, Q0, S, h, k⟩ p hp => by
      have e := S.rep.noneAt hp
      exact k _ _ _ _ (h p e.1) (.ref p) (S.rep.newC hp trivial) (ext_newC S.rep hp)
  · exact pe_imp pe_dnewT fun σ H Q ⟨Γ, G, Z, Q0, S, h, k⟩ p hp => by
      have e := S.rep.noneAt hp
      exact k _ _ _ _ (h p e.1) (.ref p) (S.rep.newC hp trivial) (ext_newC S.rep hp)
/-! {k: v, ..} -/
abbrev DPr := GEnv → GH → (List (Key × D) → GH → Prop) → Prop
def dpNil : DPr := fun _ G Q => Q [] G
def dpCons (tk tv : DE) (tr : DPr) : DPr := fun Γ G Q => tk Γ G fun x G1 => tv Γ G1 fun y G2 => tr Γ G2 fun ps G3 => match keyOf x with | some k => Q ((k, y) :: ps) G3 | none => False
def liftP (K : PySem.W.Frag) (tp : DPr) (σ : St) (H : Hp) (Q : List (V × V) → Hp → Prop) : Prop := ∃ Γ G Z Q0, SR K Γ G Z σ H ∧ tp Γ G Q0 ∧ ∀ kds G' kvs H', Q0 kds G' → PairR K H' G' Z kvs kds → HRep K H' G' Z → Ext H G H' G' → Q (kvs.map fun kv => (kV kv.1, kv.2)) H'
def PDPs (X : Cx) (pos : Pos) (keys : List (Option Expr)) (values : List Expr) (tp : DPr) : Prop := ∃ trs, PPs X pos keys values trs ∧ ∀ σ H Q, liftP X.K tp σ H Q → tPairs trs σ H Q
theorem pdps_nil : PDPs X pos [] [] dpNil := ⟨_, pps_nil, fun σ H Q ⟨Γ, G, Z, Q0, S, h, k⟩ => k [] G [] H h trivial S.rep .refl⟩
theorem pdps_cons {ks : List (Option Expr)} {vs : List Expr} {Tp : DPr} (ha : PD X a Ta) (hb : PD X b Tb) (hr : PDPs X pos ks vs Tp) : PDPs X pos (some a :: ks) (b :: vs) (dpCons Ta Tb Tp) := by
  obtain ⟨trs, h1, h2⟩ := hr
  refine ⟨_, pps_cons ha hb h1, fun σ H Q ⟨Γ, G, Z, Q0, S, h, k⟩ => ⟨Γ, G, Z, _, S, h, fun x G1 v H1 q rx R x1 => ⟨Γ, G1, Z, _, S.ext x1 R, q, fun y G2 u H2 q2 ry R2 x2 => h2 σ H2 _ ⟨Γ, G2, Z, _, (S.ext x1 R).ext x2 R2, q2, fun kds G3 kvs H3 q3 pr R3 x3 => ?_⟩⟩⟩⟩
  split at q3
  · rename_i kk ek
    have e := keyOf_rp rx ek
    subst e
    exact k ((kk, y) :: kds) G3 ((kk, u) :: kvs) H3 q3 ⟨rfl, ry.ext x3, pr⟩ R3 (x1.trans (x2.trans x3))
  · exact q3.elim
def dDisp (tp : DPr) : DE := fun Γ G Q => tp Γ G fun kds G1 => kds.length ≤ 15 ∧ ∀ p, G1 p = none → Q (.ref p) (gup G1 p (.dK (mergeD [] kds)))
theorem pd_disp {keys : List (Option Expr)} {values : List Expr} {Tp : DPr} (h : PDPs X pos keys values Tp) (hall : keys.all (·.isSome) = true := by rfl) (hl : keys.length = values.length := by rfl) (h0 : keys ≠ [] := by simp) (h15 : keys.length ≤ 15 := by decide) : PD X (.Dict keys values pos) (dDisp Tp) := by
  obtain ⟨trs, h1, h2⟩ := h
  refine pe_imp (pe_disp h1 hall hl h0 h15) fun σ H Q ⟨Γ, G, Z, Q0, S, h, k⟩ p hp => h2 σ _ _ ?_
  have e0 := S.rep.noneAt hp
  have R1 : HRep X.K (upd H p (.dK [])) G (fun a => Z a ∨ a = p) := S.rep.hide hp
  have env1 : EnvR X.K (upd H p (.dK [])) G (fun a => Z a ∨ a = p) σ Γ := EnvR.map (f := Rp.ext (ext_new S.rep hp)) (EnvR.map (f := Rp.zext (zext_new hp)) S.env)
  refine ⟨Γ, G, _, _, ⟨env1, R1⟩, h, fun kds G' kvs H' q pr R x => ?_⟩
  have hid := R.hid p (.inr rfl)
  have hH : H' p = some (.dK []) := (x p _ e0.1 upd_same trivial).2
  refine ⟨hH, kvs, rfl, by rw [pr.len]; exact q.1, ?_⟩
  have R2 : HRep X.K (upd H' p (.dK (mergeK [] kvs))) G' (fun a => Z a ∨ a = p) := R.wrHid (.inr rfl)
  have pr2 : PairR X.K (upd H' p (.dK (mergeK [] kvs))) G' (fun a => Z a ∨ a = p) (mergeK [] kvs) (mergeD [] kds) := PairR.map (f := Rp.wr (.inr (.inr rfl)) fun _ _ q => q) (PairR.merge pr (show PairR X.K H' G' _ [] [] from trivial))
  refine k _ _ _ _ (q.2 p hid.1) (.ref p) (R2.toC e0.2 upd_same pr2) fun c u g e n => ?_
  have ne : c ≠ p := ne_of_none e hp
  have := x c u g (by rw [upd_ne ne]; exact e) n
  rw [gup_ne ne, upd_ne ne]
  exact this
/-! sorted(..) of ints, of a dict's words -/
def dSorted (c : Bool) : DC := fun ds G Q => match ds with
  | [.ref a] => match G a with
    | some (.dK kvs) => ∃ ks : List Str, kvs.map (·.1) = ks.map Sum.inr ∧ ks.length < 64 ∧ ∀ ys : List Str, ys.Perm ks → PyProof.Rows.sortedS ys = true → newL c (ys.map D.str) G Q
    | some (.lst xs) => ∃ ns : List Int, xs = ns.map D.int ∧ ∀ ns' : List Int, ns'.Perm ns → ns'.Pairwise (· ≤ ·) → newL c (ns'.map D.int) G Q
    | _ => False
  | [.lst xs] => ∃ ns : List Int, xs = ns.map D.int ∧ ∀ ns' : List Int, ns'.Perm ns → ns'.Pairwise (· ≤ ·) → newL c (ns'.map D.int) G Q
  | _ => False
theorem cd_sorted (K : PySem.W.Frag) (c : Bool) : CD K (fun xs H Q => rSortedI K xs H Q ∨ (∃ (a : Addr) (kvs : List (Key × V)) (ks : List Str), xs = [.ref a] ∧ Rd H a (.dK kvs) ∧ kvs.map (·.1) = ks.map Sum.inr ∧ ks.length < 64 ∧ ∀ ys p, ys.Perm ks → PyProof.Rows.sortedS ys = true → H p = none → Q (.ref p) (upd H p (.lst (ys.map V.str))))) (dSorted c) := fun {H G Z vs ds Q0 Q} R al h k => by
  unfold dSorted at h
  split at h
  · obtain ⟨v, rfl, r⟩ := al.one
    cases r
    split at h
    · rename_i kvs e
      obtain ⟨ks, e1, e2, h⟩ := h
      obtain ⟨ho, h1, h2⟩ := R.cell _ _ e
      cases ho <;> first | exact h2.elim | skip
      exact .inr ⟨_, _, ks, rfl, .inl h1, (PairR.keys h2).trans e1, e2, fun ys p hp hs hn => newL_ok R (RpAll.ofStrs ys) (h ys hp hs) k p hn⟩
    · rename_i xs e
      obtain ⟨ns, rfl, h⟩ := h
      obtain ⟨us, h1, h2⟩ := cell_lst R e
      have e3 := h2.ints
      subst e3
      exact .inl ⟨_, ns, rfl, .of h1, fun ns' p hp hs hn => newL_ok R (RpAll.ofInts ns') (h ns' hp hs) k p hn⟩
    · exact h.elim
  · obtain ⟨v, rfl, r⟩ := al.one
    obtain ⟨ns, rfl, h⟩ := h
    cases r with
    | lst g z hh al =>
      have e3 := al.ints
      subst e3
      exact .inl ⟨_, ns, rfl, .of hh, fun ns' p hp hs hn => newL_ok R (RpAll.ofInts ns') (h ns' hp hs) k p hn⟩
  · exact h.elim
theorem call_sortedAll (hc : X.calm = true) : CallR X (.builtin "sorted") (fun xs H Q => rSortedI X.K xs H Q ∨ (∃ (a : Addr) (kvs : List (Key × V)) (ks : List Str), xs = [.ref a] ∧ Rd H a (.dK kvs) ∧ kvs.map (·.1) = ks.map Sum.inr ∧ ks.length < 64 ∧ ∀ ys p, ys.Perm ks → PyProof.Rows.sortedS ys = true → H p = none → Q (.ref p) (upd H p (.lst (ys.map V.str))))) := cr_sortedI.or (call_sortedD hc)
/-! a written dict of words and numbers -/
def EntL (P : Params) : List DictEntry → List (Str × Int) → Prop
  | [], [] => True
  | e :: r, p :: s => (∃ t, e.key = .str p.1 t) ∧ e.hash = PyData.keyHash P p.1 ∧ (∃ t, e.val = .int p.2 t) ∧ EntL P r s
  | _, _ => False
structure KTab (K : PySem.W.Frag) (w : World) (d : Addr) (l : List (Str × Int)) : Prop where
  at_ : ∃ es n, K.lookup d = some ⟨.type "dict", none, .dict es n, #[]⟩ ∧ EntL w.params es.toList l
  low : (d == sysModules) = false
def tabAt (l : List (Str × Int)) (z : Str) : Option Int := (l.find? fun p => p.1 == z).map (·.2)
theorem EntL.lit {P : Params} : ∀ {es : List DictEntry} {l : List (Str × Int)}, EntL P es l → PySem.W.KeysLit P es
  | [], [], _ => trivial
  | e :: r, p :: s, ⟨⟨t, h1⟩, h2, _, h4⟩ => ⟨⟨p.1, t, h1, h2⟩, EntL.lit h4⟩
  | [], _ :: _, h => h.elim
  | _ :: _, [], h => h.elim
theorem EntL.find {P : Params} {z : Str} : ∀ {es : List DictEntry} {l : List (Str × Int)}, EntL P es l → es.any (·.refKey) = false ∧ ((tabAt l z = none ∧ es.find? (·.key.isStr z) = none) ∨ ∃ i e t, tabAt l z = some i ∧ es.find? (·.key.isStr z) = some e ∧ e.val = .int i t)
  | [], [], _ => ⟨rfl, .inl ⟨rfl, rfl⟩⟩
  | e :: r, p :: s, ⟨⟨t, h1⟩, h2, ⟨t2, h3⟩, h4⟩ => by
    have ih := EntL.find (z := z) h4
    have hk : e.key.isStr z = (p.1 == z) := by rw [h1]; rfl
    refine ⟨?_, ?_⟩
    · rw [List.any_cons, ih.1, Bool.or_false]
      unfold DictEntry.refKey
      rw [h1]
    · cases hz : p.1 == z with
      | true => exact .inr ⟨p.2, e, t2, by simp [tabAt, List.find?_cons, hz], by rw [List.find?_cons, hk, hz], h3⟩
      | false =>
        have e1 : tabAt (p :: s) z = tabAt s z := by simp [tabAt, List.find?_cons, hz]
        have e2 : (e :: r).find? (·.key.isStr z) = r.find? (·.key.isStr z) := by rw [List.find?_cons, hk, hz]
        rw [e1, e2]; exact ih.2
  | [], _ :: _, h => h.elim
  | _ :: _, [], h => h.elim
end
end TK

namespace TK
open PySem PySem.Spec L2
variable {K : PySem.W.Frag}
theorem KTab.ns {w : World} {d : Addr} {l : List (Str × Int)} (T : KTab K w d l) (z : Str) : (tabAt l z = none ∧ PySem.W.nsIn K d z = some none) ∨ ∃ i t, tabAt l z = some i ∧ PySem.W.nsIn K d z = some (some (.int i t)) := by
  obtain ⟨es, n, h1, h2⟩ := T.at_
  have hf := h2.find (z := z)
  unfold PySem.W.nsIn
  rw [h1]
  simp only
  rcases hf.2 with ⟨e1, e2⟩ | ⟨i, e, t, e1, e2, e3⟩
  · rw [e2, hf.1]
    exact .inl ⟨e1, rfl⟩
  · rw [e2]
    exact .inr ⟨i, t, e1, by simp only [e3]⟩
section
variable {X : Cx} {a : Expr} {Ta : DE} {p pos : Pos} {x : Str} {d : Addr} {l : List (Str × Int)}
def dKdIn (n : Bool) (l : List (Str × Int)) : D → GH → DK → Prop := fun x G Q => match x with | .str z => Q (.bl (n != (tabAt l z).isSome)) G | _ => False
def dKdGet (l : List (Str × Int)) : D → GH → DK → Prop := fun x G Q => match x with | .str z => (match tabAt l z with | some i => Q (.int i) G | none => False) | _ => False
theorem pd_kdIn (hg : Gl X x) (hm : X.mg x = some (.ref d)) (T : KTab X.K X.w d l) (ha : PD X a Ta) (hd : (x == ("__debug__" : Str)) = false := by decide) (hb : behindInMarks .In (.Name x p) = false := by rfl) : PD X (.Compare a [.In] [.Name x p] pos) (dUn (dKdIn false l) Ta) := by
  obtain ⟨es, n, h1, h2⟩ := T.at_
  refine pe_imp (pe_cmpR (op_in_kd ⟨h1, h2.lit, T.low⟩) ha (pe_glob (v := .ref d) hg hm rfl hd) hb) fun σ H Q ⟨Γ, G, Z, Q0, S, h, k⟩ => ⟨Γ, G, Z, _, S, h, fun e G1 v H1 q rx R x1 => ?_⟩
  unfold dKdIn at q
  split at q
  · rename_i z
    cases rx.at_str
    rcases T.ns z with ⟨e1, e2⟩ | ⟨i, t, e1, e2⟩
    · rw [e1] at q; exact ⟨z, none, rfl, rfl, e2, k _ _ _ _ q (.bl _) R x1⟩
    · rw [e1] at q; exact ⟨z, _, rfl, rfl, e2, k _ _ _ _ q (.bl _) R x1⟩
  · exact q.elim
theorem pdt_kdNotIn (hg : Gl X x) (hm : X.mg x = some (.ref d)) (T : KTab X.K X.w d l) (ha : PD X a Ta) (hd : (x == ("__debug__" : Str)) = false := by decide) (hb : behindInMarks .NotIn (.Name x p) = false := by rfl) : PDT X (.Compare a [.NotIn] [.Name x p] pos) (dTest (dUn (dKdIn true l) Ta)) := by
  obtain ⟨es, n, h1, h2⟩ := T.at_
  refine pt_imp (pt_cmpR (op_notIn_kd ⟨h1, h2.lit, T.low⟩) ha (pe_glob (v := .ref d) hg hm rfl hd) hb) fun σ H Q ⟨Γ, G, Z, Q0, S, h, k⟩ => ⟨Γ, G, Z, _, S, h, fun e G1 v H1 q rx R x1 => ?_⟩
  unfold dKdIn at q
  split at q
  · rename_i z
    cases rx.at_str
    rcases T.ns z with ⟨e1, e2⟩ | ⟨i, t, e1, e2⟩
    · rw [e1] at q; exact ⟨z, none, rfl, rfl, e2, _, rfl, k _ _ _ q R x1⟩
    · rw [e1] at q; exact ⟨z, _, rfl, rfl, e2, _, rfl, k _ _ _ q R x1⟩
  · exact q.elim
theorem pd_kdGet (hg : Gl X x) (hm : X.mg x = some (.ref d)) (T : KTab X.K X.w d l) (ha : PD X a Ta) (hd : (x == ("__debug__" : Str)) = false := by decide) (hs : PlainIx a := by exact fun _ _ => rfl) : PD X (.Subscript (.Name x p) a pos) (dUn (dKdGet l) Ta) := by
  obtain ⟨es, n, h1, h2⟩ := T.at_
  refine pe_imp (pe_ix ix_kdict (pe_glob (v := .ref d) hg hm rfl hd) ha hs) fun σ H Q ⟨Γ, G, Z, Q0, S, h, k⟩ => ⟨Γ, G, Z, _, S, h, fun e G1 v H1 q rx R x1 => ?_⟩
  unfold dKdGet at q
  split at q
  · rename_i z
    cases rx.at_str
    rcases T.ns z with ⟨e1, e2⟩ | ⟨i, t, e1, e2⟩
    · rw [e1] at q; exact q.elim
    · rw [e1] at q; exact ⟨d, z, .int i, rfl, rfl, ⟨es, n, _, h1, h2.lit, e2, ⟨t, rfl⟩⟩, k _ _ _ _ q (.int _) R x1⟩
  · exact q.elim
end
end TK

namespace TK
open PySem PySem.Spec L2
variable {K : PySem.W.Frag}
section
variable {X : Cx} {o e f : Expr} {To Te Tf : DE} {apos cpos pos : Pos}
/-! try: body / except ..: .., the body raises nothing -/
theorem pds_tryN {body : List Stmt} {h₀ : ExceptHandler} {hs : List ExceptHandler} {T : DS} (hn : ∀ e s, ¬ X.xe e s) (hb : PDSs X body T) : PDS X (.Try body (h₀ :: hs) [] [] pos) T := ps_try_never (u := tNext) hn hb pss_nil
/-! d.get(k, x) -/
def dDGet2 (td tk tx : DE) : DE := fun Γ G Q => td Γ G fun d G1 => (match d with | .ref c => (match G1 c with | some (.dK _) => True | some (.dT _) => True | _ => False) | _ => False) ∧ tk Γ G1 fun y G2 => tx Γ G2 fun z G3 => match d with
  | .ref c => (match lookD G3 c y with | some (some v) => Q v G3 | some none => Q z G3 | none => False)
  | _ => False
theorem pd_dget2 (hu : X.A.units + 1 < cLine) (ho : PD X o To) (he : PD X e Te) (hf : PD X f Tf) (m : M2 X o "get" apos e f cpos) : PD X (.Call (.Attribute o "get" apos) [e, f] [] cpos) (dDGet2 To Te Tf) :=
  pe_imp (pe_dget2 hu ho he hf m) fun σ H Q ⟨Γ, G, Z, Q0, S, h, k⟩ => ⟨Γ, G, Z, _, S, h, fun d G1 v H1 q rd R1 x1 => by
    obtain ⟨hd, q⟩ := q
    split at hd
    · rename_i c
      cases rd
      refine ⟨c, rfl, ?_, Γ, G1, Z, _, S.ext x1 R1, q, fun y G2 u H2 q2 ry R2 x2 => ⟨Γ, G2, Z, _, (S.ext x1 R1).ext x2 R2, q2, fun z G3 t H3 q3 rz R3 x3 => ?_⟩⟩
      · split at hd
        · rename_i e; obtain ⟨ho, h1, h2⟩ := R1.cell c _ e
          cases ho <;> first | exact h2.elim | skip
          exact .inl ⟨_, .inl h1⟩
        · rename_i e; obtain ⟨ho, h1, h2⟩ := R1.cell c _ e
          cases ho <;> first | exact h2.elim | skip
          exact .inr ⟨_, .inl h1⟩
        · exact hd.elim
      · simp only at q3
        split at q3
        · rename_i w hw
          obtain ⟨u', g, _, hd'⟩ := getD_ok R3 (ry.ext x3) (lookD_ok hw)
          obtain ⟨w', rfl, rw'⟩ := hd' w rfl
          exact ⟨_, g, k _ _ _ _ q3 rw' R3 (x1.trans (x2.trans x3))⟩
        · rename_i hw
          obtain ⟨u', g, e', _⟩ := getD_ok R3 (ry.ext x3) (lookD_ok hw)
          cases u' with
          | none => exact ⟨_, g, k _ _ _ _ q3 rz R3 (x1.trans (x2.trans x3))⟩
          | some _ => cases e'
        · exact q3.elim
    · exact hd.elim⟩
/-! D.get(k, x), D a written dict of words and numbers -/
def dKdGet2 (l : List (Str × Int)) (tk tx : DE) : DE := fun Γ G Q => tk Γ G fun y G1 => tx Γ G1 fun z G2 => match y with
  | .str w => (match tabAt l w with | some i => Q (.int i) G2 | none => Q z G2)
  | _ => False
theorem pd_kdGet2 {x : Str} {p : Pos} {d : Addr} {l : List (Str × Int)} (hg : Gl X x) (hm : X.mg x = some (.ref d)) (T : KTab X.K X.w d l) (he : PD X e Te) (hf : PD X f Tf) (m : M2 X (.Name x p) "get" apos e f cpos) (hd : (x == ("__debug__" : Str)) = false := by decide) :
    PD X (.Call (.Attribute (.Name x p) "get" apos) [e, f] [] cpos) (dKdGet2 l Te Tf) := by
  obtain ⟨es, n, h1, h2⟩ := T.at_
  refine ⟨fun pins s σ H Q I h => ?_⟩
  obtain ⟨Γ, G, Z, Q0, S, h, k⟩ := h
  refine wpAny_Call_method m.base m.few m.line PySem.F.plainAttrs_dict PySem.F.slot_dict_get PySem.F.type_dict_get (ld_glob I hg hm ?_ hd)
  have hmap : s.heap.MapOf (strKind X.prog X.w) d _ := PySem.W.mapOf_K (prog := X.prog) (w := X.w) I.kIn h1 h2.lit
  refine ⟨hmap.typeIs, fun b q => ?_, ?_⟩
  · cases q
    exact ⟨_, I.kIn _ _ h1, rfl⟩
  rw [m.trees]
  refine Calls.callWith_builtin rfl (Calls.evalArgs_plain (Calls.spliced_cons (thn (he.run pins s σ H _ I ⟨Γ, G, Z, _, S, h, fun y G1 u H1 q ry R1 x1 => ⟨Γ, G1, Z, _, S.ext x1 R1, q, fun z G2 t H2 q2 rz R2 x2 => (show (∃ w, u = .str w ∧ ((∃ i, tabAt l w = some i ∧ Q (.int i) H2) ∨ (tabAt l w = none ∧ Q t H2))) from ?_)⟩⟩) fun iv s2 ⟨y, H2, I2, ry, q2⟩ =>
    Calls.spliced_cons (thn (hf.run pins s2 σ H2 _ I2 q2) fun fv s3 ⟨z, H3, I3, rz, q3⟩ => Calls.spliced_nil ?_))))
  · obtain ⟨w, rfl, q3⟩ := q3
    obtain ⟨t, rfl⟩ := ry
    have hmap3 : s3.heap.MapOf (strKind X.prog X.w) d _ := PySem.W.mapOf_K (prog := X.prog) (w := X.w) I3.kIn h1 h2.lit
    refine call_meetsIn PySem.F.slot_dict_get hmap3.typeIs PySem.F.entry_dict_get (PySem.F.args_dict_get_3 _ _ _) (meets_dict_get_default (strKind X.prog X.w) d (strKind_is X.prog X.w w t) T.low fv) ⟨_, hmap3, ?_⟩
    rcases T.ns w with ⟨e1, e2⟩ | ⟨i, t2, e1, e2⟩
    · rw [PySem.W.find_K h1 e2]
      rcases q3 with ⟨i, ei, _⟩ | ⟨_, q3⟩
      · rw [e1] at ei; cases ei
      · exact ⟨_, _, I3.tok _, rz, q3⟩
    · rw [PySem.W.find_K h1 e2]
      rcases q3 with ⟨j, ej, q3⟩ | ⟨ej, _⟩
      · rw [e1] at ej; cases ej
        exact ⟨.int i, _, I3.tok _, ⟨_, rfl⟩, q3⟩
      · rw [e1] at ej; cases ej
  · split at q2
    · rename_i w
      cases (ry.ext x2).at_str
      refine ⟨w, rfl, ?_⟩
      split at q2
      · rename_i i ei
        exact .inl ⟨i, ei, k _ _ _ _ q2 (.int _) R2 (x1.trans x2)⟩
      · rename_i ei
        exact .inr ⟨ei, k _ _ _ _ q2 rz R2 (x1.trans x2)⟩
    · exact q2.elim
end
end TK

namespace TK
open PySem PySem.Spec PyProof.Rows L2
open PySem.SeqAt
open PySem.AutoSeq1 (wpAny_loadPart')
open PySem.MeetsSeq PySem.MeetsSeq2 PySem.MeetsSeq3
section
variable {prog : Program} {w : World} {A : Around} {E : Value → Shared → Prop} {s : Shared}
theorem adjust_rev (n : Nat) : Builtin.Slice.sliceAdjust none none (-1) (n : Int) = ((n : Int) - 1, -1) := by
  unfold Builtin.Slice.sliceAdjust
  simp
theorem places_rev (n : Nat) : Builtin.Slice.slicePlaces ((n : Int) - 1) (-1) (-1) = n := by
  unfold Builtin.Slice.slicePlaces
  simp
  try omega
theorem sliceApplied_rev {sl : Addr} {vl vu vs : Value} {n : Nat} {Q : Int × Int × Nat → Shared → Prop} (hs : s.heap.IsSliceOf sl vl vu vs) (pl : IsPart vl none) (pu : IsPart vu none) (ps : IsPart vs (some (-1)))
    (h : Q ((n : Int) - 1, -1, n) s) : wpAny (model prog w) A (Builtin.Slice.sliceApplied (.ref sl) (pure (n : Int))) Q E s := by
  obtain ⟨os, hos, hcs, hds⟩ := id hs
  unfold Builtin.Slice.sliceApplied Builtin.Slice.sliceFields
  refine wpAny_bind (wpAny_bind (wpAny_field hos hds (x := vl) rfl (wpAny_bind (wpAny_field hos hds (x := vu) rfl (wpAny_bind (wpAny_field hos hds (x := vs) rfl (wpAny_pure ?_)))))))
  refine wpAny_bind (HT.slicePart_ ps ?_)
  show wpAny _ _ (if ((-1 : Int) == 0) = true then _ else _) _ _ s
  rw [if_neg (by decide)]
  refine wpAny_bind (HT.slicePart_ pl (wpAny_bind (HT.slicePart_ pu (wpAny_bind (wpAny_pure ?_)))))
  show wpAny _ _ (match Builtin.Slice.sliceAdjust none none (-1) (n : Int) with | (lo, hi) => pure (lo, (-1 : Int), Builtin.Slice.slicePlaces lo hi (-1))) _ _ s
  rw [adjust_rev n]
  show wpAny _ _ (pure ((n : Int) - 1, (-1 : Int), Builtin.Slice.slicePlaces ((n : Int) - 1) (-1) (-1))) _ _ s
  rw [places_rev]
  exact wpAny_pure h
theorem pick_rev (xs : Array Value) : ((List.range xs.size).filterMap fun (m : Nat) => xs[((xs.size : Int) - 1 + (m : Int) * (-1)).toNat]?).toArray = xs.toList.reverse.toArray := by
  have e : (List.range xs.size).filterMap (fun (m : Nat) => xs[((xs.size : Int) - 1 + (m : Int) * (-1)).toNat]?) = ((List.range xs.size).map fun k => xs.size - 1 - k).filterMap (xs[·]?) := by
    rw [List.filterMap_map]
    congr 1
    funext m
    show _ = xs[xs.size - 1 - m]?
    rw [show ((xs.size : Int) - 1 + (m : Int) * (-1)).toNat = xs.size - 1 - m by omega]
  rw [e, PySem.W.krv_range, List.filterMap_reverse, PySem.W.krv_all]
theorem getItem_tuple_rev {t sl : Addr} {items : Array Value} {vl vu vs : Value} {Q : Value → Shared → Prop} (ht : PyProof.Rows.IsTup s.heap t items) (hs : s.heap.IsSliceOf sl vl vu vs) (pl : IsPart vl none) (pu : IsPart vu none) (ps : IsPart vs (some (-1)))
    (h : Q (.ref s.heap.objs.size) { s with heap := s.heap.push { cls := .type "tuple", data := .seq items.toList.reverse.toArray } })
    (hsz : items.size ≤ sizeLine) : wpAny (model prog w) A (getItem (.ref t) (.ref sl)) Q E s := by
  have htake : sizeOk (.seq items.toList.reverse.toArray) := by
    show items.toList.reverse.toArray.size ≤ sizeLine
    rw [List.size_toArray, List.length_reverse, Array.length_toList]
    exact hsz
  obtain ⟨os, hos, hcs, hds⟩ := id hs
  have hTs : s.TypeIs (.ref sl) "slice" := ⟨os, hos, hcs⟩
  unfold getItem
  try with_reducible refine wpAny_holding ?_
  first | refine wpAny_bind (wpAny_pure ?_) | skip
  refine wpAny_bind (wpAny_sequenceKey ht.typeIs (by decide) ?_)
  refine wpAny_bind (wpAny_callSpecial?_slot (name := Str.ofString "__getitem__") ht.typeIs PyProof.Rows.slot_tuple_getitem
    (wpAny_call_entry PyProof.Rows.slot_tuple_getitem ht.typeIs PyProof.Rows.entry_tuple_getitem ?_ (PyProof.Rows.args_tuple_getitem _ _)))
  show wpAny _ _ (Builtin.Tuple.tupleItemsOf (.ref t) >>= _) _ _ s
  refine wpAny_bind (PyProof.Rows.tupleItemsOf_ ht ?_)
  refine wpAny_bind (wpAny_typeOf hTs ?_)
  rw [if_pos (by decide)]
  refine wpAny_bind (sliceApplied_rev hs pl pu ps ?_)
  have hno : ¬ ((((items.size : Int) - 1) == 0 && (-1 : Int) == 1 && items.size == items.size) = true) := by
    intro q
    rw [Bool.and_eq_true, Bool.and_eq_true] at q
    exact absurd q.1.2 (by decide)
  show wpAny _ _ (if (((items.size : Int) - 1) == 0 && (-1 : Int) == 1 && items.size == items.size) = true then _ else _) _ _ s
  rw [if_neg hno, pick_rev]
  first
    | exact wpAny_bind (m := Builtin.Tuple.tupleExact _) (wpAny_newObj_type (wpAny_pure ⟨_, rfl, wpAny_pure h⟩) htake)
    | exact wpAny_bind (m := Builtin.Tuple.tupleExact _) (wpAny_newObj_type (wpAny_bind (wpAny_pure (wpAny_pure ⟨_, rfl, wpAny_pure h⟩))) htake)
    | exact wpAny_bind (wpAny_bind (m := Builtin.Tuple.tupleExact _) (wpAny_newObj_type (wpAny_pure (wpAny_pure ⟨_, rfl, wpAny_pure h⟩)) htake))
    | exact wpAny_bind (wpAny_bind (m := Builtin.Tuple.tupleExact _) (wpAny_newObj_type (wpAny_pure ⟨_, rfl, wpAny_pure h⟩) htake))
end
section
variable {X : Cx} {K : PySem.W.Frag}
/-- e[::-1], e a list or a tuple -/
def tRevA (K : PySem.W.Frag) (te : TE) : TE := fun σ H Q => te σ H fun x H1 => (∃ a xs, x = .ref a ∧ SqL K H1 a xs ∧ ∀ p, H1 p = none → Q (.ref p) (upd H1 p (.lst xs.reverse))) ∨ ∃ a xs, x = .ref a ∧ SqT K H1 a xs ∧ ∀ p, H1 p = none → Q (.ref p) (upd H1 p (.tup xs.reverse))
theorem pe_revA {e : Expr} {te : TE} {k : Nat} {p1 p2 p3 pos : Pos} (he : PE X e te) : PE X (.Subscript e (.Slice none none (some (.UnaryOp .USub (.Constant (.int 1) k p1) p2)) p3) pos) (tRevA X.K te) := by
  refine ⟨fun pins s σ H Q I h => ?_⟩
  refine Subscript_ (thn (he.run pins s σ H _ I h) fun v s1 ⟨x, H1, I1, r1, q1⟩ => ?_)
  have hst : PO X (some (.UnaryOp .USub (.Constant (.int 1) k p1) p2)) (tPart (tUn (rU fun i => .int (-i)) (tC (.int 1)))) := po_some (pe_un un_neg pe_int)
  refine wpAny_Slice (thn (po_none.run pins s1 σ H1 (fun o H2 => o = none ∧ H2 = H1) I1 ⟨rfl, rfl⟩) fun vl s2 ⟨l, H2, I2, pl, el, e2⟩ => ?_)
  subst el e2
  refine thn (po_none.run pins s2 σ H2 (fun o H3 => o = none ∧ H3 = H2) I2 ⟨rfl, rfl⟩) fun vu s3 ⟨u, H3, I3, pu, eu, e3⟩ => ?_
  subst eu e3
  refine thn (hst.run pins s3 σ H3 (fun o H4 => o = some (-1) ∧ H4 = H3) I3 ⟨1, rfl, -1, rfl, rfl, rfl⟩) fun vs s4 ⟨o, H4, I4, ps, eo, e4⟩ => ?_
  subst eo e4
  have I5 : L2.Inv X pins σ H4 { s4 with heap := s4.heap.push { cls := .type "slice", data := .fields #[vl, vu, vs] } } := I4.kept (t' := s4.toks) fun b ob q => Heap.get?_push_of_some _ q
  rcases q1 with ⟨a, xs, ex, hx, q⟩ | ⟨a, xs, ex, hx, q⟩
  · subst ex
    cases r1
    obtain ⟨its, r, ht, hz⟩ := I5.list hx
    have hlen := r.length
    show wpAny (model X.prog X.w) X.A (subscriptTail e (.Slice none none (some (.UnaryOp .USub (.Constant (.int 1) k p1) p2)) p3) (.ref a) (.ref s4.heap.objs.size)) (EP X pins σ Q) X.xe { s4 with heap := s4.heap.push { cls := .type "slice", data := .fields #[vl, vu, vs] } }
    refine tail_any (ops := [.ref a, .ref s4.heap.objs.size]) ht.isList.typeIs (PySem.slot_list_getitem.lookup) ?_ (by with_unfolding_all rfl)
    refine wpAny_getItem_list_slice ht.isList (Heap.IsSliceOf.new _ vl vu vs) pl pu ps (by decide) ?_ (by rw [List.size_toArray]; omega)
    rw [PySem.W.krv_pick]
    refine ⟨.ref _, _, I5.laid (t' := s4.toks) (o := .lst xs.reverse) (fun b ob q => Heap.get?_push_of_some _ q) (Nat.le_refl _) ?_, rfl, q _ (I5.hok.fresh (Nat.le_refl _))⟩
    exact ⟨by rw [List.length_reverse]; exact hz, _, 0, r.reverse, Heap.get?_push_size _ rfl⟩
  · subst ex
    cases r1
    obtain ⟨its, r, ht, hz⟩ := I5.tuple hx
    have hlen := r.length
    show wpAny (model X.prog X.w) X.A (subscriptTail e (.Slice none none (some (.UnaryOp .USub (.Constant (.int 1) k p1) p2)) p3) (.ref a) (.ref s4.heap.objs.size)) (EP X pins σ Q) X.xe { s4 with heap := s4.heap.push { cls := .type "slice", data := .fields #[vl, vu, vs] } }
    refine tail_any (ops := [.ref a, .ref s4.heap.objs.size]) ht.typeIs (PyProof.Rows.slot_tuple_getitem.lookup) ?_ (by with_unfolding_all rfl)
    refine getItem_tuple_rev ht (Heap.IsSliceOf.new _ vl vu vs) pl pu ps ?_ (by rw [List.size_toArray]; omega)
    refine ⟨.ref _, _, I5.laid (t' := s4.toks) (o := .tup xs.reverse) (fun b ob q => Heap.get?_push_of_some _ q) (Nat.le_refl _) ?_, rfl, q _ (I5.hok.fresh (Nat.le_refl _))⟩
    exact ⟨by rw [List.length_reverse]; exact hz, _, r.reverse, IsTup.new _ _⟩
theorem RpAll.rev {H : Hp} {G : GH} {Z : ZS} : ∀ {vs : List V} {ds : List D}, RpAll K H G Z vs ds → RpAll K H G Z vs.reverse ds.reverse
  | _, _, .nil => .nil
  | _, _, .cons r t => by
    rw [List.reverse_cons, List.reverse_cons]
    exact (RpAll.rev t).append (.cons r .nil)
def dRev (c : Bool) (te : DE) : DE := fun Γ G Q => te Γ G fun x G1 => match vw G1 x with
  | .lst xs => newL c xs.reverse G1 Q
  | .tup xs => Q (.tup xs.reverse) G1
  | _ => False
theorem pd_rev (c : Bool) {e : Expr} {T : DE} {k : Nat} {p1 p2 p3 pos : Pos} (he : PD X e T) : PD X (.Subscript e (.Slice none none (some (.UnaryOp .USub (.Constant (.int 1) k p1) p2)) p3) pos) (dRev c T) :=
  pe_imp (pe_revA he) fun σ H Q ⟨Γ, G, Z, Q0, S, h, k⟩ => ⟨Γ, G, Z, _, S, h, fun d G1 v H1 q r R x => by
    split at q
    · rename_i xs e
      obtain ⟨b, us, rfl, hb, al⟩ := vw_lst R r e
      exact .inl ⟨b, us, rfl, .of hb, newL_ok R al.rev q (k.mono x)⟩
    · rename_i xs e
      obtain ⟨b, us, rfl, hb, al⟩ := vw_tup r e
      exact .inr ⟨b, us, rfl, .of hb, newT_ok R al.rev q (k.mono x)⟩
    · exact q.elim⟩
end
end TK

namespace TK
open PySem PySem.Spec PyProof.Rows L2
/-! ## dict(pairs), the keys tuples -/
def mergeT (kvs more : List (List Key × V)) : List (List Key × V) := more.foldl (fun acc kv => putK acc kv.1 kv.2) kvs
theorem length_mergeT : ∀ (more kvs : List (List Key × V)), (mergeT kvs more).length ≤ kvs.length + more.length
  | [], kvs => Nat.le_refl _
  | p :: r, kvs => by
    have h1 := length_mergeT r (putK kvs p.1 p.2)
    have h2 := length_putK kvs p.1 p.2
    show (mergeT (putK kvs p.1 p.2) r).length ≤ _
    rw [List.length_cons]
    omega
theorem KT.merge {H : Hp} : ∀ {more : List (List Key × V)} {rs : List (List Key × Addr × Value)} {kvs : List (List Key × V)} {xs : List (List Key × Addr × Value)}, KT H more rs → KT H kvs xs → KT H (mergeT kvs more) (storedAllH xs rs)
  | _, _, _, _, .nil, h => h
  | _, _, kvs, xs, .cons (a := p) (b := q) h t, r => by
    show KT H (mergeT (putK kvs p.1 p.2) _) (storedAllH (storedH xs q.1 q.2.1 q.2.2) _)
    rw [← h.1]
    exact KT.merge t (r.put p.1 h.2.1 h.2.2)
section
variable {X : Cx}
def PT (K : PySem.W.Frag) (H : Hp) (p : Addr) (kv : List Key × V) : Prop := ∃ b, SqT K H p [.ref b, kv.2] ∧ H b = some (.tup (kv.1.map kV))
def rDictPT (K : PySem.W.Frag) : List V → Hp → VK → Prop := fun xs H Q => ∃ (a : Addr) (ps : List Addr) (kvs : List (List Key × V)), xs = [.ref a] ∧ SqL K H a (ps.map V.ref) ∧ Paired (PT K H) ps kvs ∧ ∀ p, H p = none → Q (.ref p) (upd H p (.dT (mergeT [] kvs)))
theorem pairsT_of {pins : List (Addr × Obj)} {σ : L2.St} {H : Hp} {s : Shared} (I : L2.Inv X pins σ H s) : ∀ {ps : List Addr} {kvs : List (List Key × V)}, Paired (PT X.K H) ps kvs →
    ∃ prs : List (List Key × Addr × Value), KT H kvs prs ∧ prs.length = ps.length ∧ ∀ (j : Nat) (q : List Key × Addr × Value), prs[j]? = some q → ∃ p : Addr, ps[j]? = some p ∧ s.heap.IsTuple p #[.ref q.2.1, q.2.2]
  | _, _, .nil => ⟨[], .nil, rfl, fun j q e => by simp at e⟩
  | _, _, .cons (a := p) (b := kv) h t => by
    obtain ⟨prs, r, hl, hp⟩ := pairsT_of I t
    obtain ⟨b, h1, h2⟩ := h
    obtain ⟨its, rv, ht, _⟩ := I.tuple h1
    obtain ⟨u, y, ei, ru, ry⟩ := vals2 rv
    subst ei
    cases ru
    refine ⟨(kv.1, b, y) :: prs, .cons ⟨rfl, h2, ry⟩ r, by simp [hl], fun j q e => ?_⟩
    cases j with
    | zero =>
      simp at e
      subst e
      exact ⟨p, by simp, ht⟩
    | succ j =>
      obtain ⟨p', e1, e2⟩ := hp j q (by simpa using e)
      exact ⟨p', by simpa using e1, e2⟩
theorem cr_dictPT (hc : X.calm = true) (hu : X.A.units + 2 < cLine) : CallR X (.type "dict") (rDictPT X.K) := by
  intro pins s σ H xs us Q I r q
  obtain ⟨a, ps, kvs, ex, hq, hp, q⟩ := q
  subst ex
  obtain ⟨u, eu, rx⟩ := vals1 r
  subst eu
  cases rx
  obtain ⟨its, rv, pl, hz⟩ := I.list hq
  have ei := refs_at rv
  subst ei
  rw [List.length_map] at hz
  obtain ⟨prs, rel, hl, hpr⟩ := pairsT_of I hp
  obtain ⟨o, n, ho, hcl, hd, hdat⟩ := pl
  have P := PairArg.list (prog := X.prog) (w := X.w) a (ps.map Value.ref).toArray (fun j => ps.getD j 0) (prs.map fun q => (Value.ref q.2.1, q.2.2))
  have keyat : ∀ {l : List (List Key × V)} {m : List (List Key × Addr × Value)}, KT H l m → ∀ x ∈ m, H x.2.1 = some (.tup (x.1.map kV)) := by
    intro l m q
    induction q with
    | nil => intro x hx; exact nomatch hx
    | @cons p q ps qs hq t ih =>
      intro x hx
      rcases List.mem_cons.mp hx with e | hx
      · subst e; rw [← hq.1]; exact hq.2.1
      · exact ih x hx
  refine call_dict_pairsH (knd := tupleKind (mixKind X.prog X.w)) (ps := prs) P (I.ok.hd hc) (tupleKind_room_in1 (A := X.A.in1) (show X.A.units + 1 + 1 < cLine by omega)) ?_ ?_ ?_ (by rw [List.length_map]; omega) fun h' tk hd' k => ?_
  · refine ⟨⟨o, n, ho, hcl, hd, hdat⟩, by simp [hl], fun j key v e => ?_⟩
    rw [List.getElem?_map, Option.map_eq_some_iff] at e
    obtain ⟨q', e1, e2⟩ := e
    obtain ⟨p, e3, e4⟩ := hpr j q' e1
    cases e2
    have e5 : ps.getD j 0 = p := by rw [List.getD_eq_getElem?_getD, e3]; rfl
    simp only [e5]
    exact ⟨by simp [e3], .inl e4⟩
  · refine ⟨by rw [List.length_map], fun i key v e => ?_⟩
    have e : (prs.map fun q => (Value.ref q.2.1, q.2.2))[i]? = some (key, v) := e
    rw [List.getElem?_map, Option.map_eq_some_iff] at e
    obtain ⟨q', e1, e2⟩ := e
    cases e2
    exact ⟨q'.1, q'.2.1, e1, rfl⟩
  · intro h' hk x hx
    have hx1 := keyat rel x hx
    obtain ⟨ob, items, m, g1, g2, g3, g4⟩ := key_of I.hok hx1
    exact ⟨ob, items, m, hk _ _ (Nat.ne_of_lt (Heap.lt_size g1)) (by simp) g1, g2, g3, g4⟩
  · have hm : (s.heap.objs.size == sysModules) = false := beq_eq_false_iff_ne.mpr (Nat.ne_of_gt I.big)
    have hrl : kvs.length = prs.length := Paired.length rel
    have hlen : (mergeT [] kvs).length ≤ sizeLine := by
      refine Nat.le_trans (length_mergeT kvs []) ?_
      rw [List.length_nil, Nat.zero_add, hrl, hl]
      exact hz
    have hfr := I.hok.fresh (Nat.le_refl s.heap.objs.size)
    obtain ⟨q0, es, ep, g1, g2, g3, g4, _, g5⟩ := hd'
    refine ⟨.ref s.heap.objs.size, upd H s.heap.objs.size (.dT (mergeT [] kvs)), I.laid (t' := tk) (fun b o e => k b o (by simp) e) (Nat.le_refl _) ?_, rfl, q _ hfr⟩
    refine (show ObjOk X.prog X.w _ _ _ (.dT (mergeT [] kvs)) from ⟨hlen, hm, _, (KT.merge rel .nil).keeps fun c ys ec => ?_, q0, es, ep, g1, g2, g3, g4, g5⟩)
    rw [upd_ne (ne_of_none ec hfr)]
    exact ec
variable {K : PySem.W.Frag}
def mergeDT (kvs more : List (List Key × D)) : List (List Key × D) := more.foldl (fun acc kv => putD acc kv.1 kv.2) kvs
theorem PairR.mergeT {H : Hp} {G : GH} {Z : ZS} : ∀ {more : List (List Key × V)} {mored : List (List Key × D)} {kvs : List (List Key × V)} {kds : List (List Key × D)}, PairR K H G Z more mored → PairR K H G Z kvs kds → PairR K H G Z (TK.mergeT kvs more) (mergeDT kds mored)
  | [], [], _, _, _, h => h
  | p :: _, q :: _, kvs, kds, ⟨e, r, t⟩, h => by
    show PairR K H G Z (TK.mergeT (putK kvs p.1 p.2) _) (mergeDT (putD kds q.1 q.2) _)
    rw [e]
    exact PairR.mergeT t (h.put r)
  | [], _ :: _, _, _, h, _ => h.elim
  | _ :: _, [], _, _, h, _ => h.elim
/-- a pair of a tuple of keys and a value -/
def pairOf : D → Option (List Key × D)
  | .tup [.tup ks, v] => (match keysOf ks with | some k => some (k, v) | none => none)
  | _ => none
def pairsOf : List D → Option (List (List Key × D))
  | [] => some []
  | d :: r => match pairOf d, pairsOf r with | some p, some ps => some (p :: ps) | _, _ => none
theorem pairOf_rp {H : Hp} {G : GH} {Z : ZS} {v : V} {d : D} {p : List Key × D} (r : Rp K H G Z v d) (e : pairOf d = some p) : ∃ a u, v = .ref a ∧ PT K H a (p.1, u) ∧ Rp K H G Z u p.2 := by
  unfold pairOf at e
  split at e
  · split at e
    · rename_i k ek
      cases e
      cases r with
      | tup g z hh al =>
        obtain ⟨v1, v2, rfl, r1, r2⟩ := al.two
        cases r1 with
        | tup g1 z1 h1 al1 =>
          rw [keysOf_rp al1 ek] at h1
          exact ⟨_, v2, rfl, ⟨_, .of hh, h1⟩, r2⟩
    · cases e
  · cases e
theorem pairsOf_rp {H : Hp} {G : GH} {Z : ZS} : ∀ {vs : List V} {ds : List D} {ps : List (List Key × D)}, RpAll K H G Z vs ds → pairsOf ds = some ps → ∃ as kvs, vs = as.map V.ref ∧ Paired (PT K H) as kvs ∧ PairR K H G Z kvs ps
  | _, [], ps, .nil, e => by rw [pairsOf] at e; cases e; exact ⟨[], [], rfl, .nil, trivial⟩
  | _, d :: r, ps, .cons h t, e => by
    rw [pairsOf] at e
    split at e
    · rename_i p ps' e1 e2
      cases e
      obtain ⟨a, u, rfl, h1, h2⟩ := pairOf_rp h e1
      obtain ⟨as, kvs, rfl, h3, h4⟩ := pairsOf_rp t e2
      exact ⟨a :: as, (p.1, u) :: kvs, rfl, .cons h1 h3, ⟨rfl, h2, h4⟩⟩
    · cases e
def dDictPT : DC := fun ds G Q => match ds with
  | [d] => match vw G d with
    | .lst xs => (match pairsOf xs with | some ps => ∀ p, G p = none → Q (.ref p) (gup G p (.dT (mergeDT [] ps))) | none => False)
    | _ => False
  | _ => False
theorem cd_dictPT (K : PySem.W.Frag) : CD K (rDictPT K) dDictPT := fun {H G Z vs ds Q0 Q} R al h k => by
  unfold dDictPT at h
  split at h
  · obtain ⟨v, rfl, r⟩ := al.one
    split at h
    · rename_i e
      split at h
      · rename_i ps ep
        obtain ⟨a, us, rfl, ha, al⟩ := vw_lst R r e
        obtain ⟨as, kvs, rfl, h3, h4⟩ := pairsOf_rp al ep
        refine ⟨a, as, kvs, rfl, .of ha, h3, fun p hp => ?_⟩
        have e0 := R.noneAt hp
        have x : Ext H G (upd H p (.dT (TK.mergeT [] kvs))) (gup G p (.dT (mergeDT [] ps))) := ext_newC R hp
        exact k _ _ _ _ (h p e0.1) (.ref p) (R.newC hp (PairR.map (f := Rp.ext x) (PairR.mergeT h4 (show PairR K H G Z [] [] from trivial)))) x
      · exact h.elim
    · exact h.elim
  · exact h.elim
end
end TK

namespace TK
open PySem PySem.Spec L2 PyProof.Rows
variable {K : PySem.W.Frag}
section
variable {X : Cx} {a b : Expr} {Ta Tb : DE} {pos : Pos}
/-- a tuple once -/
theorem tuple_mul1 (l : Addr) (items : Array Value) (n : Nat) (dd : Option Addr) (sl : Array (Option Value)) (u : Tok) :
    Meets (Builtin.«tuple.__mul__» ⟨[.ref l, .int 1 u], []⟩) (fun _ R s => s.heap.get? l = some { cls := .type "tuple", dict := dd, data := .seq items n, slots := sl } ∧ R (.ok (.ret (Value.ref l))) s) :=
  .of_wp fun prog w A R s h => by
    obtain ⟨hp, g, d, tk, os⟩ := s
    obtain ⟨hl, h⟩ := h
    have f1 := AutoSeq1.idx_int
    wp_walk using wpAny_loadPart' hl
    exact ⟨_, rfl, h⟩
def rRep1 (K : PySem.W.Frag) : R2 := fun x y H Q => ∃ l xs, x = .ref l ∧ y = .int 1 ∧ SqT K H l xs ∧ Q (.ref l) H
theorem op_rep1 : OpR X (binaryOp .Mult) (rRep1 X.K) := by
  intro pins s σ H x y v u Q I rx ry h
  obtain ⟨l, xs, rfl, rfl, hT, q⟩ := h
  cases rx
  obtain ⟨t, rfl⟩ := ry
  obtain ⟨its, r, ⟨⟨cls, dd, data, sl⟩, ho, hc, n, hd⟩, hs⟩ := I.tuple hT
  simp only at hc hd
  subst hc hd
  refine wpAny_binaryOp_repeat_ref (T := "tuple") (U := "int") (by decide) ⟨_, ho, rfl⟩ (fun s' => typeIs_int s' 1 t) noFill_tuple_mul F.fills_int_mul F.slot_int_rmul repeat_tuple F.slot_int_index.lookup
    (call_meets F.slot_int_rmul (typeIs_int s 1 t) F.entry_int_rmul (F.args_int_rmul_2 _ _) (int_rmul_tuple 1 t l its.toArray n dd sl)
      ⟨ho, rfl, ⟨_, ho, rfl⟩, call_meets F.slot_tuple_mul ⟨_, ho, rfl⟩ F.entry_tuple_mul (F.args_tuple_mul_2 _ _) (tuple_mul1 l its.toArray n dd sl t) ⟨ho, ?_⟩⟩)
  exact ⟨.ref l, H, I, rfl, q⟩
/-- a tuple, many times -/
def dMulT : DR2 := fun x y G Q => match x, y with
  | .tup xs, .int k => xs ≠ [] ∧ 1 ≤ k ∧ k ≤ 1000 ∧ xs.length ≤ 1000 ∧ Q (.tup (List.replicate k.toNat xs).flatten) G
  | _, _ => False
theorem r2_mulT (K : PySem.W.Frag) : R2D K (fun x y H Q => rRepT K x y H Q ∨ rRep1 K x y H Q) dMulT := fun {H G Z x y a b Q0 Q} R rx ry h k => by
  unfold dMulT at h
  split at h
  · rename_i xs n
    obtain ⟨h1, h2, h3, h4, h5⟩ := h
    cases ry.at_int
    cases rx with
    | tup g z hh al =>
      rename_i us
      have hl := al.length
      by_cases e1 : n = 1
      · subst e1
        have e2 : (List.replicate (1 : Int).toNat xs).flatten = xs := by show (List.replicate 1 xs).flatten = xs; simp
        rw [e2] at h5
        exact .inr ⟨_, us, rfl, rfl, .of hh, k.here R h5 (.tup g z hh al)⟩
      · refine .inl ⟨_, n, us, rfl, rfl, .of hh, fun e => h1 ?_, by omega, h3, by rw [hl]; exact h4, newT_ok R (al.rep _) h5 k⟩
        subst e
        exact List.eq_nil_of_length_eq_zero hl.symm
  · exact h.elim
theorem pd_mulT (ha : PD X a Ta) (hb : PD X b Tb) : PD X (.BinOp a .Mult b pos) (dOp dMulT Ta Tb) := pd_op (op_repT.or op_rep1) (r2_mulT X.K) ha hb
/-- x in (a, b, ..): plain values -/
def flatD : D → Bool
  | .non => true
  | .bl _ => true
  | .int _ => true
  | .str _ => true
  | _ => false
end
end TK

namespace TK
open PySem PySem.Spec L2
variable {K : PySem.W.Frag}
/-! ## instances -/
def putFD (f : Str) (v : D) : List (Str × D) → List (Str × D)
  | [] => [(f, v)]
  | (g, x) :: r => if g = f then (g, v) :: r else (g, x) :: putFD f v r
section
variable {H : Hp} {G : GH} {Z : ZS}
theorem PairR.putF {f : Str} {v : V} {d : D} (rv : Rp K H G Z v d) : ∀ {fs : List (Str × V)} {gs : List (Str × D)}, PairR K H G Z fs gs → PairR K H G Z (L2.putF f v fs) (putFD f d gs)
  | [], [], _ => ⟨rfl, rv, trivial⟩
  | (a, x) :: r, (b, y) :: s, ⟨e, r1, t⟩ => by
    cases (show a = b from e)
    unfold L2.putF putFD
    by_cases h : a = f
    · rw [if_pos h, if_pos h]; exact ⟨rfl, rv, t⟩
    · rw [if_neg h, if_neg h]; exact ⟨rfl, r1, PairR.putF rv t⟩
  | [], _ :: _, h => h.elim
  | _ :: _, [], h => h.elim
theorem PairR.lookup {f : Str} : ∀ {fs : List (Str × V)} {gs : List (Str × D)}, PairR K H G Z fs gs → (∀ d, gs.lookup f = some d → ∃ v, fs.lookup f = some v ∧ Rp K H G Z v d) ∧ (gs.lookup f = none → fs.lookup f = none)
  | [], [], _ => ⟨fun d e => (nomatch e), fun _ => rfl⟩
  | (a, x) :: r, (b, y) :: s, ⟨e, r1, t⟩ => by
    cases (show a = b from e)
    have ih := PairR.lookup (f := f) t
    rw [List.lookup_cons, List.lookup_cons]
    cases f == a with
    | true => exact ⟨fun d e => by cases e; exact ⟨x, rfl, r1⟩, fun e => by cases e⟩
    | false => exact ih
  | [], _ :: _, h => h.elim
  | _ :: _, [], h => h.elim
end
/-- the class of that name -/
structure ClsN (K : PySem.W.Frag) (mg : Str → Option Value) (n : Str) (C : Addr) : Prop where
  ns : PySem.W.nsIn K mainGlobals n = some (some (.ref C))
  mg : mg n = some (.ref C)
  cl : Cls K C
theorem cell_ins {H : Hp} {G : GH} {Z : ZS} {c C : Addr} {n : Str} {gs : List (Str × D)} (R : HRep K H G Z) (hn : PySem.W.nsIn K mainGlobals n = some (some (.ref C))) (e : G c = some (.ins n gs)) : ∃ dx fs, H c = some (.ins C dx fs) ∧ PairR K H G Z fs gs := by
  obtain ⟨ho, h1, h2⟩ := R.cell c _ e
  cases ho <;> first | exact h2.elim | skip
  obtain ⟨e1, h2⟩ := h2
  rw [hn] at e1
  cases e1
  exact ⟨_, _, h1, h2⟩
/-- the fields of the instance at x -/
def insAt (n : Str) (x : D) (G : GH) (Q : Addr → List (Str × D) → Prop) : Prop := match x with
  | .ref c => (match G c with | some (.ins n' fs) => n' = n ∧ Q c fs | _ => False)
  | _ => False
theorem insAt_ok {n : Str} {x : D} {G : GH} {Q : Addr → List (Str × D) → Prop} (h : insAt n x G Q) : ∃ c fs, x = .ref c ∧ G c = some (.ins n fs) ∧ Q c fs := by
  unfold insAt at h
  split at h
  · split at h
    · rename_i e
      obtain ⟨rfl, q⟩ := h
      exact ⟨_, _, rfl, e, q⟩
    · exact h.elim
  · exact h.elim
theorem insAt_ref {n : Str} {c : Addr} {G : GH} {fs : List (Str × D)} {Q : Addr → List (Str × D) → Prop} (e : G c = some (.ins n fs)) : insAt n (.ref c) G Q = Q c fs := by
  unfold insAt
  simp only [e, true_and]
section
variable {X : Cx} {o e value : Expr} {es : List Expr} {To Te Tv : DE} {Ta : DA} {n f m x : Str} {C g : Addr} {k : Nat} {fd : FuncData} {ps : List Str} {S : SpD} {p pos pos' apos : Pos}
def dFld (n f : Str) : D → GH → DK → Prop := fun x G Q => insAt n x G fun _ fs => match fs.lookup f with | some d => Q d G | none => False
theorem pd_fld (c : ClsN X.K X.mg n C) (na : NoAttr X.K C f) (he : PD X e Te) (hb : attributeBase e f X.env (eval e X.env) = eval e X.env := by rfl) : PD X (.Attribute e f pos) (dUn (dFld n f) Te) :=
  pe_imp (pe_fld he hb) fun σ H Q ⟨Γ, G, Z, Q0, S, h, k⟩ => ⟨Γ, G, Z, _, S, h, fun d G1 v H1 q r R x => by
    obtain ⟨a, fs, rfl, e, q⟩ := insAt_ok q
    cases r
    split at q
    · rename_i d2 hl
      obtain ⟨dx, fs', h1, h2⟩ := cell_ins R c.ns e
      obtain ⟨v, h3, h4⟩ := (PairR.lookup h2).1 d2 hl
      exact ⟨a, C, dx, fs', v, rfl, h1, c.cl, na, h3, k _ _ _ _ q h4 R x⟩
    · exact q.elim⟩
def dSetFld (n f : Str) (to tv : DE) : DS := fun D0 Γ G => tv Γ G fun v G1 => to Γ G1 fun o G2 => insAt n o G2 fun c fs => fs.length < 1000 ∧ D0.nx Γ (gup G2 c (.ins n (putFD f v fs)))
theorem PairR.lenF {H : Hp} {G : GH} {Z : ZS} : ∀ {fs : List (Str × V)} {gs : List (Str × D)}, PairR K H G Z fs gs → fs.length = gs.length
  | [], [], _ => rfl
  | _ :: _, _ :: _, ⟨_, _, t⟩ => by rw [List.length_cons, List.length_cons, PairR.lenF t]
  | [], _ :: _, h => h.elim
  | _ :: _, [], h => h.elim
theorem pds_fld (c : ClsN X.K X.mg n C) (na : NoAttr X.K C f) (ho : PD X o To) (hv : PD X value Tv) (hs : swapsWith value (some (.Attribute o f pos')) pos.line X.env = pure false := by rfl) : PDS X (.Assign [.Attribute o f pos'] value pos) (dSetFld n f To Tv) :=
  ps_imp (ps_fld ho hv hs) fun D σ H ⟨Γ, G, Z, D0, S, h, k⟩ => ⟨Γ, G, Z, _, S, h, fun v G1 u1 H1 q1 r1 R1 x1 => ⟨Γ, G1, Z, _, S.ext x1 R1, q1, fun o G2 u2 H2 q2 r2 R2 x2 => by
    obtain ⟨a, fs, rfl, e, hl, q⟩ := insAt_ok q2
    cases r2
    obtain ⟨dx, fs', h1, h2⟩ := cell_ins R2 c.ns e
    refine ⟨a, C, dx, fs', rfl, h1, c.cl, na, by rw [PairR.lenF h2]; exact hl, ?_⟩
    have hp := PairR.putF (f := f) (r1.ext x2) h2
    have x : Ext H2 G2 (upd H2 a (.ins C dx (L2.putF f u1 fs'))) (gup G2 a (.ins n (putFD f v fs))) := ext_put e
    exact k.nx _ _ _ _ q (((S.ext x1 R1).ext x2 R2).ext x (R2.put e ⟨c.ns, PairR.map (f := Rp.ext x) hp⟩)) (x1.trans (x2.trans x))⟩⟩
def dMeth (n m : Str) (S : SpD) (to : DE) (ta : DA) : DE := fun Γ G Q => to Γ G fun x G1 => insAt n x G1 fun _ fs => fs.lookup m = none ∧ ta Γ G1 fun ds G2 => S (x :: ds) G2 Q XD0
theorem pd_meth {pl : Sem Bool} (c : ClsN X.K X.mg n C) (hm : Meth X.K C m g) (F : FnOk X.prog X.w X.K X.mg X.base CX0 k g fd ps (liftF X.K S)) (hr : Room k X.A) (hb : Binds X.K fd ps []) (ho : PD X o To) (ha : PDA X (e :: es) Ta)
    (hst : starEach (e :: es) X.env = (false, eval e X.env) :: starEach es X.env := by rfl) (hpl : (backTo pos (starEach es X.env)).any (·.1) = false := by rfl)
    (ht : eval (.Call (.Attribute o m apos) (e :: es) [] pos) X.env = (do
      let ov ← eval o X.env
      standAt apos.atName
      let (f, first) ← holding [ov] (getMethod ov m pl)
      callWith pos f first (backTo pos (starEach (e :: es) X.env)) (backToKw pos (keywordEach [] X.env))) := by rfl) : PD X (.Call (.Attribute o m apos) (e :: es) [] pos) (dMeth n m S To Ta) :=
  pe_imp (pe_meth ho c.cl hm F hr hb (dvs := []) .nil pass0 ha hst hpl ht) fun σ H Q ⟨Γ, G, Z, Q0, Sr, h, k⟩ => ⟨Γ, G, Z, _, Sr, h, fun d G1 v H1 q r R x => by
    obtain ⟨a, fs, rfl, e, hl, q⟩ := insAt_ok q
    cases r
    obtain ⟨dx, fs', h1, h2⟩ := cell_ins R c.ns e
    exact ⟨a, dx, fs', rfl, h1, (PairR.lookup h2).2 hl, Γ, G1, Z, _, Sr.ext x R, q, fun ds G2 vs H2 q2 r2 R2 x2 => ⟨_, G2, Z, Q0, XD0, by rw [List.append_nil]; exact .cons (.ref a) r2, R2, q2, k.mono (x.trans x2), fun _ _ _ _ _ _ z => z.elim⟩⟩⟩
theorem pd_meth0 {pl : Sem Bool} (c : ClsN X.K X.mg n C) (hm : Meth X.K C m g) (F : FnOk X.prog X.w X.K X.mg X.base CX0 k g fd ps (liftF X.K S)) (hr : Room k X.A) (hb : Binds X.K fd ps []) (ho : PD X o To)
    (ht : eval (.Call (.Attribute o m apos) [] [] pos) X.env = (do
      let ov ← eval o X.env
      standAt apos.atName
      let (f, first) ← holding [ov] (getMethod ov m pl)
      callWith pos f first (backTo pos (starEach [] X.env)) (backToKw pos (keywordEach [] X.env))) := by rfl) : PD X (.Call (.Attribute o m apos) [] [] pos) (dMeth n m S To dNil) :=
  pe_imp (pe_meth0 ho c.cl hm F hr hb (dvs := []) .nil pass0 ht) fun σ H Q ⟨Γ, G, Z, Q0, Sr, h, k⟩ => ⟨Γ, G, Z, _, Sr, h, fun d G1 v H1 q r R x => by
    obtain ⟨a, fs, rfl, e, hl, q⟩ := insAt_ok q
    cases r
    obtain ⟨dx, fs', h1, h2⟩ := cell_ins R c.ns e
    exact ⟨a, dx, fs', rfl, h1, (PairR.lookup h2).2 hl, [.ref a], G1, Z, Q0, XD0, .cons (.ref a) .nil, R, q, k.mono x, fun _ _ _ _ _ _ z => z.elim⟩⟩
def dMake (n : Str) (S : SpD) (ta : DA) : DE := fun Γ G Q => ta Γ G fun ds G1 => ∀ p, G1 p = none → S (.ref p :: ds) (gup G1 p (.ins n [])) (fun d G2 => d = .non ∧ Q (.ref p) G2) XD0
theorem make_lift {sp : Sp} (c : ClsN X.K X.mg n C) {σ : St} {H : Hp} {Q : VK} (h : liftE X.K (dMake n S Ta) σ H Q) : tMake C (liftF X.K S) [] (fun _ _ _ => False) (liftA X.K Ta) σ H Q := by
  obtain ⟨Γ, G, Z, Q0, Sr, h, k⟩ := h
  refine ⟨Γ, G, Z, _, Sr, h, fun ds G1 vs H1 q r R x => fun px dx h1 h2 ne => ?_⟩
  have z1 := R.noneAt h1
  have z2 := R.noneAt h2
  have R2 : HRep X.K (upd H1 dx (.own px)) G1 Z := R.new h2
  have x2 : Ext H1 G1 (upd H1 dx (.own px)) G1 := ext_new R h2
  have h1' : upd H1 dx (.own px) px = none := by rw [upd_ne (Ne.symm ne)]; exact h1
  have R3 : HRep X.K (upd (upd H1 dx (.own px)) px (.ins C dx [])) (gup G1 px (.ins n [])) Z := R2.newC h1' ⟨c.ns, trivial⟩
  have x3 : Ext (upd H1 dx (.own px)) G1 (upd (upd H1 dx (.own px)) px (.ins C dx [])) (gup G1 px (.ins n [])) := ext_newC R2 h1'
  refine ⟨.ref px :: ds, gup G1 px (.ins n []), Z, _, XD0, by rw [List.append_nil]; exact .cons (.ref px) ((r.ext x2).ext x3), R3, q px z1.1, fun d G' v H' ⟨e1, q'⟩ rv R' x' => ?_, fun _ _ _ _ _ _ z => z.elim⟩
  subst e1
  exact ⟨rv.at_non, k _ _ _ _ q' (.ref px) R' (x.trans (x2.trans (x3.trans x')))⟩
theorem pd_make (c : ClsN X.K X.mg n C) (M : Mk X.K C g) (F : FnOk X.prog X.w X.K X.mg X.base CX0 k g fd ps (liftF X.K S)) (hr : Room (k + 1) X.A) (hg : Gl X n) (hb : Binds X.K fd ps [])
    (ha : PDA X (e :: es) Ta) (hdb : (n == ("__debug__" : Str)) = false := by decide) (he : starEach (e :: es) X.env = (false, eval e X.env) :: starEach es X.env := by rfl) (hpl : (backTo pos (starEach es X.env)).any (·.1) = false := by rfl) :
    PD X (.Call (.Name n p) (e :: es) [] pos) (dMake n S Ta) :=
  pe_imp (pe_make M F hr hg c.mg hb (dvs := []) .nil pass0 ha hdb he hpl) fun _ _ _ h => make_lift (sp := liftF X.K S) c h
end
end TK

namespace TK
open PySem PySem.Spec L2
variable {K : PySem.W.Frag}
section
variable {X : Cx} {a b : Expr} {Ta Tb : DE} {pos : Pos}
/-! ## in, a written tuple of plain values -/
def fv : D → V
  | .non => .non
  | .bl b => .bl b
  | .int i => .int i
  | .str x => .str x
  | _ => .non
theorem fv_rp {H : Hp} {G : GH} {Z : ZS} {v : V} {d : D} (h : flatD d = true) (r : Rp K H G Z v d) : v = fv d := by
  cases r <;> first | rfl | (simp [flatD] at h)
theorem fv_rps {H : Hp} {G : GH} {Z : ZS} : ∀ {vs : List V} {ds : List D}, ds.all flatD = true → RpAll K H G Z vs ds → vs = ds.map fv
  | _, _, _, .nil => rfl
  | _, _, h, .cons r t => by
    rw [List.all_cons, Bool.and_eq_true] at h
    rw [List.map_cons, fv_rp h.1 r, fv_rps h.2 t]
theorem flat_fv {d : D} (h : flatD d = true) : flatV (fv d) = true := by
  cases d <;> first | rfl | (simp [flatD] at h)
def dInT (n : Bool) : DR2 := fun x y G Q => match y with
  | .tup ds => flatD x = true ∧ ds.all flatD = true ∧ Q (.bl (n != inV (fv x) (ds.map fv))) G
  | _ => False
theorem r2_inT (K : PySem.W.Frag) (n : Bool) : R2D K (rIn K n) (dInT n) := fun {H G Z x y a b Q0 Q} R rx ry h k => by
  unfold dInT at h
  split at h
  · rename_i ds
    obtain ⟨h1, h2, h3⟩ := h
    cases ry with
    | tup g z hh al =>
      rename_i p vs
      have e1 := fv_rp h1 rx
      have e2 := fv_rps h2 al
      subst e1 e2
      refine ⟨p, _, rfl, .inr (.of hh), flat_fv h1, ?_, k.here R h3 ?_⟩
      · rw [List.all_map]
        exact List.all_eq_true.mpr fun d hd => flat_fv (List.all_eq_true.mp h2 d hd)
      · cases n
        · rw [Bool.false_bne]; exact .bl _
        · rw [Bool.true_bne]; exact .bl _
  · exact h.elim
theorem pd_inT (ha : PD X a Ta) (hb : PD X b Tb) (hm : behindInMarks .In b = false := by rfl) : PD X (.Compare a [.In] [b] pos) (dOp (dInT false) Ta Tb) := pd_cmp op_in_seq (r2_inT X.K false) ha hb hm
theorem pd_notinT (ha : PD X a Ta) (hb : PD X b Tb) (hm : behindInMarks .NotIn b = false := by rfl) : PD X (.Compare a [.NotIn] [b] pos) (dOp (dInT true) Ta Tb) := pd_cmp op_notIn_seq (r2_inT X.K true) ha hb hm
theorem pdt_inT (ha : PD X a Ta) (hb : PD X b Tb) (hm : behindInMarks .In b = false := by rfl) : PDT X (.Compare a [.In] [b] pos) (dTest (dOp (dInT false) Ta Tb)) := pdt_cmp op_in_seq (r2_inT X.K false) ha hb hm
theorem pdt_notinT (ha : PD X a Ta) (hb : PD X b Tb) (hm : behindInMarks .NotIn b = false := by rfl) : PDT X (.Compare a [.NotIn] [b] pos) (dTest (dOp (dInT true) Ta Tb)) := pdt_cmp op_notIn_seq (r2_inT X.K true) ha hb hm
/-! ## never reached -/
def dNo : DE := fun _ _ _ => False
theorem pd_no {e : Expr} : PD X e dNo := ⟨fun _ _ _ _ _ _ h => by obtain ⟨_, _, _, _, _, h, _⟩ := h; exact h.elim⟩
end
end TK

namespace TK
open PySem PySem.Spec PyProof.Rows L2
variable {K : PySem.W.Frag}
/-! ## d.update(e), two dicts of words and numbers -/
section
variable {X : Cx}
def rDUpd : V → List V → Hp → VK → Prop := fun x vs H Q => ∃ a b kvs more, x = .ref a ∧ vs = [.ref b] ∧ H a = some (.dK kvs) ∧ H b = some (.dK more) ∧ a ≠ b ∧ kvs.length + more.length ≤ sizeLine ∧ Q .non (upd H a (.dK (mergeK kvs more)))
theorem mt_dupd : MtR X "dict.update" rDUpd := by
  intro pins s σ H x vs v us Q I rx rv h
  obtain ⟨a, b, kvs, more, rfl, rfl, e, e2, ne, hz, q⟩ := h
  cases rx
  obtain ⟨u, rfl, ru⟩ := rv.one
  cases ru
  obtain ⟨z, hd, vs, rel, dd⟩ := dk_of I.hok e
  obtain ⟨z2, hd2, vs2, rel2, dd2⟩ := dk_of I.hok e2
  refine call_meetsIn PySem.F.slot_dict_update dd.typeIs PySem.F.entry_dict_update (PySem.F.args_dict_update_2 _ _) (meets_dict_update (mixKind X.prog X.w) a b ne hd2) ⟨vs, vs2, dd, dd2, by rw [← rel.length, ← rel2.length]; exact hz, fun h' dd' _ hs => ?_⟩
  have he : ∃ q, h'.get? a = some q := let ⟨q, _, _, hq, _⟩ := dd'; ⟨q, hq⟩
  have hl := length_mergeK more kvs
  exact ⟨.non, _, d_write (t' := s.toks) I (by rw [e]; exact True.intro) hs he (dk_new (by omega) hd (KV.merge rel2 rel) dd'), rfl, q⟩
def dUpdate : DM := fun x ds G Q => match x, ds with
  | .ref c, [.ref b] => (match G c with
    | some (.dK kvs) => (match G b with | some (.dK more) => c ≠ b ∧ kvs.length + more.length ≤ sizeLine ∧ Q .non (gup G c (.dK (mergeD kvs more))) | _ => False)
    | _ => False)
  | _, _ => False
theorem md_update : MD K rDUpd dUpdate := fun {H G Z x a vs ds Q0 Q} R rx al h k => by
  unfold dUpdate at h
  split at h
  · rename_i c b
    cases rx
    obtain ⟨v, rfl, r⟩ := al.one
    cases r
    split at h
    · rename_i kvs e1
      split at h
      · rename_i more e2
        obtain ⟨ne, hz, q⟩ := h
        obtain ⟨ho, h1, h2⟩ := R.cell c _ e1
        cases ho <;> first | exact h2.elim | skip
        obtain ⟨ho, h3, h4⟩ := R.cell b _ e2
        cases ho <;> first | exact h4.elim | skip
        rename_i us ws
        refine ⟨c, b, us, ws, rfl, rfl, h1, h3, ne, by rw [PairR.len h2, PairR.len h4]; exact hz, ?_⟩
        have hp := PairR.merge h4 h2
        have x : Ext H G (upd H c (.dK (mergeK us ws))) (gup G c (.dK (mergeD kvs more))) := ext_put e1
        exact k _ _ _ _ q .non (R.put e1 (PairR.map (f := Rp.ext x) hp)) x
      · exact h.elim
    · exact h.elim
  · exact h.elim
end
end TK

namespace TK
open PySem PySem.Spec L2
variable {K : PySem.W.Frag}
/-! ## expressions that may raise -/
abbrev DEX := GEnv → GH → DK → XD → Prop
def XOk (X : Cx) (σ : St) (H : Hp) (G : GH) (Z : ZS) (E0 : XD) : Prop := ∀ n gs C d G' H', E0 n gs G' → ClsAt X.K n C → XRep X.K H' G' Z d gs → HRep X.K H' G' Z → Ext H G H' G' → Wst X (.ref C) d σ H'
theorem XOk.mono {X : Cx} {σ : St} {H H1 : Hp} {G G1 : GH} {Z : ZS} {E0 : XD} (k : XOk X σ H G Z E0) (x : Ext H G H1 G1) : XOk X σ H1 G1 Z E0 := fun n gs C d G' H' q c r h y => k n gs C d G' H' q c r h (x.trans y)
def liftX (X : Cx) (T : DEX) : TE := fun σ H Q => ∃ Γ G Z Q0 E0, SR X.K Γ G Z σ H ∧ T Γ G Q0 E0 ∧ Cont X.K H G Z Q0 Q ∧ XOk X σ H G Z E0
abbrev PDX (X : Cx) (e : Expr) (T : DEX) : Prop := PE X e (liftX X T)
section
variable {X : Cx} {e o : Expr} {es : List Expr} {T : DEX} {x n m : Str} {p pos apos : Pos} {k : Nat} {f g C : Addr} {fd : FuncData} {ps : List Str} {S : SpD} {To : DE} {Ta : DA}
/-- what raises nothing -/
def dxOf (t : DE) : DEX := fun Γ G Q _ => t Γ G Q
theorem pdx_of {t : DE} (h : PD X e t) : PDX X e (dxOf t) := pe_imp h fun σ H Q ⟨Γ, G, Z, Q0, E0, S, h, k, _⟩ => ⟨Γ, G, Z, Q0, S, h, k⟩
/-- f(..) -/
def dCallX (S : SpD) (t : DA) : DEX := fun Γ G Q E => t Γ G fun ds G1 => S ds G1 Q E
theorem pdx_call (F : FnOk X.prog X.w X.K X.mg X.base (L2.CX X.prog X.w) k f fd ps (liftF X.K S)) (hr : Room k X.A) (hg : Gl X x) (hm : X.mg x = some (.ref f)) (hk : PySem.W.keepIn X.K (.ref f) = true) (hb : Binds X.K fd ps [])
    (ha : PDA X (e :: es) Ta) (hdb : (x == ("__debug__" : Str)) = false := by decide) (he : starEach (e :: es) X.env = (false, eval e X.env) :: starEach es X.env := by rfl) (hpl : (backTo pos (starEach es X.env)).any (·.1) = false := by rfl) :
    PDX X (.Call (.Name x p) (e :: es) [] pos) (dCallX S Ta) :=
  pe_imp (pe_callS (E := WE (Wst X)) F hr hg hm hk hb (fun σ => passAt takes_st σ) ha hdb he hpl) fun σ H Q ⟨Γ, G, Z, Q0, E0, Sr, h, k, kx⟩ => ⟨Γ, G, Z, _, Sr, h, fun ds G1 vs H1 q r R x => ⟨ds, G1, Z, Q0, E0, r, R, q, k.mono x, fun n gs C d G' H' q c r h y => kx n gs C d G' H' q c r h (x.trans y)⟩⟩
/-- f(..) of a def that may raise, where it does not -/
theorem pd_callL (F : FnOk X.prog X.w X.K X.mg X.base (L2.CX X.prog X.w) k f fd ps (liftF X.K S)) (hr : Room k X.A) (hg : Gl X x) (hm : X.mg x = some (.ref f)) (hk : PySem.W.keepIn X.K (.ref f) = true) (hb : Binds X.K fd ps [])
    (ha : PDA X (e :: es) Ta) (hdb : (x == ("__debug__" : Str)) = false := by decide) (he : starEach (e :: es) X.env = (false, eval e X.env) :: starEach es X.env := by rfl) (hpl : (backTo pos (starEach es X.env)).any (·.1) = false := by rfl) :
    PD X (.Call (.Name x p) (e :: es) [] pos) (dCall S Ta) :=
  pe_imp (pe_call F hr hg hm hk hb (dvs := []) .nil passL ha hdb he hpl) fun σ H Q ⟨Γ, G, Z, Q0, Sr, h, k⟩ => ⟨Γ, G, Z, _, Sr, h, fun ds G1 vs H1 q r R x => ⟨ds, G1, Z, Q0, XD0, by rw [List.append_nil]; exact r, R, q, k.mono x, fun _ _ _ _ _ _ z => z.elim⟩⟩
/-! ## statements -/
def dDropX (t : DEX) : DS := fun D Γ G => t Γ G (fun _ G1 => D.nx Γ G1) D.ex
theorem pds_exprX (he : PDX X e T) (hs : swapsWith e none pos.line X.env = pure false := by rfl) : PDS X (.Expr e pos) (dDropX T) :=
  ps_imp (ps_expr he hs) fun D σ H ⟨Γ, G, Z, D0, S, h, k⟩ => ⟨Γ, G, Z, _, _, S, h, fun d G1 v H1 q r R x => k.nx Γ G1 σ H1 q (S.ext x R) x, fun n gs C d G' H' q c r R x => k.ex n gs C d G' σ H' q c r R x⟩
def dRetX (t : DEX) : DS := fun D Γ G => t Γ G D.rt D.ex
theorem pds_retX (he : PDX X e T) : PDS X (.Return (some e) pos) (dRetX T) :=
  ps_imp (ps_ret he) fun D σ H ⟨Γ, G, Z, D0, S, h, k⟩ => ⟨Γ, G, Z, _, _, S, h, k.rt, fun n gs C d G' H' q c r R x => k.ex n gs C d G' σ H' q c r R x⟩
def dSetX (i : Nat) (t : DEX) : DS := fun D Γ G => t Γ G (fun x G1 => D.nx (Γ.set i (some x)) G1) D.ex
theorem pds_setX {i : Nat} {pos' : Pos} (hN : X.N.Nodup) (hi : X.N[i]? = some x) (hx : Loc X.env.scope x) (he : PDX X e T) (hs : swapsWith e (some (.Name x pos')) pos.line X.env = pure false := by rfl) (hf : X.fn x = true ∨ X.env.scope.names.lookup x = some .local := by first | exact .inl rfl | exact .inr rfl | assumption) :
    PDS X (.Assign [.Name x pos'] e pos) (dSetX i T) :=
  ps_imp (ps_set hN hi hx he hs hf) fun D σ H ⟨Γ, G, Z, D0, S, h, k⟩ => ⟨Γ, G, Z, _, _, S, h, fun d G1 v H1 q r R x => k.nx _ _ _ _ q ⟨(S.ext x R).env.set r i, R⟩ x, fun n gs C d G' H' q c r R x => k.ex n gs C d G' σ H' q c r R x⟩
/-- what is true of an own class of exceptions that is raised with a text alone -/
structure ExN (K : PySem.W.Frag) (mg : Str → Option Value) (n : Str) (C : Addr) : Prop where
  ns : ClsAt K n C
  mg : mg n = some (.ref C)
  ex : PySem.W.excIn K C [.type "ValueError", .type "Exception", .type "BaseException", .type "object"] "ValueError.__new__" = true
  kp : PySem.W.keepIn K (.ref C) = true
  sb : PySem.W.subIn K (.ref C) (.type "BaseException") = some true
  ty : PySem.W.typeIn K (.ref C) = some (.type "type")
/-- raise X("..") -/
def dRaise (n : Str) : DS := fun D _ G => D.ex n none G
theorem pds_raise {msg : Str} {j : Nat} {p2 : Pos} (hc : X.calm = true) (N : ExN X.K X.mg n C) (hg : Gl X n) (hdb : (n == ("__debug__" : Str)) = false := by decide) : PDS X (.Raise (some (.Call (.Name n p) [.Constant (.str msg) j p2] [] apos)) none pos) (dRaise n) :=
  ps_imp (ps_raise hc takes_st (pmk_own PySem.F.excBase_ValueError N.ex N.mg N.kp (raises_own N.sb N.ty) hg hdb)) fun D σ H ⟨Γ, G, Z, D0, S, h, k⟩ => k.ex n none C none G σ H h N.ns trivial S.rep .refl
end
theorem XRep.sub {H : Hp} {G G' : GH} {Z : ZS} {d : Option Addr} {gs : Option (List (Str × D))} (r : XRep K H G Z d gs) (s : GSub G' G) : XRep K H G' Z d gs := by
  cases d with
  | none => cases gs with | none => trivial | some _ => exact r.elim
  | some d =>
    cases gs with
    | none => exact r.elim
    | some gs =>
      obtain ⟨fs, h1, h2, h3, h4⟩ := r
      exact ⟨fs, h1, s.none h2, h3, PairR.map (f := Rp.ext (ext_sub s)) h4⟩
/-- what a def that may raise is wished for -/
def endsX (Q : DK) (E : XD) : DEnds := { nx := fun _ G' => Drop (Q .non) G', rt := fun d G' => Drop (Q d) G', ex := fun n gs G' => Drop (E n gs) G' }
section
variable {P : Program} {w : World} {K : PySem.W.Frag} {mg : Str → Option Value} {base : Heap}
/-- a def that may raise by its body's reading -/
theorem okDX {x qual : Str} {st : Stmt} {f : Addr} {fd : FuncData} {N ps : List Str} {k : Nat} {S : SpD} {T : DS} (F : Fun K x qual st f fd) (Sc : FnScope N ps (defScope st))
    (der : ∀ (cdv : Value) (A : Around) (outer : List Env) (s : Shared) (H : Hp) (E : XK), Room k (A.deeper (PyProof.Rows.envOfC qual (defScope st) s.heap.objs.size f cdv)) → PDSs (cxOf (L2.CX P w) P w K mg base N qual (defScope st) f cdv A outer s H E) (defBody st) T)
    (sp : ∀ ds G Q E, S ds G Q E → ds.length = ps.length ∧ T (endsX Q E) (startD N.length ds) G) : FnOk P w K mg base (L2.CX P w) (k + 1) f fd ps (liftF K S) := by
  refine F.okX Sc (fun vs H Q E h => ?_) fun cdv A outer s H vs Q E hr h => ?_
  · obtain ⟨ds, G, Z, Q0, E0, al, R, h, k1, k2⟩ := h
    rw [al.length]; exact (sp _ _ _ _ h).1
  · obtain ⟨ds, G, Z, Q0, E0, al, R, h, k1, k2⟩ := h
    refine ⟨_, der cdv A outer s H E hr, _, G, Z, _, ⟨?_, R⟩, (sp _ _ _ _ h).2, ⟨fun Γ' G' σ' H' q S' x => k1.drop _ _ _ _ q .non S'.rep x, k1.drop, fun _ _ _ _ q => q.elim, fun _ _ _ _ q => q.elim, fun n gs C d G' σ' H' q c r R' x => ?_⟩⟩
    · unfold L2.start startD
      rw [al.length]
      exact EnvR.start _ al
    · obtain ⟨G2, s2, q⟩ := q
      refine Wst.of (takes_of (E := E) rfl rfl rfl rfl) ?_
      exact k2 n gs C d G2 H' q c (r.sub s2) (R'.sub s2) (x.trans (ext_sub s2))
end
end TK

namespace TK
open PySem PySem.Spec L2 PyProof.Rows
variable {K : PySem.W.Frag}
/-! ## the table of code objects -/
def OneT (G : GH) (P : Addr) : Prop := ∀ P' q', G P' = some (.tb q') → P' = P
theorem tabs_of {H : Hp} {G : GH} {Z : ZS} {P : Addr} {q : Str} (R : HRep K H G Z) (e : G P = some (.tb q)) : LamX.Tabs [(P, q)] H := by
  intro p hp
  rw [List.mem_singleton] at hp
  subst hp
  obtain ⟨ho, h1, h2⟩ := R.cell P _ e
  cases ho <;> first | exact h2.elim | skip
  rename_i ps
  refine ⟨ps, h1, h2.1, fun pos cv hc => ?_⟩
  obtain ⟨c, e1, r⟩ := h2.2 pos cv hc
  cases r with
  | code g z h => exact ⟨c, e1, h⟩
/-- a lambda is made: what was known is known -/
theorem HRep.extN {H H1 : Hp} {G : GH} {Z : ZS} {P : Addr} {q : Str} (R : HRep K H G Z) (e : G P = some (.tb q)) (o1 : OneT G P) (x : LamX.ExtN H H1) (t : LamX.Tabs [(P, q)] H1) : HRep K H1 G Z ∧ Ext H G H1 G := by
  have xx : Ext H G H1 G := fun a o g h n => ⟨g, x a o h fun ps z => by subst z; exact n⟩
  obtain ⟨ps, t1, t2, t3⟩ := t (P, q) (List.mem_singleton.mpr rfl)
  have stay : ∀ c o ho, G c = some o → (¬ ∃ q, o = .tb q) → H c = some ho → GR K H G Z ho o → H1 c = some ho := fun c o ho e ht q2 r2 =>
    x c ho q2 fun ps z => by
      subst z
      cases o <;> first | exact r2.elim | exact (ht ⟨_, rfl⟩).elim
  have nn : ∀ (cc : Addr) (q' : Str), H1 cc = some (LamX.CodeO cc q') → G cc = none := fun cc q' hh => by
    cases e2 : G cc with
    | none => rfl
    | some o =>
      by_cases ht : ∃ q, o = .tb q
      · obtain ⟨qq, rfl⟩ := ht
        rw [o1 cc qq e2, t1] at hh
        have := Option.some.inj hh
        unfold LamX.CodeO at this
        cases this
      · obtain ⟨ho, q2, r2⟩ := R.cell cc o e2
        have := stay cc o ho e2 ht q2 r2
        rw [hh] at this
        exact (r2.nco cc q' (Option.some.inj this).symm).elim
  have hz : ∀ c, Z c → ∃ o, H c = some o ∧ H1 c = some o := fun c z => by
    obtain ⟨o, eo⟩ := Option.isSome_iff_exists.mp (R.hid c z).2
    exact ⟨o, eo, x c o eo fun ps w => by subst w; exact (R.nco c z).2.1 ps eo⟩
  have nz : ∀ (cc : Addr) (q' : Str), H1 cc = some (LamX.CodeO cc q') → ¬ Z cc := fun cc q' hh z => by
    obtain ⟨o, e1, e2⟩ := hz cc z
    rw [hh] at e2
    cases e2
    exact (R.nco cc z).1 q' e1
  refine ⟨⟨fun c o e2 => ?_, fun c z => ⟨(R.hid c z).1, ?_⟩, fun c z => ?_⟩, xx⟩
  · by_cases ht : ∃ q, o = .tb q
    · obtain ⟨qq, rfl⟩ := ht
      have ec : c = P := o1 c qq e2
      subst ec
      rw [e] at e2
      cases e2
      refine ⟨.tbl ps, t1, t2, fun pos cv hc => ?_⟩
      obtain ⟨cc, e3, e4⟩ := t3 pos cv hc
      exact ⟨cc, e3, .code (nn cc _ e4) (nz cc _ e4) e4⟩
    · obtain ⟨ho, q2, r2⟩ := R.cell c o e2
      exact ⟨ho, stay c o ho e2 ht q2 r2, GR.map (f := Rp.ext xx) r2⟩
  · obtain ⟨o, _, e2⟩ := hz c z
    rw [e2]; rfl
  · obtain ⟨o, e1, e2⟩ := hz c z
    rw [e2, ← e1]
    exact R.nco c z
/-! ## count, index of flat lists -/
def rCntF (K : PySem.W.Frag) : V → List V → Hp → VK → Prop := fun x xs H Q => ∃ (a : Addr) (ys : List V) (y : V), x = V.ref a ∧ xs = [y] ∧ SqL K H a ys ∧ flatV y = true ∧ ys.all flatV = true ∧ Q (.int (ys.countP (fun z => eqV z y) : Nat)) H
theorem countP_vals {y : V} : ∀ {ys : List V} {us : List Value}, Vals ys us → ys.all flatV = true → us.countP (eqU y) = ys.countP (fun z => eqV z y)
  | _, _, .nil, _ => rfl
  | z :: ys, u :: us, .cons r t, f => by
    rw [List.all_cons, Bool.and_eq_true] at f
    rw [List.countP_cons, List.countP_cons, countP_vals t f.2, eqU_of r f.1]
section
variable {X : Cx}
theorem mt_countF : MtR X "list.count" (rCntF X.K) := by
  intro pins s σ H x xs v us Q I rx rxs h
  obtain ⟨a, ys, y, rfl, rfl, hs, fy, fys, q⟩ := h
  cases rx
  cases rxs with
  | cons ry rt =>
    rename_i uy ut
    cases rt
    obtain ⟨its, rv, ⟨⟨cls, dd, data, sl⟩, n, ho, hc, hdn, hd⟩, hlen⟩ := I.list hs
    simp only at hc hd
    subst hc hd
    refine call_meets PySem.F.slot_list_count ⟨_, ho, rfl⟩ PySem.F.entry_list_count (PySem.F.args_list_count_2 _ _)
      (SeqAt.list_countAt a its.toArray n dd sl uy (eqU y)) ⟨ho, fun u' hu' => mem_eqAt ry fy rv fys u' (by simpa using hu'), ?_⟩
    refine ⟨.int (ys.countP (fun z => eqV z y) : Nat), H, I.tok _, ⟨s.toks, ?_⟩, q⟩
    show Value.int ((its.toArray.toList.countP (eqU y) : Nat) : Int) s.toks = Value.int ((ys.countP (fun z => eqV z y) : Nat) : Int) s.toks
    rw [show its.toArray.toList = its from rfl, countP_vals rv fys]
end
def blL : List D → Option (List Bool)
  | [] => some []
  | .bl b :: r => match blL r with | some bs => some (b :: bs) | none => none
  | _ :: _ => none
theorem blL_ok : ∀ {xs : List D} {bs : List Bool}, blL xs = some bs → xs = bs.map D.bl
  | [], _, h => by cases h; rfl
  | .bl b :: r, bs, h => by
    simp only [blL] at h
    split at h
    · rename_i cs e; cases h; rw [blL_ok e]; rfl
    · cases h
  | .non :: _, _, h => by cases h
  | .int _ :: _, _, h => by cases h
  | .str _ :: _, _, h => by cases h
  | .tup _ :: _, _, h => by cases h
  | .lst _ :: _, _, h => by cases h
  | .frz _ :: _, _, h => by cases h
  | .ref _ :: _, _, h => by cases h
  | .ty _ :: _, _, h => by cases h
  | .code _ :: _, _, h => by cases h
theorem rp_bls {H : Hp} {G : GH} {Z : ZS} : ∀ {bs : List Bool} {vs : List V}, RpAll K H G Z vs (bs.map D.bl) → vs = bs.map V.bl
  | [], _, .nil => rfl
  | b :: bs, _, .cons r t => by cases r; rw [rp_bls t]; rfl
theorem flat_bls : ∀ bs : List Bool, (bs.map V.bl).all flatV = true
  | [] => rfl
  | _ :: r => by rw [List.map_cons, List.all_cons, flat_bls r]; rfl
/-- count, index in a list of bools -/
def dCountB : DM := fun d ds G Q => match vw G d, ds with
  | .lst xs, [.bl b] => match blL xs with | some bs => Q (.int (bs.countP (fun z => z == b) : Nat)) G | none => False
  | _, _ => False
theorem md_countB : MD K (rCntF K) dCountB := fun {H G Z x a vs ds Q0 Q} R rx al h k => by
  unfold dCountB at h
  split at h
  · rename_i xs b e
    split at h
    · rename_i bs eb
      obtain ⟨p, us, rfl, hp, al2⟩ := vw_lst R rx e
      obtain ⟨v, rfl, r⟩ := al.one
      cases r
      rw [blL_ok eb] at al2
      have := rp_bls al2
      subst this
      refine ⟨p, _, _, rfl, rfl, .inl (.inl hp), rfl, flat_bls bs, ?_⟩
      have e2 : (bs.map V.bl).countP (fun z => eqV z (.bl b)) = bs.countP (fun z => z == b) := by rw [List.countP_map]; rfl
      rw [e2]
      exact k.here R h (.int _)
    · exact h.elim
  · exact h.elim
def ixB (b : Bool) : List Bool → Option Nat
  | [] => none
  | x :: r => if x == b then some 0 else (ixB b r).map (· + 1)
theorem ixB_ok {b : Bool} : ∀ {bs : List Bool} {j : Nat}, ixB b bs = some j → bs[j]? = some b ∧ ∀ m z, m < j → bs[m]? = some z → (z == b) = false
  | [], _, h => by cases h
  | x :: r, j, h => by
    unfold ixB at h
    split at h
    · rename_i e
      cases h
      refine ⟨by rw [List.getElem?_cons_zero, eq_of_beq e], fun m z hm => absurd hm (Nat.not_lt_zero _)⟩
    · rename_i e
      cases q : ixB b r with
      | none => rw [q] at h; cases h
      | some i =>
        rw [q] at h
        cases h
        obtain ⟨h1, h2⟩ := ixB_ok q
        refine ⟨by rw [List.getElem?_cons_succ]; exact h1, fun m z hm hz => ?_⟩
        cases m with
        | zero => rw [List.getElem?_cons_zero] at hz; cases hz; exact Bool.eq_false_iff.mpr e
        | succ m => rw [List.getElem?_cons_succ] at hz; exact h2 m z (Nat.lt_of_succ_lt_succ (show m + 1 < i + 1 from hm)) hz
def dIndexB : DM := fun d ds G Q => match vw G d, ds with
  | .lst xs, [.bl b] => match blL xs with | some bs => (match ixB b bs with | some j => Q (.int (j : Nat)) G | none => False) | none => False
  | _, _ => False
theorem md_indexB : MD K (rIndex K) dIndexB := fun {H G Z x a vs ds Q0 Q} R rx al h k => by
  unfold dIndexB at h
  split at h
  · rename_i xs b e
    split at h
    · rename_i bs eb
      split at h
      · rename_i j ej
        obtain ⟨p, us, rfl, hp, al2⟩ := vw_lst R rx e
        obtain ⟨v, rfl, r⟩ := al.one
        cases r
        rw [blL_ok eb] at al2
        have := rp_bls al2
        subst this
        obtain ⟨h1, h2⟩ := ixB_ok ej
        refine ⟨p, _, _, j, .bl b, rfl, rfl, .inl (.inl hp), rfl, flat_bls bs, by rw [List.getElem?_map, h1]; rfl, beq_self_eq_true b, fun m z hm hz => ?_, k.here R h (.int _)⟩
        rw [List.getElem?_map] at hz
        cases q : bs[m]? with
        | none => rw [q] at hz; cases hz
        | some y => rw [q] at hz; cases hz; exact h2 m y hm q
      · exact h.elim
    · exact h.elim
  · exact h.elim
/-! ## the caught exception -/
def isC (a : Addr) (c : D) (b : Bool) : DC := fun ds G Q => ds = [.ref a, c] ∧ Q (.bl b) G
theorem cd_isC {C a c : Addr} {b : Bool} (h : PySem.W.kitOne K (.ref C) (.ref c) = some b) : CD K (rIsE K C a) (isC a (.ref c) b) := fun {H G Z vs ds Q0 Q} R al h2 k => by
  obtain ⟨rfl, q⟩ := h2
  obtain ⟨v, u, rfl, r1, r2⟩ := al.two
  cases r1; cases r2
  exact ⟨_, .ref c, b, rfl, fun u z => z, h, k.here R q (.bl b)⟩
theorem cd_isV {C a : Addr} {n : String} {b : Bool} (h : PySem.W.kitOne K (.ref C) (.type n) = some b) : CD K (rIsE K C a) (isC a (.ty n) b) := fun {H G Z vs ds Q0 Q} R al h2 k => by
  obtain ⟨rfl, q⟩ := h2
  obtain ⟨v, u, rfl, r1, r2⟩ := al.two
  cases r1; cases r2
  exact ⟨_, .type n, b, rfl, fun u z => z, h, k.here R q (.bl b)⟩
/-- the suite of _law_word -/
def tWs (a : Addr) (c : Nat → Addr) (b : Nat → Bool) (bv : Bool) (xr xt : DE) : DS :=
  dSeq (dSet 2 (dLst true (dCons (dCB (isC a (.ref (c 0)) (b 0)) (dCons (dVar 1) (dCons (dC (.ref (c 0))) dNil))) (dCons (dCB (isC a (.ref (c 1)) (b 1)) (dCons (dVar 1) (dCons (dC (.ref (c 1))) dNil))) (dCons (dCB (isC a (.ref (c 2)) (b 2)) (dCons (dVar 1) (dCons (dC (.ref (c 2))) dNil))) (dCons (dCB (isC a (.ref (c 3)) (b 3)) (dCons (dVar 1) (dCons (dC (.ref (c 3))) dNil))) (dNil)))))))
  (dSeq (dSet 2 (dOp (dAddR true) (dVar 2) (dLst false (dCons (dCB (isC a (.ref (c 4)) (b 4)) (dCons (dVar 1) (dCons (dC (.ref (c 4))) dNil))) (dCons (dCB (isC a (.ref (c 5)) (b 5)) (dCons (dVar 1) (dCons (dC (.ref (c 5))) dNil))) (dCons (dCB (isC a (.ref (c 6)) (b 6)) (dCons (dVar 1) (dCons (dC (.ref (c 6))) dNil))) (dNil)))))))
  (dSeq (dSet 2 (dOp (dAddR true) (dVar 2) (dLst false (dCons (dCB (isC a (.ref (c 7)) (b 7)) (dCons (dVar 1) (dCons (dC (.ref (c 7))) dNil))) (dCons (dCB (isC a (.ref (c 8)) (b 8)) (dCons (dVar 1) (dCons (dC (.ref (c 8))) dNil))) (dCons (dCB (isC a (.ref (c 9)) (b 9)) (dCons (dVar 1) (dCons (dC (.ref (c 9))) dNil))) (dNil)))))))
  (dSeq (dDrop (dMt "list" dAppend (dVar 2) (dCons (dCB (isC a (.ref (c 10)) (b 10)) (dCons (dVar 1) (dCons (dC (.ref (c 10))) dNil))) (dNil))))
  (dSeq (dSet 3 (dLst false (dCons (dC (.str "BadRow")) (dCons (dC (.str "BadText")) (dCons (dC (.str "BadLand")) (dCons (dC (.str "BadCell")) (dCons (dC (.str "BadHeight")) (dCons (dC (.str "BadStyle")) (dCons (dC (.str "BadTile")) (dCons (dC (.str "BadView")) (dCons (dC (.str "BadRoom")) (dNil))))))))))))
  (dSeq (dSet 3 (dOp (dAddR false) (dVar 3) (dLst false (dCons (dC (.str "NoTicket")) (dCons (dC (.str "BadCount")) (dNil))))))
  (dSeq (dIfS (dOr (dTest (dOp dNeR (dMt "list" dCountB (dVar 2) (dCons (dC (.bl true)) (dNil))) (dC (.int 1)))) (dNot (dTest (dCB (isC a (.ty "ValueError") bv) (dCons (dVar 1) (dCons (dC (.ty "ValueError")) dNil)))))) (dRet (dTup (dCons (dC (.str "other")) (dCons (dC (.int 0)) (dNil))))) (dNext))
  (dSeq (dSet 4 (dMt "list" dIndexB (dVar 2) (dCons (dC (.bl true)) (dNil))))
  (dRet (dTup (dCons (dOp dIxR (dVar 3) (dVar 4)) (dCons (dIf (dTest (dOp dEqR (dVar 4) (dC (.int 0)))) (xr) (dIf (dTest (dOp dEqR (dVar 4) (dC (.int 1)))) (xt) (dC (.int 0)))) (dNil))))))))))))
def words : List Str := ["BadRow", "BadText", "BadLand", "BadCell", "BadHeight", "BadStyle", "BadTile", "BadView", "BadRoom", "NoTicket", "BadCount"]
end TK

set_option maxHeartbeats 1000000
namespace TK
open PySem PySem.Spec L2 PyProof.Rows
variable {K : PySem.W.Frag}
/-! ## _law_word(lambda: ..) -/
theorem Takes.len {X : Cx} {W : WX} (tk : Takes X W) : Takes X (fun c d σ H => σ.length = X.N.length → W c d σ H) := fun u s' ⟨a, B, sI, pins, σ, H, cls, d, e, I, nb, up, sky, na, os, ag, w⟩ =>
  tk u s' ⟨a, B, sI, pins, σ, H, cls, d, e, I, nb, up, sky, na, os, ag, w I.len⟩
/-- what the def that gets the lambda makes of it: what it tells, or the word of a refusal -/
def TTw (K : PySem.W.Frag) (ok : Str → Prop) : (XK → Hp → VK → Prop) → Hp → VK → Prop := fun tl H Q =>
  ∃ E : XK, tl E H Q ∧ ∀ cls d H', E cls d H' → ∃ n C G Z Q0, cls = .ref C ∧ d = none ∧ ok n ∧ ClsAt K n C ∧ HRep K H' G Z ∧ Q0 (.tup [.str n, .int 0]) G ∧ Cont K H' G Z Q0 Q
theorem env_none {H : Hp} {G : GH} {Z : ZS} : ∀ {σ : L2.St} {n : Nat}, σ.length = n → EnvR K H G Z σ (List.replicate n none)
  | [], _, h => by subst h; exact trivial
  | _ :: r, _, h => by subst h; exact ⟨fun d e => (nomatch e), env_none (σ := r) rfl⟩
section
variable {X : Cx}
theorem word_gives {Ng : List Str} {x a e q ex : Str} {sg : Scope} {g CS : Addr} {cdg : Value} {ok : Str → Prop} {b₀ : Stmt} {suite : List Stmt} {i : Nat} {p1 p2 p3 p4 p7 p8 : Pos}
    (hN : Ng.Nodup) (hi : Ng[i]? = some ex) (hi0 : i < Ng.length) (hln : sg.names.lookup ex = some .local) (hge : sg.names.lookup e = some .globalImplicit) (hme : X.mg e = some (.ref CS)) (hde : (e == ("__debug__" : Str)) = false) (h0 : ∀ f : Addr, (L2.start Ng [V.ref f])[0]? = some (some (V.ref f)))
    (hex : ∀ n C, ok n → ClsAt X.K n C → PySem.W.exmOne X.K (.ref C) (.ref CS) = some true)
    (hsu : ∀ (s : Shared) (H : Hp) (n : Str) (C ea : Addr) (oe : Obj) (pn : List (Addr × Obj)), ok n → ClsAt X.K n C → Zc (.ref C) none oe → (∃ vs, oe.data = .fields vs) →
      ∃ Ts : DS, PDSs ((cxOf C8.CX0 X.prog X.w X.K X.mg X.base Ng x sg g cdg X.A X.stack s H C8.E0).nox.suite ea ((ea, oe) :: pn)) (b₀ :: suite) Ts ∧
        ∀ (G : GH) (Q : DK) (D0 : DEnds), (∀ d G', Drop (Q d) G' → D0.rt d G') → Q (.tup [.str n, .int 0]) G → Ts D0 ((List.replicate Ng.length none).set i (some (.ref ea))) G) :
    LamX.GivesTo X Ng x sg g cdg [.Try [.Return (some (.Call (.Name a p1) [] [] p2)) p3] [.ExceptHandler (some (.Name e p4)) (some ex) (b₀ :: suite) p7] [] [] p8] a q (TTw X.K ok) := by
  intro f c' s H Q tl act hc h
  obtain ⟨E, h, hE⟩ := h
  have hgl : Gl (cxOf C8.CX0 X.prog X.w X.K X.mg X.base Ng x sg g cdg X.A X.stack s H C8.E0).nox e := hge
  refine ⟨_, pss_one (ps_try_as (X := (cxOf C8.CX0 X.prog X.w X.K X.mg X.base Ng x sg g cdg X.A X.stack s H C8.E0).nox) (c := .ref CS) (i := i)
      (tb := fun W D σ H => ∃ Ech : XK, (∀ cls d σ' H', Ech cls d H' → σ'.length = Ng.length → W cls d σ' H') ∧ σ[0]? = some (some (.ref f)) ∧ H c' = some (LamX.CodeO c' q) ∧ tl Ech H D.rt)
      (ts := fun ea cls d D σ H => ∃ n C G Z Q0, cls = .ref C ∧ d = none ∧ ok n ∧ ClsAt X.K n C ∧ HRep X.K H G Z ∧ Q0 (.tup [.str n, .int 0]) G ∧ Cont X.K H G Z Q0 D.rt ∧ EnvR X.K H G Z σ ((List.replicate Ng.length none).set i (some (.ref ea))))
      rfl rfl hN hi hln ⟨hgl, hde, .inl hme⟩ LamX.takes0 (fun W pn xe tk _ => ?_) (fun ea oe cls d pn hz hf => ?_)), ?_⟩
  · refine ⟨fun pins s' σ H' D I h' => ?_⟩
    obtain ⟨Ech, hW, h1, h2, h3⟩ := h'
    have hp := act _ pn xe Ech p1 p2 (Takes.len tk) (fun cls d σ' H' z hl => hW cls d σ' H' z hl)
    have hq := pss_one (ps_ret (pos := p3) hp)
    exact hq.run pins s' σ H' D I ⟨h1, h2, h3⟩
  · refine ⟨fun pins s' σ H' D I h' => ?_⟩
    obtain ⟨n, C, G, Z, Q0, rfl, rfl, h1, h2, h3, h4, h5, h6⟩ := h'
    obtain ⟨Ts, der, law⟩ := hsu s H n C ea oe pn h1 h2 hz hf
    exact der.run pins s' σ H' D I ⟨_, G, Z, { nx := fun _ _ => False, rt := fun d G' => Drop (Q0 d) G' }, ⟨h6, h3⟩, law G Q0 _ (fun _ _ z => z) h4, ⟨fun _ _ _ _ z => z.elim, h5.drop, fun _ _ _ _ z => z.elim, fun _ _ _ _ z => z.elim, fun _ _ _ _ _ _ _ z => z.elim⟩⟩
  · refine ⟨E, fun cls d σ' H' hh hl => ?_, h0 f, hc, h⟩
    obtain ⟨n, C, G, Z, Q0, rfl, rfl, h1, h2, h3, h4, h5⟩ := hE cls d H' hh
    refine ⟨true, hex n C h1 h2, fun _ ea _ => ⟨n, C, G, Z, Q0, rfl, rfl, h1, h2, h3, h4, h5, ?_⟩, fun z => (nomatch z)⟩
    exact (env_none hl).set (.ref ea) i
abbrev inW (l : List Str) : Str → Prop := fun n => n ∈ l
abbrev qLaw : Str := (("law" : Str) ++ (".<locals>." : Str)) ++ ("<lambda>" : Str)
/-- _law_word(lambda: body) -/
def dWord (ok : Str → Prop) (P : Addr) (q : Str) (T : DEX) : DE := fun Γ G Q => G P = some (.tb q) ∧ OneT G P ∧ T Γ G Q fun n gs G' => gs = none ∧ ok n ∧ Q (.tup [.str n, .int 0]) G'
def tLamD (K : PySem.W.Frag) (T : DEX) (E : XK) : TE := fun σ H Q => ∃ Γ G Z Q0 E0, SR K Γ G Z σ H ∧ T Γ G Q0 E0 ∧ Cont K H G Z Q0 Q ∧ XCont K H G Z E0 E
theorem pe_lamD {A : Around} {outer : List Env} {s : Shared} {H : Hp} {E : XK} {scope : Scope} {f c' : Addr} {body : Expr} {T : DEX} (h : PDX (LamX.lamCx X A outer s H E scope f c') body T) : PE (LamX.lamCx X A outer s H E scope f c') body (tLamD X.K T E) :=
  pe_imp h fun σ H' Q ⟨Γ, G, Z, Q0, E0, S, h, k, kx⟩ => ⟨Γ, G, Z, Q0, E0, S, h, k, fun n gs C d G' H2 q c r R y => Wst.of (takes_of (E := E) rfl rfl rfl rfl) (kx n gs C d G' H2 q c r R y)⟩
theorem pd_word {ok : Str → Prop} {T : DEX} {x a : Str} {g c P : Addr} {k : Nat} {pg : Arguments} {bg : List Stmt} {sg : Scope} {dV kV doc pm cdv ct oc : Value} {an od : Option Addr} {osl : Array (Option Value)} {Ng : List Str}
    {params : Arguments} {body : Expr} {scope : Scope} {p lpos pos : Pos} (hg : Gl X x) (hm : X.mg x = some (.ref g)) (hk : PySem.W.keepIn X.K (.ref g) = true)
    (lk : X.K.lookup g = some ⟨oc, od, .func (PySem.W.fnOf x x pg bg sg dV kV doc pm an cdv ct), osl⟩) (hcg : PySem.W.codeIn X.K cdv x = true) (hb : L2.Binds X.K (PySem.W.fnOf x x pg bg sg dV kV doc pm an cdv ct) [a] []) (Sg : FnScope Ng [a] sg) (hNg : Ng[0]? = some a) (hva : Vis sg a)
    (hG : LamX.GivesTo X Ng x sg g cdv bg a (X.env.qual ++ "<lambda>") (TTw X.K ok))
    (TB : LamX.TabB X.base X.mg c P) (hcode : X.env.code = .ref c) (hr : Room (k + 2) X.A) (L : LamX.LamS X.env.scope scope) (hdef : defaultsOf params X.env = ([], []))
    (hbind : ∀ (q : Str) (cl : List (Str × Addr)) (pm cv ctv : Value), bindArgs (PySem.W.kla_fn "<lambda>" q params body scope cl pm cv ctv) ⟨[], []⟩ = pure [])
    (hbody : ∀ (A : Around) (outer : List Env) (s : Shared) (H : Hp) (E : XK) (f c' : Addr), Room k (A.deeper (LamX.lamEnv X scope s.heap.objs.size f c')) → PDX (LamX.lamCx X A outer s H E scope f c') body T)
    (hdb : (x == ("__debug__" : Str)) = false := by decide) (hd : (a == ("__debug__" : Str)) = false := by decide) (hcd : (a == ("__classdict__" : Str)) = false := by decide) :
    PD X (.Call (.Name x p) [.Lambda params body scope lpos] [] pos) (dWord ok P (X.env.qual ++ "<lambda>") T) :=
  pe_imp (LamX.pe_lamcall (T := [(P, X.env.qual ++ "<lambda>")]) hg hm hk lk hcg hb Sg hNg hva hG TB hcode (List.mem_singleton.mpr rfl) (fun p hp _ => by rw [List.mem_singleton.mp hp]) hr L hdef hbind (fun A outer s H E f c' hr => pe_lamD (hbody A outer s H E f c' hr)) hdb hd hcd) fun σ H Q ⟨Γ, G, Z, Q0, S, h, k⟩ => by
    obtain ⟨hP, hO, h⟩ := h
    refine ⟨tabs_of S.rep hP, fun H1 x t => ?_⟩
    obtain ⟨R1, x1⟩ := S.rep.extN hP hO x t
    refine ⟨fun cls d H' => ∃ n C G2 Z2 Q2, cls = .ref C ∧ d = none ∧ ok n ∧ ClsAt X.K n C ∧ HRep X.K H' G2 Z2 ∧ Q2 (.tup [.str n, .int 0]) G2 ∧ Cont X.K H' G2 Z2 Q2 Q, ?_, fun _ _ _ z => z⟩
    refine ⟨Γ, G, Z, Q0, _, S.ext x1 R1, h, k.mono x1, fun n gs C d G' H' q c r R' y => ?_⟩
    obtain ⟨e1, e2, e3⟩ := q
    subst e1
    cases d with
    | some _ => exact r.elim
    | none => exact ⟨n, C, G', Z, Q0, rfl, rfl, e2, c, R', e3, k.mono (x1.trans y)⟩
end
end TK

set_option maxHeartbeats 1000000
namespace TK
open PySem PySem.Spec L2 PyProof.Rows
variable {K : PySem.W.Frag}
/-- no reading at all -/
def dNevE : DE := fun _ _ _ => False
theorem pd_nevE {X : Cx} {e : Expr} : PD X e dNevE := ⟨fun _ _ _ _ _ _ h => by obtain ⟨_, _, _, _, _, h, _⟩ := h; exact h.elim⟩
/-- what is known of a class that may be caught: T is TileError, c j the classes that are asked for, k its place among them -/
structure XcN (K : PySem.W.Frag) (T C : Addr) (c : Nat → Addr) (k : Nat) : Prop where
  ec : ExcC K C
  xm : PySem.W.exmOne K (.ref C) (.ref T) = some true
  is : ∀ j, j < 11 → PySem.W.kitOne K (.ref C) (.ref (c j)) = some (j == k)
  ve : PySem.W.kitOne K (.ref C) (.type "ValueError") = some true
theorem kit_self {C : Addr} : PySem.W.kitOne K (.ref C) (.ref C) = some true := by
  unfold PySem.W.kitOne
  rw [if_pos (beq_self_eq_true _)]
theorem kit_other {C c : Addr} {b : Bool} (hne : (C == c) = false) (hd : PySem.W.hasDictIn K c = true) (ty : PySem.W.typeIn K (.ref c) = some (.type "type")) (sb : PySem.W.subIn K (.ref C) (.ref c) = some b) : PySem.W.kitOne K (.ref C) (.ref c) = some b := by
  obtain ⟨cd, hc, _⟩ := PySem.W.any_some hd
  have e2 : ((PySem.W.clsIn K c).isSome && PySem.W.typeIn K (.ref c) == some (.type "type")) = true := by rw [hc, ty] <;> rfl
  have e1 : ¬ ((Value.ref C == Value.ref c) = true) := fun z => by
    have := Value.ref.inj (eq_of_beq z)
    rw [this, beq_self_eq_true] at hne
    cases hne
  unfold PySem.W.kitOne
  rw [if_neg e1]
  show (if ((PySem.W.clsIn K c).isSome && PySem.W.typeIn K (.ref c) == some (.type "type")) = true then PySem.W.subIn K (.ref C) (.ref c) else none) = some b
  rw [if_pos e2]
  exact sb
theorem kit_ve {C : Addr} (sb : PySem.W.subIn K (.ref C) (.type "ValueError") = some true) : PySem.W.kitOne K (.ref C) (.type "ValueError") = some true := by
  unfold PySem.W.kitOne
  rw [if_neg (by intro z; exact absurd (eq_of_beq z) (by intro w; cases w))]
  show (if PySem.W.kitMeta "ValueError" = true then PySem.W.subIn K (.ref C) (.type "ValueError") else none) = some true
  rw [if_pos (by decide +kernel)]
  exact sb
/-- _law_word(lambda: body), the def by its place -/
theorem pd_wordF {X : Cx} {ok : Str → Prop} {T : DEX} {x a : Str} {st : Stmt} {fd : FuncData} {g c P : Addr} {k : Nat} {Ng : List Str}
    {params : Arguments} {body : Expr} {scope : Scope} {p lpos pos : Pos} (F : Fun X.K x x st g fd) (hg : Gl X x) (hm : X.mg x = some (.ref g))
    (hb : L2.Binds X.K fd [a] []) (Sg : FnScope Ng [a] (defScope st)) (hNg : Ng[0]? = some a) (hva : Vis (defScope st) a)
    (hG : ∀ cdv, LamX.GivesTo X Ng x (defScope st) g cdv (defBody st) a (X.env.qual ++ "<lambda>") (TTw X.K ok))
    (TB : LamX.TabB X.base X.mg c P) (hcode : X.env.code = .ref c) (hr : Room (k + 2) X.A) (L : LamX.LamS X.env.scope scope) (hdef : defaultsOf params X.env = ([], []))
    (hbind : ∀ (q : Str) (cl : List (Str × Addr)) (pm cv ctv : Value), bindArgs (PySem.W.kla_fn "<lambda>" q params body scope cl pm cv ctv) ⟨[], []⟩ = pure [])
    (hbody : ∀ (A : Around) (outer : List Env) (s : Shared) (H : Hp) (E : XK) (f c' : Addr), Room k (A.deeper (LamX.lamEnv X scope s.heap.objs.size f c')) → PDX (LamX.lamCx X A outer s H E scope f c') body T)
    (hdb : (x == ("__debug__" : Str)) = false := by decide) (hd : (a == ("__debug__" : Str)) = false := by decide) (hcd : (a == ("__classdict__" : Str)) = false := by decide) :
    PD X (.Call (.Name x p) [.Lambda params body scope lpos] [] pos) (dWord ok P (X.env.qual ++ "<lambda>") T) := by
  obtain ⟨oc, od, kV, doc, pm, an, cdv, ct, osl, rfl, lk, hcd'⟩ := F.ex
  exact pd_word hg hm F.kp lk hcd' hb Sg hNg hva (hG cdv) TB hcode hr L hdef hbind hbody hdb hd hcd
section
variable {P : Program} {w : World} {mg : Str → Option Value} {base : Heap}
/-- a def by its body's reading, its code object known -/
theorem okDc {x qual : Str} {st : Stmt} {f : Addr} {fd : FuncData} {N ps : List Str} {k : Nat} {S : SpD} {T : DS} {cdv : Value} (F : Fun K x qual st f fd) (hcd : fd.code = cdv) (Sc : FnScope N ps (defScope st))
    (der : ∀ (A : Around) (outer : List Env) (s : Shared) (H : Hp) (E : XK), Room k (A.deeper (PyProof.Rows.envOfC qual (defScope st) s.heap.objs.size f cdv)) → PDSs (cxOf CX0 P w K mg base N qual (defScope st) f cdv A outer s H E).nox (defBody st) T)
    (sp : ∀ ds G Q E, S ds G Q E → ds.length = ps.length ∧ T (endsD Q) (startD N.length ds) G) : FnOk P w K mg base CX0 (k + 1) f fd ps (liftF K S) := by
  obtain ⟨oc, od, kV, doc, pm, an, cdv', ct, osl, rfl, lk, hcd'⟩ := F.ex
  have e : cdv' = cdv := hcd
  subst e
  refine fn_of lk hcd' Sc (fun vs H Q E h => ?_) fun A outer s H vs Q E hr h => ?_
  · obtain ⟨ds, G, Z, Q0, E0, al, R, h, k1, k2⟩ := h
    rw [al.length]; exact (sp _ _ _ _ h).1
  · obtain ⟨ds, G, Z, Q0, E0, al, R, h, k1, k2⟩ := h
    refine ⟨_, (der A outer s H E hr).nox, _, G, Z, _, ⟨?_, R⟩, (sp _ _ _ _ h).2, ⟨fun Γ' G' σ' H' q S' x => k1.drop _ _ _ _ q .non S'.rep x, k1.drop, fun _ _ _ _ q => q.elim, fun _ _ _ _ q => q.elim, fun _ _ _ _ _ _ _ q => q.elim⟩⟩
    unfold L2.start startD
    rw [al.length]
    exact EnvR.start _ al
end
/-! ## the end of a law that makes lambdas -/
theorem cells_one {H : Hp} {P : Addr} {q : Str} (h : H P = some (.tbl #[])) : HRep K H (gup g0 P (.tb q)) (fun _ => False) :=
  ⟨fun c o e => by
    by_cases hc : c = P
    · subst hc
      rw [gup_same] at e
      cases e
      refine ⟨_, h, trivial, fun pos cv z => ?_⟩
      have z : codeAmong pos [] = some cv := z
      simp [codeAmong] at z
    · rw [gup_ne hc] at e; exact (nomatch e), fun _ z => z.elim, fun _ z => z.elim⟩
theorem one_one {P : Addr} {q : Str} : OneT (gup g0 P (.tb q)) P := fun P' q' e => by
  by_cases hc : P' = P
  · exact hc
  · rw [gup_ne hc] at e; cases e
theorem rp_ints {H : Hp} {G : GH} {Z : ZS} : ∀ ns : List Int, RpAll K H G Z (ns.map V.int) (ns.map D.int)
  | [] => .nil
  | n :: r => .cons (.int n) (rp_ints r)
/-- the script -/
theorem rp_script {H : Hp} {P a : Addr} {q : Str} {ns : List Int} (h : H P = some (.tbl #[])) (hS : SqL K H a (ns.map V.int)) : Rp K H (gup g0 P (.tb q)) (fun _ => False) (.ref a) (.frz (ns.map D.int)) := by
  have ne : ∀ o, H a = some o → ntb o → gup g0 P (.tb q) a = none := fun o e n => by
    by_cases hc : a = P
    · subst hc; rw [h] at e; cases e; exact n.elim
    · rw [gup_ne hc]; rfl
  rcases hS with (hh | ⟨o, hh⟩) | hh
  · exact .frl (ne _ hh trivial) (fun z => z) hh (rp_ints ns)
  · exact .frz (ne _ hh trivial) (fun z => z) hh (rp_ints ns)
  · exact .wrt hh (rp_ints ns)
/-- what is true of a def's code object -/
theorem codeHd_at {K : PySem.W.Frag} {c P : Addr} (e : PySem.W.codeHdIn K c P = true) : ∃ (t : Value) (dd : Option Addr) (vs : Array Value) (sl : Array (Option Value)), K.lookup c = some ⟨t, dd, .fields vs, sl⟩ ∧ vs[11]? = some (.ref P) := by
  unfold PySem.W.codeHdIn at e
  split at e
  · rename_i vs _ hk
    simp only [Bool.and_eq_true] at e
    obtain ⟨⟨⟨⟨⟨e1, e2⟩, e3⟩, e4⟩, e5⟩, e6⟩ := e
    split at e1
    · rename_i P' h11
      have hP : P' = P := beq_iff_eq.mp e1
      subst hP
      exact ⟨_, _, vs, _, hk, h11⟩
    · cases e1
  · cases e
theorem lawAt {l : PySem.W.OpenLaw} {w : World} {k n : Nat} {x : Str} {mg : Str → Option Value} {fa c P : Addr} {h : Heap} {fd : FuncData} {o : Obj} {q : Str} {S : SpD} (X : K.In h) (own : LamX.OwnTab K fa h) (lk : K.lookup fa = some o) (hfd : o.data = .func fd) (hc : fd.code = .ref c) (hh : PySem.W.codeHdIn K c P = true) (hP : K.lookup P = none)
    (hb : ∀ (s : Shared) (u : Value), BindsTo s fd ⟨[u], []⟩ [(x, u)])
    (hS : ∀ ns : List Int, ns.length ≤ n → S [.frz (ns.map D.int)] (gup g0 P (.tb q)) (fun d _ => d = .bl true) XD0)
    (F : ∀ base : Heap, K.In base → base.Ns mainGlobals mg → LamX.TabB base mg c P → FnOk l.prog w K mg base CX0 k fa fd [x] (liftF K S)) : LamX.LawAtS l w K CX0 k n x mg fa h := by
  obtain ⟨t, dd, vs, sl, hk, h11⟩ := codeHd_at hh
  refine ⟨fd, [(c, P)], liftF K S, fun p hp => ?_, fun p hp => ?_, fun p hp => ?_, hb, fun H a ns hl _ hT hq => ?_, fun base kb gb tb => F base kb gb (tb (c, P) (List.mem_singleton.mpr rfl))⟩
  · rw [List.mem_singleton.mp hp]; exact own c P o fd t dd vs sl lk hfd hc hk h11
  · rw [List.mem_singleton.mp hp]; exact hP
  · rw [List.mem_singleton.mp hp]; exact PySem.W.codeHd_of_K X hh
  · have hT := hT (c, P) (List.mem_singleton.mpr rfl)
    have hs := hS ns hl
    exact ⟨[.frz (ns.map D.int)], gup g0 P (.tb q), fun _ => False, _, XD0, .cons (rp_script hT hq) .nil, cells_one hT, hs, fun d G' v H' e r _ _ => by subst e; cases r; rfl, fun _ _ _ _ _ _ z => z.elim⟩
/-- what is true of a class's name -/
structure XnN (K : PySem.W.Frag) (mg : Str → Option Value) (n : Str) (C : Addr) : Prop where
  ns : ClsAt K n C
  mg : mg n = some (.ref C)
/-- the except suite of a def that is a try alone -/
def wSuite (st : Stmt) : List Stmt := match defBody st with
  | [.Try _ [.ExceptHandler _ _ b _] _ _ _] => b
  | _ => []
end TK

set_option maxHeartbeats 1000000
namespace TK
open PySem PySem.Spec L2 PyProof.Rows
variable {K : PySem.W.Frag}
/-! ## order of tuples, the empty one too -/
section
variable {prog : Program} {w : World} {A : Around} {E : Value → Shared → Prop} {s : Shared}
theorem call_tuple_lt {Q : Value → Shared → Prop} {l b : Addr} {items items2 : Array Value} {e r : Nat → Bool} (hl : s.heap.IsTuple l items) (hb : s.heap.IsTuple b items2)
    (he : ∀ j (h1 : j < items.size) (h2 : j < items2.size), SeqAt.EqAt A.in1 s items[j] items2[j] (e j)) (hr : ∀ j (h1 : j < items.size) (h2 : j < items2.size), e j = false → SeqAt.RcLt A.in1 s items[j] items2[j] (r j))
    (h : Q (.bool (SeqAt.firstLt e r (decide (items.size < items2.size)) (List.range (min items.size items2.size)))) s) : wpAny (model prog w) A (call (.builtin "tuple.__lt__") [.ref l, .ref b]) Q E s := by
  obtain ⟨⟨cls, dd, data, sl⟩, ho, hc, n, hd⟩ := id hl
  obtain ⟨⟨cls2, dd2, data2, sl2⟩, ho2, hc2, n2, hd2⟩ := id hb
  simp only at hc hd hc2 hd2
  subst hc hd hc2 hd2
  exact call_meets F.slot_tuple_lt ⟨_, ho, rfl⟩ F.entry_tuple_lt (F.args_tuple_lt_2 _ _) (SeqAt.tuple_ltAt l b items items2 n n2 dd dd2 sl sl2 e r) ⟨ho, ho2, he, hr, h⟩
theorem oneLt_tups {f : Bool} {xs ys : List PyData} {a b : Value} {as bs : List Addr} {Q : Bool → Shared → Prop} (ra : Reads s.heap a (.tuple xs) as) (rb : Reads s.heap b (.tuple ys) bs) (h : PySem.W.alike (.tuple xs) (.tuple ys) = true)
    (hu : A.units + min (PyData.tuple xs).depth (PyData.tuple ys).depth < cLine) (hq : Q (PySem.W.dataLt (.tuple xs) (.tuple ys)) s) : wpAny (model prog w) A (oneLt' f a b) Q E s := by
  cases f with
  | false => exact PySem.W.oneLt_alike (fun z => (nomatch z)) ra rb h (fun z => (nomatch z)) hu hq
  | true =>
    have hal : PySem.W.alikeAll xs ys = true := by simpa [PySem.W.alike] using h
    cases ra with
    | @tuple l o vs n _ as₁ h1 h2 h3 h4 =>
      cases rb with
      | @tuple l' o' vs' n' _ bs₁ k1 k2 k3 k4 =>
        have n1 : vs.size = xs.length := by simpa using SeqAt.ReadsAll.length _ _ _ h4
        have n2 : vs'.size = ys.length := by simpa using SeqAt.ReadsAll.length _ _ _ k4
        rw [PySem.W.dataLt_tuple, ← PySem.W.firstLt_toks xs ys hal, ← n1, ← n2] at hq
        rw [oneLt'_eq]
        simp only [if_true]
        refine wpAny_bind (wpAny_cRoomFor (SeqAt.room_here hu) ?_)
        refine wpAny_bind (wpAny_callSpecialIfBound?_slot (T := "tuple") ⟨_, h1, h2⟩ F.slot_tuple_lt (call_tuple_lt (e := SeqAt.pairEq xs ys) (r := fun j => PySem.W.dataLt (xs.getD j .none) (ys.getD j .none)) ⟨_, h1, h2, _, h3⟩ ⟨_, k1, k2, _, k3⟩ (fun j j1 j2 => ?_) (fun j j1 j2 hj => ?_) ?_))
        · have := PySem.W.eqAt_alikeAll xs ys A.in1 s vs.toList vs'.toList _ _ h4 k4 hal (SeqAt.room_in hu) j (by simpa using j1) (by simpa using j2)
          simpa using this
        · have := PySem.W.rcLt_alikeAll xs ys A.in1 s vs.toList vs'.toList _ _ h4 k4 hal (SeqAt.room_in hu) j (by simpa using j1) (by simpa using j2) hj
          simpa using this
        · exact wpAny_truthy_bool hq
def fullT : PyData → Bool
  | .tuple [] => false
  | _ => true
theorem firsts_reads {M : Model} : ∀ {vs : List Value} {ds : List PyData}, PySem.W.EachIs (fun v d => ∃ as, Reads s.heap v d as) vs ds → (∀ d, d ∈ ds → ∃ xs, d = .tuple xs) →
    ∃ os : List (Option Value), os.map (·.isSome) = ds.map fullT ∧ ∀ Q : List (Option Value) → Shared → Prop, Q os s → wpAny M A (vs.mapM firstOfTuple') Q E s
  | _, _, .nil, _ => ⟨[], rfl, fun Q h => by rw [List.mapM_nil]; exact wpAny_pure h⟩
  | _, _, .cons (b := d) (as := vs) (bs := ds) ⟨as, r⟩ t, ht => by
    obtain ⟨os, h1, h2⟩ := firsts_reads t fun d hd => ht d (List.mem_cons_of_mem _ hd)
    obtain ⟨xs, rfl⟩ := ht d (List.mem_cons_self ..)
    cases r with
    | @tuple a o zs n _ _ ho hc hd hr =>
      refine ⟨zs[0]? :: os, ?_, fun Q h => ?_⟩
      · rw [List.map_cons, List.map_cons, h1]
        congr 1
        have n1 : zs.size = xs.length := by simpa using SeqAt.ReadsAll.length _ _ _ hr
        cases xs with
        | nil => rw [Array.getElem?_eq_none (by rw [n1]; exact Nat.le_refl _)]; rfl
        | cons x xr => rw [Array.getElem?_eq_getElem (by rw [n1]; exact Nat.succ_pos _)]; rfl
      · rw [List.mapM_cons]
        refine wpAny_bind ?_
        rw [PySem.W.kas_first_eq]
        refine wpAny_bind (PySem.W.Looks.here (show PySem.W.Looks M s.heap (typeOf (.ref a)) o.cls from (PySem.W.Looks.ld ho).andThen .now) ?_)
        rw [hc, if_neg (by first | decide | simp)]
        refine wpAny_bind (listItems_at ho hd (wpAny_pure ?_))
        exact wpAny_bind (h2 (fun bs s' => wpAny M A (pure (zs[0]? :: bs)) Q E s') (wpAny_pure h))
theorem kind_tups {M : Model} {vs : List Value} {ds : List PyData} (e : PySem.W.EachIs (fun v d => ∃ as, Reads s.heap v d as) vs ds) (ht : ∀ d, d ∈ ds → ∃ xs, d = .tuple xs) (h2 : 2 ≤ vs.length) (hn : ds.all fullT = false) :
    ∃ b : Bool, ∀ Q : SortKind → Shared → Prop, Q (if b then general' else oneType') s → wpAny M A (keyKind' vs.toArray) Q E s := by
  obtain ⟨os, o1, o2⟩ := firsts_reads (M := M) (A := A) (E := E) e ht
  have hall : ¬ (os.toArray.all fun x => x.isSome) = true := by
    rw [List.all_toArray]
    intro z
    have : (os.map (·.isSome)).all id = true := by rw [List.all_map]; exact z
    rw [o1, List.all_map] at this
    rw [show ds.all fullT = ds.all (id ∘ fullT) from rfl, this] at hn
    cases hn
  refine ⟨((os.toArray[0]?).bind id).isSome, fun Q h => ?_⟩
  rw [keyKind'_eq, List.mapM_toArray, map_eq_pure_bind]
  refine wpAny_bind (wpAny_bind (o2 _ (wpAny_pure ?_)))
  rw [if_neg hall]
  by_cases hc : ((os.toArray[0]?).bind id).isSome = true
  · rw [if_pos hc] at h ⊢
    exact wpAny_pure h
  · rw [if_neg hc] at h ⊢
    obtain ⟨v₁, v₂, rest, rfl⟩ : ∃ v₁ v₂ rest, vs = v₁ :: v₂ :: rest := by
      match vs, h2 with
      | [], h2 => simp at h2
      | [_], h2 => simp at h2
      | v₁ :: v₂ :: rest, _ => exact ⟨v₁, v₂, rest, rfl⟩
    rw [oneTypeOnly'_eq, List.mapM_toArray, map_eq_pure_bind]
    refine wpAny_bind (wpAny_bind (wpAny_bind (PySem.W.kas_mapM (r := .type "tuple") _ (fun v hv Q' hq => ?_) (wpAny_pure ?_))))
    · obtain ⟨d, hd, as, r⟩ := e.left v hv
      obtain ⟨xs, rfl⟩ := ht d hd
      exact (show PySem.W.Looks M s.heap (typeOf v) (.type "tuple") from PySem.W.looks_reads r).here hq
    have hall : ((List.map (fun _ => Value.type "tuple") (v₁ :: v₂ :: rest)).toArray.all fun x => x == Value.type "tuple") = true := by
      simp only [List.all_toArray, List.all_map, List.all_eq_true]
      intro _ _
      exact beq_self_eq_true _
    have h0 : (List.map (fun _ => Value.type "tuple") (v₁ :: v₂ :: rest)).toArray[0]? = some (Value.type "tuple") := by simp
    rw [h0]
    simp only [hall, if_true]
    exact wpAny_pure (wpAny_pure h)
/-- tuples of alike data, the empty one too, can be sorted -/
theorem sortsAt_tups {vs : List Value} {ds : List PyData} (e : PySem.W.EachIs (fun v d => ∃ as, Reads s.heap v d as) vs ds) (hal : PySem.W.AllAlike ds) (ht : ∀ d, d ∈ ds → ∃ xs, d = .tuple xs) (hu : ∀ d, d ∈ ds → A.units + d.depth < cLine) :
    PySem.W.SortsAt prog w A s (PySem.W.dataKind s.heap ds) vs := by
  cases hn : ds.all fullT with
  | true =>
    refine PySem.W.SortsAt.data e hal (.inl fun d hd => ?_) hu
    obtain ⟨xs, rfl⟩ := ht d hd
    cases xs with
    | nil => exact absurd (List.all_eq_true.mp hn _ hd) (by simp [fullT])
    | cons x r => exact ⟨x, r, rfl⟩
  | false =>
    have room : ∀ {d d' : PyData}, d ∈ ds → A.units + min d.depth d'.depth < cLine := fun {d d'} hd => Nat.lt_of_le_of_lt (Nat.add_le_add_left (Nat.min_le_left _ _) _) (hu d hd)
    refine ⟨fun v hv => ?_, ?_⟩
    · obtain ⟨d, hd, as, r⟩ := e.left v hv
      exact ⟨_, PySem.W.dataKind_some hal hd r⟩
    · have lt : ∀ f : Bool, ∀ (E : Value → Shared → Prop) (x y : Value) (a b : (PySem.W.dataKind s.heap ds).α) {Q : Bool → Shared → Prop}, (PySem.W.dataKind s.heap ds).keyOf x = some a → (PySem.W.dataKind s.heap ds).keyOf y = some b → Q ((PySem.W.dataKind s.heap ds).blt a b) s → wpAny (model prog w) A (oneLt' f x y) Q E s := by
        intro f E x y a b Q ha hb hq
        obtain ⟨d, as, hd, ra, rfl⟩ := PySem.W.dataKind_inv ha
        obtain ⟨d', as', hd', rb, rfl⟩ := PySem.W.dataKind_inv hb
        obtain ⟨xs, rfl⟩ := ht d hd
        obtain ⟨ys, rfl⟩ := ht d' hd'
        exact oneLt_tups ra rb (hal _ hd _ hd') (room hd) hq
      by_cases h2 : 2 ≤ vs.length
      · have hk := fun E => kind_tups (M := model prog w) (A := A) (E := E) e ht h2 hn
        cases ds with
        | nil => cases hn
        | cons d₀ ds₀ =>
          obtain ⟨b, hb⟩ := hk (fun _ _ => False)
          refine ⟨if b then general' else oneType', ?_, fun _ E Q hq => ?_⟩
          · cases b with
            | true => exact lt false
            | false => exact lt true
          · exact wpAny_mono (hb _ hq) (fun _ _ z => z) fun _ _ z => z.elim
      · exact ⟨general', lt false, fun z => absurd z h2⟩
end
end TK

set_option maxHeartbeats 1000000
namespace TK
open PySem PySem.Spec L2 PyProof.Rows
variable {K : PySem.W.Frag}
section
variable {prog : Program} {w : World} {A : Around} {E : Value → Shared → Prop} {s : Shared}
/-! ## sorted(tuple) -/
theorem collect_tup {l : Addr} {vs : List Value} {Q : List Value → Shared → Prop} (hl : s.heap.IsTuple l vs.toArray)
    (h : Q vs { s with heap := (s.heap.push (seqObj "list" #[] 0)).update s.heap.objs.size (Obj.mapSeq (· ++ vs.toArray)) }) (hsz : vs.length ≤ sizeLine) : wpAny (model prog w) A (collect (.ref l)) Q E s := by
  obtain ⟨o, ho, hc, n, hd⟩ := id hl
  unfold collect
  refine wpAny_bind (wpAny_runValue (codeAny_builtin entry_proto_collect' ?_))
  show wpAny _ _ (do again (.builtin "list.__iadd__" ⟨[← newList [], .ref l], []⟩)) _ _ s
  refine wpAny_bind (wpAny_newList (wpAny_pure ⟨Code.quiet_builtin _ (by decide +kernel), codeAny_builtin entry_list_iadd' ?_⟩))
  show wpAny _ _ (Builtin.List.listExtendWith (.ref s.heap.objs.size) (.ref l) (.ref s.heap.objs.size)) _ _ { s with heap := s.heap.push (seqObj "list" #[] 0) }
  unfold Builtin.List.listExtendWith
  have ho' : (s.heap.push (seqObj "list" #[] 0)).get? l = some o := Heap.get?_push_of_some _ ho
  refine wpAny_bind (wpAny_typeOf (T := "tuple") ⟨o, ho', hc⟩ ?_)
  have ht : (Value.type "tuple" == Value.type "tuple") = true := by rfl
  rw [if_pos (by rw [ht]; simp)]
  refine wpAny_bind (listItems_at ho' hd ?_)
  refine wpAny_bind (listItems_at (xs := #[]) (n := 0) (Heap.get?_push_size _ rfl) rfl ?_)
  rw [if_neg (by simp)]
  refine wpAny_bind (listUpdate_at (xs := #[]) (n := 0) (Heap.get?_push_size _ rfl) rfl ?_ (Nat.zero_le _) (by show (#[] ++ vs.toArray).size ≤ sizeLine + 1; simp only [Array.size_append, List.size_toArray, List.length_nil]; omega))
  refine wpAny_pure ?_
  show wpAny (model prog w) A (do
      let o ← load s.heap.objs.size
      match o.data with
      | .seq xs _ => pure xs.toList
      | _ => unsupported "internal:collect") Q E { s with heap := (s.heap.push (seqObj "list" #[] 0)).update s.heap.objs.size (Obj.mapSeq (· ++ vs.toArray)) }
  refine wpAny_bind (wpAny_load (get?_update_seq (Heap.get?_push_size _ rfl) _) ?_)
  show wpAny _ _ (pure ((#[] : Array Value) ++ vs.toArray).toList) Q E _
  rw [show ((#[] : Array Value) ++ vs.toArray).toList = vs by simp]
  exact wpAny_pure h
theorem sorted_valsT {κ : PyProof.Rows.KeyKind} {l : Addr} {vs : List Value} {Q : Value → Shared → Prop} (hl : s.heap.IsTuple l vs.toArray) (S : PySem.W.SortsAt prog w A.in1.in1 { s with heap := PySem.W.sortingHeap (PySem.W.copyHeap s.heap vs) (s.heap.objs.size + 1) vs } κ vs) (hL : vs.length ≤ sizeLine)
    (h : Q (.ref (s.heap.objs.size + 1)) { s with heap := sortedAll s.heap vs (PySem.W.sortVals κ false vs vs).toArray }) : wpAny (model prog w) A (call (.builtin "sorted") [.ref l]) Q E s := by
  refine Calls.call_function_entry kind_sorted plain_sorted entry_sorted (args_sorted1 _) ?_
  unfold Builtin.«sorted»
  refine wpAny_bind (m := checkCount "sorted" 1 1 _) (wpAny_pure ?_)
  refine wpAny_bind (collect_tup hl ?_ hL)
  refine wpAny_bind (wpAny_newList ?_ hL)
  have hsz : ((s.heap.push (seqObj "list" #[] 0)).update s.heap.objs.size (Obj.mapSeq (· ++ vs.toArray))).objs.size = s.heap.objs.size + 1 := by
    rw [Heap.size_update, size_push']
  show wpAny _ _ _ _ _ { s with heap := PySem.W.copyHeap s.heap vs }
  rw [hsz]
  refine wpAny_bind (wpAny_holding (wpAny_call_entry slot_list_sort ⟨_, PySem.W.copyHeap_at s.heap vs, rfl⟩ entry_list_sort (PySem.W.list_sort_vals (s := { s with heap := PySem.W.copyHeap s.heap vs }) (PySem.W.copyHeap_at s.heap vs) S hL ⟨_, rfl, ?_⟩) (args_list_sort _)))
  exact wpAny_pure ⟨_, rfl, h⟩
/-! ## the least of a list of data -/
/-- < of the items, at every heap that keeps the old objects -/
def CmpK (prog : Program) (w : World) (A : Around) (base : Heap) (P : Nat → Value → Prop) (bt : Nat → Nat → Bool) : Prop :=
  ∀ i j vi vj (s : Shared) (Q : Value → Shared → Prop) (E : Value → Shared → Prop), (∀ b o, base.get? b = some o → s.heap.get? b = some o) → P i vi → P j vj → Q (.bool (bt i j)) s → wpAny (model prog w) A (richCompare .Lt vi vj) Q E s
section
variable {R : Result → Shared → Prop} {I S : Addr} {fp wr : List Addr} {n : Nat} {P : Nat → Value → Prop} {St : Nat → Heap → Prop} {base : Heap}
theorem minK_loop (W : Walks prog w A.in1 I fp wr n P St) (bt : Nat → Nat → Bool) (hcmp : CmpK prog w A.in1 base P bt) (hSf : S ∉ fp) (hbw : ∀ b o, base.get? b = some o → b ∉ wr ∧ b ≠ S) :
    ∀ (k j : Nat) (s : Shared) (vb : Value) (c : Nat), n - (j + 1) = k → j + 1 ≤ n → St (j + 1) s.heap → P (argBest bt j) vb → (∀ b o, base.get? b = some o → s.heap.get? b = some o) →
    s.heap.get? S = some { cls := .type "list", dict := none, data := .seq #[vb, vb] c, slots := #[] } →
    (∀ v h' tk, P (argBest bt (n - 1)) v → (∀ b o, b ∉ wr → b ≠ S → s.heap.get? b = some o → h'.get? b = some o) → R (.ok (.ret v)) { s with heap := h', toks := tk }) →
    codeAny (model prog w) A (.builtin "min.loop" ⟨[.ref I, .none, .ref S], []⟩) R s := by
  have hSw : S ∉ wr := fun h => hSf (W.sub _ h)
  have hname : (toString "min" ++ toString ".loop" : String) = "min.loop" := by decide
  intro k
  induction k with
  | zero =>
    intro j s vb c hk hj hst hPb hkp hS hR
    have hin : j + 1 = n := by omega
    refine codeAny_builtin F.entry_min_loop ?_
    rw [Around.under_plainId F.plain_min_loop _]
    show wpAny _ A.in1 (seqItems? (.ref S) >>= _) _ _ s
    refine wpAny_bind (wpAny_seqItems hS rfl ?_)
    show wpAny _ A.in1 (tryCatch (pyNext (.ref I)) _ >>= _) _ _ s
    refine wpAny_bind (wpAny_tryCatch (W.done s _ _ (hin ▸ hst) fun h' tk hk' => ?_))
    have hS' := hk' S _ hSw hS
    show wpAny _ A.in1 (updateSeq S (fun _ => #[]) >>= _) _ _ _
    refine wpAny_bind (wpAny_updateSeq hS' rfl (wpAny_bind (wpAny_letGo (wpAny_pure ?_))))
    exact hR vb _ tk (by rw [← hin]; exact hPb) fun b o hbw hbS e => (Heap.get?_update_other _ _ (Ne.symm hbS)).trans (hk' b o hbw e)
  | succ k ih =>
    intro j s vb c hk hj hst hPb hkp hS hR
    have hlt : j + 1 < n := by omega
    refine codeAny_builtin F.entry_min_loop ?_
    rw [Around.under_plainId F.plain_min_loop _]
    show wpAny _ A.in1 (seqItems? (.ref S) >>= _) _ _ s
    refine wpAny_bind (wpAny_seqItems hS rfl ?_)
    show wpAny _ A.in1 (tryCatch (pyNext (.ref I)) _ >>= _) _ _ s
    refine wpAny_bind (wpAny_tryCatch (W.item (j + 1) s _ _ hlt hst fun v h' tk hP hst' hk' => ?_))
    have hS' := hk' S _ hSw hS
    have hkp' : ∀ b o, base.get? b = some o → h'.get? b = some o := fun b o e => hk' b o (hbw b o e).1 (hkp b o e)
    show wpAny _ A.in1 (tryCatch (holding [v, v] (richCompare .Lt v vb >>= _)) _ >>= _) _ _ _
    refine wpAny_bind (wpAny_tryCatch (wpAny_holding (wpAny_bind (hcmp (j + 1) (argBest bt j) v vb _ _ _ hkp' hP hPb (wpAny_bind (wpAny_holding (wpAny_truthy_bool (wpAny_bind (wpAny_letGo (wpAny_pure ?_))))))))))
    cases hb : bt (j + 1) (argBest bt j) with
    | true =>
      simp only [if_true]
      refine wpAny_bind (wpAny_updateSeq hS' rfl (wpAny_bind (wpAny_letGo ?_)))
      rw [hname]
      refine wpAny_pure ⟨plainId_quiet F.plain_min_loop _, ih (j + 1) _ v _ (by omega) hlt (W.frame _ _ _ hst' fun b hbf o e => ?_) (by simp only [argBest, hb, if_true]; exact hP) (fun b o e => ?_) (Heap.get?_update_self _ hS' rfl) fun v' h'' tk'' hP' hk'' => ?_⟩
      · exact (Heap.get?_update_other _ _ (fun h : S = b => hSf (by rw [h]; exact hbf))).trans e
      · exact (Heap.get?_update_other _ _ (Ne.symm (hbw b o e).2)).trans (hkp' b o e)
      · exact hR v' h'' tk'' hP' fun b o hbw hbS e => hk'' b o hbw hbS ((Heap.get?_update_other _ _ (Ne.symm hbS)).trans (hk' b o hbw e))
    | false =>
      simp only [Bool.false_eq_true, if_false]
      refine wpAny_bind (wpAny_letGo ?_)
      rw [hname]
      exact wpAny_pure ⟨plainId_quiet F.plain_min_loop _, ih (j + 1) _ vb c (by omega) hlt hst' (by simp only [argBest, hb, Bool.false_eq_true, if_false]; exact hPb) hkp' hS' fun v' h'' tk'' hP' hk'' => hR v' h'' tk'' hP' fun b o hbw hbS e => hk'' b o hbw hbS (hk' b o hbw e)⟩
theorem minK_first (W : Walks prog w A.in1 I fp wr n P St) (bt : Nat → Nat → Bool) (hcmp : CmpK prog w A.in1 base P bt) (hSf : S ∉ fp) (hbw : ∀ b o, base.get? b = some o → b ∉ wr ∧ b ≠ S) (hn : 0 < n) {s : Shared} {c : Nat} (hst : St 0 s.heap) (hkp : ∀ b o, base.get? b = some o → s.heap.get? b = some o)
    (hS : s.heap.get? S = some { cls := .type "list", dict := none, data := .seq #[] c, slots := #[] })
    (hR : ∀ v h' tk, P (argBest bt (n - 1)) v → (∀ b o, b ∉ wr → b ≠ S → s.heap.get? b = some o → h'.get? b = some o) → R (.ok (.ret v)) { s with heap := h', toks := tk }) :
    codeAny (model prog w) A (.builtin "min.loop" ⟨[.ref I, .none, .ref S], []⟩) R s := by
  have hSw : S ∉ wr := fun h => hSf (W.sub _ h)
  have hname : (toString "min" ++ toString ".loop" : String) = "min.loop" := by decide
  refine codeAny_builtin F.entry_min_loop ?_
  rw [Around.under_plainId F.plain_min_loop _]
  show wpAny _ A.in1 (seqItems? (.ref S) >>= _) _ _ s
  refine wpAny_bind (wpAny_seqItems hS rfl ?_)
  show wpAny _ A.in1 (tryCatch (pyNext (.ref I)) _ >>= _) _ _ s
  refine wpAny_bind (wpAny_tryCatch (W.item 0 s _ _ hn hst fun v h' tk hP hst' hk' => ?_))
  have hS' := hk' S _ hSw hS
  show wpAny _ A.in1 (updateSeq S (fun _ => #[v, v]) >>= _) _ _ _
  refine wpAny_bind (wpAny_updateSeq hS' rfl ?_)
  rw [hname]
  refine wpAny_pure ⟨plainId_quiet F.plain_min_loop _, minK_loop W bt hcmp hSf hbw _ 0 _ v _ rfl hn (W.frame _ _ _ hst' fun b hbf o e => ?_) hP (fun b o e => ?_) (Heap.get?_update_self _ hS' rfl) fun v' h'' tk'' hP' hk'' => ?_⟩
  · exact (Heap.get?_update_other _ _ (fun h : S = b => hSf (by rw [h]; exact hbf))).trans e
  · exact (Heap.get?_update_other _ _ (Ne.symm (hbw b o e).2)).trans (hk' b o (hbw b o e).1 (hkp b o e))
  · exact hR v' h'' tk'' hP' fun b o hbw hbS e => hk'' b o hbw hbS ((Heap.get?_update_other _ _ (Ne.symm hbS)).trans (hk' b o hbw e))
end
theorem call_minK {l : Addr} {vs : List Value} {bt : Nat → Nat → Bool} {Q : Value → Shared → Prop} (hh : A.handled = none) (hl : s.heap.IsList l vs.toArray) (hne : 0 < vs.length) (hcmp : CmpK prog w A.in1 s.heap (fun i v => vs[i]? = some v) bt)
    (h : ∀ v h' tk, vs[argBest bt (vs.length - 1)]? = some v → (∀ b o, s.heap.get? b = some o → h'.get? b = some o) → Q v { s with heap := h', toks := tk }) : wpAny (model prog w) A (call (.builtin "min") [.ref l]) Q E s := by
  have hname : (toString "min" ++ toString ".loop" : String) = "min.loop" := by decide
  refine call_function_tree F.kind_min F.plain_min F.entry_min (F.args_min1 _) ?_
  show wpAny _ A.in1 (Builtin.Builtins.bindParams "min" ["key", "default"] 0 ⟨[], []⟩ >>= _) _ _ s
  refine wpAny_bind (wpAny_of_eq (show Builtin.Builtins.bindParams "min" ["key", "default"] 0 ⟨[], []⟩ = pure [none, none] from rfl) ?_)
  refine wpAny_bind (wpAny_pure ?_)
  have hlt : l < s.heap.objs.size := by obtain ⟨_, e, _⟩ := hl; exact Heap.lt_size e
  refine wpAny_bind (wpAny_pyIter_list hl ?_)
  refine wpAny_bind (wpAny_newObj_type ?_)
  have W := Walks.list (prog := prog) (w := w) (A := A.in1) hh s.heap.objs.size l (Nat.ne_of_lt hlt) vs.toArray
  rw [hname]
  have hsz : (s.heap.push { cls := .type "list_iterator", data := .fields #[.ref l, .int 0 0] }).objs.size = s.heap.objs.size + 1 := Heap.size_push ..
  refine wpAny_pure ⟨plainId_quiet F.plain_min_loop _, minK_first (base := s.heap) (n := vs.toArray.size) W bt ?_ ?_ (fun b o e => ?_) (by simpa using hne) ?_ (fun b o e => Heap.get?_push_of_some _ (Heap.get?_push_of_some _ e)) (Heap.get?_push_size _ rfl) fun v h' tk hP hk => ?_⟩
  · intro i j vi vj s' Q' E' hkp hi hj hq
    exact hcmp i j vi vj s' Q' E' hkp (by simpa using hi) (by simpa using hj) hq
  · intro hm
    show False
    have hm' : (s.heap.push { cls := .type "list_iterator", data := .fields #[.ref l, .int 0 0] }).objs.size ∈ [s.heap.objs.size, l] := hm
    rw [hsz] at hm'
    rcases List.mem_cons.mp hm' with e | hm'
    · exact absurd e (Nat.succ_ne_self _)
    · have e : s.heap.objs.size + 1 = l := List.mem_singleton.mp hm'
      rw [← e] at hlt
      exact absurd hlt (Nat.not_lt.mpr (Nat.le_succ _))
  · have hb := Heap.lt_size e
    refine ⟨fun hm => ?_, ?_⟩
    · have hm' : b = s.heap.objs.size := List.mem_singleton.mp hm
      rw [hm'] at hb
      exact absurd hb (Nat.lt_irrefl _)
    · show b ≠ (s.heap.push { cls := .type "list_iterator", data := .fields #[.ref l, .int 0 0] }).objs.size
      rw [hsz]; exact Nat.ne_of_lt (Nat.lt_succ_of_lt hb)
  · exact ⟨⟨_, Heap.get?_push_of_some _ (Heap.get?_push_size _ rfl), rfl, rfl⟩, (hl.push _).push _⟩
  · refine h v h' tk (by simpa using hP) fun b o e => ?_
    have hb := Heap.lt_size e
    refine hk b o (fun hm => ?_) ?_ (Heap.get?_push_of_some _ (Heap.get?_push_of_some _ e))
    · have hm' : b = s.heap.objs.size := List.mem_singleton.mp hm
      rw [hm'] at hb
      exact absurd hb (Nat.lt_irrefl _)
    · show b ≠ (s.heap.push { cls := .type "list_iterator", data := .fields #[.ref l, .int 0 0] }).objs.size
      rw [hsz]; exact Nat.ne_of_lt (Nat.lt_succ_of_lt hb)
end
end TK

set_option maxHeartbeats 1000000
namespace TK
open PySem PySem.Spec L2 PyProof.Rows
variable {K : PySem.W.Frag}
/-! ## sorted -/
/-- data that can be sorted -/
structure sortOk (ds : List PyData) : Prop where
  al : PySem.W.AllAlike ds
  kd : (∀ d, d ∈ ds → ∃ xs, d = .tuple xs) ∨ PySem.W.Sortable ds
  dp : ∀ d, d ∈ ds → d.depth ≤ 60
theorem each_vals : ∀ {ys : List V} {its : List Value} {ds : List PyData}, Vals ys its → ys.length = ds.length → PySem.W.EachIs (fun v (b : V × PyData) => RelV b.1 v) its (ys.zip ds)
  | _, _, [], .nil, _ => .nil
  | _, _, _ :: _, .nil, h => by simp at h
  | _, _, [], .cons _ _, h => by simp at h
  | _, _, _ :: _, .cons r t, h => .cons r (each_vals t (by simpa using h))
theorem each_reads {h : Heap} : ∀ {ys : List V} {its : List Value} {ds : List PyData} {as : List Addr}, ys.length = ds.length → ReadsAll h its ds as → PySem.W.EachIs (fun v (b : V × PyData) => ∃ as, Reads h v b.2 as) its (ys.zip ds)
  | [], _, _, _, e, .nil => .nil
  | _ :: _, _, _, _, e, .nil => by simp at e
  | [], _, _, _, e, .cons _ _ => by simp at e
  | _ :: _, _, _, _, e, .cons r t => .cons ⟨_, r⟩ (each_reads (by simpa using e) t)
theorem vals_each : ∀ {its : List Value} {bs : List (V × PyData)}, PySem.W.EachIs (fun v (b : V × PyData) => RelV b.1 v) its bs → Vals (bs.map Prod.fst) its
  | _, _, .nil => .nil
  | _, _, .cons r t => .cons r (vals_each t)
theorem zip_snd {α β : Type} : ∀ {xs : List α} {ys : List β}, xs.length = ys.length → (xs.zip ys).map Prod.snd = ys
  | [], [], _ => rfl
  | [], _ :: _, h => by simp at h
  | _ :: _, [], h => by simp at h
  | _ :: _, _ :: _, h => by rw [List.zip_cons_cons, List.map_cons, zip_snd (by simpa using h)]
def rSortV (K : PySem.W.Frag) : List V → Hp → VK → Prop := fun vs H Q => ∃ (a : Addr) (ys : List V) (ds : List PyData), vs = [V.ref a] ∧ (SqL K H a ys ∨ SqT K H a ys) ∧ DpAll K H ys ds ∧ ys.length = ds.length ∧ sortOk ds ∧
  ∀ p, H p = none → Q (.ref p) (upd H p (.lst (((ys.zip ds).mergeSort (PySem.W.dataLe false Prod.snd)).map Prod.fst)))
section
variable {X : Cx}
theorem sorts_ok {prog : Program} {w : World} {A : Around} {s : Shared} {vs : List Value} {ds : List PyData} (e : PySem.W.EachIs (fun v d => ∃ as, Reads s.heap v d as) vs ds) (ok : sortOk ds) (hu : A.units + 60 < cLine) : PySem.W.SortsAt prog w A s (PySem.W.dataKind s.heap ds) vs := by
  have hu' : ∀ d, d ∈ ds → A.units + d.depth < cLine := fun d hd => Nat.lt_of_le_of_lt (Nat.add_le_add_left (ok.dp d hd) _) hu
  rcases ok.kd with h | h
  · exact sortsAt_tups e ok.al h hu'
  · exact PySem.W.SortsAt.data e ok.al h hu'
theorem cr_sortV (hu : X.A.units + 64 < cLine) : CallR X (.builtin "sorted") (rSortV X.K) := by
  intro pins s σ H vs us Q I r h
  obtain ⟨a, ys, ds, rfl, hs, dp, hl, ok, q⟩ := h
  rw [Vals.ref1 r]
  have key : ∀ its : List Value, Vals ys its → ys.length ≤ sizeLine → ∃ S : PySem.W.SortsAt X.prog X.w X.A.in1.in1 { s with heap := PySem.W.sortingHeap (PySem.W.copyHeap s.heap its) (s.heap.objs.size + 1) its } (PySem.W.dataKind (PySem.W.sortingHeap (PySem.W.copyHeap s.heap its) (s.heap.objs.size + 1) its) ((ys.zip ds).map Prod.snd)) its,
      ∃ v H', Inv X pins σ H' { s with heap := sortedAll s.heap its (PySem.W.sortVals (PySem.W.dataKind (PySem.W.sortingHeap (PySem.W.copyHeap s.heap its) (s.heap.objs.size + 1) its) ((ys.zip ds).map Prod.snd)) false its its).toArray } ∧ RelV v (.ref (s.heap.objs.size + 1)) ∧ Q v H' := by
    intro its rv hz
    obtain ⟨as, ra⟩ := Dp.readsAll I ds ys its dp rv
    have e1 := each_vals rv hl
    have e2 := each_reads hl ra
    have e3 : PySem.W.EachIs (fun v (b : V × PyData) => ∃ as, Reads (PySem.W.sortingHeap (PySem.W.copyHeap s.heap its) (s.heap.objs.size + 1) its) v b.2 as) its (ys.zip ds) := e2.mono fun _ _ ⟨as, r⟩ => ⟨as, PyProof.Rows.Reads.keeps (fun _ _ => PySem.W.sorting_copy_old) r⟩
    have ok' : sortOk ((ys.zip ds).map Prod.snd) := by rw [zip_snd hl]; exact ok
    refine ⟨sorts_ok (s := { s with heap := PySem.W.sortingHeap (PySem.W.copyHeap s.heap its) (s.heap.objs.size + 1) its }) (PySem.W.each_map (R := fun v d => ∃ as, Reads (PySem.W.sortingHeap (PySem.W.copyHeap s.heap its) (s.heap.objs.size + 1) its) v d as) Prod.snd e3) ok' (by show X.A.units + 1 + 1 + 60 < cLine; omega), ?_⟩
    have e4 := PySem.W.sortVals_data false e1 e3 ok'.al
    obtain ⟨ep, he'⟩ := PyProof.Rows.sortedAll_at s.heap its (PySem.W.sortVals (PySem.W.dataKind (PySem.W.sortingHeap (PySem.W.copyHeap s.heap its) (s.heap.objs.size + 1) its) ((ys.zip ds).map Prod.snd)) false its its).toArray
    have hlen : (((ys.zip ds).mergeSort (PySem.W.dataLe false Prod.snd)).map Prod.fst).length ≤ sizeLine := by
      rw [List.length_map, List.length_mergeSort, List.length_zip, ← hl, Nat.min_self]; exact hz
    exact ⟨.ref _, upd H (s.heap.objs.size + 1) (.lst _), I.laid (t' := s.toks) (fun _ _ => PyProof.Rows.sortedAll_old) (Nat.le_succ _) ⟨hlen, _, ep, vals_each e4, he'⟩, rfl, q _ (I.hok.fresh (Nat.le_succ _))⟩
  rcases hs with hs | hs
  · obtain ⟨its, rv, hL, hz⟩ := I.list hs
    obtain ⟨S, fin⟩ := key its rv hz
    exact PySem.W.sorted_vals hL.isList S (by rw [← rv.length]; exact hz) fin
  · obtain ⟨its, rv, hL, hz⟩ := I.tuple hs
    obtain ⟨S, fin⟩ := key its rv hz
    exact sorted_valsT hL S (by rw [← rv.length]; exact hz) fin
theorem rp_zip {H : Hp} {G : GH} {Z : ZS} : ∀ {vs : List V} {xs : List D}, RpAll K H G Z vs xs → ∀ z, z ∈ vs.zip xs → Rp K H G Z z.1 z.2
  | _, _, .nil, z, h => by simp at h
  | _, _, .cons r t, z, h => by
    rw [List.zip_cons_cons] at h
    rcases List.mem_cons.mp h with rfl | h
    · exact r
    · exact rp_zip t z h
theorem rp_unzip {H : Hp} {G : GH} {Z : ZS} : ∀ {zs : List (V × D)}, (∀ z, z ∈ zs → Rp K H G Z z.1 z.2) → RpAll K H G Z (zs.map Prod.fst) (zs.map Prod.snd)
  | [], _ => .nil
  | z :: r, h => .cons (h z List.mem_cons_self) (rp_unzip fun y hy => h y (List.mem_cons_of_mem _ hy))
theorem zip_toPys : ∀ (vs : List V) (xs : List D), (vs.zip xs).map (fun z => (z.1, toPy z.2)) = vs.zip (toPys xs)
  | [], _ => by simp
  | _ :: _, [] => by rw [toPys]; simp
  | _ :: vs, _ :: xs => by rw [List.zip_cons_cons, List.map_cons, zip_toPys vs xs, toPys, List.zip_cons_cons]
/-- sorted, as data -/
def sortD (xs : List D) : List D := xs.mergeSort (PySem.W.dataLe false toPy)
theorem sortD_rp {H : Hp} {G : GH} {Z : ZS} {vs : List V} {xs : List D} (al : RpAll K H G Z vs xs) : RpAll K H G Z (((vs.zip (toPys xs)).mergeSort (PySem.W.dataLe false Prod.snd)).map Prod.fst) (sortD xs) := by
  have e1 : ((vs.zip xs).mergeSort (PySem.W.dataLe false fun z => toPy z.2)).map (fun z => (z.1, toPy z.2)) = (vs.zip (toPys xs)).mergeSort (PySem.W.dataLe false Prod.snd) := by
    rw [← zip_toPys]; exact PySem.W.sort_maps _ fun _ _ _ _ => rfl
  have e2 : ((vs.zip xs).mergeSort (PySem.W.dataLe false fun z => toPy z.2)).map Prod.snd = sortD xs := by
    have : (vs.zip xs).map Prod.snd = xs := zip_snd al.length
    unfold sortD
    rw [← congrArg (List.mergeSort · (PySem.W.dataLe false toPy)) this]
    exact PySem.W.sort_maps _ fun _ _ _ _ => rfl
  rw [← e1, ← e2, List.map_map]
  exact rp_unzip (zs := (vs.zip xs).mergeSort (PySem.W.dataLe false fun z => toPy z.2)) fun z hz => rp_zip al z (List.mem_mergeSort.mp hz)
def sortXs (c : Bool) (xs : List D) (G : GH) (Q : DK) : Prop := plains xs = true ∧ sortOk (toPys xs) ∧ newL c (sortD xs) G Q
def dSortV (c : Bool) : DC := fun ds G Q => match ds with
  | [d] => (match vw G d with | .lst xs => sortXs c xs G Q | .tup xs => sortXs c xs G Q | _ => False)
  | _ => False
theorem toPys_len {xs : List D} : (toPys xs).length = xs.length := by
  induction xs with
  | nil => rw [toPys]; rfl
  | cons x r ih => rw [toPys, List.length_cons, List.length_cons, ih]
theorem cd_sortV (K : PySem.W.Frag) (c : Bool) : CD K (rSortV K) (dSortV c) := fun {H G Z vs ds Q0 Q} R al h k => by
  unfold dSortV at h
  split at h
  · obtain ⟨v, rfl, r⟩ := al.one
    split at h
    · rename_i xs e
      obtain ⟨a, us, rfl, ha, al2⟩ := vw_lst R r e
      exact ⟨a, us, toPys xs, rfl, .inl (.inl (.inl ha)), RpAll.dp K al2 h.1, al2.length.trans toPys_len.symm, h.2.1, newL_ok R (sortD_rp al2) h.2.2 k⟩
    · rename_i xs e
      obtain ⟨a, us, rfl, ha, al2⟩ := vw_tup r e
      exact ⟨a, us, toPys xs, rfl, .inr (.inl (.inl ha)), RpAll.dp K al2 h.1, al2.length.trans toPys_len.symm, h.2.1, newL_ok R (sortD_rp al2) h.2.2 k⟩
    · exact h.elim
  · exact h.elim
/-! what comes out -/
theorem leD_total : PySem.W.TotalLe (PySem.W.dataLe false toPy) := PySem.W.sortLe_total _ _ _
theorem sortD_perm (xs : List D) : (sortD xs).Perm xs := List.mergeSort_perm _ _
theorem sortD_pw (xs : List D) : (sortD xs).Pairwise (fun a b => PySem.W.dataLt (toPy b) (toPy a) = false) := (PySem.W.sort_pairwise leD_total xs).imp fun {a b} h => by
  have : (!PySem.W.dataLt (toPy b) (toPy a)) = true := h
  simpa using this
theorem dataLt_int' (i j : Int) : PySem.W.dataLt (toPy (.int i)) (toPy (.int j)) = decide (i < j) := by rw [toPy, toPy]; exact PySem.W.dataLt_int i j
theorem toPysM {ds : List D} : toPys ds = ds.map toPy := by
  induction ds with
  | nil => rw [toPys]; rfl
  | cons x r ih => rw [toPys, List.map_cons, ih]
theorem plainsA {ds : List D} : plains ds = ds.all plain := by
  induction ds with
  | nil => rw [plains]; rfl
  | cons x r ih => rw [plains, List.all_cons, ih]
theorem vals_getU : ∀ {xs : List V} {us : List Value} {i : Nat} {u : Value}, Vals xs us → us[i]? = some u → ∃ x, xs[i]? = some x ∧ RelV x u
  | _, _, _, _, .nil, e => by simp at e
  | _, _, 0, _, .cons r _, e => by simp at e; subst e; exact ⟨_, rfl, r⟩
  | _, _, i + 1, _, .cons _ t, e => by
    obtain ⟨x, h1, h2⟩ := vals_getU (i := i) t (by simpa using e)
    exact ⟨x, by simpa using h1, h2⟩
theorem sortOk_ints (ns : List Int) : sortOk (toPys (ns.map D.int)) := by
  have all : ∀ d, d ∈ toPys (ns.map D.int) → ∃ i, d = .int i := fun d hd => by
    rw [toPysM, List.map_map] at hd
    obtain ⟨i, _, rfl⟩ := List.mem_map.mp hd
    exact ⟨i, by simp [toPy]⟩
  refine ⟨fun d hd d' hd' => ?_, .inr (.inr fun d hd => ?_), fun d hd => ?_⟩
  · obtain ⟨i, rfl⟩ := all d hd
    obtain ⟨j, rfl⟩ := all d' hd'
    rfl
  · obtain ⟨i, rfl⟩ := all d hd
    exact ⟨fun z => (nomatch z), fun _ z => (nomatch z)⟩
  · obtain ⟨i, rfl⟩ := all d hd
    exact Nat.zero_le _
theorem plains_ints (ns : List Int) : plains (ns.map D.int) = true := by
  rw [plainsA, List.all_eq_true]
  intro x hx
  obtain ⟨i, _, rfl⟩ := List.mem_map.mp hx
  rfl
/-- the sorted ints -/
def sortI (ns : List Int) : List Int := ns.mergeSort fun a b => decide (a ≤ b)
theorem sortD_ints (ns : List Int) : sortD (ns.map D.int) = (sortI ns).map D.int := by
  unfold sortD sortI
  refine (PySem.W.sort_maps D.int fun a _ b _ => ?_).symm
  show decide (a ≤ b) = !PySem.W.dataLt (toPy (.int b)) (toPy (.int a))
  rw [dataLt_int']
  by_cases h : a ≤ b
  · rw [decide_eq_true h, decide_eq_false (by omega)]; rfl
  · rw [decide_eq_false h, decide_eq_true (by omega)]; rfl
theorem sortI_perm (ns : List Int) : (sortI ns).Perm ns := List.mergeSort_perm _ _
theorem sortI_pw (ns : List Int) : (sortI ns).Pairwise (· ≤ ·) := by
  have := List.pairwise_mergeSort (le := fun a b : Int => decide (a ≤ b)) (fun a b c h1 h2 => by simp at *; omega) (fun a b => by simp; omega) ns
  exact this.imp fun {a b} h => by simpa using h
/-! ## the least -/
structure minOk (ds : List PyData) : Prop where
  al : PySem.W.AllAlike ds
  nn : ∀ d, d ∈ ds → d ≠ .none
  dp : ∀ d, d ∈ ds → d.depth ≤ 60
theorem argBest_swo {bt : Nat → Nat → Bool} (asym : ∀ x y, bt x y = true → bt y x = false) (tr : ∀ x y z, bt y x = false → bt z y = false → bt z x = false) : ∀ k, argBest bt k ≤ k ∧ ∀ j, j ≤ k → bt j (argBest bt k) = false
  | 0 => ⟨Nat.le_refl _, fun j hj => by
    have : j = 0 := by omega
    subst this
    show bt 0 0 = false
    cases h : bt 0 0 with
    | false => rfl
    | true => exact (asym 0 0 h).symm.trans h ▸ rfl⟩
  | k + 1 => by
    obtain ⟨h1, h2⟩ := argBest_swo asym tr k
    simp only [argBest]
    cases hb : bt (k + 1) (argBest bt k) with
    | true =>
      simp only [if_true]
      refine ⟨Nat.le_refl _, fun j hj => ?_⟩
      rcases Nat.lt_or_ge j (k + 1) with hlt | hge
      · exact tr _ _ _ (asym _ _ hb) (h2 j (by omega))
      · have : j = k + 1 := by omega
        subst this
        cases h : bt (k + 1) (k + 1) with
        | false => rfl
        | true => have := asym _ _ h; rw [h] at this; cases this
    | false =>
      simp only [Bool.false_eq_true, if_false]
      refine ⟨by omega, fun j hj => ?_⟩
      rcases Nat.lt_or_ge j (k + 1) with hlt | hge
      · exact h2 j (by omega)
      · have : j = k + 1 := by omega
        subst this; exact hb
def rMinV (K : PySem.W.Frag) : List V → Hp → VK → Prop := fun vs H Q => ∃ (a : Addr) (ys : List V) (ds : List PyData), vs = [V.ref a] ∧ SqL K H a ys ∧ DpAll K H ys ds ∧ ys.length = ds.length ∧ 0 < ds.length ∧ minOk ds ∧
  ∀ (j : Nat) (y : V) (d : PyData), ys[j]? = some y → ds[j]? = some d → (∀ d', d' ∈ ds → PySem.W.dataLt d' d = false) → Q y H
theorem reads_at {h : Heap} : ∀ {its : List Value} {ds : List PyData} {as : List Addr} {j : Nat} {v : Value}, ReadsAll h its ds as → its[j]? = some v → ∃ d as', ds[j]? = some d ∧ Reads h v d as'
  | _, _, _, _, _, .nil, e => by simp at e
  | _, _, _, 0, _, .cons r _, e => by simp at e; subst e; exact ⟨_, _, rfl, r⟩
  | _, _, _, j + 1, _, .cons _ t, e => by
    obtain ⟨d, as', h1, h2⟩ := reads_at (j := j) t (by simpa using e)
    exact ⟨d, as', by simpa using h1, h2⟩
theorem cr_minV {X : Cx} (hc : X.calm = true) (hu : X.A.units + 64 < cLine) : CallR X (.builtin "min") (rMinV X.K) := by
  intro pins s σ H vs us Q I r h
  obtain ⟨a, ys, ds, rfl, hs, dp, hl, hne, ok, q⟩ := h
  rw [Vals.ref1 r]
  obtain ⟨its, rv, hL, hz⟩ := I.list hs
  obtain ⟨as, ra⟩ := Dp.readsAll I ds ys its dp rv
  have hil : its.length = ds.length := rv.length.symm.trans hl
  refine call_minK (bt := fun i j => PySem.W.dataLt (ds.getD i .none) (ds.getD j .none)) (I.ok.hd hc) hL.isList (by omega) (fun i j vi vj s' Q' E' hkp hi hj hq => ?_) fun v h' tk hv hk => ?_
  · obtain ⟨di, as1, e1, r1⟩ := reads_at ra hi
    obtain ⟨dj, as2, e2, r2⟩ := reads_at ra hj
    have m1 := List.mem_of_getElem? e1
    have m2 := List.mem_of_getElem? e2
    have d1 := ok.dp di m1
    simp only [List.getD_eq_getElem?_getD, e1, e2, Option.getD_some] at hq
    exact PySem.W.rcLt_alike di dj X.A.in1 s' vi vj as1 as2 (PyProof.Rows.Reads.keeps hkp r1) (PyProof.Rows.Reads.keeps hkp r2) (ok.al _ m1 _ m2) (ok.nn _ m1) (by have := Nat.min_le_left di.depth dj.depth; show X.A.units + 1 + _ < _; omega) X.prog X.w E' Q' hq
  · have tot : PySem.W.TotalLe (PySem.W.dataLe false (fun i : Nat => ds.getD i .none)) := PySem.W.sortLe_total _ _ _
    have as : ∀ x y : Nat, PySem.W.dataLt (ds.getD x .none) (ds.getD y .none) = true → PySem.W.dataLt (ds.getD y .none) (ds.getD x .none) = false := fun x y h => by
      rcases tot.total x y with z | z
      · have : (!PySem.W.dataLt (ds.getD y .none) (ds.getD x .none)) = true := z
        simpa using this
      · have : (!PySem.W.dataLt (ds.getD x .none) (ds.getD y .none)) = true := z
        rw [h] at this; cases this
    have tr : ∀ x y z : Nat, PySem.W.dataLt (ds.getD y .none) (ds.getD x .none) = false → PySem.W.dataLt (ds.getD z .none) (ds.getD y .none) = false → PySem.W.dataLt (ds.getD z .none) (ds.getD x .none) = false := fun x y z h1 h2 => by
      have : (!PySem.W.dataLt (ds.getD z .none) (ds.getD x .none)) = true := tot.trans x y z (show (!PySem.W.dataLt (ds.getD y .none) (ds.getD x .none)) = true by rw [h1]; rfl) (show (!PySem.W.dataLt (ds.getD z .none) (ds.getD y .none)) = true by rw [h2]; rfl)
      simpa using this
    obtain ⟨b1, b2⟩ := argBest_swo (bt := fun i j => PySem.W.dataLt (ds.getD i .none) (ds.getD j .none)) as tr (its.length - 1)
    obtain ⟨y, hy, ry⟩ := vals_getU rv hv
    obtain ⟨d, as1, e1, r1⟩ := reads_at ra hv
    refine ⟨y, H, I.kept hk, ry, q _ y d hy e1 fun d' hd' => ?_⟩
    obtain ⟨j, hj, e2⟩ := List.mem_iff_getElem.mp hd'
    have := b2 j (by omega)
    simp only [List.getD_eq_getElem?_getD] at this
    rw [List.getElem?_eq_getElem hj, e2] at this
    simp only [List.getD_eq_getElem?_getD] at e1
    rw [e1] at this
    exact this
end
end TK

set_option maxHeartbeats 1000000
namespace TK
open PySem PySem.Spec L2 PyProof.Rows
variable {K : PySem.W.Frag}
/-! ## min of data -/
def dMinD : DC := fun ds G Q => match ds with
  | [d] => (match vw G d with | .lst xs => plains xs = true ∧ xs ≠ [] ∧ minOk (toPys xs) ∧ ∀ m, m ∈ xs → (∀ y, y ∈ xs → PySem.W.dataLt (toPy y) (toPy m) = false) → Q m G | _ => False)
  | _ => False
theorem cd_minD (K : PySem.W.Frag) : CD K (rMinV K) dMinD := fun {H G Z vs ds Q0 Q} R al h k => by
  unfold dMinD at h
  split at h
  · obtain ⟨v, rfl, r⟩ := al.one
    split at h
    · rename_i xs e
      obtain ⟨a, us, rfl, ha, al2⟩ := vw_lst R r e
      refine ⟨a, us, toPys xs, rfl, .inl (.inl ha), RpAll.dp K al2 h.1, al2.length.trans toPys_len.symm, by rw [toPys_len]; exact List.length_pos_iff.mpr h.2.1, h.2.2.1, fun j y d hy hd hm => ?_⟩
      obtain ⟨m, em, rm⟩ := al2.getV hy
      rw [toPysM, List.getElem?_map, em] at hd
      cases hd
      exact k.here R (h.2.2.2 m (List.mem_of_getElem? em) fun y hy => hm _ (by rw [toPysM]; exact List.mem_map.mpr ⟨y, hy, rfl⟩)) rm
    · exact h.elim
  · exact h.elim
/-! ## sorted of a dict with tuples of ints as keys -/
abbrev tupI (k : List Int) : PyData := .tuple (k.map .int)
def sortK (kz : List (List Int)) : List (List Int) := kz.mergeSort (PySem.W.dataLe false tupI)
def rSortDT : List V → Hp → VK → Prop := fun vs H Q => ∃ (d : Addr) (kvs : List (List Key × V)) (kz : List (List Int)), vs = [V.ref d] ∧ Rd H d (.dT kvs) ∧ kvs.map (·.1) = kz.map (fun k => k.map Sum.inl) ∧
  ∀ (p : Addr) (zs : List (List Int × Addr)), H p = none → zs.map Prod.fst = sortK kz → (∀ z, z ∈ zs → H z.2 = some (.tup (z.1.map V.int))) → Q (.ref p) (upd H p (.lst (zs.map fun z => V.ref z.2)))
theorem alike_tupI (a b : List Int) : PySem.W.alike (tupI a) (tupI b) = true := by
  show PySem.W.alike (.tuple (a.map .int)) (.tuple (b.map .int)) = true
  rw [PySem.W.alike]; exact PySem.W.alike_ints a b
theorem depth_tupI (a : List Int) : (tupI a).depth ≤ 60 := by
  show (PyData.tuple (a.map .int)).depth ≤ 60
  rw [PyData.depth, PySem.W.depth_ints]; decide
theorem sortOk_tupI (kz : List (List Int)) : sortOk (kz.map tupI) := by
  refine ⟨fun d hd d' hd' => ?_, .inl fun d hd => ?_, fun d hd => ?_⟩
  · obtain ⟨a, _, rfl⟩ := List.mem_map.mp hd
    obtain ⟨b, _, rfl⟩ := List.mem_map.mp hd'
    exact alike_tupI a b
  · obtain ⟨a, _, rfl⟩ := List.mem_map.mp hd
    exact ⟨_, rfl⟩
  · obtain ⟨a, _, rfl⟩ := List.mem_map.mp hd
    exact depth_tupI a
theorem dp_ints {H : Hp} : ∀ ns : List Int, DpAll K H (ns.map V.int) (ns.map PyData.int)
  | [] => .nil
  | n :: r => .cons (.int n) (dp_ints r)
theorem kV_ints (ns : List Int) : (ns.map (Sum.inl : Int → Key)).map kV = ns.map V.int := by rw [List.map_map]; rfl
section
variable {X : Cx}
theorem cr_sortDT (hc : X.calm = true) (hu : X.A.units + 64 < cLine) : CallR X (.builtin "sorted") rSortDT := by
  intro pins s σ H xs us Q I r h
  obtain ⟨d, kvs, kz, rfl, hd, hkz, q⟩ := h
  obtain ⟨u, rfl, rx⟩ := r.one
  cases rx
  obtain ⟨z, hs, ks, pr, o, es, ep, ho, hx, hdt, he, hn⟩ := (show ObjOk X.prog X.w H s.heap d (.dT kvs) from hd.ok I.hok)
  have l1 : es.size = ks.length := size_of_entries he
  have l2 : kvs.length = ks.length := Paired.length pr
  have l3 : kz.length = ks.length := by
    have e := congrArg List.length hkz
    rw [List.length_map, List.length_map] at e
    omega
  refine Calls.call_function_entry PyProof.Rows.kind_sorted PyProof.Rows.plain_sorted PyProof.Rows.entry_sorted (PyProof.Rows.args_sorted1 _) ?_
  unfold Builtin.«sorted»
  refine wpAny_bind (m := checkCount "sorted" 1 1 _) (wpAny_pure ?_)
  refine wpAny_bind (PySem.W.kdu_collect (A := X.A.in1) (kdl_raw hs hx hdt) (I.ok.hd hc) ho (by omega) fun h' tk acc kp it => ?_)
  have ea : acc.toList = ks.map fun x => Value.ref x.2.1 := by
    have hl : acc.toList.length = ks.length := by rw [Array.length_toList, it.1]; exact l1
    apply List.ext_getElem?
    intro j
    rw [List.getElem?_map]
    cases hj : acc.toList[j]? with
    | none =>
      have h1 := List.getElem?_eq_none_iff.mp hj
      rw [List.getElem?_eq_none (by omega)]
      rfl
    | some v =>
      obtain ⟨en, hen, hv⟩ := it.2 j v (by rw [← Array.getElem?_toList]; exact hj)
      have qe := entry_at he j
      rw [hen] at qe
      cases hb : ks[j]? with
      | none => rw [hb] at qe; exact nomatch (show some en = none from qe)
      | some b =>
        rw [hb] at qe
        have e2 : en = entryOfKey (tupleKind (mixKind X.prog X.w)) b := Option.some.inj qe
        rw [hv, e2]
        rfl
  have I1 : Inv X pins σ H { s with heap := h', toks := tk } := I.kept kp
  have hal : acc.toList.length = kz.length := by rw [ea, List.length_map, l3]
  have hzl : acc.toList.length ≤ sizeLine := by omega
  have ik := isKeys_of pr
  have pz : ∀ {kvs : List (List Key × V)} {kz : List (List Int)} {bs : List Addr}, IsKeys H kvs bs → kvs.map (·.1) = kz.map (fun k => k.map Sum.inl) →
      PySem.W.EachIs (fun v (b : List Int × Addr) => v = Value.ref b.2 ∧ H b.2 = some (.tup (b.1.map V.int))) (bs.map Value.ref) (kz.zip bs) := by
    intro kvs kz bs ik
    unfold IsKeys at ik
    induction ik generalizing kz with
    | nil => intro e; cases kz with
      | nil => exact .nil
      | cons _ _ => simp at e
    | @cons p b ps bs hp t ih =>
      intro e
      cases kz with
      | nil => simp at e
      | cons k kz =>
        rw [List.map_cons, List.map_cons] at e
        obtain ⟨e1, e2⟩ := List.cons.inj e
        refine .cons ⟨rfl, ?_⟩ (ih e2)
        rw [← kV_ints, ← e1]; exact hp
  have e1 := pz ik hkz
  have ea2 : (ks.map fun x => x.2.1).map Value.ref = acc.toList := by rw [ea, List.map_map]; rfl
  rw [ea2] at e1
  have e2 : PySem.W.EachIs (fun v (b : List Int × Addr) => ∃ as, Reads h' v (tupI b.1) as) acc.toList (kz.zip (ks.map fun x => x.2.1)) := e1.mono fun v b ⟨h1, h2⟩ => by
    subst h1
    exact Dp.reads I1 (tupI b.1) (.ref b.2) (.ref b.2) (.tup (.inl (.inl h2)) (dp_ints b.1)) rfl
  refine wpAny_bind (wpAny_newList ?_ hzl)
  have hoL : (h'.push (seqObj "list" acc.toList.toArray 0)).get? h'.objs.size = some (seqObj "list" acc.toList.toArray 0) := Heap.get?_push_size _ rfl
  show wpAny _ _ _ _ _ { s with heap := h'.push (seqObj "list" acc.toList.toArray 0), toks := tk }
  have e3 : PySem.W.EachIs (fun v (b : List Int × Addr) => ∃ as, Reads (PySem.W.sortingHeap (h'.push (seqObj "list" acc.toList.toArray 0)) h'.objs.size acc.toList) v (tupI b.1) as) acc.toList (kz.zip (ks.map fun x => x.2.1)) :=
    e2.mono fun _ _ ⟨as, r⟩ => ⟨as, PyProof.Rows.Reads.keeps (fun b o e => PySem.W.sortingHeap_old (Nat.ne_of_lt (Heap.lt_size e)) (Heap.get?_push_of_some _ e)) r⟩
  have em : (kz.zip (ks.map fun x => x.2.1)).map (fun b => tupI b.1) = kz.map tupI := by
    have : (kz.zip (ks.map fun x => x.2.1)).map Prod.fst = kz := List.map_fst_zip (by rw [List.length_map]; omega)
    rw [← congrArg (List.map tupI) this, List.map_map]; rfl
  have ok : sortOk ((kz.zip (ks.map fun x => x.2.1)).map fun b : List Int × Addr => tupI b.1) := by rw [em]; exact sortOk_tupI kz
  have S := sorts_ok (prog := X.prog) (w := X.w) (A := X.A.in1.in1) (s := { s with heap := PySem.W.sortingHeap (h'.push (seqObj "list" acc.toList.toArray 0)) h'.objs.size acc.toList, toks := tk }) (PySem.W.each_map (R := fun v d => ∃ as, Reads (PySem.W.sortingHeap (h'.push (seqObj "list" acc.toList.toArray 0)) h'.objs.size acc.toList) v d as) (fun b : List Int × Addr => tupI b.1) e3) ok (by show X.A.units + 1 + 1 + 60 < cLine; omega)
  have e4 := PySem.W.sortVals_data false e1 e3 ok.al
  refine wpAny_bind (wpAny_holding (wpAny_call_entry PyProof.Rows.slot_list_sort ⟨_, hoL, rfl⟩ PyProof.Rows.entry_list_sort
    (PySem.W.list_sort_vals (s := { s with heap := h'.push (seqObj "list" acc.toList.toArray 0), toks := tk }) hoL S hzl ⟨_, rfl, ?_⟩) (PyProof.Rows.args_list_sort _)))
  obtain ⟨e', he'⟩ := PyProof.Rows.sortedHeap_at (vs := acc.toList) (out := (PySem.W.sortVals (PySem.W.dataKind (PySem.W.sortingHeap (h'.push (seqObj "list" acc.toList.toArray 0)) h'.objs.size acc.toList) ((kz.zip (ks.map fun x => x.2.1)).map fun b : List Int × Addr => tupI b.1)) false acc.toList acc.toList).toArray) hoL
  have vout : ∀ {out : List Value} {bs : List (List Int × Addr)}, PySem.W.EachIs (fun v (b : List Int × Addr) => v = Value.ref b.2 ∧ H b.2 = some (.tup (b.1.map V.int))) out bs → Vals (bs.map fun z => V.ref z.2) out ∧ ∀ z, z ∈ bs → H z.2 = some (.tup (z.1.map V.int)) := by
    intro out bs e
    induction e with
    | nil => exact ⟨.nil, fun z hz => absurd hz (by simp)⟩
    | cons h t ih =>
      refine ⟨.cons (show RelV (V.ref _) _ from h.1) ih.1, fun z hz => ?_⟩
      rcases List.mem_cons.mp hz with rfl | hz
      · exact h.2
      · exact ih.2 z hz
  obtain ⟨v1, v2⟩ := vout e4
  have hlen : (((kz.zip (ks.map fun x => x.2.1)).mergeSort (PySem.W.dataLe false fun b : List Int × Addr => tupI b.1)).map fun z => V.ref z.2).length ≤ sizeLine := by
    rw [List.length_map, List.length_mergeSort, List.length_zip, List.length_map]; omega
  refine wpAny_pure ⟨_, rfl, .ref h'.objs.size, upd H h'.objs.size (.lst _), I1.laid (t' := tk) (fun b u e => ?_) (Nat.le_refl _)
    (show ObjOk X.prog X.w _ _ _ (.lst _) from ⟨hlen, _, e', v1, he'⟩), rfl, q _ ((kz.zip (ks.map fun x => x.2.1)).mergeSort (PySem.W.dataLe false fun b : List Int × Addr => tupI b.1)) (I1.hok.fresh (Nat.le_refl _)) ?_ v2⟩
  · have hb : b < h'.objs.size := Heap.lt_size e
    rw [PyProof.Rows.sortedHeap_old (Nat.ne_of_lt hb) (by rw [size_push']; exact Nat.lt_succ_of_lt hb)]
    exact Heap.get?_push_of_some _ e
  · unfold sortK
    have : (kz.zip (ks.map fun x => x.2.1)).map Prod.fst = kz := List.map_fst_zip (by rw [List.length_map]; omega)
    rw [← congrArg (List.mergeSort · (PySem.W.dataLe false tupI)) this]
    exact PySem.W.sort_maps _ fun _ _ _ _ => rfl
end
end TK

set_option maxHeartbeats 1000000
namespace TK
open PySem PySem.Spec L2 PyProof.Rows
variable {K : PySem.W.Frag}
/-- a tuple of the heap is no cell, and not hidden -/
theorem tup_free {H : Hp} {G : GH} {Z : ZS} {a : Addr} {vs : List V} (R : HRep K H G Z) (h : H a = some (.tup vs)) : G a = none ∧ ¬ Z a := by
  constructor
  · cases e : G a with
    | none => rfl
    | some o =>
      obtain ⟨ho, h1, h2⟩ := R.cell a o e
      rw [h] at h1
      cases h1
      cases o <;> exact h2.elim
  · intro z; exact (R.nco a z).2.2 vs h
def keyD : Key → D
  | .inl i => .int i
  | .inr x => .str x
theorem rp_keys {H : Hp} {G : GH} {Z : ZS} : ∀ ks : List Key, RpAll K H G Z (ks.map kV) (ks.map keyD)
  | [] => .nil
  | .inl i :: r => .cons (.int i) (rp_keys r)
  | .inr x :: r => .cons (.str x) (rp_keys r)
theorem rp_tupK {H : Hp} {G : GH} {Z : ZS} {a : Addr} {ks : List Key} (R : HRep K H G Z) (h : H a = some (.tup (ks.map kV))) : Rp K H G Z (.ref a) (.tup (ks.map keyD)) := .tup (tup_free R h).1 (tup_free R h).2 h (rp_keys ks)
theorem rp_tupI {H : Hp} {G : GH} {Z : ZS} {a : Addr} {ns : List Int} (R : HRep K H G Z) (h : H a = some (.tup (ns.map V.int))) : Rp K H G Z (.ref a) (.tup (ns.map D.int)) := .tup (tup_free R h).1 (tup_free R h).2 h (RpAll.ofInts ns)
/-! ## sorted, any -/
def dSortA (c : Bool) : DC := fun ds G Q => match ds with
  | [.ref a] => (match G a with
    | some (.dT kds) => ∃ kz : List (List Int), kds.map (·.1) = kz.map (fun k => k.map Sum.inl) ∧ newL c ((sortK kz).map fun k => .tup (k.map D.int)) G Q
    | some (.lst xs) => sortXs c xs G Q
    | _ => False)
  | [.lst xs] => sortXs c xs G Q
  | [.tup xs] => sortXs c xs G Q
  | _ => False
theorem cd_sortA (K : PySem.W.Frag) (c : Bool) : CD K (fun xs H Q => rSortV K xs H Q ∨ rSortDT xs H Q) (dSortA c) := fun {H G Z vs ds Q0 Q} R al h k => by
  unfold dSortA at h
  split at h
  · rename_i a
    split at h
    · rename_i kds e
      obtain ⟨kz, h1, h2⟩ := h
      obtain ⟨v, rfl, r⟩ := al.one
      cases r
      obtain ⟨ho, q1, q2⟩ := R.cell a _ e
      cases ho <;> first | exact q2.elim | skip
      rename_i kvs
      refine .inr ⟨a, kvs, kz, rfl, .of q1, (PairR.keys q2).trans h1, fun p zs hp hz hH => ?_⟩
      have al2 : RpAll K H G Z (zs.map fun z => V.ref z.2) ((sortK kz).map fun k => .tup (k.map D.int)) := by
        rw [← hz, List.map_map]
        clear hz
        induction zs with
        | nil => exact .nil
        | cons z zs ih => exact .cons (rp_tupI R (hH z List.mem_cons_self)) (ih fun y hy => hH y (List.mem_cons_of_mem _ hy))
      exact newL_ok R al2 h2 k p hp
    · rename_i xs e
      exact .inl (cd_sortV K c R al (show dSortV c [.ref a] G Q0 by unfold dSortV; simp only [vw, e]; exact h) k)
    · exact h.elim
  · exact .inl (cd_sortV K c R al (show dSortV c _ G Q0 from h) k)
  · exact .inl (cd_sortV K c R al (show dSortV c _ G Q0 from h) k)
  · exact h.elim
theorem call_sortA {X : Cx} (hc : X.calm = true) (hu : X.A.units + 64 < cLine) : CallR X (.builtin "sorted") (fun xs H Q => rSortV X.K xs H Q ∨ rSortDT xs H Q) := (cr_sortV hu).or (cr_sortDT hc hu)
/-! ## {k: v} with a tuple as its key -/
def tDisp1T (tk tv : TE) : TE := fun σ H Q => ∀ p, H p = none → tk σ (upd H p (.dT [])) fun x H1 => tv σ H1 fun y H2 => ∃ (b : Addr) (ks : List Key), x = .ref b ∧ H2 b = some (.tup (ks.map kV)) ∧ H2 p = some (.dT []) ∧ Q (.ref p) (upd H2 p (.dT [(ks, y)]))
section
variable {X : Cx}
theorem pe_disp1T {k v : Expr} {pos : Pos} {tk tv : TE} (hu : X.A.units + 1 < cLine) (hk : PE X k tk) (hv : PE X v tv) : PE X (.Dict [some k] [v] pos) (tDisp1T tk tv) := by
  refine ⟨fun pins s σ H Q I q => ?_⟩
  have hn := I.hok.fresh (Nat.le_refl s.heap.objs.size)
  have I1 := I.laid (a := s.heap.objs.size) (o := .dT []) (h' := s.heap.push { cls := .type "dict", data := .dict #[] }) (t' := s.toks) (fun _ _ q => Heap.get?_push_of_some _ q) (Nat.le_refl _) (dt_empty s.heap I.big)
  have hP := pps_cons (pos := pos) hk hv pps_nil
  have len1 : (pairTrees [some k] [v] X.env pos).length = 1 := pairTrees_length [some k] [v] X.env pos rfl rfl
  rw [arm_eval_Dict, zip_pairTrees [some k] [v] X.env pos rfl rfl, dictDisplay_pairs _ (by intro e; rw [e] at len1; cases len1) (by rw [len1]; decide)]
  refine wpAny_bind (wpAny_standAt (wpAny_bind ?_))
  unfold subDict
  refine wpAny_bind (wpAny_alloc (wpAny_bind (wpAny_holding ?_)))
  rw [if_pos (by rw [len1]; decide)]
  refine wpAny_bind (thn (hP.run pins _ σ _ (fun ps H2 => match ps with | [(x, y)] => ∃ (b : Addr) (ks : List Key), x = .ref b ∧ H2 b = some (.tup (ks.map kV)) ∧ H2 s.heap.objs.size = some (.dT []) ∧ Q (.ref s.heap.objs.size) (upd H2 s.heap.objs.size (.dT [(ks, y)])) | _ => False) I1 (q _ hn)) fun vs s2 ⟨ps, H2, I2, rel, q2⟩ => ?_)
  cases rel with
  | nil => exact q2.elim
  | @cons pp qq as bs hr ht =>
    cases ht with
    | cons _ _ => obtain ⟨x, y⟩ := pp; exact q2.elim
    | nil =>
      obtain ⟨x, y⟩ := pp
      obtain ⟨u, r⟩ := qq
      obtain ⟨b, ks, ex, hb, hp, q2⟩ := q2
      subst ex
      have hu1 : u = Value.ref b := hr.1
      subst hu1
      refine wpAny_holding ?_
      rw [List.forIn_cons]
      obtain ⟨z, hd, xs, rl, dd⟩ := dt_of I2.hok hp
      cases rl
      refine wpAny_bind (wpAny_bind (wpAny_bind (wpAny_dictSet_heap (hsz := Nat.zero_le _) (Nat.lt_of_succ_lt hu) (key_of I2.hok hb) dd fun h' dd' hs => wpAny_pure ?_)))
      simp only [List.forIn_nil]
      refine wpAny_pure (wpAny_pure (wpAny_pure (wpAny_pure ⟨.ref s.heap.objs.size, _, ?_, rfl, q2⟩)))
      obtain ⟨q', es, ep, hq, h2, h3, h4, _, h5⟩ := dd'
      refine d_write I2 (by rw [hp]; exact True.intro) hs ⟨q', hq⟩ ⟨show 1 ≤ sizeLine by decide, hd, _, (KT.put (.nil) ks hb hr.2).keeps fun c ys ec => ?_, q', es, ep, hq, h2, h3, h4, h5⟩
      rw [upd_ne (ne_of ec hp (fun z => nomatch z))]
      exact ec
def dDisp1T (tk tv : DE) : DE := fun Γ G Q => tk Γ G fun x G1 => tv Γ G1 fun y G2 => match x with
  | .tup ds => (match keysOf ds with | some k => ∀ p, G2 p = none → Q (.ref p) (gup G2 p (.dT [(k, y)])) | none => False)
  | _ => False
theorem pd_disp1T {k v : Expr} {pos : Pos} {Tk Tv : DE} (hu : X.A.units + 1 < cLine) (hk : PD X k Tk) (hv : PD X v Tv) : PD X (.Dict [some k] [v] pos) (dDisp1T Tk Tv) := by
  refine pe_imp (pe_disp1T hu hk hv) fun σ H Q ⟨Γ, G, Z, Q0, S, h, k⟩ p hp => ?_
  have e0 := S.rep.noneAt hp
  have R1 : HRep X.K (upd H p (.dT [])) G (fun a => Z a ∨ a = p) := S.rep.hide hp
  have env1 : EnvR X.K (upd H p (.dT [])) G (fun a => Z a ∨ a = p) σ Γ := EnvR.map (f := Rp.ext (ext_new S.rep hp)) (EnvR.map (f := Rp.zext (zext_new hp)) S.env)
  refine ⟨Γ, G, _, _, ⟨env1, R1⟩, h, fun x G1 v1 H1 q1 r1 RR1 x1 => ⟨Γ, G1, _, _, ⟨EnvR.map (f := Rp.ext x1) env1, RR1⟩, q1, fun y G2 v2 H2 q2 r2 RR2 x2 => ?_⟩⟩
  have hH : H2 p = some (.dT []) := (x2 p _ (x1 p _ e0.1 upd_same trivial).1 (x1 p _ e0.1 upd_same trivial).2 trivial).2
  split at q2
  · rename_i ds
    split at q2
    · rename_i ks ek
      have r1' := Rp.ext x2 r1
      cases r1' with
      | tup g z hh al =>
        rw [keysOf_rp al ek] at hh
        refine ⟨_, ks, rfl, hh, hH, ?_⟩
        have hid := RR2.hid p (.inr rfl)
        have R2 : HRep X.K (upd H2 p (.dT [(ks, v2)])) G2 (fun a => Z a ∨ a = p) := RR2.wrHid (.inr rfl)
        have pr2 : PairR X.K (upd H2 p (.dT [(ks, v2)])) G2 (fun a => Z a ∨ a = p) [(ks, v2)] [(ks, y)] := ⟨rfl, Rp.wr (.inr (.inr rfl)) (fun _ _ q => q) r2, trivial⟩
        refine k _ _ _ _ (q2 p hid.1) (.ref p) (R2.toC e0.2 upd_same pr2) fun c u g e n => ?_
        have ne : c ≠ p := ne_of_none e hp
        have := x2 c u (x1 c u g (by rw [upd_ne ne]; exact e) n).1 (x1 c u g (by rw [upd_ne ne]; exact e) n).2 n
        rw [gup_ne ne, upd_ne ne]
        exact this
    · exact q2.elim
  · exact q2.elim
/-! ## a dict walked -/
/-- the dict in slot i is locked while t runs -/
def dLockE (i : Nat) (t : DE) : DE := fun Γ G Q => match Γ[i]? with
  | some (some (.ref c)) => (match G c with
    | some (.dT kds) => ∀ o us, t Γ (gup G c (.lkT o us kds)) fun d G' => G' c = some (.lkT o us kds) ∧ Q d (gup G' c (.dT kds))
    | some (.dK kds) => ∀ o us, t Γ (gup G c (.lkK o us kds)) fun d G' => G' c = some (.lkK o us kds) ∧ Q d (gup G' c (.dK kds))
    | _ => False)
  | _ => False
theorem pd_lock {e : Expr} {T : DE} (i : Nat) (h : PD X e T) : PD X e (dLockE i T) := by
  refine pe_imp (pe_lock h) fun σ H Q ⟨Γ, G, Z, Q0, S, h, k⟩ => ?_
  unfold dLockE at h
  split at h
  · rename_i c ec
    split at h
    · rename_i kds e
      obtain ⟨ho, h1, h2⟩ := S.rep.cell c _ e
      cases ho <;> first | exact h2.elim | skip
      rename_i kvs
      refine ⟨c, .dT kvs, h1, True.intro, fun od => ?_⟩
      have x0 : Ext H G (upd H c (.frz od (.dT kvs))) (gup G c (.lkT od kvs kds)) := ext_put e
      have R1 : HRep X.K (upd H c (.frz od (.dT kvs))) (gup G c (.lkT od kvs kds)) Z := S.rep.put e ⟨rfl, rfl, PairR.map (f := Rp.ext x0) h2⟩
      refine ⟨Γ, _, Z, _, S.ext x0 R1, h od kvs, fun d G' v H' q r R x => ?_⟩
      obtain ⟨ho', g1, g2⟩ := R.cell c _ q.1
      cases ho' <;> first | exact g2.elim | skip
      obtain ⟨rfl, rfl, g3⟩ := g2
      refine ⟨g1, ?_⟩
      have x3 : Ext H' G' (upd H' c (.dT kvs)) (gup G' c (.dT kds)) := ext_put q.1
      exact k _ _ _ _ q.2 (r.ext x3) (R.put q.1 (PairR.map (f := Rp.ext x3) g3)) (x0.trans (x.trans x3))
    · rename_i kds e
      obtain ⟨ho, h1, h2⟩ := S.rep.cell c _ e
      cases ho <;> first | exact h2.elim | skip
      rename_i kvs
      refine ⟨c, .dK kvs, h1, True.intro, fun od => ?_⟩
      have x0 : Ext H G (upd H c (.frz od (.dK kvs))) (gup G c (.lkK od kvs kds)) := ext_put e
      have R1 : HRep X.K (upd H c (.frz od (.dK kvs))) (gup G c (.lkK od kvs kds)) Z := S.rep.put e ⟨rfl, rfl, PairR.map (f := Rp.ext x0) h2⟩
      refine ⟨Γ, _, Z, _, S.ext x0 R1, h od kvs, fun d G' v H' q r R x => ?_⟩
      obtain ⟨ho', g1, g2⟩ := R.cell c _ q.1
      cases ho' <;> first | exact g2.elim | skip
      obtain ⟨rfl, rfl, g3⟩ := g2
      refine ⟨g1, ?_⟩
      have x3 : Ext H' G' (upd H' c (.dK kvs)) (gup G' c (.dK kds)) := ext_put q.1
      exact k _ _ _ _ q.2 (r.ext x3) (R.put q.1 (PairR.map (f := Rp.ext x3) g3)) (x0.trans (x.trans x3))
    · exact h.elim
  · exact h.elim
/-- the keys of a locked dict -/
def diKeys (t : DE) : DI := fun Γ G Q => t Γ G fun d G1 => match d with
  | .ref c => (match G1 c with
    | some (.lkT o us kds) => Q (kds.map fun kv => .tup (kv.1.map keyD)) (fun G => G c = some (.lkT o us kds)) G1
    | some (.lkK o us kds) => Q (kds.map fun kv => keyD kv.1) (fun G => G c = some (.lkK o us kds)) G1
    | _ => False)
  | _ => False
theorem PairR.getK {κ : Type} {H : Hp} {G : GH} {Z : ZS} : ∀ {kvs : List (κ × V)} {kds : List (κ × D)} {i : Nat} {kv : κ × D}, PairR K H G Z kvs kds → kds[i]? = some kv → ∃ v, kvs[i]? = some (kv.1, v)
  | [], [], _, _, _, e => by simp at e
  | (k, v) :: _, (k', d) :: _, 0, kv, ⟨h, _, _⟩, e => by
    simp at e; subst e
    cases (show k = k' from h)
    exact ⟨v, rfl⟩
  | _ :: _, _ :: _, i + 1, kv, ⟨_, _, t⟩, e => by
    obtain ⟨v, h⟩ := PairR.getK (i := i) t (by simpa using e)
    exact ⟨v, by simpa using h⟩
  | [], _ :: _, _, _, h, _ => h.elim
  | _ :: _, [], _, _, h, _ => h.elim
theorem pdi_keys {tg e : Expr} {T : DE} (h : PD X e T) : PDI X tg e (diKeys T) := pi_imp (pi_keys h) fun σ H R ⟨Γ, G, Z, Q0, S, h, k⟩ => ⟨Γ, G, Z, _, S, h, fun d G1 v H1 q r R1 x1 => by
  split at q
  · rename_i c
    cases r
    split at q
    · rename_i o us kds e
      obtain ⟨ho, h1, h2⟩ := R1.cell c _ e
      cases ho <;> first | exact h2.elim | skip
      obtain ⟨rfl, rfl, h2⟩ := h2
      refine ⟨c, _, rfl, .inr ⟨us, h1, k _ _ _ _ _ q R1 x1 fun i H' G' Z' _ R' x' gd => ?_⟩⟩
      obtain ⟨ho', g1, g2⟩ := R'.cell c _ gd
      cases ho' <;> first | exact g2.elim | skip
      obtain ⟨rfl, rfl, g3⟩ := g2
      have hl := PairR.len g3
      refine ⟨fun hi => ⟨g1, by rw [List.length_map] at hi; omega⟩, fun d ed => ?_⟩
      rw [List.getElem?_map] at ed
      cases ek : kds[i]? with
      | none => rw [ek] at ed; cases ed
      | some kv =>
        rw [ek] at ed
        cases ed
        have hi : i < kds.length := (List.getElem?_eq_some_iff.mp ek).1
        refine ⟨⟨g1, by omega⟩, fun y H2 hy => ?_⟩
        obtain ⟨e1, k', v', b, e2, e3, e4⟩ := hy
        subst e1
        obtain ⟨v2, e5⟩ := g3.getK ek
        rw [e5] at e2
        cases e2
        subst e3
        exact ⟨rp_tupK R' e4, R', .refl⟩
    · rename_i o us kds e
      obtain ⟨ho, h1, h2⟩ := R1.cell c _ e
      cases ho <;> first | exact h2.elim | skip
      obtain ⟨rfl, rfl, h2⟩ := h2
      refine ⟨c, _, rfl, .inl ⟨us, h1, k _ _ _ _ _ q R1 x1 fun i H' G' Z' _ R' x' gd => ?_⟩⟩
      obtain ⟨ho', g1, g2⟩ := R'.cell c _ gd
      cases ho' <;> first | exact g2.elim | skip
      obtain ⟨rfl, rfl, g3⟩ := g2
      have hl := PairR.len g3
      refine ⟨fun hi => ⟨g1, by rw [List.length_map] at hi; omega⟩, fun d ed => ?_⟩
      rw [List.getElem?_map] at ed
      cases ek : kds[i]? with
      | none => rw [ek] at ed; cases ed
      | some kv =>
        rw [ek] at ed
        cases ed
        have hi : i < kds.length := (List.getElem?_eq_some_iff.mp ek).1
        refine ⟨⟨g1, by omega⟩, fun y H2 hy => ?_⟩
        obtain ⟨e1, k', v', e2, e3⟩ := hy
        subst e1
        obtain ⟨v2, e5⟩ := g3.getK ek
        rw [e5] at e2
        cases e2
        subst e3
        refine ⟨?_, R', .refl⟩
        obtain ⟨kk, dd⟩ := kv
        cases kk with
        | inl i => exact .int i
        | inr x => exact .str x
    · exact q.elim
  · exact q.elim⟩
/-! ## zip of two lists -/
def zipD (xs ys : List D) : List D := (xs.zip ys).map fun z => .tup [z.1, z.2]
def diZip (t : DA) : DI := fun Γ G Q => t Γ G fun ds G1 => match ds with
  | [.lst xs, .lst ys] => Q (zipD xs ys) (fun _ => True) G1
  | _ => False
theorem pdi_zip {e e2 : Expr} {T : DA} {p pos tpos : Pos} {elts : List Expr} {kk : Nat} (hg : Gl X "zip") (hm : X.mg "zip" = none) (ha : PDA X [e, e2] T)
    (hs : starEach [e, e2] X.env = (false, eval e X.env) :: starEach [e2] X.env := by rfl) (hpl : (backTo pos (starEach [e2] X.env)).any (·.1) = false := by rfl) : PDI X (.Tuple elts kk tpos) (.Call (.Name "zip" p) [e, e2] [] pos) (diZip T) :=
  pi_imp (pi_zip hg hm ha hs hpl) fun σ H R ⟨Γ, G, Z, Q0, S, h, k⟩ => ⟨Γ, G, Z, _, S, h, fun ds G1 vs H1 q r R1 x1 => by
    split at q
    · rename_i xs ys
      obtain ⟨v, u, rfl, r1, r2⟩ := r.two
      cases r1 with
      | lst ga za ha al =>
        cases r2 with
        | lst gb zb hb bl =>
          refine ⟨_, _, _, _, rfl, .inl (.inl ha), .inl (.inl hb), k _ _ _ _ _ q R1 x1 fun i H' G' Z' zz R' x' gd => ?_⟩
          have ha' := (x' _ _ ga ha trivial)
          have hb' := (x' _ _ gb hb trivial)
          have al' := RpAll.ext x' (al.zext zz)
          have bl' := RpAll.ext x' (bl.zext zz)
          refine ⟨fun hi => ⟨_, _, .inl (.inl ha'.2), .inl (.inl hb'.2), ?_⟩, fun d ed => ?_⟩
          · unfold zipD at hi
            rw [List.length_map, List.length_zip] at hi
            rw [al.length, bl.length]; omega
          · unfold zipD at ed
            rw [List.getElem?_map] at ed
            cases ez : (xs.zip ys)[i]? with
            | none => rw [ez] at ed; cases ed
            | some z =>
              rw [ez] at ed
              cases ed
              rw [List.getElem?_zip_eq_some] at ez
              obtain ⟨v1, f1, g1⟩ := al'.get ez.1
              obtain ⟨v2, f2, g2⟩ := bl'.get ez.2
              refine ⟨⟨_, _, v1, v2, .inl (.inl ha'.2), .inl (.inl hb'.2), f1, f2⟩, fun y H2 hy => ?_⟩
              obtain ⟨T', x, y', rfl, hn, rfl, q1, q2⟩ := hy
              have e1 : x = v1 := Option.some.inj ((q1 _ (.inl (.inl ha'.2))).symm.trans f1)
              have e2 : y' = v2 := Option.some.inj ((q2 _ (.inl (.inl hb'.2))).symm.trans f2)
              subst e1 e2
              have xx : Ext H' G' (upd H' T' (.tup [x, y'])) G' := ext_new R' hn
              have nn := R'.noneAt hn
              exact ⟨.tup nn.1 nn.2 upd_same (.cons (g1.ext xx) (.cons (g2.ext xx) .nil)), R'.new hn, xx⟩
    · exact q.elim⟩
end
/-- a, b, c = x, y, z with plain local names -/
def dPar3 (i j l : Nat) (ta : DA) : DS := fun D Γ G => ta Γ G fun ds G1 => match ds with | [x, y, z] => D.nx (((Γ.set i (some x)).set j (some y)).set l (some z)) G1 | _ => False
theorem pds_par3 {X : Cx} {i j l : Nat} {x y z : Str} {a b c : Expr} {T : DA} {px py pz pt pos : Pos} {kt k2 pt2} (hc : X.calm = true) (hN : X.N.Nodup) (hi : X.N[i]? = some x) (hj : X.N[j]? = some y) (hl : X.N[l]? = some z) (hij : i ≠ j) (hil : i ≠ l) (hjl : j ≠ l)
    (hx : X.env.scope.names.lookup x = some .local) (hy : X.env.scope.names.lookup y = some .local) (hz : X.env.scope.names.lookup z = some .local) (ha : PDA X [a, b, c] T)
    (hw : swappedStores [.Tuple [.Name x px, .Name y py, .Name z pz] kt pt] (.Tuple [a, b, c] k2 pt2) X.env = pure (some [x, y, z]))
    (hs : swapsWithSole [.Tuple [.Name x px, .Name y py, .Name z pz] kt pt] (.Tuple [a, b, c] k2 pt2) pos.line X.env = pure false := by rfl) :
    PDS X (.Assign [.Tuple [.Name x px, .Name y py, .Name z pz] kt pt] (.Tuple [a, b, c] k2 pt2) pos) (dPar3 i j l T) :=
  ps_imp (ps_par3 hc hN hi hj hl hij hil hjl hx hy hz ha hw hs) fun D σ H ⟨Γ, G, Z, D0, S, h, k⟩ => ⟨Γ, G, Z, _, S, h, fun ds G1 vs H1 q r R x => by
    cases r with
    | nil => exact q.elim
    | cons r1 r =>
      cases r with
      | nil => exact q.elim
      | cons r2 r =>
        cases r with
        | nil => exact q.elim
        | cons r3 r =>
          cases r with
          | nil => exact ⟨_, _, _, rfl, k.nx _ _ _ _ q ⟨(((S.ext x R).env.set r1 i).set r2 j).set r3 l, R⟩ x⟩
          | cons _ _ => exact q.elim⟩
/-! ## list.pop(i), list.remove(i) -/
def dPopAt : DM := fun x ds G Q => match x, ds with
  | .ref c, [.int i] => (match G c with
    | some (.lst xs) => 0 ≤ i ∧ i < xs.length ∧ xs.length ≤ 1000000 ∧ (match xs[i.toNat]? with | some y => Q y (gup G c (.lst (xs.eraseIdx i.toNat))) | none => False)
    | _ => False)
  | _, _ => False
theorem md_popAt : MD K rPopAt dPopAt := fun {H G Z x a vs ds Q0 Q} R rx al h k => by
  unfold dPopAt at h
  split at h
  · rename_i c i
    split at h
    · rename_i xs e
      obtain ⟨h0, h1, h2, h3⟩ := h
      split at h3
      · rename_i y ey
        cases rx
        obtain ⟨v, rfl, r⟩ := al.one
        cases r
        obtain ⟨us, hu, al2⟩ := cell_lst R e
        obtain ⟨w, hw, rw'⟩ := al2.get ey
        refine ⟨c, us, i, i.toNat, w, rfl, rfl, hu, by omega, by omega, ?_, hw, put_lst R e (al2.erase _) rw' h3 k⟩
        unfold seqIndex?
        rw [al2.length]
        simp only [Int.not_lt.mpr h0, if_false, ite_false]
        first
          | (rw [if_pos (by omega)]; done)
          | (rw [if_neg (by omega)]; done)
          | (simp; omega)
      · exact h3.elim
    · exact h.elim
  · exact h.elim
def ixI (k : Int) : List Int → Option Nat
  | [] => none
  | x :: r => if x = k then some 0 else (ixI k r).map (· + 1)
theorem ixI_ok {k : Int} : ∀ {ns : List Int} {j : Nat}, ixI k ns = some j → ns[j]? = some k ∧ ∀ m : Nat, m < j → ns[m]? ≠ some k
  | [], _, h => by cases h
  | x :: r, j, h => by
    unfold ixI at h
    split at h
    · rename_i e
      cases h
      exact ⟨by rw [List.getElem?_cons_zero, e], fun m hm => absurd hm (Nat.not_lt_zero _)⟩
    · rename_i e
      cases q : ixI k r with
      | none => rw [q] at h; cases h
      | some i =>
        rw [q] at h
        cases h
        obtain ⟨h1, h2⟩ := ixI_ok q
        refine ⟨by rw [List.getElem?_cons_succ]; exact h1, fun m hm => ?_⟩
        cases m with
        | zero => rw [List.getElem?_cons_zero]; exact fun z => e (Option.some.inj z)
        | succ m => rw [List.getElem?_cons_succ]; exact h2 m (Nat.lt_of_succ_lt_succ (show m + 1 < i + 1 from hm))
def dRemove : DM := fun x ds G Q => match x, ds with
  | .ref c, [.int k] => (match G c with
    | some (.lst xs) => ∃ (ns : List Int) (j : Nat), xs = ns.map D.int ∧ ixI k ns = some j ∧ Q .non (gup G c (.lst ((ns.eraseIdx j).map D.int)))
    | _ => False)
  | _, _ => False
theorem md_remove : MD K rRemI dRemove := fun {H G Z x a vs ds Q0 Q} R rx al h k => by
  unfold dRemove at h
  split at h
  · rename_i c i
    split at h
    · rename_i xs e
      obtain ⟨ns, j, rfl, h1, h2⟩ := h
      cases rx
      obtain ⟨v, rfl, r⟩ := al.one
      cases r
      obtain ⟨us, hu, al2⟩ := cell_lst R e
      have := al2.ints
      subst this
      obtain ⟨g1, g2⟩ := ixI_ok h1
      exact ⟨c, ns, i, j, rfl, rfl, hu, g1, g2, put_lst R e (RpAll.ofInts _) .non h2 k⟩
    · exact h.elim
  · exact h.elim
end TK

set_option maxHeartbeats 1000000
namespace TK
open PySem PySem.Spec L2 PyProof.Rows
variable {K : PySem.W.Frag}
/-! ## min(e, key=lambda a: y[a]) -/
section
variable {prog : Program} {w : World} {A : Around} {E : Value → Shared → Prop} {s : Shared}
/-- a call of q tells the key of an item, and keeps all objects -/
def TurnK (prog : Program) (w : World) (A : Around) (base : Heap) (q : Addr) (P : Nat → Value → Prop) (kf : Nat → Int) (U : Shared → Prop) : Prop :=
  ∀ i v (s : Shared) (Q : Value → Shared → Prop) (E : Value → Shared → Prop), U s → (∀ b o, base.get? b = some o → s.heap.get? b = some o) → P i v →
    (∀ t h' tk, (∀ b o, s.heap.get? b = some o → h'.get? b = some o) → Q (.int (kf i) t) { s with heap := h', toks := tk }) → wpAny (model prog w) A (call (.ref q) [v]) Q E s
section
variable {R : Result → Shared → Prop} {I S q : Addr} {fp wr : List Addr} {n : Nat} {P : Nat → Value → Prop} {St : Nat → Heap → Prop} {base : Heap} {U : Shared → Prop}
abbrev btI (kf : Nat → Int) : Nat → Nat → Bool := fun i j => decide (kf i < kf j)
theorem minQ_loop (W : Walks prog w A.in1 I fp wr n P St) (kf : Nat → Int) (turn : TurnK prog w A.in1 base q P kf U) (hSf : S ∉ fp) (hbw : ∀ b o, base.get? b = some o → b ∉ wr ∧ b ≠ S) (hU : ∀ (s : Shared) h tk, U s → U { s with heap := h, toks := tk }) :
    ∀ (k j : Nat) (s : Shared) (vb : Value) (tb : Tok) (c : Nat), n - (j + 1) = k → j + 1 ≤ n → U s → St (j + 1) s.heap → P (argBest (btI kf) j) vb → (∀ b o, base.get? b = some o → s.heap.get? b = some o) →
    s.heap.get? S = some { cls := .type "list", dict := none, data := .seq #[vb, .int (kf (argBest (btI kf) j)) tb] c, slots := #[] } →
    (∀ v h' tk, P (argBest (btI kf) (n - 1)) v → (∀ b o, b ∉ wr → b ≠ S → s.heap.get? b = some o → h'.get? b = some o) → R (.ok (.ret v)) { s with heap := h', toks := tk }) →
    codeAny (model prog w) A (.builtin "min.loop" ⟨[.ref I, .ref q, .ref S], []⟩) R s := by
  have hSw : S ∉ wr := fun h => hSf (W.sub _ h)
  have hname : (toString "min" ++ toString ".loop" : String) = "min.loop" := by decide
  intro k
  induction k with
  | zero =>
    intro j s vb tb c hk hj hu hst hPb hkp hS hR
    have hin : j + 1 = n := by omega
    refine codeAny_builtin F.entry_min_loop ?_
    rw [Around.under_plainId F.plain_min_loop _]
    show wpAny _ A.in1 (seqItems? (.ref S) >>= _) _ _ s
    refine wpAny_bind (wpAny_seqItems hS rfl ?_)
    show wpAny _ A.in1 (tryCatch (pyNext (.ref I)) _ >>= _) _ _ s
    refine wpAny_bind (wpAny_tryCatch (W.done s _ _ (hin ▸ hst) fun h' tk hk' => ?_))
    have hS' := hk' S _ hSw hS
    show wpAny _ A.in1 (updateSeq S (fun _ => #[]) >>= _) _ _ _
    refine wpAny_bind (wpAny_updateSeq hS' rfl (wpAny_bind (wpAny_letGo (wpAny_pure ?_))))
    exact hR vb _ tk (by rw [← hin]; exact hPb) fun b o hbw hbS e => (Heap.get?_update_other _ _ (Ne.symm hbS)).trans (hk' b o hbw e)
  | succ k ih =>
    intro j s vb tb c hk hj hu hst hPb hkp hS hR
    have hlt : j + 1 < n := by omega
    refine codeAny_builtin F.entry_min_loop ?_
    rw [Around.under_plainId F.plain_min_loop _]
    show wpAny _ A.in1 (seqItems? (.ref S) >>= _) _ _ s
    refine wpAny_bind (wpAny_seqItems hS rfl ?_)
    show wpAny _ A.in1 (tryCatch (pyNext (.ref I)) _ >>= _) _ _ s
    refine wpAny_bind (wpAny_tryCatch (W.item (j + 1) s _ _ hlt hst fun v h' tk hP hst' hk' => ?_))
    have hS' := hk' S _ hSw hS
    have hkp' : ∀ b o, base.get? b = some o → h'.get? b = some o := fun b o e => hk' b o (hbw b o e).1 (hkp b o e)
    show wpAny _ A.in1 (tryCatch (holding [v] (call (.ref q) [v])) _ >>= _) _ _ _
    refine wpAny_bind (wpAny_tryCatch (wpAny_holding (turn (j + 1) v _ _ _ (hU s h' tk hu) hkp' hP fun t2 h2 tk2 k2 => ?_)))
    have k2 : ∀ b o, h'.get? b = some o → h2.get? b = some o := k2
    have hS2 := k2 S _ hS'
    have hst2 : St (j + 1 + 1) h2 := W.frame _ _ _ hst' fun b hbf o e => k2 b o e
    have hkp2 : ∀ b o, base.get? b = some o → h2.get? b = some o := fun b o e => k2 b o (hkp' b o e)
    show wpAny _ A.in1 (tryCatch (holding [v, .int (kf (j + 1)) t2] (richCompare .Lt (.int (kf (j + 1)) t2) (.int (kf (argBest (btI kf) j)) tb) >>= _)) _ >>= _) _ _ _
    refine wpAny_bind (wpAny_tryCatch (wpAny_holding (wpAny_bind (CmpOf.ints_lt (prog := prog) (w := w) (A := A.in1) (P := fun i v => ∃ t, v = .int (kf i) t) kf (fun i v h => h) (j + 1) (argBest (btI kf) j) _ _ _ _ _ ⟨t2, rfl⟩ ⟨tb, rfl⟩ (wpAny_bind (wpAny_holding (wpAny_truthy_bool (wpAny_bind (wpAny_letGo (wpAny_pure ?_))))))))))
    cases hb : btI kf (j + 1) (argBest (btI kf) j) with
    | true =>
      have hb' : kf (j + 1) < kf (argBest (btI kf) j) := of_decide_eq_true hb
      simp only [hb', decide_true, if_true]
      refine wpAny_bind (wpAny_updateSeq hS2 rfl (wpAny_bind (wpAny_letGo ?_)))
      rw [hname]
      refine wpAny_pure ⟨plainId_quiet F.plain_min_loop _, ih (j + 1) _ v t2 _ (by omega) hlt (hU s _ _ hu) (W.frame _ _ _ hst2 fun b hbf o e => ?_) (by simp only [argBest, hb, if_true]; exact hP) (fun b o e => ?_) (by simp only [argBest, hb, if_true]; exact Heap.get?_update_self _ hS2 rfl) fun v' h'' tk'' hP' hk'' => ?_⟩
      · exact (Heap.get?_update_other _ _ (fun h : S = b => hSf (by rw [h]; exact hbf))).trans e
      · exact (Heap.get?_update_other _ _ (Ne.symm (hbw b o e).2)).trans (hkp2 b o e)
      · exact hR v' h'' tk'' hP' fun b o hbw hbS e => hk'' b o hbw hbS ((Heap.get?_update_other _ _ (Ne.symm hbS)).trans (k2 b o (hk' b o hbw e)))
    | false =>
      have hb' : ¬ kf (j + 1) < kf (argBest (btI kf) j) := of_decide_eq_false hb
      simp only [hb', decide_false, Bool.false_eq_true, if_false]
      refine wpAny_bind (wpAny_letGo ?_)
      rw [hname]
      exact wpAny_pure ⟨plainId_quiet F.plain_min_loop _, ih (j + 1) _ vb tb c (by omega) hlt (hU s _ _ hu) hst2 (by simp only [argBest, hb, Bool.false_eq_true, if_false]; exact hPb) hkp2 (by simp only [argBest, hb, Bool.false_eq_true, if_false]; exact hS2) fun v' h'' tk'' hP' hk'' => hR v' h'' tk'' hP' fun b o hbw hbS e => hk'' b o hbw hbS (k2 b o (hk' b o hbw e))⟩
theorem minQ_first (W : Walks prog w A.in1 I fp wr n P St) (kf : Nat → Int) (turn : TurnK prog w A.in1 base q P kf U) (hSf : S ∉ fp) (hbw : ∀ b o, base.get? b = some o → b ∉ wr ∧ b ≠ S) (hU : ∀ (s : Shared) h tk, U s → U { s with heap := h, toks := tk }) (hn : 0 < n) {s : Shared} {c : Nat} (hu : U s) (hst : St 0 s.heap) (hkp : ∀ b o, base.get? b = some o → s.heap.get? b = some o)
    (hS : s.heap.get? S = some { cls := .type "list", dict := none, data := .seq #[] c, slots := #[] })
    (hR : ∀ v h' tk, P (argBest (btI kf) (n - 1)) v → (∀ b o, b ∉ wr → b ≠ S → s.heap.get? b = some o → h'.get? b = some o) → R (.ok (.ret v)) { s with heap := h', toks := tk }) :
    codeAny (model prog w) A (.builtin "min.loop" ⟨[.ref I, .ref q, .ref S], []⟩) R s := by
  have hSw : S ∉ wr := fun h => hSf (W.sub _ h)
  have hname : (toString "min" ++ toString ".loop" : String) = "min.loop" := by decide
  refine codeAny_builtin F.entry_min_loop ?_
  rw [Around.under_plainId F.plain_min_loop _]
  show wpAny _ A.in1 (seqItems? (.ref S) >>= _) _ _ s
  refine wpAny_bind (wpAny_seqItems hS rfl ?_)
  show wpAny _ A.in1 (tryCatch (pyNext (.ref I)) _ >>= _) _ _ s
  refine wpAny_bind (wpAny_tryCatch (W.item 0 s _ _ hn hst fun v h' tk hP hst' hk' => ?_))
  have hS' := hk' S _ hSw hS
  have hkp' : ∀ b o, base.get? b = some o → h'.get? b = some o := fun b o e => hk' b o (hbw b o e).1 (hkp b o e)
  show wpAny _ A.in1 (tryCatch (holding [v] (call (.ref q) [v])) _ >>= _) _ _ _
  refine wpAny_bind (wpAny_tryCatch (wpAny_holding (turn 0 v _ _ _ (hU s h' tk hu) hkp' hP fun t2 h2 tk2 k2 => ?_)))
  have k2 : ∀ b o, h'.get? b = some o → h2.get? b = some o := k2
  have hS2 := k2 S _ hS'
  show wpAny _ A.in1 (updateSeq S (fun _ => #[v, .int (kf 0) t2]) >>= _) _ _ _
  refine wpAny_bind (wpAny_updateSeq hS2 rfl ?_)
  rw [hname]
  refine wpAny_pure ⟨plainId_quiet F.plain_min_loop _, minQ_loop W kf turn hSf hbw hU _ 0 _ v t2 _ rfl hn (hU s _ _ hu) (W.frame _ _ _ hst' fun b hbf o e => ?_) hP (fun b o e => ?_) (Heap.get?_update_self _ hS2 rfl) fun v' h'' tk'' hP' hk'' => ?_⟩
  · exact (Heap.get?_update_other _ _ (fun h : S = b => hSf (by rw [h]; exact hbf))).trans (k2 b o e)
  · exact (Heap.get?_update_other _ _ (Ne.symm (hbw b o e).2)).trans (k2 b o (hkp' b o e))
  · exact hR v' h'' tk'' hP' fun b o hbw hbS e => hk'' b o hbw hbS ((Heap.get?_update_other _ _ (Ne.symm hbS)).trans (k2 b o (hk' b o hbw e)))
end
theorem call_minQ {l q : Addr} {vs : List Value} {kf : Nat → Int} {Q : Value → Shared → Prop} {U : Shared → Prop} (hh : A.handled = none) (hl : s.heap.IsList l vs.toArray) (hne : 0 < vs.length) (hu : U s) (hU : ∀ (s : Shared) h tk, U s → U { s with heap := h, toks := tk })
    (turn : TurnK prog w A.in1 s.heap q (fun i v => vs[i]? = some v) kf U)
    (h : ∀ v h' tk, vs[argBest (btI kf) (vs.length - 1)]? = some v → (∀ b o, s.heap.get? b = some o → h'.get? b = some o) → Q v { s with heap := h', toks := tk }) : wpAny (model prog w) A (call (.builtin "min") [.ref l] [(Str.ofString "key", .ref q)]) Q E s := by
  have hname : (toString "min" ++ toString ".loop" : String) = "min.loop" := by decide
  refine kmk_tree F.kind_min F.plain_min F.entry_min (kmk_min_key _ _) ?_
  show wpAny _ A.in1 (Builtin.Builtins.bindParams "min" ["key", "default"] 0 ⟨[], [(Str.ofString "key", .ref q)]⟩ >>= _) _ _ s
  refine wpAny_bind (wpAny_of_eq (show Builtin.Builtins.bindParams "min" ["key", "default"] 0 ⟨[], [(Str.ofString "key", .ref q)]⟩ = pure [some (.ref q), none] from rfl) ?_)
  refine wpAny_bind (wpAny_pure ?_)
  have hlt : l < s.heap.objs.size := by obtain ⟨_, e, _⟩ := hl; exact Heap.lt_size e
  refine wpAny_bind (wpAny_pyIter_list hl ?_)
  refine wpAny_bind (wpAny_newList ?_ (Nat.zero_le _))
  have W := Walks.list (prog := prog) (w := w) (A := A.in1) hh s.heap.objs.size l (Nat.ne_of_lt hlt) vs.toArray
  rw [hname]
  have hsz : (s.heap.push { cls := .type "list_iterator", data := .fields #[.ref l, .int 0 0] }).objs.size = s.heap.objs.size + 1 := Heap.size_push ..
  refine wpAny_pure ⟨plainId_quiet F.plain_min_loop _, minQ_first (base := s.heap) (n := vs.toArray.size) W kf ?_ ?_ (fun b o e => ?_) hU (by simpa using hne) (hU s _ _ hu) ?_ (fun b o e => Heap.get?_push_of_some _ (Heap.get?_push_of_some _ e)) (Heap.get?_push_size _ rfl) fun v h' tk hP hk => ?_⟩
  · intro i v s' Q' E' hu' hkp hi hq
    exact turn i v s' Q' E' hu' hkp (by simpa using hi) hq
  · intro hm
    show False
    have hm' : (s.heap.push { cls := .type "list_iterator", data := .fields #[.ref l, .int 0 0] }).objs.size ∈ [s.heap.objs.size, l] := hm
    rw [hsz] at hm'
    rcases List.mem_cons.mp hm' with e | hm'
    · exact absurd e (Nat.succ_ne_self _)
    · have e : s.heap.objs.size + 1 = l := List.mem_singleton.mp hm'
      rw [← e] at hlt
      exact absurd hlt (Nat.not_lt.mpr (Nat.le_succ _))
  · have hb := Heap.lt_size e
    refine ⟨fun hm => ?_, ?_⟩
    · have hm' : b = s.heap.objs.size := List.mem_singleton.mp hm
      rw [hm'] at hb
      exact absurd hb (Nat.lt_irrefl _)
    · show b ≠ (s.heap.push { cls := .type "list_iterator", data := .fields #[.ref l, .int 0 0] }).objs.size
      rw [hsz]; exact Nat.ne_of_lt (Nat.lt_succ_of_lt hb)
  · exact ⟨⟨_, Heap.get?_push_of_some _ (Heap.get?_push_size _ rfl), rfl, rfl⟩, (hl.push _).push _⟩
  · refine h v h' tk (by simpa using hP) fun b o e => ?_
    have hb := Heap.lt_size e
    refine hk b o (fun hm => ?_) ?_ (Heap.get?_push_of_some _ (Heap.get?_push_of_some _ e))
    · have hm' : b = s.heap.objs.size := List.mem_singleton.mp hm
      rw [hm'] at hb
      exact absurd hb (Nat.lt_irrefl _)
    · show b ≠ (s.heap.push { cls := .type "list_iterator", data := .fields #[.ref l, .int 0 0] }).objs.size
      rw [hsz]; exact Nat.ne_of_lt (Nat.lt_succ_of_lt hb)
end
/-! ## the lambda of one parameter -/
structure Lam1 (sc scope : Scope) (a y : Str) : Prop where
  kind : scope.kind = .function
  co : scope.isCoroutine = false
  gen : scope.isGenerator = false
  nc : ∀ z ∈ scope.names, z.2 ≠ .cell
  la : scope.names.lookup a = some .local
  ly : scope.names.lookup y = some .free
  free : ∀ z ∈ scope.names, z.2 = .free → sc.names.lookup z.1 = some .cell ∨ sc.names.lookup z.1 = some .free
def lam1B (sc scope : Scope) (a y : Str) : Bool :=
  decide (scope.kind = .function) && !scope.isCoroutine && !scope.isGenerator && decide (scope.names.lookup a = some .local) && decide (scope.names.lookup y = some .free) &&
    scope.names.all fun z => !decide (z.2 = .cell) && (!decide (z.2 = .free) || decide (sc.names.lookup z.1 = some .cell) || decide (sc.names.lookup z.1 = some .free))
theorem lam1_by {sc scope : Scope} {a y : Str} (h : lam1B sc scope a y = true) : Lam1 sc scope a y := by
  unfold lam1B at h
  simp only [Bool.and_eq_true, Bool.or_eq_true, Bool.not_eq_true', decide_eq_true_eq, decide_eq_false_iff_not, List.all_eq_true] at h
  obtain ⟨⟨⟨⟨⟨h1, h2⟩, h3⟩, h5⟩, h6⟩, h4⟩ := h
  refine ⟨h1, h2, h3, fun y hy => (h4 y hy).1, h5, h6, fun y hy e => ?_⟩
  rcases (h4 y hy).2 with (z | z) | z
  · exact absurd e z
  · exact .inl z
  · exact .inr z
theorem Lam1.has {X : Cx} {scope : Scope} {a y : Str} (L : Lam1 X.env.scope scope a y) (ok : X.Ok) : ∀ z ∈ scope.names, z.2 = .free → ∃ c, X.env.cells.lookup z.1 = some c := fun z hz e => by
  rcases L.free z hz e with k | k
  · exact ok.has _ (.inl k)
  · exact ok.has _ (.inr k)
section
variable {X : Cx} {pins : List (Addr × Obj)} {σ : L2.St} {H : Hp} {s : Shared}
theorem lam1_turn {A : Around} {n i : Nat} {scope : Scope} {a y : Str} {f c' d : Addr} {pm ctv v : Value} {params : Arguments} {kvs : List (Key × V)} {k m : Int} {p1 p2 p3 : Pos} {Q E : Value → Shared → Prop} (I : Inv X pins σ H s) (L : Lam1 X.env.scope scope a y)
    (hf : s.heap.get? f = some (PySem.W.kla_obj "<lambda>" (X.env.qual ++ "<lambda>") params (.Subscript (.Name y p1) (.Name a p2) p3) scope (cloFrom X.env.cells scope.names []) pm c' ctv)) (hco : H c' = some (LamX.CodeO c' (X.env.qual ++ "<lambda>")))
    (hbind : bindArgs (PySem.W.kla_fn "<lambda>" (X.env.qual ++ "<lambda>") params (.Subscript (.Name y p1) (.Name a p2) p3) scope (cloFrom X.env.cells scope.names []) pm (.ref c') ctv) ⟨[v], []⟩ = pure [(a, v)])
    (hr : Room n A) (hN : X.N[i]? = some y) (hs : σ[i]? = some (some (.ref d))) (hd : Rd H d (.dK kvs)) (hv : ∃ t, v = .int k t) (hk : valV kvs (.inl k) = some (.int m))
    (hy1 : (y == ("__debug__" : Str)) = false) (hy2 : (y == ("__classdict__" : Str)) = false) (ha1 : (a == ("__debug__" : Str)) = false)
    (h : ∀ t h' tk, (∀ b o, s.heap.get? b = some o → h'.get? b = some o) → Q (.int m t) { s with heap := h', toks := tk }) : wpAny (model X.prog X.w) A (call (.ref f) [v]) Q E s := by
  obtain ⟨t, rfl⟩ := hv
  obtain ⟨⟨oc, vs, tq, hoc, hdc, hvc⟩, _, _⟩ := I.hok c' _ hco
  refine wpAny_call (PySem.W.kla_callFunE hr.depth hf rfl L.co L.gen rfl ⟨c', oc, vs, tq, rfl, hoc, hdc, hvc⟩ ?_)
  rw [hbind]
  refine wpAny_pure (wpAny_newFunctionEnv L.nc (fun z hz => ?_) (fun h₁ hns hsb => ⟨I.nolimit.fresh _ hsb, ?_⟩) L.kind)
  · rw [List.mem_singleton.mp hz]; exact L.la
  have kp : ∀ b o, s.heap.get? b = some o → h₁.get? b = some o := fun b o e => hsb.extBut b o (Nat.ne_of_lt (Heap.lt_size e)) (Heap.get?_push_of_some _ e)
  show codeAny _ _ (.expr (.Subscript (.Name y p1) (.Name a p2) p3) (LamX.lamEnv X scope s.heap.objs.size f c')) _ _
  refine PySem.W.kla_codeExpr ?_
  have cm : ∀ {z c}, (cloFrom X.env.cells scope.names []).lookup z = some c → X.env.cells.lookup z = some c := fun {z c} e => by
    rcases cloFrom_mem (PySem.mem_of_lookup e) with hm | ⟨h1, h2⟩
    · cases hm
    · obtain ⟨c1, hc⟩ := L.has I.ok _ h1 rfl
      have hc : X.env.cells.lookup z = some c1 := hc
      have e2 : c = c1 := by
        rw [h2, hc] <;> rfl
      rw [e2]
      exact hc
  obtain ⟨c2, h2⟩ : ∃ c, (cloFrom X.env.cells scope.names []).lookup y = some c := mem_lookup (cloFrom_has (cells := X.env.cells) (acc := []) (PySem.mem_of_lookup L.ly))
  have hcell : h₁.IsCell c2 (some (.ref d)) := by
    obtain ⟨mm, hn, hl⟩ := I.loc
    have hvis : Vis X.env.scope y := (L.free _ (PySem.mem_of_lookup L.ly) rfl).elim (fun k => .inr (.inl k)) (fun k => .inr (.inr k))
    obtain ⟨w', r, q⟩ := hl i y _ hN hs hvis
    obtain rfl : w' = Value.ref d := r
    have c1 := cm h2
    rcases q with ⟨k', _⟩ | ⟨_, c3, e', z⟩
    · have k' : X.env.scope.names.lookup y = some .local := k'
      rcases L.free _ (PySem.mem_of_lookup L.ly) rfl with k2 | k2 <;> rw [show X.env.scope.names.lookup y = _ from k2] at k' <;> cases k'
    · rw [c1] at e'
      cases e'
      obtain ⟨o, ho, hdd⟩ := z
      exact ⟨o, kp _ _ ho, hdd⟩
  have I1 : Inv X pins σ H { s with heap := h₁, toks := s.toks + [(a, Value.int k t)].length } := I.kept kp
  obtain ⟨z, hdm, ws, rel, dd⟩ := dk_rd I1.hok hd
  obtain ⟨w', hw, rw'⟩ := RelO.some_of (v := .int m) (o := valueAt ws (.inl k)) (by rw [← hk]; exact rel.val _)
  obtain ⟨t', rfl⟩ := rw'
  refine subD_of PySem.F.slot_dict_getitem.lookup (fun _ _ => rfl) (wpAny_Name (wpAny_loadName_free (c := c2) (v := .ref d) L.kind L.ly h2 hcell ?_ hy2) hy1)
  refine wpAny_Name (wpAny_loadName_local (v := .int k t) L.kind L.la hns ?_ ?_) ha1
  · show List.lookup a [(a, Value.int k t)] = _
    rw [List.lookup_cons]; simp
  · exact ⟨dd.typeIs, wpAny_getItem_of (kV_is (k := .inl k) ⟨t, rfl⟩) dd.mapOf hw (h _ _ _ kp)⟩
/-- what min(l, key=lambda a: y[a]) tells -/
def rMinQ (K : PySem.W.Frag) (i : Nat) (σ : L2.St) : V → Hp → VK → Prop := fun v H Q => ∃ (l d : Addr) (ks ms : List Int) (kvs : List (Key × V)), v = .ref l ∧ SqL K H l (ks.map V.int) ∧ σ[i]? = some (some (.ref d)) ∧ Rd H d (.dK kvs) ∧ ks ≠ [] ∧ ms.length = ks.length ∧
  (∀ j : Nat, j < ks.length → valV kvs (.inl (ks.getD j 0)) = some (.int (ms.getD j 0))) ∧ Q (.int (ks.getD (argBest (btI fun j => ms.getD j 0) (ks.length - 1)) 0)) H
theorem vals_ints {ks : List Int} {its : List Value} (r : Vals (ks.map V.int) its) {j : Nat} {v : Value} (e : its[j]? = some v) : ∃ t, v = .int (ks.getD j 0) t := by
  have hl : j < its.length := (List.getElem?_eq_some_iff.mp e).1
  have h2 := r.length
  rw [List.length_map] at h2
  induction ks generalizing its j with
  | nil => simp at h2; omega
  | cons k ks ih =>
    cases r with
    | cons h t =>
      cases j with
      | zero =>
        simp at e
        subst e
        exact h
      | succ j =>
        have := ih t (by simpa using e) (by simpa using hl) (by simpa using h2)
        simpa using this
theorem pe_minKL {T : List (Addr × Str)} {e : Expr} {te : TE} {c P : Addr} {k i : Nat} {params : Arguments} {scope : Scope} {a y : Str} {p p1 p2 p3 lpos kpos pos : Pos} (hc : X.calm = true) (hg : Gl X "min") (hm : X.mg "min" = none) (he : PE X e te)
    (TB : LamX.TabB X.base X.mg c P) (hcode : X.env.code = .ref c) (hmT : (P, X.env.qual ++ "<lambda>") ∈ T) (hu : ∀ p ∈ T, p.1 = P → p.2 = X.env.qual ++ "<lambda>") (hr : Room (k + 1) X.A) (L : Lam1 X.env.scope scope a y) (hdef : defaultsOf params X.env = ([], []))
    (hbind : ∀ (q : Str) (cl : List (Str × Addr)) (pm cv ctv v : Value), bindArgs (PySem.W.kla_fn "<lambda>" q params (.Subscript (.Name y p1) (.Name a p2) p3) scope cl pm cv ctv) ⟨[v], []⟩ = pure [(a, v)]) (hN : X.N[i]? = some y)
    (hs : backTo pos (starEach [e] X.env) = (false, eval e X.env) :: backTo pos (starEach [] X.env) := by rfl) (hpl : (backTo pos (starEach [e] X.env)).any (·.1) = false := by rfl)
    (hs2 : starEach [e] X.env = (false, eval e X.env) :: starEach [] X.env := by rfl)
    (hy1 : (y == ("__debug__" : Str)) = false := by decide) (hy2 : (y == ("__classdict__" : Str)) = false := by decide) (ha1 : (a == ("__debug__" : Str)) = false := by decide) :
    PE X (.Call (.Name "min" p) [e] [⟨some "key", .Lambda params (.Subscript (.Name y p1) (.Name a p2) p3) scope lpos, kpos⟩] pos) (fun σ H Q => te σ H fun v H1 => LamX.Tabs T H1 ∧ ∀ H2, LamX.ExtN H1 H2 → LamX.Tabs T H2 → rMinQ X.K i σ v H2 Q) := by
  refine ⟨fun pins s σ H Q I h => ?_⟩
  refine wpAny_Call_Name_kw (ld_blt I hg hm rfl ?_)
  refine PyProof.Rows.callWith_kw (thn ((pa_cons he pa_nil hs2).run pos pins s σ H (fun vs H1 => match vs with | [v] => LamX.Tabs T H1 ∧ ∀ H2, LamX.ExtN H1 H2 → LamX.Tabs T H2 → rMinQ X.K i σ v H2 Q | _ => False) I h) fun us s1 ⟨vs, H1, I1, r1, q1⟩ => ?_) hs hpl rfl rfl
  · obtain ⟨v, rfl⟩ : ∃ v, vs = [v] := by
      match vs, q1 with
      | [v], _ => exact ⟨v, rfl⟩
    obtain ⟨hT, q1⟩ := q1
    show wpAny _ _ (evalAll [do let v ← eval (.Lambda params (.Subscript (.Name y p1) (.Name a p2) p3) scope lpos) X.env; standAt pos; pure v]) _ _ _
    refine wpAny_evalAll_cons (wpAny_bind (LamX.lam_make2 I1 TB hcode hmT hu hT hdef (L.has I1.ok) fun f c' pm' ctv H2 s2 I2 eN T2 hf hfn hfr hco => wpAny_bind (wpAny_standAt (wpAny_pure ?_))))
    refine wpAny_evalAll_nil ?_
    obtain ⟨l, d, ks, ms, kvs, rfl, hl, hd, hrd, hne, hlen, hat, hQ⟩ := q1 H2 eN T2
    rw [Vals.ref1 r1]
    show wpAny _ _ (call (.builtin "min") [.ref l] [(Str.ofString "key", .ref f)]) _ _ _
    obtain ⟨its, rv, hL, hz⟩ := I2.list hl
    have hil : its.length = ks.length := by rw [← rv.length, List.length_map]
    have hpos : 0 < ks.length := List.length_pos_iff.mpr hne
    refine call_minQ (kf := fun j => ms.getD j 0) (U := fun s' => ∃ h tk, s' = { s2 with heap := h, toks := tk }) (I2.ok.hd hc) hL.isList (by omega) ⟨_, _, rfl⟩ (fun s' h tk ⟨h1, t1, e1⟩ => ⟨h, tk, by rw [e1]⟩) (fun j v s' Q' E' ⟨h1, t1, e1⟩ hkp hj hq => ?_) fun v h' tk hv hk => ?_
    · subst e1
      have I3 : Inv X pins σ H2 { s2 with heap := h1, toks := t1 } := I2.kept hkp
      have hjl : j < ks.length := by have := (List.getElem?_eq_some_iff.mp hj).1; omega
      exact lam1_turn I3 L (hkp _ _ hf) hco (hbind _ _ _ _ _ _) (hr.in1) hN hd hrd (vals_ints rv hj) (hat j hjl) hy1 hy2 ha1 hq
    · obtain ⟨t, rfl⟩ := vals_ints rv hv
      rw [hil]
      exact ⟨.int _, H2, I2.kept hk, ⟨_, rfl⟩, hQ⟩
/-- min(e, key=lambda a: y[a]): y at i -/
def dMinKL (P : Addr) (q : Str) (i : Nat) (Te : DE) : DE := fun Γ G Q => Te Γ G fun v G1 => G1 P = some (.tb q) ∧ OneT G1 P ∧ ∃ (d : Addr) (ks : List Int) (L : Int → Int) (kvs : List (Key × D)), vw G1 v = .lst (ks.map D.int) ∧ Γ[i]? = some (some (.ref d)) ∧ G1 d = some (.dK kvs) ∧ ks ≠ [] ∧
  (∀ x, x ∈ ks → valD kvs (.inl x) = some (.int (L x))) ∧ ∀ m, m ∈ ks → (∀ x, x ∈ ks → L m ≤ L x) → Q (.int m) G1
theorem rp_intsV {H : Hp} {G : GH} {Z : ZS} : ∀ {us : List V} {ks : List Int}, RpAll X.K H G Z us (ks.map D.int) → us = ks.map V.int
  | [], [], _ => rfl
  | _ :: _, _ :: _, .cons h t => by rw [h.at_int, rp_intsV t]; rfl
theorem pd_minKL {Te : DE} {e : Expr} {c P : Addr} {k i : Nat} {params : Arguments} {scope : Scope} {a y : Str} {p p1 p2 p3 lpos kpos pos : Pos} (hc : X.calm = true) (hg : Gl X "min") (hm : X.mg "min" = none) (he : PD X e Te)
    (TB : LamX.TabB X.base X.mg c P) (hcode : X.env.code = .ref c) (hr : Room (k + 1) X.A) (L : Lam1 X.env.scope scope a y) (hdef : defaultsOf params X.env = ([], []))
    (hbind : ∀ (q : Str) (cl : List (Str × Addr)) (pm cv ctv v : Value), bindArgs (PySem.W.kla_fn "<lambda>" q params (.Subscript (.Name y p1) (.Name a p2) p3) scope cl pm cv ctv) ⟨[v], []⟩ = pure [(a, v)]) (hN : X.N[i]? = some y)
    (hs : backTo pos (starEach [e] X.env) = (false, eval e X.env) :: backTo pos (starEach [] X.env) := by rfl) (hpl : (backTo pos (starEach [e] X.env)).any (·.1) = false := by rfl)
    (hs2 : starEach [e] X.env = (false, eval e X.env) :: starEach [] X.env := by rfl)
    (hy1 : (y == ("__debug__" : Str)) = false := by decide) (hy2 : (y == ("__classdict__" : Str)) = false := by decide) (ha1 : (a == ("__debug__" : Str)) = false := by decide) :
    PD X (.Call (.Name "min" p) [e] [⟨some "key", .Lambda params (.Subscript (.Name y p1) (.Name a p2) p3) scope lpos, kpos⟩] pos) (dMinKL P (X.env.qual ++ "<lambda>") i Te) :=
  pe_imp (pe_minKL (T := [(P, X.env.qual ++ "<lambda>")]) hc hg hm he TB hcode (List.mem_singleton.mpr rfl) (fun p hp _ => by rw [List.mem_singleton.mp hp]) hr L hdef hbind hN hs hpl hs2 hy1 hy2 ha1) fun σ H Q ⟨Γ, G, Z, Q0, S, h, k⟩ => ⟨Γ, G, Z, _, S, h, fun v G1 w H1 q r R x => by
    obtain ⟨hP, hO, d, ks, L, kvs, e1, e2, e3, e4, e5, e6⟩ := q
    refine ⟨tabs_of R hP, fun H2 x2 t => ?_⟩
    obtain ⟨R2, y2⟩ := R.extN hP hO x2 t
    obtain ⟨l, us, rfl, hl, al⟩ := vw_lst R2 (Rp.ext y2 r) e1
    have S2 := S.ext (x.trans y2) R2
    obtain ⟨w2, ew, rw2⟩ := S2.env.get e2
    obtain ⟨ho, h1, h2⟩ := R2.cell d _ e3
    cases ho <;> first | exact h2.elim | skip
    rename_i us2
    obtain rfl := rp_intsV al
    have hw : w2 = .ref d := rw2.at_ref
    subst hw
    refine ⟨l, d, ks, ks.map L, us2, rfl, .inl (.inl hl), ew, .inl h1, e4, by simp, fun j hj => ?_, ?_⟩
    · have hm : ks.getD j 0 ∈ ks := by
        rw [List.getD_eq_getElem?_getD, List.getElem?_eq_getElem hj]; exact List.getElem_mem hj
      have he5 := e5 _ hm
      obtain ⟨u, q1, q2⟩ := (PairR.val (k := .inl (ks.getD j 0)) h2).1 _ he5
      rw [q1, q2.at_int]
      simp [List.getD_eq_getElem?_getD, List.getElem?_eq_getElem hj]
    · have hp : 0 < ks.length := List.length_pos_iff.mpr e4
      obtain ⟨b1, b2⟩ := argBest_swo (bt := btI fun j => (ks.map L).getD j 0) (fun x y h => by simp [btI] at h ⊢; omega) (fun x y z h1 h2 => by simp [btI] at h1 h2 ⊢; omega) (ks.length - 1)
      have hat : ∀ j, j < ks.length → (ks.map L).getD j 0 = L (ks.getD j 0) := fun j hj => by simp [List.getD_eq_getElem?_getD, List.getElem?_eq_getElem hj]
      have hbj : argBest (btI fun j => (ks.map L).getD j 0) (ks.length - 1) < ks.length := by omega
      refine k.mono (x.trans y2) |>.here R2 (e6 _ ?_ fun z hz => ?_) (.int _)
      · rw [List.getD_eq_getElem?_getD, List.getElem?_eq_getElem hbj]; exact List.getElem_mem hbj
      · obtain ⟨j, hj, ej⟩ := List.getElem_of_mem hz
        have := b2 j (by omega)
        simp only [btI, decide_eq_false_iff_not, Int.not_lt] at this
        rw [hat _ hbj, hat _ hj] at this
        have ez : ks.getD j 0 = z := by rw [List.getD_eq_getElem?_getD, List.getElem?_eq_getElem hj, ← ej]; rfl
        rw [ez] at this
        exact this⟩
end
end TK

namespace TK
open PySem PySem.Spec L2
theorem u2 {k : Nat} {A : Around} (r : Room k A) : A.units + 2 < cLine := by have := r.un; omega
theorem u1 {k : Nat} {A : Around} (r : Room k A) : A.units + 1 < cLine := by have := r.un; omega
theorem u68 {k : Nat} {A : Around} (r : Room k A) : A.units + 68 < cLine := by have := r.un; omega
theorem u65 {k : Nat} {A : Around} (r : Room k A) : A.units + 65 < cLine := by have := r.un; omega
theorem vwq_non {G : GH}  : vw G .non = .non := rfl
theorem isNonq_non  : isNon .non = true := rfl
theorem tyq_non  : tyName .non = "NoneType" := rfl
theorem vwq_bl {G : GH} {b : Bool} : vw G (.bl b) = (.bl b) := rfl
theorem isNonq_bl {b : Bool} : isNon (.bl b) = false := rfl
theorem tyq_bl {b : Bool} : tyName (.bl b) = "bool" := rfl
theorem vwq_int {G : GH} {i : Int} : vw G (.int i) = (.int i) := rfl
theorem isNonq_int {i : Int} : isNon (.int i) = false := rfl
theorem tyq_int {i : Int} : tyName (.int i) = "int" := rfl
theorem vwq_str {G : GH} {x : Str} : vw G (.str x) = (.str x) := rfl
theorem isNonq_str {x : Str} : isNon (.str x) = false := rfl
theorem tyq_str {x : Str} : tyName (.str x) = "str" := rfl
theorem vwq_tup {G : GH} {xs : List D} : vw G (.tup xs) = (.tup xs) := rfl
theorem isNonq_tup {xs : List D} : isNon (.tup xs) = false := rfl
theorem tyq_tup {xs : List D} : tyName (.tup xs) = "tuple" := rfl
theorem vwq_lst {G : GH} {xs : List D} : vw G (.lst xs) = (.lst xs) := rfl
theorem isNonq_lst {xs : List D} : isNon (.lst xs) = false := rfl
theorem tyq_lst {xs : List D} : tyName (.lst xs) = "list" := rfl
theorem vwq_frz {G : GH} {xs : List D} : vw G (.frz xs) = (.frz xs) := rfl
theorem isNonq_frz {xs : List D} : isNon (.frz xs) = false := rfl
theorem tyq_frz {xs : List D} : tyName (.frz xs) = "list" := rfl
theorem vwq_ty {G : GH} {n : String} : vw G (.ty n) = (.ty n) := rfl
theorem isNonq_ty {n : String} : isNon (.ty n) = false := rfl
theorem isNonq_ref {a : Addr} : isNon (.ref a) = false := rfl
theorem vw_gup {G : GH} {c : Addr} {ds : List D} : vw (gup G c (.lst ds)) (.ref c) = .lst ds := by simp only [vw, gup_same]
theorem vw_at {G : GH} {c : Addr} {ds : List D} (h : G c = some (.lst ds)) : vw G (.ref c) = .lst ds := by simp only [vw, h]
theorem not_dec {p : Prop} [Decidable p] : ((!decide p) = true) = ¬ p := by simp
theorem okTy_NoneType : okTy "NoneType" = true := by decide
theorem okTy_bool : okTy "bool" = true := by decide
theorem okTy_int : okTy "int" = true := by decide
theorem okTy_str : okTy "str" = true := by decide
theorem okTy_tuple : okTy "tuple" = true := by decide
theorem okTy_list : okTy "list" = true := by decide
theorem isaB_NoneType_bool : isaB "NoneType" "bool" = false := by decide
theorem isaB_NoneType_int : isaB "NoneType" "int" = false := by decide
theorem isaB_NoneType_str : isaB "NoneType" "str" = false := by decide
theorem isaB_NoneType_tuple : isaB "NoneType" "tuple" = false := by decide
theorem isaB_NoneType_list : isaB "NoneType" "list" = false := by decide
theorem isaB_bool_bool : isaB "bool" "bool" = true := by decide
theorem isaB_bool_int : isaB "bool" "int" = true := by decide
theorem isaB_bool_str : isaB "bool" "str" = false := by decide
theorem isaB_bool_tuple : isaB "bool" "tuple" = false := by decide
theorem isaB_bool_list : isaB "bool" "list" = false := by decide
theorem isaB_int_bool : isaB "int" "bool" = false := by decide
theorem isaB_int_int : isaB "int" "int" = true := by decide
theorem isaB_int_str : isaB "int" "str" = false := by decide
theorem isaB_int_tuple : isaB "int" "tuple" = false := by decide
theorem isaB_int_list : isaB "int" "list" = false := by decide
theorem isaB_str_bool : isaB "str" "bool" = false := by decide
theorem isaB_str_int : isaB "str" "int" = false := by decide
theorem isaB_str_str : isaB "str" "str" = true := by decide
theorem isaB_str_tuple : isaB "str" "tuple" = false := by decide
theorem isaB_str_list : isaB "str" "list" = false := by decide
theorem isaB_tuple_bool : isaB "tuple" "bool" = false := by decide
theorem isaB_tuple_int : isaB "tuple" "int" = false := by decide
theorem isaB_tuple_str : isaB "tuple" "str" = false := by decide
theorem isaB_tuple_tuple : isaB "tuple" "tuple" = true := by decide
theorem isaB_tuple_list : isaB "tuple" "list" = false := by decide
theorem isaB_list_bool : isaB "list" "bool" = false := by decide
theorem isaB_list_int : isaB "list" "int" = false := by decide
theorem isaB_list_str : isaB "list" "str" = false := by decide
theorem isaB_list_tuple : isaB "list" "tuple" = false := by decide
theorem isaB_list_list : isaB "list" "list" = true := by decide
theorem atI_0 {α : Type} {a0 : α} {r : List α} : atI (a0 :: r) 0 = some a0 := atI_nat (j := 0) rfl
theorem atI_1 {α : Type} {a0 a1 : α} {r : List α} : atI (a0 :: a1 :: r) 1 = some a1 := atI_nat (j := 1) rfl
theorem atI_2 {α : Type} {a0 a1 a2 : α} {r : List α} : atI (a0 :: a1 :: a2 :: r) 2 = some a2 := atI_nat (j := 2) rfl
theorem atI_3 {α : Type} {a0 a1 a2 a3 : α} {r : List α} : atI (a0 :: a1 :: a2 :: a3 :: r) 3 = some a3 := atI_nat (j := 3) rfl
theorem atI_4 {α : Type} {a0 a1 a2 a3 a4 : α} {r : List α} : atI (a0 :: a1 :: a2 :: a3 :: a4 :: r) 4 = some a4 := atI_nat (j := 4) rfl
theorem atI_5 {α : Type} {a0 a1 a2 a3 a4 a5 : α} {r : List α} : atI (a0 :: a1 :: a2 :: a3 :: a4 :: a5 :: r) 5 = some a5 := atI_nat (j := 5) rfl
theorem atI_6 {α : Type} {a0 a1 a2 a3 a4 a5 a6 : α} {r : List α} : atI (a0 :: a1 :: a2 :: a3 :: a4 :: a5 :: a6 :: r) 6 = some a6 := atI_nat (j := 6) rfl
theorem atI_7 {α : Type} {a0 a1 a2 a3 a4 a5 a6 a7 : α} {r : List α} : atI (a0 :: a1 :: a2 :: a3 :: a4 :: a5 :: a6 :: a7 :: r) 7 = some a7 := atI_nat (j := 7) rfl
theorem atI_8 {α : Type} {a0 a1 a2 a3 a4 a5 a6 a7 a8 : α} {r : List α} : atI (a0 :: a1 :: a2 :: a3 :: a4 :: a5 :: a6 :: a7 :: a8 :: r) 8 = some a8 := atI_nat (j := 8) rfl
theorem atI_9 {α : Type} {a0 a1 a2 a3 a4 a5 a6 a7 a8 a9 : α} {r : List α} : atI (a0 :: a1 :: a2 :: a3 :: a4 :: a5 :: a6 :: a7 :: a8 :: a9 :: r) 9 = some a9 := atI_nat (j := 9) rfl
theorem atI_10 {α : Type} {a0 a1 a2 a3 a4 a5 a6 a7 a8 a9 a10 : α} {r : List α} : atI (a0 :: a1 :: a2 :: a3 :: a4 :: a5 :: a6 :: a7 :: a8 :: a9 :: a10 :: r) 10 = some a10 := atI_nat (j := 10) rfl
theorem atI_11 {α : Type} {a0 a1 a2 a3 a4 a5 a6 a7 a8 a9 a10 a11 : α} {r : List α} : atI (a0 :: a1 :: a2 :: a3 :: a4 :: a5 :: a6 :: a7 :: a8 :: a9 :: a10 :: a11 :: r) 11 = some a11 := atI_nat (j := 11) rfl
theorem ixN_4_0 : ixN 4 0 = some 0 := rfl
theorem ixN_4_1 : ixN 4 1 = some 1 := rfl
theorem ixN_4_2 : ixN 4 2 = some 2 := rfl
theorem ixN_4_3 : ixN 4 3 = some 3 := rfl
theorem sl_0 : (0 ≤ sizeLine) = True := eq_true (by decide)
theorem sl_1 : (1 ≤ sizeLine) = True := eq_true (by decide)
theorem sl_2 : (2 ≤ sizeLine) = True := eq_true (by decide)
theorem sl_3 : (3 ≤ sizeLine) = True := eq_true (by decide)
theorem sl_4 : (4 ≤ sizeLine) = True := eq_true (by decide)
theorem sl_5 : (5 ≤ sizeLine) = True := eq_true (by decide)
theorem sl_6 : (6 ≤ sizeLine) = True := eq_true (by decide)
theorem sl_7 : (7 ≤ sizeLine) = True := eq_true (by decide)
theorem sl_8 : (8 ≤ sizeLine) = True := eq_true (by decide)
theorem sl_9 : (9 ≤ sizeLine) = True := eq_true (by decide)
theorem sl_10 : (10 ≤ sizeLine) = True := eq_true (by decide)
theorem sl_11 : (11 ≤ sizeLine) = True := eq_true (by decide)
theorem sl_12 : (12 ≤ sizeLine) = True := eq_true (by decide)
theorem gup_self {G : GH} {c : Addr} {o : GO} (h : G c = some o) : gup G c o = G := by
  funext b; unfold gup; split
  · rename_i e; subst e; exact h.symm
  · rfl
/-! ## loops over data -/
theorem dLoop_inv {gd : GH → Prop} {g : DG} {tb : DS} {D0 : DEnds} (I : Nat → GEnv → GH → Prop) {xs : List D} {Γ : GEnv} {G : GH} (h0 : I 0 Γ G) (hgd : ∀ i Γ G, I i Γ G → gd G)
    (step : ∀ i x Γ G (K : GEnv → GH → Prop), xs[i]? = some x → I i Γ G → (∀ Γ' G', I (i + 1) Γ' G' → K Γ' G') → g x Γ G fun Γ' G' => tb { nx := K, rt := D0.rt, bk := D0.nx, ct := K, ex := D0.ex } Γ' G')
    (hend : ∀ Γ G, I xs.length Γ G → D0.nx Γ G) : dLoop gd g tb D0 xs Γ G := by
  have key : ∀ (n i : Nat) (Γ : GEnv) (G : GH), i + n = xs.length → I i Γ G → dLoop gd g tb D0 (xs.drop i) Γ G := by
    intro n
    induction n with
    | zero =>
      intro i Γ G e h
      have ei : i = xs.length := by omega
      rw [List.drop_eq_nil_of_le (by omega)]
      exact ⟨hgd _ _ _ h, hend _ _ (ei ▸ h)⟩
    | succ n ih =>
      intro i Γ G e h
      have hi : i < xs.length := by omega
      rw [List.drop_eq_getElem_cons hi]
      exact ⟨hgd _ _ _ h, step i _ Γ G _ (List.getElem?_eq_getElem hi) h fun Γ' G' h' => ih (i + 1) Γ' G' (by omega) h'⟩
  have := key xs.length 0 Γ G (by omega) h0
  rwa [List.drop_zero] at this
theorem dComp_inv {gd : GH → Prop} {g : DG} {tt : DT} {te : DE} {Γ : GEnv} {Q : List D → GH → Prop} (I : Nat → List D → GH → Prop) {xs : List D} {G : GH} (h0 : I 0 [] G) (hgd : ∀ i acc G, I i acc G → gd G)
    (step : ∀ i x acc G (K1 : D → GH → Prop) (K2 : GH → Prop), xs[i]? = some x → I i acc G → (∀ d G', I (i + 1) (acc ++ [d]) G' → K1 d G') → (∀ G', I (i + 1) acc G' → K2 G') → g x Γ G fun Γ2 G2 => tt Γ2 G2 fun b G3 => cnd b (te Γ2 G3 K1) (K2 G3))
    (hend : ∀ acc G, I xs.length acc G → Q acc G) : dComp gd g tt te Γ Q xs [] G := by
  have key : ∀ (n i : Nat) (acc : List D) (G : GH), i + n = xs.length → I i acc G → dComp gd g tt te Γ Q (xs.drop i) acc G := by
    intro n
    induction n with
    | zero =>
      intro i acc G e h
      have ei : i = xs.length := by omega
      rw [List.drop_eq_nil_of_le (by omega)]
      exact ⟨hgd _ _ _ h, hend _ _ (ei ▸ h)⟩
    | succ n ih =>
      intro i acc G e h
      have hi : i < xs.length := by omega
      rw [List.drop_eq_getElem_cons hi]
      exact ⟨hgd _ _ _ h, step i _ acc G (fun d G4 => dComp gd g tt te Γ Q (xs.drop (i + 1)) (acc ++ [d]) G4) (fun G3 => dComp gd g tt te Γ Q (xs.drop (i + 1)) acc G3) (List.getElem?_eq_getElem hi) h (fun d G' h' => ih (i + 1) _ G' (by omega) h') fun G' h' => ih (i + 1) _ G' (by omega) h'⟩
  have := key xs.length 0 [] G (by omega) h0
  rwa [List.drop_zero] at this
/-- a comprehension whose elements and tests leave the cells as they are -/
theorem dComp_pure {gd : GH → Prop} {g : DG} {tt : DT} {te : DE} {Γ : GEnv} {Q : List D → GH → Prop} (f : D → D) (p : D → Bool) {G : GH} (hgd : gd G) : ∀ {xs acc : List D},
    (∀ x ∈ xs, ∀ (K1 : D → GH → Prop) (K2 : GH → Prop), (p x = true → K1 (f x) G) → (p x = false → K2 G) → g x Γ G fun Γ2 G2 => tt Γ2 G2 fun b G3 => cnd b (te Γ2 G3 K1) (K2 G3)) →
    Q (acc ++ (xs.filter p).map f) G → dComp gd g tt te Γ Q xs acc G
  | [], acc, _, h => ⟨hgd, by simpa using h⟩
  | x :: r, acc, st, h => by
    refine ⟨hgd, st x List.mem_cons_self _ _ (fun e => ?_) fun e => ?_⟩
    · refine dComp_pure f p hgd (fun y hy => st y (List.mem_cons_of_mem _ hy)) ?_
      rw [List.filter_cons_of_pos e, List.map_cons] at h
      simpa using h
    · refine dComp_pure f p hgd (fun y hy => st y (List.mem_cons_of_mem _ hy)) ?_
      rw [List.filter_cons_of_neg (by simp [e])] at h
      exact h
theorem rngD_get {lo : Int} {n i : Nat} {x : D} (h : (rngD lo n)[i]? = some x) : i < n ∧ x = .int (lo + i) := by
  simp only [rngD, List.getElem?_map, Option.map_eq_some_iff] at h
  obtain ⟨c, ec, rfl⟩ := h
  obtain ⟨hc, e2⟩ := List.getElem?_eq_some_iff.mp ec
  simp only [List.getElem_range] at e2
  subst e2
  exact ⟨by simpa using hc, rfl⟩
theorem rngD_len {lo : Int} {n : Nat} : (rngD lo n).length = n := by simp [rngD]
theorem rngD_mem {lo : Int} {n : Nat} {x : D} (h : x ∈ rngD lo n) : ∃ i, i < n ∧ x = .int (lo + i) := by
  simp only [rngD, List.mem_map, List.mem_range] at h
  obtain ⟨i, h1, h2⟩ := h
  exact ⟨i, h1, h2.symm⟩
abbrev intsD (ns : List Int) : List D := ns.map D.int
theorem sizeLine_ge {n : Nat} (h : n ≤ 1000000) : n ≤ sizeLine := Nat.le_trans h (by decide)
theorem sizeLine_gt {n : Nat} (h : n ≤ 1000000) : n < sizeLine := Nat.lt_of_le_of_lt h (by decide)
/-! ## == of data -/
theorem toPys_map {ds : List D} : toPys ds = ds.map toPy := by
  induction ds with
  | nil => rw [toPys]; rfl
  | cons x r ih => rw [toPys, List.map_cons, ih]
theorem plains_all {ds : List D} : plains ds = ds.all plain := by
  induction ds with
  | nil => rw [plains]; rfl
  | cons x r ih => rw [plains, List.all_cons, ih]
/-- of one depth at the most -/
def depD : Nat → D → Prop
  | _, .non => True
  | _, .bl _ => True
  | _, .int _ => True
  | _, .str x => PyData.strOk x = true
  | n + 1, .tup xs => ∀ x ∈ xs, depD n x
  | n + 1, .lst xs => ∀ x ∈ xs, depD n x
  | _, _ => False
theorem dep_mono {n m : Nat} (h : n ≤ m) : ∀ {d : D}, depD n d → depD m d := by
  induction n generalizing m with
  | zero =>
    intro d
    cases d <;> first | (intro z; cases m <;> first | exact z | trivial) | (intro z; exact z.elim)
  | succ n ih =>
    obtain ⟨k, rfl⟩ : ∃ k, m = k + 1 := ⟨m - 1, by omega⟩
    intro d
    cases d with
    | tup xs => exact fun z x hx => ih (by omega) (z x hx)
    | lst xs => exact fun z x hx => ih (by omega) (z x hx)
    | non => intro _; trivial
    | bl _ => intro _; trivial
    | int _ => intro _; trivial
    | str _ => intro z; exact z
    | frz _ => intro z; exact z.elim
    | ref _ => intro z; exact z.elim
    | ty _ => intro z; exact z.elim
    | code _ => intro z; exact z.elim
theorem dep_ok : ∀ {n : Nat} {d : D}, depD n d → plain d = true ∧ (toPy d).canLay0 = true ∧ (toPy d).depth ≤ n := by
  have all : ∀ {n : Nat} {xs : List D}, (∀ x ∈ xs, plain x = true ∧ (toPy x).canLay0 = true ∧ (toPy x).depth ≤ n) → plains xs = true ∧ PyData.canLayAll0 (toPys xs) = true ∧ PyData.depthAll (toPys xs) ≤ n := by
    intro n xs
    induction xs with
    | nil => intro _; exact ⟨by rw [plains], by rw [toPys]; rfl, by rw [toPys]; exact Nat.zero_le _⟩
    | cons x r ih =>
      intro h
      obtain ⟨a, b, c⟩ := h x List.mem_cons_self
      obtain ⟨a', b', c'⟩ := ih fun y hy => h y (List.mem_cons_of_mem _ hy)
      refine ⟨by rw [plains, a, a']; rfl, ?_, ?_⟩
      · rw [toPys, PyData.canLayAll0, b, b']; rfl
      · rw [toPys, PyData.depthAll]; exact Nat.max_le.mpr ⟨c, c'⟩
  intro n
  induction n with
  | zero =>
    intro d h
    cases d <;> first | exact h.elim | exact ⟨by rw [plain] <;> simp, by rw [toPy]; rfl, by rw [toPy]; exact Nat.zero_le _⟩ | exact ⟨by rw [plain] <;> simp, by rw [toPy, PyData.canLay0]; exact h, by rw [toPy]; exact Nat.zero_le _⟩
  | succ n ih =>
    intro d h
    cases d with
    | tup xs =>
      obtain ⟨a, b, c⟩ := all fun x hx => ih (h x hx)
      exact ⟨by rw [plain]; exact a, by rw [toPy, PyData.canLay0]; exact b, by rw [toPy, PyData.depth]; omega⟩
    | lst xs =>
      obtain ⟨a, b, c⟩ := all fun x hx => ih (h x hx)
      exact ⟨by rw [plain]; exact a, by rw [toPy, PyData.canLay0]; exact b, by rw [toPy, PyData.depth]; omega⟩
    | non => exact ⟨by rw [plain] <;> simp, by rw [toPy]; rfl, by rw [toPy]; exact Nat.zero_le _⟩
    | bl _ => exact ⟨by rw [plain] <;> simp, by rw [toPy]; rfl, by rw [toPy]; exact Nat.zero_le _⟩
    | int _ => exact ⟨by rw [plain] <;> simp, by rw [toPy]; rfl, by rw [toPy]; exact Nat.zero_le _⟩
    | str _ => exact ⟨by rw [plain] <;> simp, by rw [toPy, PyData.canLay0]; exact h, by rw [toPy]; exact Nat.zero_le _⟩
    | frz _ => exact h.elim
    | ref _ => exact h.elim
    | ty _ => exact h.elim
    | code _ => exact h.elim
theorem okE_of {n : Nat} {d : D} (h : depD n d) (hn : n ≤ 64) : okE d = true := by
  obtain ⟨a, b, c⟩ := dep_ok h
  unfold okE SeqAt.shaped
  rw [a, b, decide_eq_true (Nat.le_trans c hn)]
  rfl
/-- .. over the images of a list -/
theorem dComp_map {α : Type} {gd : GH → Prop} {g : DG} {tt : DT} {te : DE} {Γ : GEnv} {Q : List D → GH → Prop} (φ f : α → D) (p : α → Bool) {G : GH} (hgd : gd G) : ∀ {l : List α} {acc : List D},
    (∀ x ∈ l, ∀ (K1 : D → GH → Prop) (K2 : GH → Prop), (p x = true → K1 (f x) G) → (p x = false → K2 G) → g (φ x) Γ G fun Γ2 G2 => tt Γ2 G2 fun b G3 => cnd b (te Γ2 G3 K1) (K2 G3)) →
    Q (acc ++ (l.filter p).map f) G → dComp gd g tt te Γ Q (l.map φ) acc G
  | [], acc, _, h => ⟨hgd, by simpa using h⟩
  | x :: r, acc, st, h => by
    refine ⟨hgd, st x List.mem_cons_self _ _ (fun e => ?_) fun e => ?_⟩
    · refine dComp_map φ f p hgd (fun y hy => st y (List.mem_cons_of_mem _ hy)) ?_
      rw [List.filter_cons_of_pos e, List.map_cons] at h
      simpa using h
    · refine dComp_map φ f p hgd (fun y hy => st y (List.mem_cons_of_mem _ hy)) ?_
      rw [List.filter_cons_of_neg (by simp [e])] at h
      exact h
/-- a loop over the images of a list; what is done so far is a fold -/
theorem dLoop_map {α : Type} {gd : GH → Prop} {g : DG} {tb : DS} {D0 : DEnds} (φ : α → D) (I : List α → GEnv → GH → Prop) {l : List α} {Γ : GEnv} {G : GH} (h0 : I [] Γ G) (hgd : ∀ pre Γ G, I pre Γ G → gd G)
    (step : ∀ pre x Γ G (K : GEnv → GH → Prop), pre ++ [x] <+: l → I pre Γ G → (∀ Γ' G', I (pre ++ [x]) Γ' G' → K Γ' G') → g (φ x) Γ G fun Γ' G' => tb { nx := K, rt := D0.rt, bk := D0.nx, ct := K, ex := D0.ex } Γ' G')
    (hend : ∀ Γ G, I l Γ G → D0.nx Γ G) : dLoop gd g tb D0 (l.map φ) Γ G := by
  have key : ∀ (r pre : List α) (Γ : GEnv) (G : GH), pre ++ r = l → I pre Γ G → dLoop gd g tb D0 (r.map φ) Γ G := by
    intro r
    induction r with
    | nil =>
      intro pre Γ G e h
      rw [List.append_nil] at e
      subst e
      exact ⟨hgd _ _ _ h, hend _ _ h⟩
    | cons x r ih =>
      intro pre Γ G e h
      refine ⟨hgd _ _ _ h, step pre x Γ G _ ⟨r, by rw [List.append_assoc]; exact e⟩ h fun Γ' G' h' => ih (pre ++ [x]) Γ' G' (by rw [List.append_assoc]; exact e) h'⟩
  exact key l [] Γ G rfl h0
theorem cutD_map {α : Type} (φ : α → D) (l : List α) (m n : Nat) (h : ∀ (xs : List D) (m n : Nat), cutD xs (some (m : Int)) (some (n : Int)) = (xs.drop m).take (n - m)) : cutD (l.map φ) (some (m : Int)) (some (n : Int)) = ((l.drop m).take (n - m)).map φ := by
  rw [h, List.map_take, List.map_drop]
/-- of one depth at the most, no list too long -/
def fitD : Nat → D → Prop
  | _, .non => True
  | _, .bl _ => True
  | _, .int _ => True
  | _, .str x => PyData.strOk x = true
  | n + 1, .tup xs => xs.length ≤ 1000000 ∧ ∀ x ∈ xs, fitD n x
  | n + 1, .lst xs => xs.length ≤ 1000000 ∧ ∀ x ∈ xs, fitD n x
  | _, _ => False
theorem fit_dep : ∀ {n : Nat} {d : D}, fitD n d → depD n d := by
  intro n
  induction n with
  | zero => intro d h; cases d <;> first | exact h | trivial
  | succ n ih =>
    intro d h
    cases d with
    | tup xs => exact fun x hx => ih (h.2 x hx)
    | lst xs => exact fun x hx => ih (h.2 x hx)
    | non => trivial
    | bl _ => trivial
    | int _ => trivial
    | str _ => exact h
    | frz _ => exact h.elim
    | ref _ => exact h.elim
    | ty _ => exact h.elim
    | code _ => exact h.elim
theorem view_dep {G : GH} : ∀ {n : Nat} {d : D}, depD n d → View G d d := by
  intro n
  induction n with
  | zero => intro d h; cases d <;> first | exact h.elim | constructor
  | succ n ih =>
    intro d h
    cases d with
    | tup xs => exact .tup (view_all fun x hx => ih (h x hx))
    | lst xs => exact .lst (view_all fun x hx => ih (h x hx))
    | non => exact .non
    | bl b => exact .bl b
    | int b => exact .int b
    | str b => exact .str b
    | frz _ => exact h.elim
    | ref _ => exact h.elim
    | ty _ => exact h.elim
    | code _ => exact h.elim

end TK

namespace TK
open PySem PySem.Spec L2
local macro_rules | `(tactic| walk_at "d") => `(tactic| simp only [gsub_refl, isC, dCountB, dIndexB, blL, dCallX, dDropX, dRetX, dSetX, dRaise, dxOf, startD, dSeq, dNext, dRet, dRetN, dSet, dAsg, dPar, dIfS, dDrop, dFor, dTest, dAnd, dOr, dNot, dAndV, dOrV, dNotV, dIf, dVar, dC, dNil, dCons, dOp, dTup, dLst, dCB, dCall, dMt, dChain, dCmpI, dSubR, dAddR, dMulI, dFdivR, dModR, dPowR, dIxR, dLen, dIsi, dTuple, dList, dInt, dIsNR, dNotNR, dEqR, dNeR, dgName, dgTup, dgCons, dgNil, newL, tyD, dLc, diAny, diRng1, diRng2, dSlice, dSl, doSome, doNone, wipeD, dYes, dMax, dMin, dUn, dNegR, dBreak, dCont, dAppend, dExtend, dFrz, dSetItem, dSortSet, dInL, dCallV, dNever, dJoin, dSplit, dStr, dInS, diEnumerate, dDGet, dInD, dDPut, putC, lookD, keyOf, keysOf, dNewD, dDisp, dpNil, dpCons, dSorted, dKdIn, dKdGet, dDGet2, dKdGet2, dRev, dDictPT, dMulT, b2n_t, b2n_f, dUpdate, dFld, dSetFld, dMeth, dMake, dInT, dNo, dSortA, dDisp1T, dLockE, diKeys, diZip, dPar3, dPopAt, dRemove, dMinD, List.map_cons, List.map_nil, List.length_cons, List.length_nil, List.replicate, List.cons_append, List.nil_append, List.getElem?_cons_zero, List.getElem?_cons_succ, List.set_cons_zero, List.set_cons_succ, Nat.reduceAdd, Nat.reduceSub, Nat.zero_add, Nat.add_zero, ne_eq, String.reduceEq, not_false_eq_true, not_true_eq_false, true_and, and_true, Bool.not_false, Bool.not_true, cnd_t, cnd_f, cnd_not, Bool.true_or, Bool.or_true, Bool.false_or, Bool.or_false, reduceIte, gup_same, gup_gup, endsD, List.length_cons, List.length_nil, Nat.reduceAdd, vwq_non, isNonq_non, tyq_non, vwq_bl, isNonq_bl, tyq_bl, vwq_int, isNonq_int, tyq_int, vwq_str, isNonq_str, tyq_str, vwq_tup, isNonq_tup, tyq_tup, vwq_lst, isNonq_lst, tyq_lst, vwq_frz, isNonq_frz, tyq_frz, vwq_ty, isNonq_ty, isNonq_ref, vw_gup, not_dec, okTy_NoneType, okTy_bool, okTy_int, okTy_str, okTy_tuple, okTy_list, isaB_NoneType_bool, isaB_NoneType_int, isaB_NoneType_str, isaB_NoneType_tuple, isaB_NoneType_list, isaB_bool_bool, isaB_bool_int, isaB_bool_str, isaB_bool_tuple, isaB_bool_list, isaB_int_bool, isaB_int_int, isaB_int_str, isaB_int_tuple, isaB_int_list, isaB_str_bool, isaB_str_int, isaB_str_str, isaB_str_tuple, isaB_str_list, isaB_tuple_bool, isaB_tuple_int, isaB_tuple_str, isaB_tuple_tuple, isaB_tuple_list, isaB_list_bool, isaB_list_int, isaB_list_str, isaB_list_tuple, isaB_list_list, atI_0, atI_1, atI_2, atI_3, atI_4, atI_5, atI_6, atI_7, atI_8, atI_9, atI_10, atI_11, ixN_4_0, ixN_4_1, ixN_4_2, ixN_4_3, sl_0, sl_1, sl_2, sl_3, sl_4, sl_5, sl_6, sl_7, sl_8, sl_9, sl_10, sl_11, sl_12])
/-! ## == of simple data -/
theorem eqD_int {i j : Int} : eqD (.int i) (.int j) = (i == j) := by unfold eqD; rw [toPy, toPy]; rfl
theorem eqD_non : eqD .non .non = true := by unfold eqD; rw [toPy]; rfl
theorem eqD_int_non {i : Int} : eqD (.int i) .non = false := by unfold eqD; rw [toPy, toPy]; rfl
theorem eqD_non_int {i : Int} : eqD .non (.int i) = false := by unfold eqD; rw [toPy, toPy]; rfl
theorem eqD_str {i j : Str} : eqD (.str i) (.str j) = (i == j) := by unfold eqD; rw [toPy, toPy]; rfl
theorem eqD_bl {i j : Bool} : eqD (.bl i) (.bl j) = (i == j) := by unfold eqD; rw [toPy, toPy]; rfl
theorem eqD_lst_nil {xs : List D} : eqD (.lst xs) (.lst []) = xs.isEmpty := by
  unfold eqD; rw [toPy, toPy, toPys]
  cases xs with
  | nil => rw [toPys]; rfl
  | cons x r => rw [toPys]; rfl
theorem dep_ints {ns : List Int} : depD 1 (.lst (intsD ns)) := by
  intro x hx
  obtain ⟨i, _, rfl⟩ := List.mem_map.mp hx
  trivial
theorem cutD_nat (xs : List D) (m n : Nat) : cutD xs (some (m : Int)) (some (n : Int)) = (xs.drop m).take (n - m) := by
  unfold cutD
  rw [HT.sIx_nat, HT.sIx_nat]
  by_cases h : m ≤ xs.length
  · rw [Nat.min_eq_left h]
    by_cases h2 : n ≤ xs.length
    · rw [Nat.min_eq_left h2]
    · rw [Nat.min_eq_right (show xs.length ≤ n by omega), List.take_of_length_le (by simp), List.take_of_length_le (by simp; omega)]
  · rw [Nat.min_eq_right (show xs.length ≤ m by omega), List.drop_eq_nil_of_le (Nat.le_refl _), List.drop_eq_nil_of_le (by omega : xs.length ≤ m)]
    simp
/-! ## slices -/
theorem cutD_take (xs : List D) (n : Nat) : cutD xs none (some (n : Int)) = xs.take n := by
  unfold cutD
  rw [HT.sIx_nat, show HT.sIx xs.length 0 none = 0 from rfl, List.drop_zero, Nat.sub_zero]
  by_cases h : n ≤ xs.length
  · rw [Nat.min_eq_left h]
  · rw [Nat.min_eq_right (by omega), List.take_of_length_le (Nat.le_refl _), List.take_of_length_le (by omega)]
theorem cutD_drop (xs : List D) (m : Nat) : cutD xs (some (m : Int)) none = xs.drop m := by
  unfold cutD
  rw [HT.sIx_nat, show HT.sIx xs.length xs.length none = xs.length from rfl]
  by_cases h : m ≤ xs.length
  · rw [Nat.min_eq_left h, List.take_of_length_le (by rw [List.length_drop]; exact Nat.le_refl _)]
  · rw [Nat.min_eq_right (by omega), List.drop_eq_nil_of_le (Nat.le_refl _), List.drop_eq_nil_of_le (by omega : xs.length ≤ m)]
    simp
theorem set_cut {α : Type} (φ : α → D) {l : List α} {k : Nat} {a : α} (h : k < l.length) : (l.map φ).take k ++ [φ a] ++ (l.map φ).drop (k + 1) = (l.set k a).map φ := by
  rw [List.map_set, List.set_eq_take_append_cons_drop, if_pos (by rw [List.length_map]; exact h), List.append_assoc]; rfl
theorem CMul_small {i j : Int} (h0 : 0 ≤ i) (h : i ≤ 1000000) : CMul i j := .inl ⟨by omega, by omega⟩
def t_is_number : DS :=
  dRet (dAndV (dCB dIsi (dCons (dVar 0) (dCons (dC (.ty "int")) (dNil)))) (dAndV (dNotV (dCB dIsi (dCons (dVar 0) (dCons (dC (.ty "bool")) (dNil))))) (dChain dLe dLe (dVar 1) (dVar 0) (dVar 2))))
def isNum (d : D) (lo hi : Int) : Bool := match d with | .int i => decide (lo ≤ i) && decide (i ≤ hi) | _ => false
def sp_is_number : SpD := fun ds G Q _ => ∃ d lo hi, ds = [d, .int lo, .int hi] ∧ okTy (tyName d) = true ∧ Q (.bl (isNum d lo hi)) G
theorem law_is_number : ∀ ds G Q E, sp_is_number ds G Q E → ds.length = 3 ∧ t_is_number (endsD Q) (startD 3 ds) G := by
  rintro ds G Q E ⟨d, lo, hi, rfl, ht, h⟩
  refine ⟨rfl, ?_⟩
  unfold t_is_number
  cases d
  case ref => exact absurd (show okTy "" = true from ht) (by decide)
  case ty => exact absurd (show okTy "" = true from ht) (by decide)
  case code => exact absurd (show okTy "" = true from ht) (by decide)
  all_goals walk_at "d"
  all_goals first | exact .here h | skip
  simp only [isNum] at h
  refine cndP (fun e => ?_) fun e => ?_
  · rw [decide_eq_true e, Bool.true_and] at h; exact .here h
  · rw [decide_eq_false e, Bool.false_and] at h; exact .here h
/-! ## lands -/
abbrev Land := List (List Int)
def rowD (k : Bool) (r : List Int) : D := match k with | true => .tup (intsD r) | false => .lst (intsD r)
theorem rowD_t {r : List Int} : rowD true r = .tup (intsD r) := rfl
theorem rowD_f {r : List Int} : rowD false r = .lst (intsD r) := rfl
def landD (k : Bool) (L : Land) : D := match k with | true => .tup (L.map (rowD true)) | false => .lst (L.map (rowD false))
def spotHs (L : Land) (b x y : Nat) : List Int := ((L.drop (y * b)).take b).flatMap fun r => (r.drop (x * b)).take b
def lvl (L : Land) (st : List Int) (b x y : Nat) : Option Nat := if spotHs L b x y = [] then none else some (st.filter fun s => (spotHs L b x y).any fun h => decide (s ≤ h)).length
def optD : Option Nat → D | none => .non | some n => .int n
def t_level : DS :=
  dSeq (dAsg (dTup (dCons (dOp (dMulI false) (dOp dIxR (dVar 3) (dC (.int 0))) (dVar 2)) (dCons (dOp (dMulI false) (dOp dIxR (dVar 3) (dC (.int 1))) (dVar 2)) (dNil)))) (dgTup 2 (dgCons (dgName 4) (dgCons (dgName 5) (dgNil)))))
  (dSeq (dSet 6 (dLc false (diAny (dSlice false (dVar 0) (doSome (dVar 5)) (doSome (dOp (dAddR false) (dVar 5) (dVar 2))))) (dgName 7) (dYes) (dSlice false (dVar 7) (doSome (dVar 4)) (doSome (dOp (dAddR false) (dVar 4) (dVar 2)))) [7]))
  (dSeq (dSet 8 (dLst true (dNil)))
  (dSeq (dFor (diAny (dVar 6)) (dgName 7) (dDrop (dMt "list" dExtend (dVar 8) (dCons (dVar 7) (dNil)))))
  (dSeq (dIfS (dTest (dOp dEqR (dVar 8) (dLst false (dNil)))) (dRet (dC .non)) (dNext))
  (dRet (dCB dLen (dCons (dLc false (diAny (dVar 1)) (dgName 9) (dTest (dOp dLe (dVar 9) (dCB dMax (dCons (dVar 8) (dNil))))) (dVar 9) [9]) (dNil))))))))
def sp_level : SpD := fun ds G Q _ => ∃ (k : Bool) (L : Land) (st : List Int) (b x y : Nat), ds = [landD k L, .tup (intsD st), .int b, .tup [.int x, .int y]] ∧ L.length ≤ 24 ∧ (∀ r ∈ L, r.length ≤ 24) ∧ st.length ≤ 6 ∧ b ≤ 4 ∧ x ≤ 1000 ∧ y ≤ 1000 ∧ Q (optD (lvl L st b x y)) G
theorem law_level : ∀ ds G Q E, sp_level ds G Q E → ds.length = 4 ∧ t_level (endsD Q) (startD 10 ds) G := by
  rintro ds G Q E ⟨k, L, st, b, x, y, rfl, hL, hr, hst, hb, hx, hy, h⟩
  refine ⟨rfl, ?_⟩
  unfold t_level
  have ey : (y : Int) * (b : Int) = ((y * b : Nat) : Int) := by rw [Int.natCast_mul]
  have ey2 : (y : Int) * (b : Int) + b = ((y * b + b : Nat) : Int) := by rw [Int.natCast_add, Int.natCast_mul]
  have ex : (x : Int) * (b : Int) = ((x * b : Nat) : Int) := by rw [Int.natCast_mul]
  have ex2 : ((x * b : Nat) : Int) + b = ((x * b + b : Nat) : Int) := by rw [Int.natCast_add]
  have ed : y * b + b - y * b = b := by omega
  have ed2 : x * b + b - x * b = b := by omega
  have hrows : ∀ r ∈ (L.drop (y * b)).take b, r.length ≤ 24 := fun r hm => hr r (List.mem_of_mem_drop (List.mem_of_mem_take hm))
  have hlen : ((L.drop (y * b)).take b).length ≤ 4 := by rw [List.length_take]; omega
  generalize hR : (L.drop (y * b)).take b = R at hrows hlen
  have hsp : spotHs L b x y = R.flatMap fun r => (r.drop (x * b)).take b := by unfold spotHs; rw [hR]
  have hfl : ∀ l : List (List Int), l.length ≤ 4 → (l.flatMap fun r => (r.drop (x * b)).take b).length ≤ 24 := by
    intro l hl
    have e : ∀ l : List (List Int), (l.flatMap fun r => (r.drop (x * b)).take b).length ≤ 4 * l.length := by
      intro l
      induction l with
      | nil => simp
      | cons r l ih =>
        rw [List.flatMap_cons, List.length_append, List.length_cons, List.length_take]
        omega
    have := e l
    omega
  -- the loop
  have loop : ∀ (k : Bool) (Γ0 : D) (p : Addr), G p = none → dLoop (fun _ => True) (dgName 7) (dDrop (dMt "list" dExtend (dVar 8) (dCons (dVar 7) dNil)))
      { nx := dSeq (dIfS (dTest (dOp dEqR (dVar 8) (dLst false dNil))) (dRet (dC D.non)) dNext) (dRet (dCB dLen (dCons (dLc false (diAny (dVar 1)) (dgName 9) (dTest (dOp dLe (dVar 9) (dCB dMax (dCons (dVar 8) dNil)))) (dVar 9) [9]) dNil))) (endsD Q), rt := (endsD Q).rt }
      (R.map fun r => rowD k ((r.drop (x * b)).take b)) [some Γ0, some (D.tup (intsD st)), some (D.int b), some (D.tup [D.int x, D.int y]), some (D.int ((x * b : Nat) : Int)), some (D.int ((y * b : Nat) : Int)), some (D.lst (R.map fun r => rowD k ((r.drop (x * b)).take b))), none, some (D.ref p), none] (gup G p (GO.lst [])) := by
    intro k Γ0 p hp
    refine dLoop_map _ (fun pre Γ' G' => ∃ o, Γ' = [some Γ0, some (D.tup (intsD st)), some (D.int b), some (D.tup [D.int x, D.int y]), some (D.int ((x * b : Nat) : Int)), some (D.int ((y * b : Nat) : Int)), some (D.lst (R.map fun r => rowD k ((r.drop (x * b)).take b))), o, some (D.ref p), none] ∧ G' = gup G p (.lst (intsD (pre.flatMap fun r => (r.drop (x * b)).take b)))) ⟨none, rfl, rfl⟩ (fun _ _ _ _ => trivial) ?_ ?_
    · rintro pre r Γ' G' K hpre ⟨o, rfl, rfl⟩ hK
      have hm : r ∈ R := hpre.subset (by simp)
      have hle := hpre.length_le
      have h16 : ((pre.flatMap fun r => (r.drop (x * b)).take b) ++ (r.drop (x * b)).take b).length ≤ 24 := by
        have e := hfl (pre ++ [r]) (Nat.le_trans hle hlen)
        rw [List.flatMap_append] at e
        simpa using e
      rw [List.length_append] at h16
      cases k <;> simp only [rowD] <;> walk_at "d"
      all_goals
        refine ⟨sizeLine_ge (by rw [List.length_map, List.length_map]; omega), hK _ _ ⟨_, rfl, ?_⟩⟩
        rw [List.flatMap_append, ← List.map_append]
        simp
    · rintro Γ' G' ⟨o, rfl, rfl⟩
      walk_at "d"
      rw [← hsp]
      refine ⟨okE_of dep_ints (by decide), okE_of (n := 1) (fun x hx => absurd hx (by simp)) (by decide), ?_⟩
      rw [eqD_lst_nil]
      by_cases he : spotHs L b x y = []
      · unfold lvl at h
        rw [if_pos he] at h
        rw [he]
        exact ⟨G, .gup hp, h⟩
      · have hne : (intsD (spotHs L b x y)).isEmpty = false := by
          cases q : spotHs L b x y with
          | nil => exact absurd q he
          | cons _ _ => rfl
        rw [hne]
        refine ⟨sizeLine_ge (by rw [List.length_map]; omega), dComp_map D.int D.int (fun s => (spotHs L b x y).any fun h => decide (s ≤ h)) trivial (fun s hs K1 K2 h1 h2 => ?_) ?_⟩
        · walk_at "d"
          refine ⟨_, rfl, List.length_pos_iff.mpr he, fun m hm => ?_⟩
          refine cndP (fun hsm => ?_) fun hsm => ?_
          · exact h1 (List.any_eq_true.mpr ⟨m, hm.1, decide_eq_true hsm⟩)
          · refine h2 (List.any_eq_false.mpr fun z hz => ?_)
            have := hm.2 z hz
            simp only [decide_eq_true_eq]
            omega
        · unfold lvl at h
          rw [if_neg he] at h
          rw [List.nil_append, List.length_map]
          exact ⟨G, .gup hp, h⟩
  cases k
  case' false =>
    simp only [landD]
    walk_at "d"
    refine ⟨CMul_small (by omega) (by omega), CMul_small (by omega) (by omega), ?_⟩
    rw [ey2, ey, ex, cutD_map _ L _ _ cutD_nat, ed, hR]
    refine ⟨by rw [List.length_map]; exact sizeLine_ge (by omega), dComp_map _ (fun r => rowD false ((r.drop (x * b)).take b)) (fun _ => true) trivial (fun r hm K1 K2 h1 h2 => ?_) ?_⟩
    · simp only [rowD]
      walk_at "d"
      rw [ex2, cutD_map _ r _ _ cutD_nat, ed2]
      exact h1 rfl
    · rw [List.nil_append, List.filter_eq_self.mpr (fun _ _ => rfl)]
      exact loop _ _
  case' true =>
    simp only [landD]
    walk_at "d"
    refine ⟨CMul_small (by omega) (by omega), CMul_small (by omega) (by omega), ?_⟩
    rw [ey2, ey, ex, cutD_map _ L _ _ cutD_nat, ed, hR]
    refine ⟨by rw [List.length_map]; exact sizeLine_ge (by omega), dComp_map _ (fun r => rowD true ((r.drop (x * b)).take b)) (fun _ => true) trivial (fun r hm K1 K2 h1 h2 => ?_) ?_⟩
    · simp only [rowD]
      walk_at "d"
      rw [ex2, cutD_map _ r _ _ cutD_nat, ed2]
      exact h1 rfl
    · rw [List.nil_append, List.filter_eq_self.mpr (fun _ _ => rfl)]
      exact loop _ _

def t_up_to : DS :=
  dRet (dOp (dFdivR) (dOp (dSubR) (dOp (dAddR false) (dVar 0) (dVar 1)) (dC (.int 1))) (dVar 1))
def sp_up_to : SpD := fun ds G Q _ => ∃ n b : Int, ds = [.int n, .int b] ∧ 0 < b ∧ b < 1000 ∧ Q (.int ((n + b - 1) / b)) G
theorem law_up_to : ∀ ds G Q E, sp_up_to ds G Q E → ds.length = 2 ∧ t_up_to (endsD Q) (startD 2 ds) G := by
  rintro ds G Q E ⟨n, b, rfl, h1, h2, h⟩
  refine ⟨rfl, ?_⟩
  unfold t_up_to
  walk_at "d"
  exact ⟨⟨h1, by omega⟩, .here h⟩
def sideN (z : Nat) : Nat := 2 ^ z
/-- how many tiles stand side by side -/
def many (n z : Nat) : Nat := (n + 4 * sideN z - 1) / (4 * sideN z)
def t_how_many : DS :=
  dSeq (dSet 3 (dOp (dMulI false) (dC (.int 4)) (dOp dIxR (dLst false (dCons (dC (.int 1)) (dCons (dC (.int 2)) (dCons (dC (.int 4)) (dNil))))) (dVar 2))))
  (dRet (dTup (dCons (dCall sp_up_to (dCons (dVar 0) (dCons (dVar 3) (dNil)))) (dCons (dCall sp_up_to (dCons (dVar 1) (dCons (dVar 3) (dNil)))) (dNil)))))
def sp_how_many : SpD := fun ds G Q _ => ∃ w h z : Nat, ds = [.int w, .int h, .int z] ∧ z ≤ 2 ∧ Q (.tup [.int (many w z), .int (many h z)]) G
theorem law_how_many : ∀ ds G Q E, sp_how_many ds G Q E → ds.length = 3 ∧ t_how_many (endsD Q) (startD 4 ds) G := by
  rintro ds G Q E ⟨w, hh, z, rfl, hz, h⟩
  refine ⟨rfl, ?_⟩
  unfold t_how_many
  have key : ∀ (n : Nat) (b : Nat), 0 < b → ((n : Int) + (b : Int) - 1) / (b : Int) = (((n + b - 1) / b : Nat) : Int) := by
    intro n b hb
    rw [Int.natCast_ediv, show ((n + b - 1 : Nat) : Int) = (n : Int) + b - 1 by omega]
  have hz3 : z = 0 ∨ z = 1 ∨ z = 2 := by omega
  rcases hz3 with rfl | rfl | rfl <;> walk_at "d"
  · refine ⟨CMul_small (by omega) (by omega), _, _, rfl, by decide, by decide, _, _, rfl, by decide, by decide, .here ?_⟩
    rw [show ((4 : Int) * 1) = ((4 : Nat) : Int) by rfl, key w 4 (by decide), key hh 4 (by decide)]
    exact h
  · refine ⟨CMul_small (by omega) (by omega), _, _, rfl, by decide, by decide, _, _, rfl, by decide, by decide, .here ?_⟩
    rw [show ((4 : Int) * 2) = ((8 : Nat) : Int) by rfl, key w 8 (by decide), key hh 8 (by decide)]
    exact h
  · refine ⟨CMul_small (by omega) (by omega), _, _, rfl, by decide, by decide, _, _, rfl, by decide, by decide, .here ?_⟩
    rw [show ((4 : Int) * 4) = ((16 : Nat) : Int) by rfl, key w 16 (by decide), key hh 16 (by decide)]
    exact h
/-- a land of these sides -/
structure OkLand (L : Land) (w h : Nat) : Prop where
  len : L.length = h
  h1 : 1 ≤ h
  h2 : h ≤ 24
  w1 : 1 ≤ w
  w2 : w ≤ 24
  row : ∀ r ∈ L, r.length = w
  ht : ∀ r ∈ L, ∀ x ∈ r, 0 ≤ x ∧ x ≤ 99
def t_need_land : DS :=
  dSeq (dIfS (dOr (dNot (dTest (dCB dIsi (dCons (dVar 0) (dCons (dC (.ty "tuple")) (dNil)))))) (dNot (dTest (dChain dLe dLe (dC (.int 1)) (dCB dLen (dCons (dVar 0) (dNil))) (dC (.int 24)))))) (dNever) (dNext))
  (dSeq (dSet 1 (dIf (dTest (dCB dIsi (dCons (dOp dIxR (dVar 0) (dC (.int 0))) (dCons (dC (.ty "tuple")) (dNil))))) (dCB dLen (dCons (dOp dIxR (dVar 0) (dC (.int 0))) (dNil))) (dC (.int 0))))
  (dSeq (dIfS (dNot (dTest (dChain dLe dLe (dC (.int 1)) (dVar 1) (dC (.int 24))))) (dNever) (dNext))
  (dFor (diAny (dVar 0)) (dgName 2) (dSeq (dIfS (dOr (dNot (dTest (dCB dIsi (dCons (dVar 2) (dCons (dC (.ty "tuple")) (dNil)))))) (dTest (dOp dNeR (dCB dLen (dCons (dVar 2) (dNil))) (dVar 1)))) (dNever) (dNext))
  (dIfS (dTest (dOp dNeR (dLc false (diAny (dVar 2)) (dgName 3) (dNot (dTest (dCall sp_is_number (dCons (dVar 3) (dCons (dC (.int 0)) (dCons (dC (.int 99)) (dNil))))))) (dVar 3) [3]) (dLst false (dNil)))) (dNever) (dNext))))))
def sp_need_land : SpD := fun ds G Q _ => ∃ L w h, ds = [landD true L] ∧ OkLand L w h ∧ Q .non G
theorem law_need_land : ∀ ds G Q E, sp_need_land ds G Q E → ds.length = 1 ∧ t_need_land (endsD Q) (startD 4 ds) G := by
  rintro ds G Q E ⟨L, w, h, rfl, ok, hQ⟩
  refine ⟨rfl, ?_⟩
  unfold t_need_land
  obtain ⟨r0, L', rfl⟩ : ∃ r0 L', L = r0 :: L' := by
    cases L with
    | nil => have := ok.len; have := ok.h1; simp at *; omega
    | cons r0 L' => exact ⟨_, _, rfl⟩
  have hl := ok.len
  have h1 := ok.h1
  have h2 := ok.h2
  have hw := ok.row r0 (by simp)
  have w1 := ok.w1
  have w2 := ok.w2
  simp only [landD]
  walk_at "d"
  simp only [rowD_t]
  walk_at "d"
  rw [cnd_p (show (1 : Int) ≤ _ by omega), cnd_p (by rw [List.length_map]; rw [List.length_cons] at hl; omega), List.length_map, cnd_p (by omega), cnd_p (by omega)]
  refine dLoop_map (rowD true) (l := r0 :: L') (fun pre Γ' G' => ∃ o, Γ' = [some (landD true (r0 :: L')), some (.int w), o, none] ∧ G' = G) ⟨none, by rw [hw]; rfl, rfl⟩ (fun _ _ _ _ => trivial) ?_ ?_
  · rintro pre r Γ' G' K hpre ⟨o, rfl, rfl⟩ hK
    have hm : r ∈ r0 :: L' := hpre.subset (by simp)
    have hrl := ok.row r hm
    have hht := ok.ht r hm
    simp only [rowD]
    walk_at "d"
    refine ⟨okE_of (n := 0) trivial (by decide), okE_of (n := 0) trivial (by decide), ?_⟩
    rw [eqD_int, List.length_map, hrl, beq_self_eq_true]
    refine ⟨sizeLine_ge (by omega), dComp_map D.int D.int (fun _ => false) trivial (fun x hx K1 K2 h1 h2 => ?_) ?_⟩
    · walk_at "d"
      refine ⟨_, _, _, rfl, rfl, ?_⟩
      have := hht x hx
      rw [show isNum (.int x) 0 99 = true by simp only [isNum]; rw [decide_eq_true this.1, decide_eq_true this.2]; rfl]
      exact h2 rfl
    · rw [List.filter_eq_nil_iff.mpr (by simp)]
      walk_at "d"
      rw [eqD_lst_nil]
      exact ⟨okE_of (n := 1) (fun x hx => absurd hx (by simp)) (by decide), okE_of (n := 1) (fun x hx => absurd hx (by simp)) (by decide), hK _ _ ⟨_, rfl, rfl⟩⟩
  · rintro Γ' G' ⟨o, rfl, rfl⟩
    exact .here hQ
/-- rising steps -/
structure OkStyle (st : List Int) : Prop where
  l1 : 1 ≤ st.length
  l2 : st.length ≤ 6
  up : st.Pairwise (· < ·)
  bd : ∀ s ∈ st, 1 ≤ s ∧ s ≤ 99
def t_need_style : DS :=
  dSeq (dIfS (dOr (dNot (dTest (dCB dIsi (dCons (dVar 0) (dCons (dC (.ty "tuple")) (dNil)))))) (dNot (dTest (dChain dLe dLe (dC (.int 1)) (dCB dLen (dCons (dVar 0) (dNil))) (dC (.int 6)))))) (dNever) (dNext))
  (dSeq (dSet 1 (dC (.int 0)))
  (dFor (diAny (dVar 0)) (dgName 2) (dSeq (dIfS (dNot (dTest (dCall sp_is_number (dCons (dVar 2) (dCons (dOp (dAddR false) (dVar 1) (dC (.int 1))) (dCons (dC (.int 99)) (dNil))))))) (dNever) (dNext))
  (dSet 1 (dVar 2)))))
def sp_need_style : SpD := fun ds G Q _ => ∃ st, ds = [.tup (intsD st)] ∧ OkStyle st ∧ Q .non G
theorem law_need_style : ∀ ds G Q E, sp_need_style ds G Q E → ds.length = 1 ∧ t_need_style (endsD Q) (startD 3 ds) G := by
  rintro ds G Q E ⟨st, rfl, ok, hQ⟩
  refine ⟨rfl, ?_⟩
  unfold t_need_style
  have h1 := ok.l1
  have h2 := ok.l2
  walk_at "d"
  rw [List.length_map, cnd_p (by omega), cnd_p (by omega)]
  refine dLoop_map D.int (fun pre Γ' G' => ∃ o, Γ' = [some (.tup (intsD st)), some (.int (pre.getLast?.getD 0)), o] ∧ G' = G) ⟨none, rfl, rfl⟩ (fun _ _ _ _ => trivial) ?_ ?_
  · rintro pre s Γ' G' K hpre ⟨o, rfl, rfl⟩ hK
    have hm : s ∈ st := hpre.subset (by simp)
    walk_at "d"
    refine ⟨_, _, _, rfl, rfl, ?_⟩
    have hb := ok.bd s hm
    have hl : pre.getLast?.getD 0 + 1 ≤ s := by
      cases e : pre.getLast? with
      | none => exact hb.1
      | some l =>
        obtain ⟨r, hr⟩ := hpre
        have up := ok.up
        rw [← hr, List.append_assoc, List.pairwise_append] at up
        have := up.2.2 l (List.mem_of_getLast? e) s (by simp)
        show l + 1 ≤ s
        omega
    rw [show isNum (.int s) (pre.getLast?.getD 0 + 1) 99 = true by simp only [isNum]; rw [decide_eq_true hl, decide_eq_true hb.2]; rfl]
    exact hK _ _ ⟨_, by rw [List.getLast?_append]; rfl, rfl⟩
  · rintro Γ' G' ⟨o, rfl, rfl⟩
    exact .here hQ
def t_need_tile : DS :=
  dSeq (dIfS (dOr (dNot (dTest (dCB dIsi (dCons (dVar 2) (dCons (dC (.ty "tuple")) (dNil)))))) (dOr (dTest (dOp dNeR (dCB dLen (dCons (dVar 2) (dNil))) (dC (.int 3)))) (dNot (dTest (dCall sp_is_number (dCons (dOp dIxR (dVar 2) (dC (.int 0))) (dCons (dC (.int 0)) (dCons (dC (.int 2)) (dNil))))))))) (dNever) (dNext))
  (dSeq (dSet 3 (dCall sp_how_many (dCons (dVar 0) (dCons (dVar 1) (dCons (dOp dIxR (dVar 2) (dC (.int 0))) (dNil))))))
  (dIfS (dOr (dNot (dTest (dCall sp_is_number (dCons (dOp dIxR (dVar 2) (dC (.int 1))) (dCons (dC (.int 0)) (dCons (dOp (dSubR) (dOp dIxR (dVar 3) (dC (.int 0))) (dC (.int 1))) (dNil))))))) (dNot (dTest (dCall sp_is_number (dCons (dOp dIxR (dVar 2) (dC (.int 2))) (dCons (dC (.int 0)) (dCons (dOp (dSubR) (dOp dIxR (dVar 3) (dC (.int 1))) (dC (.int 1))) (dNil)))))))) (dNever) (dNext)))
def nameD (z i j : Nat) : D := .tup [.int z, .int i, .int j]
def sp_need_tile : SpD := fun ds G Q _ => ∃ w h z i j : Nat, ds = [.int w, .int h, nameD z i j] ∧ z ≤ 2 ∧ i < many w z ∧ j < many h z ∧ Q .non G
theorem law_need_tile : ∀ ds G Q E, sp_need_tile ds G Q E → ds.length = 3 ∧ t_need_tile (endsD Q) (startD 4 ds) G := by
  rintro ds G Q E ⟨w, h, z, i, j, rfl, hz, hi, hj, hQ⟩
  refine ⟨rfl, ?_⟩
  unfold t_need_tile
  simp only [nameD]
  have num : ∀ (a b : Nat), a < b → isNum (.int a) 0 ((b : Int) - 1) = true := fun a b hab => by
    simp only [isNum]; rw [decide_eq_true (by omega), decide_eq_true (by omega)]; rfl
  walk_at "d"
  refine ⟨okE_of (n := 0) trivial (by decide), okE_of (n := 0) trivial (by decide), ?_⟩
  rw [eqD_int]
  refine ⟨_, _, _, rfl, rfl, ?_⟩
  rw [show isNum (.int z) 0 2 = true from num z 3 (by omega)]
  refine ⟨w, h, z, rfl, hz, ?_⟩
  walk_at "d"
  refine ⟨_, _, _, rfl, rfl, ?_⟩
  rw [num i _ hi]
  refine ⟨_, _, _, rfl, rfl, ?_⟩
  rw [num j _ hj]
  exact .here hQ
end TK

namespace TK
open PySem PySem.Spec L2
local macro_rules | `(tactic| walk_at "d") => `(tactic| simp only [gsub_refl, isC, dCountB, dIndexB, blL, dCallX, dDropX, dRetX, dSetX, dRaise, dxOf, startD, dSeq, dNext, dRet, dRetN, dSet, dAsg, dPar, dIfS, dDrop, dFor, dTest, dAnd, dOr, dNot, dAndV, dOrV, dNotV, dIf, dVar, dC, dNil, dCons, dOp, dTup, dLst, dCB, dCall, dMt, dChain, dCmpI, dSubR, dAddR, dMulI, dFdivR, dModR, dPowR, dIxR, dLen, dIsi, dTuple, dList, dInt, dIsNR, dNotNR, dEqR, dNeR, dgName, dgTup, dgCons, dgNil, newL, tyD, dLc, diAny, diRng1, diRng2, dSlice, dSl, doSome, doNone, wipeD, dYes, dMax, dMin, dUn, dNegR, dBreak, dCont, dAppend, dExtend, dFrz, dSetItem, dSortSet, dInL, dCallV, dNever, dJoin, dSplit, dStr, dInS, diEnumerate, dDGet, dInD, dDPut, putC, lookD, keyOf, keysOf, dNewD, dDisp, dpNil, dpCons, dSorted, dKdIn, dKdGet, dDGet2, dKdGet2, dRev, dDictPT, dMulT, b2n_t, b2n_f, dUpdate, dFld, dSetFld, dMeth, dMake, dInT, dNo, dSortA, dDisp1T, dLockE, diKeys, diZip, dPar3, dPopAt, dRemove, dMinD, List.map_cons, List.map_nil, List.length_cons, List.length_nil, List.replicate, List.cons_append, List.nil_append, List.getElem?_cons_zero, List.getElem?_cons_succ, List.set_cons_zero, List.set_cons_succ, Nat.reduceAdd, Nat.reduceSub, Nat.zero_add, Nat.add_zero, ne_eq, String.reduceEq, not_false_eq_true, not_true_eq_false, true_and, and_true, Bool.not_false, Bool.not_true, cnd_t, cnd_f, cnd_not, Bool.true_or, Bool.or_true, Bool.false_or, Bool.or_false, reduceIte, gup_same, gup_gup, endsD, List.length_cons, List.length_nil, Nat.reduceAdd, vwq_non, isNonq_non, tyq_non, vwq_bl, isNonq_bl, tyq_bl, vwq_int, isNonq_int, tyq_int, vwq_str, isNonq_str, tyq_str, vwq_tup, isNonq_tup, tyq_tup, vwq_lst, isNonq_lst, tyq_lst, vwq_frz, isNonq_frz, tyq_frz, vwq_ty, isNonq_ty, isNonq_ref, vw_gup, not_dec, okTy_NoneType, okTy_bool, okTy_int, okTy_str, okTy_tuple, okTy_list, isaB_NoneType_bool, isaB_NoneType_int, isaB_NoneType_str, isaB_NoneType_tuple, isaB_NoneType_list, isaB_bool_bool, isaB_bool_int, isaB_bool_str, isaB_bool_tuple, isaB_bool_list, isaB_int_bool, isaB_int_int, isaB_int_str, isaB_int_tuple, isaB_int_list, isaB_str_bool, isaB_str_int, isaB_str_str, isaB_str_tuple, isaB_str_list, isaB_tuple_bool, isaB_tuple_int, isaB_tuple_str, isaB_tuple_tuple, isaB_tuple_list, isaB_list_bool, isaB_list_int, isaB_list_str, isaB_list_tuple, isaB_list_list, atI_0, atI_1, atI_2, atI_3, atI_4, atI_5, atI_6, atI_7, atI_8, atI_9, atI_10, atI_11, ixN_4_0, ixN_4_1, ixN_4_2, ixN_4_3, sl_0, sl_1, sl_2, sl_3, sl_4, sl_5, sl_6, sl_7, sl_8, sl_9, sl_10, sl_11, sl_12])
/-! ## tiles -/
def edgeM (L : Land) (st : List Int) (b x y : Nat) : Bool :=
  [lvl L st b (x + 1) y, lvl L st b x (y + 1)].any fun o => o.isSome && decide (o ≠ lvl L st b x y)
def cellM (L : Land) (st : List Int) (b x y : Nat) : D := match lvl L st b x y with
  | none => .non
  | some l => .tup [.int l, .bl (edgeM L st b x y)]
def trowM (L : Land) (st : List Int) (b i y : Nat) : D := .tup ((List.range 4).map fun k => cellM L st b (i * 4 + k) y)
def tileM (L : Land) (st : List Int) (z i j : Nat) : D := .tup ((List.range 4).map fun k => trowM L st (sideN z) i (j * 4 + k))
theorem eqD_opt {a b : Option Nat} : eqD (optD a) (optD b) = decide (a = b) := by
  cases a <;> cases b
  · simp only [optD]; rw [eqD_non]; rfl
  · simp only [optD]; rw [eqD_non_int]; rfl
  · simp only [optD]; rw [eqD_int_non]; rfl
  · simp only [optD]; rw [eqD_int]
    rename_i m n
    by_cases h : m = n
    · subst h; simp
    · have : ¬ (m : Int) = (n : Int) := by omega
      simp [h, this]
theorem okE_opt {a : Option Nat} : okE (optD a) = true := okE_of (n := 0) (by cases a <;> trivial) (by decide)
theorem isNon_opt {a : Option Nat} : isNon (optD a) = !a.isSome := by cases a <;> rfl
theorem vw_opt {G : GH} {a : Option Nat} : vw G (optD a) = optD a := by cases a <;> rfl
theorem edge_list (c : Option Nat) : ∀ os : List (Option Nat), (!((os.map optD).filter fun d => !isNon d && !eqD d (optD c)).isEmpty) = os.any fun o => o.isSome && decide (o ≠ c)
  | [] => rfl
  | o :: r => by
    have ih := edge_list c r
    rw [List.map_cons, List.filter_cons, List.any_cons, ← ih, isNon_opt, eqD_opt, Bool.not_not, ← decide_not]
    by_cases h : (o.isSome && decide (¬ o = c)) = true
    · rw [if_pos h, show (o.isSome && decide (o ≠ c)) = true from h]; rfl
    · rw [if_neg h, show (o.isSome && decide (o ≠ c)) = false by simpa using h, Bool.false_or]
theorem dep_opts {os : List (Option Nat)} {p : D → Bool} : depD 1 (.lst ((os.map optD).filter p)) := fun d hd => by
  obtain ⟨o, _, rfl⟩ := List.mem_map.mp (List.mem_filter.mp hd).1
  cases o <;> trivial
theorem take_range_succ {α : Type} (f : Nat → α) {n k : Nat} (h : k < n) : ((List.range n).map f).take (k + 1) = ((List.range n).map f).take k ++ [f k] := by
  rw [List.take_add_one, List.getElem?_map, List.getElem?_range h]
  rfl
def t_tile_of : DS :=
  dSeq (dAsg (dVar 2) (dgTup 3 (dgCons (dgName 3) (dgCons (dgName 4) (dgCons (dgName 5) (dgNil))))))
  (dSeq (dSet 6 (dOp dIxR (dLst false (dCons (dC (.int 1)) (dCons (dC (.int 2)) (dCons (dC (.int 4)) (dNil))))) (dVar 3)))
  (dSeq (dSet 7 (dLst true (dNil)))
  (dSeq (dFor (diRng2 (dCons (dOp (dMulI false) (dVar 5) (dC (.int 4))) (dCons (dOp (dAddR false) (dOp (dMulI false) (dVar 5) (dC (.int 4))) (dC (.int 4))) (dNil)))) (dgName 8) (dSeq (dSet 9 (dLst true (dNil)))
  (dSeq (dFor (diRng2 (dCons (dOp (dMulI false) (dVar 4) (dC (.int 4))) (dCons (dOp (dAddR false) (dOp (dMulI false) (dVar 4) (dC (.int 4))) (dC (.int 4))) (dNil)))) (dgName 10) (dSeq (dSet 11 (dCall sp_level (dCons (dVar 0) (dCons (dVar 1) (dCons (dVar 6) (dCons (dTup (dCons (dVar 10) (dCons (dVar 8) (dNil)))) (dNil)))))))
  (dSeq (dSet 12 (dLst false (dCons (dCall sp_level (dCons (dVar 0) (dCons (dVar 1) (dCons (dVar 6) (dCons (dTup (dCons (dOp (dAddR false) (dVar 10) (dC (.int 1))) (dCons (dVar 8) (dNil)))) (dNil)))))) (dCons (dCall sp_level (dCons (dVar 0) (dCons (dVar 1) (dCons (dVar 6) (dCons (dTup (dCons (dVar 10) (dCons (dOp (dAddR false) (dVar 8) (dC (.int 1))) (dNil)))) (dNil)))))) (dNil)))))
  (dSeq (dSet 13 (dOp dNeR (dLc false (diAny (dVar 12)) (dgName 14) (dAnd (dTest (dOp dNotNR (dVar 14) (dC .non))) (dTest (dOp dNeR (dVar 14) (dVar 11)))) (dVar 14) [14]) (dLst false (dNil))))
  (dDrop (dMt "list" dAppend (dVar 9) (dCons (dIf (dTest (dOp dIsNR (dVar 11) (dC .non))) (dC .non) (dTup (dCons (dVar 11) (dCons (dVar 13) (dNil))))) (dNil))))))))
  (dDrop (dMt "list" dAppend (dVar 7) (dCons (dCB dTuple (dCons (dVar 9) (dNil))) (dNil)))))))
  (dRet (dCB dTuple (dCons (dVar 7) (dNil)))))))
def sp_tile_of : SpD := fun ds G Q _ => ∃ (k : Bool) (L : Land) (st : List Int) (z i j : Nat), ds = [landD k L, .tup (intsD st), nameD z i j] ∧ L.length ≤ 24 ∧ (∀ r ∈ L, r.length ≤ 24) ∧ st.length ≤ 6 ∧ z ≤ 2 ∧ i ≤ 6 ∧ j ≤ 6 ∧ Q (tileM L st z i j) G
theorem law_tile_of : ∀ ds G Q E, sp_tile_of ds G Q E → ds.length = 3 ∧ t_tile_of (endsD Q) (startD 15 ds) G := by
  rintro ds G Q E ⟨k, L, st, z, i, j, rfl, hL, hr, hst, hz, hi, hj, hQ⟩
  refine ⟨rfl, ?_⟩
  unfold t_tile_of
  simp only [nameD]
  have hz3 : z = 0 ∨ z = 1 ∨ z = 2 := by omega
  suffices main : atI [D.int 1, D.int 2, D.int 4] (z : Int) = some (.int ((sideN z : Nat) : Int)) ∧ sideN z ≤ 4 by
    walk_at "d"
    simp only [main.1]
    intro p hp
    refine ⟨CMul_small (by omega) (by omega), CMul_small (by omega) (by omega), ⟨by omega, by omega⟩, ⟨by omega, by omega⟩, ?_⟩
    rw [show ((j : Int) * 4 + 4 - (j : Int) * 4).toNat = 4 by omega]
    obtain ⟨-, hb⟩ := main
    unfold tileM at hQ
    generalize sideN z = b at hb hQ
    generalize hrows : (List.range 4).map (fun k => trowM L st b i (j * 4 + k)) = rows
    have hrl : rows.length = 4 := by rw [← hrows]; simp
    have lev : ∀ (x y : Nat) (G1 : GH) (Q1 : DK), x ≤ 1000 → y ≤ 1000 → Q1 (optD (lvl L st b x y)) G1 → sp_level [landD k L, .tup (intsD st), .int b, .tup [.int (x : Int), .int (y : Int)]] G1 Q1 XD0 := fun x y G1 Q1 hx hy h => ⟨k, L, st, b, x, y, rfl, hL, hr, hst, hb, hx, hy, h⟩
    refine dLoop_inv (fun n Γ' G' => ∃ o8 o9 o10 o11 o12 o13, Γ' = [some (landD k L), some (D.tup (intsD st)), some (D.tup [D.int z, D.int i, D.int j]), some (D.int z), some (D.int i), some (D.int j), some (D.int b), some (D.ref p), o8, o9, o10, o11, o12, o13, none] ∧ GSub G G' ∧ G' p = some (.lst (rows.take n)))
      ⟨none, none, none, none, none, none, rfl, .gup hp, gup_same⟩ (fun _ _ _ _ => trivial) ?_ ?_
    · rintro n x0 Γ' G' K hx0 ⟨o8, o9, o10, o11, o12, o13, rfl, hs, hpc⟩ hK
      obtain ⟨hn, rfl⟩ := rngD_get hx0
      have ey : (j : Int) * 4 + (n : Int) = ((j * 4 + n : Nat) : Int) := by omega
      rw [ey]
      walk_at "d"
      intro q hq
      have hqp : q ≠ p := fun e => by subst e; rw [hpc] at hq; cases hq
      refine ⟨CMul_small (by omega) (by omega), CMul_small (by omega) (by omega), ⟨by omega, by omega⟩, ⟨by omega, by omega⟩, ?_⟩
      rw [show ((i : Int) * 4 + 4 - (i : Int) * 4).toNat = 4 by omega]
      generalize hcells : (List.range 4).map (fun k => cellM L st b (i * 4 + k) (j * 4 + n)) = cells
      have hcl : cells.length = 4 := by rw [← hcells]; simp
      refine dLoop_inv (fun m Γ' G' => ∃ o10 o11 o12 o13, Γ' = [some (landD k L), some (D.tup (intsD st)), some (D.tup [D.int z, D.int i, D.int j]), some (D.int z), some (D.int i), some (D.int j), some (D.int b), some (D.ref p), some (.int ((j * 4 + n : Nat) : Int)), some (D.ref q), o10, o11, o12, o13, none] ∧ GSub G G' ∧ G' p = some (.lst (rows.take n)) ∧ G' q = some (.lst (cells.take m)))
        ⟨o10, o11, o12, o13, rfl, hs.gup2 (hs.none hq), by rw [gup_ne hqp.symm]; exact hpc, gup_same⟩ (fun _ _ _ _ => trivial) ?_ ?_
      · rintro m x1 Γ' G1 K1 hx1 ⟨o10, o11, o12, o13, rfl, hs1, hp1, hq1⟩ hK1
        obtain ⟨hm, rfl⟩ := rngD_get hx1
        have ex : (i : Int) * 4 + (m : Int) = ((i * 4 + m : Nat) : Int) := by omega
        rw [ex]
        walk_at "d"
        have ex1 : ((i * 4 + m : Nat) : Int) + 1 = ((i * 4 + m + 1 : Nat) : Int) := by omega
        have ey1 : ((j * 4 + n : Nat) : Int) + 1 = ((j * 4 + n + 1 : Nat) : Int) := by omega
        rw [ex1, ey1]
        refine lev _ _ _ _ (by omega) (by omega) (lev _ _ _ _ (by omega) (by omega) (lev _ _ _ _ (by omega) (by omega) ?_))
        generalize hh : lvl L st b (i * 4 + m) (j * 4 + n) = here
        refine dComp_pure id (fun d => !isNon d && !eqD d (optD here)) trivial (fun d hd K2 K3 h1 h2 => ?_) ?_
        · have ho : ∃ a, d = optD a := by simp at hd; rcases hd with rfl | rfl <;> exact ⟨_, rfl⟩
          obtain ⟨a, rfl⟩ := ho
          walk_at "d"
          rw [vw_opt, vw_opt]
          refine cndI (fun e => ?_) fun e => ?_
          · refine h2 ?_; rw [e]; rfl
          · refine ⟨okE_opt, okE_opt, cndI (fun e2 => h2 (by rw [e2]; simp)) fun e2 => h1 (by rw [e, e2]; rfl)⟩
        · have hed := edge_list here [lvl L st b (i * 4 + m + 1) (j * 4 + n), lvl L st b (i * 4 + m) (j * 4 + n + 1)]
          rw [show ([lvl L st b (i * 4 + m + 1) (j * 4 + n), lvl L st b (i * 4 + m) (j * 4 + n + 1)].any fun o => o.isSome && decide (o ≠ here)) = edgeM L st b (i * 4 + m) (j * 4 + n) by unfold edgeM; rw [hh]] at hed
          have hdp := dep_opts (os := [lvl L st b (i * 4 + m + 1) (j * 4 + n), lvl L st b (i * 4 + m) (j * 4 + n + 1)]) (p := fun d => !isNon d && !eqD d (optD here))
          simp only [List.map_cons, List.map_nil] at hed hdp
          generalize [optD (lvl L st b (i * 4 + m + 1) (j * 4 + n)), optD (lvl L st b (i * 4 + m) (j * 4 + n + 1))] = two at hed hdp
          walk_at "d"
          simp only [vw_at hq1, hq1, eqD_lst_nil, isNon_opt, List.map_id]
          rw [hed]
          have hlt : (cells.take m).length < sizeLine := sizeLine_gt (by rw [List.length_take]; omega)
          have hcm : cells.take (m + 1) = cells.take m ++ [cellM L st b (i * 4 + m) (j * 4 + n)] := by
            rw [← hcells]; exact take_range_succ _ hm
          have fin : ∀ d, d = cellM L st b (i * 4 + m) (j * 4 + n) → GSub G (gup G1 q (.lst (cells.take m ++ [d]))) ∧ gup G1 q (.lst (cells.take m ++ [d])) p = some (.lst (rows.take n)) ∧ gup G1 q (.lst (cells.take m ++ [d])) q = some (.lst (cells.take (m + 1))) := by
            rintro d rfl
            exact ⟨hs1.gup2 (hs.none hq), by rw [gup_ne hqp.symm]; exact hp1, by rw [gup_same, hcm]⟩
          refine ⟨okE_of hdp (by decide), okE_of (n := 1) (fun x hx => absurd hx (by simp)) (by decide), trivial, ?_⟩
          cases here with
          | none => exact ⟨hlt, hK1 _ _ ⟨_, _, _, _, rfl, fin _ (by unfold cellM; rw [hh])⟩⟩
          | some l => exact ⟨hlt, hK1 _ _ ⟨_, _, _, _, rfl, fin _ (by unfold cellM; rw [hh]; rfl)⟩⟩
      · rintro Γ' G1 ⟨o10, o11, o12, o13, rfl, hs1, hp1, hq1⟩
        walk_at "d"
        simp only [vw_at hp1, vw_at hq1, hp1]
        rw [rngD_len, List.take_of_length_le (show cells.length ≤ 4 by omega)]
        refine ⟨trivial, sizeLine_gt (by rw [List.length_take]; omega), hK _ _ ⟨_, _, _, _, _, _, rfl, hs1.gup2 hp, ?_⟩⟩
        rw [gup_same, ← hcells]
        show some (GO.lst (rows.take n ++ [trowM L st b i (j * 4 + n)])) = _
        rw [← hrows]
        rw [take_range_succ _ hn]
    · rintro Γ' G1 ⟨o8, o9, o10, o11, o12, o13, rfl, hs1, hp1⟩
      walk_at "d"
      simp only [vw_at hp1]
      rw [rngD_len, List.take_of_length_le (by omega), ← hrows]
      exact ⟨G, hs1, hQ⟩
  rcases hz3 with rfl | rfl | rfl
  · exact ⟨rfl, by decide⟩
  · exact ⟨rfl, by decide⟩
  · exact ⟨rfl, by decide⟩
theorem many_le {n z : Nat} (h : n ≤ 24) (hz : z ≤ 2) : many n z ≤ 6 := by
  have hz3 : z = 0 ∨ z = 1 ∨ z = 2 := by omega
  rcases hz3 with rfl | rfl | rfl <;> simp only [many, sideN] <;> omega
def t_tile : DS :=
  dSeq (dDrop (dCall sp_need_land (dCons (dVar 0) (dNil))))
  (dSeq (dDrop (dCall sp_need_style (dCons (dVar 1) (dNil))))
  (dSeq (dDrop (dCall sp_need_tile (dCons (dCB dLen (dCons (dOp dIxR (dVar 0) (dC (.int 0))) (dNil))) (dCons (dCB dLen (dCons (dVar 0) (dNil))) (dCons (dVar 2) (dNil))))))
  (dRet (dCall sp_tile_of (dCons (dVar 0) (dCons (dVar 1) (dCons (dVar 2) (dNil))))))))
def sp_tile : SpD := fun ds G Q _ => ∃ (L : Land) (st : List Int) (w h z i j : Nat), ds = [landD true L, .tup (intsD st), nameD z i j] ∧ OkLand L w h ∧ OkStyle st ∧ z ≤ 2 ∧ i < many w z ∧ j < many h z ∧ Q (tileM L st z i j) G
theorem law_tile : ∀ ds G Q E, sp_tile ds G Q E → ds.length = 3 ∧ t_tile (endsD Q) (startD 3 ds) G := by
  rintro ds G Q E ⟨L, st, w, h, z, i, j, rfl, ok, os, hz, hi, hj, hQ⟩
  refine ⟨rfl, ?_⟩
  unfold t_tile
  walk_at "d"
  refine ⟨L, w, h, rfl, ok, ⟨st, rfl, os, ?_⟩⟩
  obtain ⟨r0, L', rfl⟩ : ∃ r0 L', L = r0 :: L' := by
    cases L with
    | nil => have := ok.len; have := ok.h1; simp at *; omega
    | cons r0 L' => exact ⟨_, _, rfl⟩
  have hw := ok.row r0 (by simp)
  have hl := ok.len
  rw [show landD true (r0 :: L') = .tup (rowD true r0 :: L'.map (rowD true)) from rfl]
  walk_at "d"
  rw [rowD_t]
  walk_at "d"
  rw [List.length_map, List.length_map, hw]
  have hm1 := many_le (z := z) ok.w2 hz
  have hm2 := many_le (z := z) ok.h2 hz
  refine ⟨w, h, z, i, j, by rw [← hl]; rfl, hz, hi, hj, true, r0 :: L', st, z, i, j, rfl, by rw [hl]; exact ok.h2, fun r hr => by rw [ok.row r hr]; exact ok.w2, os.l2, hz, by omega, by omega, .here hQ⟩
end TK

namespace TK
open PySem PySem.Spec L2
local macro_rules | `(tactic| walk_at "d") => `(tactic| simp only [gsub_refl, isC, dCountB, dIndexB, blL, dCallX, dDropX, dRetX, dSetX, dRaise, dxOf, startD, dSeq, dNext, dRet, dRetN, dSet, dAsg, dPar, dIfS, dDrop, dFor, dTest, dAnd, dOr, dNot, dAndV, dOrV, dNotV, dIf, dVar, dC, dNil, dCons, dOp, dTup, dLst, dCB, dCall, dMt, dChain, dCmpI, dSubR, dAddR, dMulI, dFdivR, dModR, dPowR, dIxR, dLen, dIsi, dTuple, dList, dInt, dIsNR, dNotNR, dEqR, dNeR, dgName, dgTup, dgCons, dgNil, newL, tyD, dLc, diAny, diRng1, diRng2, dSlice, dSl, doSome, doNone, wipeD, dYes, dMax, dMin, dUn, dNegR, dBreak, dCont, dAppend, dExtend, dFrz, dSetItem, dSortSet, dInL, dCallV, dNever, dJoin, dSplit, dStr, dInS, diEnumerate, dDGet, dInD, dDPut, putC, lookD, keyOf, keysOf, dNewD, dDisp, dpNil, dpCons, dSorted, dKdIn, dKdGet, dDGet2, dKdGet2, dRev, dDictPT, dMulT, b2n_t, b2n_f, dUpdate, dFld, dSetFld, dMeth, dMake, dInT, dNo, dSortA, dDisp1T, dLockE, diKeys, diZip, dPar3, dPopAt, dRemove, dMinD, List.map_cons, List.map_nil, List.length_cons, List.length_nil, List.replicate, List.cons_append, List.nil_append, List.getElem?_cons_zero, List.getElem?_cons_succ, List.set_cons_zero, List.set_cons_succ, Nat.reduceAdd, Nat.reduceSub, Nat.zero_add, Nat.add_zero, ne_eq, String.reduceEq, not_false_eq_true, not_true_eq_false, true_and, and_true, Bool.not_false, Bool.not_true, cnd_t, cnd_f, cnd_not, Bool.true_or, Bool.or_true, Bool.false_or, Bool.or_false, reduceIte, gup_same, gup_gup, endsD, List.length_cons, List.length_nil, Nat.reduceAdd, vwq_non, isNonq_non, tyq_non, vwq_bl, isNonq_bl, tyq_bl, vwq_int, isNonq_int, tyq_int, vwq_str, isNonq_str, tyq_str, vwq_tup, isNonq_tup, tyq_tup, vwq_lst, isNonq_lst, tyq_lst, vwq_frz, isNonq_frz, tyq_frz, vwq_ty, isNonq_ty, isNonq_ref, vw_gup, not_dec, okTy_NoneType, okTy_bool, okTy_int, okTy_str, okTy_tuple, okTy_list, isaB_NoneType_bool, isaB_NoneType_int, isaB_NoneType_str, isaB_NoneType_tuple, isaB_NoneType_list, isaB_bool_bool, isaB_bool_int, isaB_bool_str, isaB_bool_tuple, isaB_bool_list, isaB_int_bool, isaB_int_int, isaB_int_str, isaB_int_tuple, isaB_int_list, isaB_str_bool, isaB_str_int, isaB_str_str, isaB_str_tuple, isaB_str_list, isaB_tuple_bool, isaB_tuple_int, isaB_tuple_str, isaB_tuple_tuple, isaB_tuple_list, isaB_list_bool, isaB_list_int, isaB_list_str, isaB_list_tuple, isaB_list_list, atI_0, atI_1, atI_2, atI_3, atI_4, atI_5, atI_6, atI_7, atI_8, atI_9, atI_10, atI_11, ixN_4_0, ixN_4_1, ixN_4_2, ixN_4_3, sl_0, sl_1, sl_2, sl_3, sl_4, sl_5, sl_6, sl_7, sl_8, sl_9, sl_10, sl_11, sl_12])
/-! ## drawing -/
structure DrawSt where
  ns : List Int
  a : Int
  m : Int
  r : Int
def DrawSt.ok (z : DrawSt) : Prop := 0 ≤ z.a ∧ 0 ≤ z.m ∧ z.m < 2147483647 ∧ 0 ≤ z.r
def DrawSt.o (z : DrawSt) : GO := .lst [.frz (intsD z.ns), .int z.a, .int z.m, .int z.r]
def t_law_start : DS :=
  dSeq (dSet 1 (dC (.int 1)))
  (dSeq (dFor (diAny (dVar 0)) (dgName 2) (dSet 1 (dOp (dModR) (dOp (dAddR false) (dOp (dAddR false) (dOp (dMulI false) (dVar 1) (dC (.int 48271))) (dVar 2)) (dC (.int 7))) (dC (.int 2147483647)))))
  (dRet (dLst true (dCons (dVar 0) (dCons (dC (.int 0)) (dCons (dVar 1) (dCons (dC (.int 0)) (dNil))))))))
def sp_law_start : SpD := fun ds G Q _ => ∃ ns : List Int, ds = [.frz (intsD ns)] ∧ ∀ p (z : DrawSt), G p = none → z.ok → Q (.ref p) (gup G p z.o)
theorem law_law_start : ∀ ds G Q E, sp_law_start ds G Q E → ds.length = 1 ∧ t_law_start (endsD Q) (startD 3 ds) G := by
  rintro ds G Q E ⟨ns, rfl, h⟩
  refine ⟨rfl, ?_⟩
  unfold t_law_start
  walk_at "d"
  refine dLoop_map D.int (fun pre Γ' G' => ∃ m o, Γ' = [some (.frz (intsD ns)), some (.int m), o] ∧ 0 ≤ m ∧ m < 2147483647 ∧ G' = G) ⟨1, none, rfl, by decide, by decide, rfl⟩ (fun _ _ _ _ => trivial) ?_ ?_
  · rintro pre x Γ' G' K hpre ⟨m, o, rfl, h1, h2, rfl⟩ hK
    walk_at "d"
    exact ⟨.inl ⟨by omega, by omega⟩, by decide, hK _ _ ⟨_, _, rfl, Int.emod_nonneg _ (by decide), Int.emod_lt_of_pos _ (by decide), rfl⟩⟩
  · rintro Γ' G' ⟨m, o, rfl, h1, h2, rfl⟩
    walk_at "d"
    exact fun p hp => .here (h p ⟨ns, 0, m, 0⟩ hp ⟨Int.le_refl 0, h1, h2, Int.le_refl 0⟩)
def t_law_drawn : DS :=
  dSeq (dIfS (dTest (dOp dGt (dOp dIxR (dVar 0) (dC (.int 3))) (dC (.int 0)))) (dSeq (dSet 2 (dOp (dModR) (dOp dIxR (dVar 0) (dC (.int 3))) (dVar 1)))
  (dSeq (dSetItem (dVar 0) (dC (.int 3)) (dOp (dFdivR) (dOp dIxR (dVar 0) (dC (.int 3))) (dVar 1)))
  (dRet (dVar 2)))) (dNext))
  (dSeq (dSetItem (dVar 0) (dC (.int 1)) (dOp (dAddR false) (dOp dIxR (dVar 0) (dC (.int 1))) (dC (.int 1))))
  (dSeq (dIfS (dTest (dOp dLe (dOp dIxR (dVar 0) (dC (.int 1))) (dCB dLen (dCons (dOp dIxR (dVar 0) (dC (.int 0))) (dNil))))) (dSeq (dSet 3 (dOp dIxR (dOp dIxR (dVar 0) (dC (.int 0))) (dOp (dSubR) (dOp dIxR (dVar 0) (dC (.int 1))) (dC (.int 1)))))
  (dSeq (dSetItem (dVar 0) (dC (.int 3)) (dIf (dTest (dOp dGe (dVar 3) (dOp (dPowR) (dC (.int 10)) (dC (.int 18))))) (dOp (dFdivR) (dVar 3) (dVar 1)) (dC (.int 0))))
  (dRet (dOp (dModR) (dVar 3) (dVar 1))))) (dNext))
  (dSeq (dSetItem (dVar 0) (dC (.int 2)) (dOp (dModR) (dOp (dAddR false) (dOp (dMulI false) (dOp dIxR (dVar 0) (dC (.int 2))) (dC (.int 48271))) (dC (.int 11))) (dC (.int 2147483647))))
  (dRet (dOp (dModR) (dOp (dFdivR) (dOp dIxR (dVar 0) (dC (.int 2))) (dC (.int 7))) (dVar 1))))))
def sp_law_drawn : SpD := fun ds G Q _ => ∃ (s : Addr) (k : Int) (z : DrawSt), ds = [.ref s, .int k] ∧ 0 < k ∧ k < 1073741824 ∧ z.ok ∧ G s = some z.o ∧ ∀ x (z' : DrawSt), 0 ≤ x → x < k → z'.ok → Q (.int x) (gup G s z'.o)
theorem law_law_drawn : ∀ ds G Q E, sp_law_drawn ds G Q E → ds.length = 2 ∧ t_law_drawn (endsD Q) (startD 4 ds) G := by
  rintro ds G Q E ⟨s, k, z, rfl, hk, hk2, ⟨h0, h1, h2, h3⟩, hs, h⟩
  refine ⟨rfl, ?_⟩
  obtain ⟨ns, a, m, r⟩ := z
  simp only at h0 h1 h2 h3
  unfold t_law_drawn
  rw [← gup_self hs]
  simp only [DrawSt.o]
  have hd : CDiv 0 k := ⟨hk, hk2⟩
  walk_at "d"
  refine cndP (fun hr => ?_) fun hr => ?_
  · refine ⟨hk, hd, .here ?_⟩
    exact h (r % k) ⟨ns, a, m, r / k⟩ (Int.emod_nonneg _ (by omega)) (Int.emod_lt_of_pos _ hk) ⟨h0, h1, h2, Int.ediv_nonneg h3 (by omega)⟩
  · refine cndP (fun hl => ?_) fun hl => ?_
    · rw [List.length_map] at hl
      have hat : atI (intsD ns) (a + 1 - 1) = some (.int (ns.getD a.toNat 0)) := by
        rw [show a + 1 - 1 = ((a.toNat : Nat) : Int) by omega]
        refine atI_nat ?_
        have hlt : a.toNat < ns.length := by omega
        rw [List.getElem?_map, List.getElem?_eq_getElem hlt, List.getD_eq_getElem?_getD, List.getElem?_eq_getElem hlt]
        rfl
      generalize ns.getD a.toNat 0 = x at hat
      simp only [hat]
      walk_at "d"
      refine ⟨⟨by decide, by decide, by decide⟩, cndP (fun hx => ?_) fun hx => ?_⟩
      · have hx0 : 0 ≤ x := Int.le_trans (by decide) hx
        exact ⟨hd, hk, .here (h (x % k) ⟨ns, a + 1, m, x / k⟩ (Int.emod_nonneg _ (by omega)) (Int.emod_lt_of_pos _ hk) ⟨by show 0 ≤ a + 1; omega, h1, h2, Int.ediv_nonneg hx0 (by omega)⟩)⟩
      · exact ⟨hk, .here (h (x % k) ⟨ns, a + 1, m, 0⟩ (Int.emod_nonneg _ (by omega)) (Int.emod_lt_of_pos _ hk) ⟨by show 0 ≤ a + 1; omega, h1, h2, Int.le_refl 0⟩)⟩
    · refine ⟨.inl ⟨by omega, by omega⟩, by decide, ⟨by decide, by decide⟩, hk, .here ?_⟩
      exact h _ ⟨ns, a + 1, (m * 48271 + 11) % 2147483647, r⟩ (Int.emod_nonneg _ (by omega)) (Int.emod_lt_of_pos _ hk) ⟨by show 0 ≤ a + 1; omega, Int.emod_nonneg _ (by decide), Int.emod_lt_of_pos _ (by decide), h3⟩
/-- a draw, wherever the state stands -/
theorem draw {s : Addr} {k : Int} {z : DrawSt} {G : GH} {Q : DK} (h1 : 0 < k) (h2 : k < 1073741824) (hz : z.ok) (h : ∀ x (z' : DrawSt), 0 ≤ x → x < k → z'.ok → Q (.int x) (gup G s z'.o)) : sp_law_drawn [.ref s, .int k] (gup G s z.o) Q XD0 :=
  ⟨s, k, z, rfl, h1, h2, hz, gup_same, fun x z' a b c => by rw [gup_gup]; exact h x z' a b c⟩
/-! ## the same -/
def sp_law_same : Nat → SpD
  | 0 => fun _ _ _ _ => False
  | n + 1 => fun ds G Q _ => ∃ d, ds = [d, d] ∧ n ≤ 60 ∧ fitD n d ∧ Q (.bl true) G
def t_law_same (n : Nat) : DS :=
  dSeq (dIfS (dTest (dCB dIsi (dCons (dVar 1) (dCons (dTup (dCons (dC (.ty "tuple")) (dCons (dC (.ty "list")) (dNil)))) (dNil))))) (dSeq (dIfS (dOr (dNot (dTest (dCB dIsi (dCons (dVar 0) (dCons (dTup (dCons (dC (.ty "tuple")) (dCons (dC (.ty "list")) (dNil)))) (dNil)))))) (dTest (dOp dNeR (dCB dIsi (dCons (dVar 0) (dCons (dC (.ty "list")) (dNil)))) (dCB dIsi (dCons (dVar 1) (dCons (dC (.ty "list")) (dNil))))))) (dRet (dC (.bl false))) (dNext))
  (dSeq (dIfS (dTest (dOp dNeR (dCB dLen (dCons (dVar 0) (dNil))) (dCB dLen (dCons (dVar 1) (dNil))))) (dRet (dC (.bl false))) (dNext))
  (dRet (dOp dEqR (dLc false (diRng1 (dCons (dCB dLen (dCons (dVar 1) (dNil))) (dNil))) (dgName 2) (dNot (dTest (dCall (sp_law_same n) (dCons (dOp dIxR (dVar 0) (dVar 2)) (dCons (dOp dIxR (dVar 1) (dVar 2)) (dNil)))))) (dVar 2) [2]) (dLst false (dNil)))))) (dNext))
  (dSeq (dIfS (dTest (dOp dIsNR (dVar 1) (dC .non))) (dRet (dOp dIsNR (dVar 0) (dC .non))) (dNext))
  (dSeq (dIfS (dTest (dCB dIsi (dCons (dVar 1) (dCons (dC (.ty "str")) (dNil))))) (dRet (dAndV (dCB dIsi (dCons (dVar 0) (dCons (dC (.ty "str")) (dNil)))) (dOp dEqR (dVar 0) (dVar 1)))) (dNext))
  (dSeq (dIfS (dOr (dTest (dCB dIsi (dCons (dVar 1) (dCons (dC (.ty "bool")) (dNil))))) (dTest (dCB dIsi (dCons (dVar 0) (dCons (dC (.ty "bool")) (dNil)))))) (dRet (dAndV (dCB dIsi (dCons (dVar 1) (dCons (dC (.ty "bool")) (dNil)))) (dAndV (dCB dIsi (dCons (dVar 0) (dCons (dC (.ty "bool")) (dNil)))) (dOp dEqR (dVar 0) (dVar 1))))) (dNext))
  (dRet (dAndV (dCB dIsi (dCons (dVar 0) (dCons (dC (.ty "int")) (dNil)))) (dOp dEqR (dVar 0) (dVar 1)))))))
theorem eqD_refl : ∀ {n : Nat} {d : D}, depD n d → eqD d d = true := by
  have all : ∀ {xs : List D}, (∀ x ∈ xs, eqD x x = true) → PyData.eqvAll (toPys xs) (toPys xs) = true := by
    intro xs
    induction xs with
    | nil => intro _; rw [toPys]; rfl
    | cons x r ih =>
      intro h
      rw [toPys, PyData.eqvAll, ih fun y hy => h y (List.mem_cons_of_mem _ hy), Bool.and_true]
      exact h x List.mem_cons_self
  intro n
  induction n with
  | zero =>
    intro d h
    cases d <;> first | exact h.elim | (unfold eqD; rw [toPy]; simp [PyData.eqv])
  | succ n ih =>
    intro d h
    cases d with
    | tup xs => unfold eqD; rw [toPy, PyData.eqv]; exact all fun x hx => ih (h x hx)
    | lst xs => unfold eqD; rw [toPy, PyData.eqv]; exact all fun x hx => ih (h x hx)
    | non => unfold eqD; rw [toPy]; simp [PyData.eqv]
    | bl _ => unfold eqD; rw [toPy]; simp [PyData.eqv]
    | int _ => unfold eqD; rw [toPy]; simp [PyData.eqv]
    | str _ => unfold eqD; rw [toPy]; simp [PyData.eqv]
    | frz _ => exact h.elim
    | ref _ => exact h.elim
    | ty _ => exact h.elim
    | code _ => exact h.elim
theorem law_law_same (n : Nat) : ∀ ds G Q E, sp_law_same (n + 1) ds G Q E → ds.length = 2 ∧ t_law_same n (endsD Q) (startD 3 ds) G := by
  rintro ds G Q E ⟨d, rfl, hn, hf, h⟩
  refine ⟨rfl, ?_⟩
  unfold t_law_same
  have hd := fit_dep hf
  have ok : ∀ m : Int, okE (D.int m) = true := fun m => okE_of (n := 0) trivial (by decide)
  have okb : ∀ m : Bool, okE (D.bl m) = true := fun m => okE_of (n := 0) trivial (by decide)
  have oknil : okE (D.lst []) = true := okE_of (n := 1) (fun x hx => absurd hx (by simp)) (by decide)
  have fin : ∀ (xs : List D) (t : D), (∀ (m : Nat), t = .tup xs ∨ t = .lst xs) → (∀ x ∈ xs, ∃ m, n = m + 1 ∧ fitD m x) → xs.length ≤ 1000000 → small62 xs.length ∧ (rngD 0 (xs.length : Int).toNat).length ≤ sizeLine ∧
      dComp (fun x => True) (dgName 2) (dNot (dTest (dCall (sp_law_same n) (dCons (dOp dIxR (dVar 0) (dVar 2)) (dCons (dOp dIxR (dVar 1) (dVar 2)) dNil))))) (dVar 2) [some t, some t, none]
        (fun acc G2 => okE (D.lst acc) = true ∧ okE (D.lst []) = true ∧ Drop (Q (D.bl (eqD (D.lst acc) (D.lst [])))) G2) (rngD 0 (xs.length : Int).toNat) [] G := by
    intro xs t ht hx hl
    refine ⟨⟨by omega, by omega⟩, by rw [rngD_len]; exact sizeLine_ge (by omega), dComp_pure id (fun _ => false) trivial (fun y hy K1 K2 h1 h2 => ?_) ?_⟩
    · obtain ⟨i, hi, rfl⟩ := rngD_mem hy
      have hi' : i < xs.length := by omega
      have hat : atI xs (0 + (i : Int)) = some xs[i] := by
        rw [Int.zero_add]; exact atI_nat (List.getElem?_eq_getElem hi')
      obtain ⟨m, rfl, hm⟩ := hx xs[i] (List.getElem_mem hi')
      rcases ht 0 with rfl | rfl <;> walk_at "d" <;> simp only [hat] <;> exact ⟨_, rfl, by omega, hm, h2 rfl⟩
    · rw [List.filter_eq_nil_iff.mpr (by simp), eqD_lst_nil]
      exact ⟨oknil, oknil, .here h⟩
  cases d
  case ref => cases n <;> exact hd.elim
  case ty => cases n <;> exact hd.elim
  case code => cases n <;> exact hd.elim
  case frz => cases n <;> exact hd.elim
  case non => walk_at "d"; exact .here h
  case str x =>
    walk_at "d"
    rw [eqD_refl hd]
    exact ⟨okE_of hd (by omega), okE_of hd (by omega), .here h⟩
  case bl x =>
    walk_at "d"
    rw [eqD_refl hd]
    exact ⟨okb _, okb _, .here h⟩
  case int x =>
    walk_at "d"
    rw [eqD_refl hd]
    exact ⟨ok _, ok _, .here h⟩
  case tup xs =>
    cases n with
    | zero => exact hd.elim
    | succ m =>
      walk_at "d"
      rw [eqD_bl, eqD_int, beq_self_eq_true, beq_self_eq_true]
      exact ⟨okb _, okb _, ok _, ok _, fin xs _ (fun _ => .inl rfl) (fun x hx => ⟨m, rfl, hf.2 x hx⟩) hf.1⟩
  case lst xs =>
    cases n with
    | zero => exact hd.elim
    | succ m =>
      walk_at "d"
      rw [eqD_bl, eqD_int, beq_self_eq_true, beq_self_eq_true]
      exact ⟨okb _, okb _, ok _, ok _, fin xs _ (fun _ => .inr rfl) (fun x hx => ⟨m, rfl, hf.2 x hx⟩) hf.1⟩
end TK

namespace TK
open PySem PySem.Spec L2
local macro_rules | `(tactic| walk_at "d") => `(tactic| simp only [gsub_refl, isC, dCountB, dIndexB, blL, dCallX, dDropX, dRetX, dSetX, dRaise, dxOf, startD, dSeq, dNext, dRet, dRetN, dSet, dAsg, dPar, dIfS, dDrop, dFor, dTest, dAnd, dOr, dNot, dAndV, dOrV, dNotV, dIf, dVar, dC, dNil, dCons, dOp, dTup, dLst, dCB, dCall, dMt, dChain, dCmpI, dSubR, dAddR, dMulI, dFdivR, dModR, dPowR, dIxR, dLen, dIsi, dTuple, dList, dInt, dIsNR, dNotNR, dEqR, dNeR, dgName, dgTup, dgCons, dgNil, newL, tyD, dLc, diAny, diRng1, diRng2, dSlice, dSl, doSome, doNone, wipeD, dYes, dMax, dMin, dUn, dNegR, dBreak, dCont, dAppend, dExtend, dFrz, dSetItem, dSortSet, dInL, dCallV, dNever, dJoin, dSplit, dStr, dInS, diEnumerate, dDGet, dInD, dDPut, putC, lookD, keyOf, keysOf, dNewD, dDisp, dpNil, dpCons, dSorted, dKdIn, dKdGet, dDGet2, dKdGet2, dRev, dDictPT, dMulT, b2n_t, b2n_f, dUpdate, dFld, dSetFld, dMeth, dMake, dInT, dNo, dSortA, dDisp1T, dLockE, diKeys, diZip, dPar3, dPopAt, dRemove, dMinD, List.map_cons, List.map_nil, List.length_cons, List.length_nil, List.replicate, List.cons_append, List.nil_append, List.getElem?_cons_zero, List.getElem?_cons_succ, List.set_cons_zero, List.set_cons_succ, Nat.reduceAdd, Nat.reduceSub, Nat.zero_add, Nat.add_zero, ne_eq, String.reduceEq, not_false_eq_true, not_true_eq_false, true_and, and_true, Bool.not_false, Bool.not_true, cnd_t, cnd_f, cnd_not, Bool.true_or, Bool.or_true, Bool.false_or, Bool.or_false, reduceIte, gup_same, gup_gup, endsD, List.length_cons, List.length_nil, Nat.reduceAdd, vwq_non, isNonq_non, tyq_non, vwq_bl, isNonq_bl, tyq_bl, vwq_int, isNonq_int, tyq_int, vwq_str, isNonq_str, tyq_str, vwq_tup, isNonq_tup, tyq_tup, vwq_lst, isNonq_lst, tyq_lst, vwq_frz, isNonq_frz, tyq_frz, vwq_ty, isNonq_ty, isNonq_ref, vw_gup, not_dec, okTy_NoneType, okTy_bool, okTy_int, okTy_str, okTy_tuple, okTy_list, isaB_NoneType_bool, isaB_NoneType_int, isaB_NoneType_str, isaB_NoneType_tuple, isaB_NoneType_list, isaB_bool_bool, isaB_bool_int, isaB_bool_str, isaB_bool_tuple, isaB_bool_list, isaB_int_bool, isaB_int_int, isaB_int_str, isaB_int_tuple, isaB_int_list, isaB_str_bool, isaB_str_int, isaB_str_str, isaB_str_tuple, isaB_str_list, isaB_tuple_bool, isaB_tuple_int, isaB_tuple_str, isaB_tuple_tuple, isaB_tuple_list, isaB_list_bool, isaB_list_int, isaB_list_str, isaB_list_tuple, isaB_list_list, atI_0, atI_1, atI_2, atI_3, atI_4, atI_5, atI_6, atI_7, atI_8, atI_9, atI_10, atI_11, ixN_4_0, ixN_4_1, ixN_4_2, ixN_4_3, sl_0, sl_1, sl_2, sl_3, sl_4, sl_5, sl_6, sl_7, sl_8, sl_9, sl_10, sl_11, sl_12])
/-- a def that draws: of the state at s it tells something of which P holds -/
def drawSp (args : Addr → List D) (P : D → Prop) : SpD := fun ds G Q _ => ∃ (s : Addr) (z : DrawSt), ds = args s ∧ z.ok ∧ G s = some z.o ∧ ∀ d (z' : DrawSt), P d → z'.ok → Q d (gup G s z'.o)
theorem drawn {args : Addr → List D} {P : D → Prop} {s : Addr} {z : DrawSt} {G : GH} {Q : DK} (hz : z.ok) (h : ∀ d (z' : DrawSt), P d → z'.ok → Q d (gup G s z'.o)) : drawSp args P (args s) (gup G s z.o) Q XD0 :=
  ⟨s, z, rfl, hz, gup_same, fun d z' a b => by rw [gup_gup]; exact h d z' a b⟩
/-- one of three -/
theorem three {a b c : D} {x : Int} {R : D → Prop} (h0 : 0 ≤ x) (h3 : x < 3) (ha : R a) (hb : R b) (hc : R c) : ∃ d, atI [a, b, c] x = some d ∧ R d := by
  have : x = 0 ∨ x = 1 ∨ x = 2 := by omega
  rcases this with rfl | rfl | rfl
  · exact ⟨a, rfl, ha⟩
  · exact ⟨b, rfl, hb⟩
  · exact ⟨c, rfl, hc⟩
theorem two {a b : D} {x : Int} {R : D → Prop} (h0 : 0 ≤ x) (h3 : x < 2) (ha : R a) (hb : R b) : ∃ d, atI [a, b] x = some d ∧ R d := by
  have : x = 0 ∨ x = 1 := by omega
  rcases this with rfl | rfl
  · exact ⟨a, rfl, ha⟩
  · exact ⟨b, rfl, hb⟩
def t_law_sides : DS :=
  dRet (dLc false (diRng1 (dCons (dC (.int 2)) (dNil))) (dgName 1) (dYes) (dOp (dAddR false) (dC (.int 1)) (dCall sp_law_drawn (dCons (dVar 0) (dCons (dOp dIxR (dLst false (dCons (dC (.int 5)) (dCons (dC (.int 12)) (dCons (dC (.int 24)) (dNil))))) (dCall sp_law_drawn (dCons (dVar 0) (dCons (dC (.int 3)) (dNil))))) (dNil))))) [1])
def sp_law_sides : SpD := drawSp (fun s => [.ref s]) fun d => ∃ w h : Nat, d = .lst [.int w, .int h] ∧ 1 ≤ w ∧ w ≤ 24 ∧ 1 ≤ h ∧ h ≤ 24
theorem law_law_sides : ∀ ds G Q E, sp_law_sides ds G Q E → ds.length = 1 ∧ t_law_sides (endsD Q) (startD 2 ds) G := by
  rintro ds G Q E ⟨s, z, rfl, hz, hs, h⟩
  refine ⟨rfl, ?_⟩
  unfold t_law_sides
  rw [← gup_self hs]
  walk_at "d"
  refine ⟨⟨by decide, by decide⟩, by rw [rngD_len]; exact sizeLine_ge (by decide), ?_⟩
  refine dComp_inv (fun i acc G' => ∃ (z' : DrawSt) (ns : List Nat), z'.ok ∧ G' = gup G s z'.o ∧ ns.length = i ∧ acc = ns.map (fun n : Nat => D.int n) ∧ ∀ n ∈ ns, 1 ≤ n ∧ n ≤ 24) ⟨z, [], hz, rfl, rfl, rfl, by simp⟩ (fun _ _ _ _ => trivial) ?_ ?_
  · rintro i x acc G' K1 K2 hx ⟨z', ns, hz', rfl, hl, rfl, hb⟩ h1 h2
    walk_at "d"
    refine draw (by decide) (by decide) hz' fun x1 z1 a1 b1 c1 => ?_
    obtain ⟨d, hat, k, rfl, hk1, hk2⟩ := three (a := .int 5) (b := .int 12) (c := .int 24) (R := fun d => ∃ k : Int, d = .int k ∧ 0 < k ∧ k ≤ 24) a1 b1 ⟨5, rfl, by decide, by decide⟩ ⟨12, rfl, by decide, by decide⟩ ⟨24, rfl, by decide, by decide⟩
    simp only [hat]
    refine draw hk1 (by omega) c1 fun x2 z2 a2 b2 c2 => ?_
    walk_at "d"
    refine h1 _ _ ⟨z2, ns ++ [(1 + x2).toNat], c2, rfl, by simp [hl], ?_, ?_⟩
    · rw [List.map_append]; simp; omega
    · intro n hn
      rcases List.mem_append.mp hn with hn | hn
      · exact hb n hn
      · simp at hn; omega
  · rintro acc G' ⟨z', ns, hz', rfl, hl, rfl, hb⟩
    rw [rngD_len] at hl
    obtain ⟨w, hh, rfl⟩ : ∃ w hh, ns = [w, hh] := by
      match ns, hl with
      | [w, hh], _ => exact ⟨w, hh, rfl⟩
    have b1 := hb w (by simp)
    have b2 := hb hh (by simp)
    exact .here (h _ z' ⟨w, hh, rfl, b1.1, b1.2, b2.1, b2.2⟩ hz')
def t_law_land : DS :=
  dSeq (dSet 3 (dOp dIxR (dLst false (dCons (dC (.int 3)) (dCons (dC (.int 20)) (dCons (dC (.int 100)) (dNil))))) (dCall sp_law_drawn (dCons (dVar 0) (dCons (dC (.int 3)) (dNil))))))
  (dRet (dCB dTuple (dCons (dLc false (diRng1 (dCons (dVar 2) (dNil))) (dgName 5) (dYes) (dCB dTuple (dCons (dLc false (diRng1 (dCons (dVar 1) (dNil))) (dgName 4) (dYes) (dCall sp_law_drawn (dCons (dVar 0) (dCons (dVar 3) (dNil)))) [4]) (dNil))) [5]) (dNil))))
def sp_law_land : SpD := fun ds G Q _ => ∃ (s : Addr) (z : DrawSt) (w h : Nat), ds = [.ref s, .int w, .int h] ∧ 1 ≤ w ∧ w ≤ 24 ∧ 1 ≤ h ∧ h ≤ 24 ∧ z.ok ∧ G s = some z.o ∧ ∀ L (z' : DrawSt), OkLand L w h → z'.ok → Q (landD true L) (gup G s z'.o)
theorem law_law_land : ∀ ds G Q E, sp_law_land ds G Q E → ds.length = 3 ∧ t_law_land (endsD Q) (startD 6 ds) G := by
  rintro ds G Q E ⟨s, z, w, h, rfl, w1, w2, h1, h2, hz, hs, hQ⟩
  refine ⟨rfl, ?_⟩
  unfold t_law_land
  rw [← gup_self hs]
  walk_at "d"
  refine draw (by decide) (by decide) hz fun x1 z1 a1 b1 c1 => ?_
  obtain ⟨d, hat, k, rfl, hk1, hk2⟩ := three (a := .int 3) (b := .int 20) (c := .int 100) (R := fun d => ∃ k : Int, d = .int k ∧ 0 < k ∧ k ≤ 100) a1 b1 ⟨3, rfl, by decide, by decide⟩ ⟨20, rfl, by decide, by decide⟩ ⟨100, rfl, by decide, by decide⟩
  simp only [hat]
  refine ⟨⟨by omega, by omega⟩, by rw [rngD_len]; exact sizeLine_ge (by omega), ?_⟩
  refine dComp_inv (fun i acc G' => ∃ (z' : DrawSt) (L : Land), z'.ok ∧ G' = gup G s z'.o ∧ L.length = i ∧ acc = L.map (rowD true) ∧ (∀ r ∈ L, r.length = w) ∧ ∀ r ∈ L, ∀ x ∈ r, 0 ≤ x ∧ x ≤ 99) ⟨z1, [], c1, rfl, rfl, rfl, by simp, by simp⟩ (fun _ _ _ _ => trivial) ?_ ?_
  · rintro i x acc G' K1 K2 hx ⟨z', L, hz', rfl, hl, rfl, hb, hb2⟩ g1 g2
    walk_at "d"
    refine ⟨⟨by omega, by omega⟩, by rw [rngD_len]; exact sizeLine_ge (by omega), ?_⟩
    refine dComp_inv (fun i acc G' => ∃ (z' : DrawSt) (r : List Int), z'.ok ∧ G' = gup G s z'.o ∧ r.length = i ∧ acc = intsD r ∧ ∀ x ∈ r, 0 ≤ x ∧ x ≤ 99) ⟨z', [], hz', rfl, rfl, rfl, by simp⟩ (fun _ _ _ _ => trivial) ?_ ?_
    · rintro i x acc G' K1 K2 hx ⟨z', r, hz', rfl, hl, rfl, hb⟩ g1 g2
      walk_at "d"
      refine draw hk1 (by omega) hz' fun x2 z2 a2 b2 c2 => ?_
      refine g1 _ _ ⟨z2, r ++ [x2], c2, rfl, by simp [hl], by simp, fun y hy => ?_⟩
      rcases List.mem_append.mp hy with hy | hy
      · exact hb y hy
      · simp at hy; omega
    · rintro acc G' ⟨z2, r, hz2, rfl, hl2, rfl, hb3⟩
      rw [rngD_len] at hl2
      refine g1 _ _ ⟨z2, L ++ [r], hz2, rfl, by simp [hl], by simp [rowD], fun y hy => ?_, fun y hy => ?_⟩
      · rcases List.mem_append.mp hy with hy | hy
        · exact hb y hy
        · simp at hy; subst hy; omega
      · rcases List.mem_append.mp hy with hy | hy
        · exact hb2 y hy
        · simp at hy; subst hy; exact hb3
  · rintro acc G' ⟨z', L, hz', rfl, hl, rfl, hb, hb2⟩
    rw [rngD_len] at hl
    exact .here (hQ L z' ⟨by omega, h1, h2, w1, w2, hb, hb2⟩ hz')
def t_law_style : DS :=
  dSeq (dPar 1 2 (dCons (dLst true (dNil)) (dCons (dC (.int 0)) (dNil))))
  (dSeq (dFor (diRng1 (dCons (dOp (dAddR false) (dC (.int 1)) (dCall sp_law_drawn (dCons (dVar 0) (dCons (dC (.int 6)) (dNil))))) (dNil))) (dgName 3) (dSeq (dSet 2 (dOp (dAddR false) (dOp (dAddR false) (dVar 2) (dC (.int 1))) (dCall sp_law_drawn (dCons (dVar 0) (dCons (dOp dIxR (dLst false (dCons (dC (.int 2)) (dCons (dC (.int 16)) (dNil)))) (dCall sp_law_drawn (dCons (dVar 0) (dCons (dC (.int 2)) (dNil))))) (dNil))))))
  (dDrop (dMt "list" dAppend (dVar 1) (dCons (dCB dMin (dCons (dC (.int 99)) (dCons (dVar 2) (dNil)))) (dNil))))))
  (dRet (dCB dTuple (dCons (dSortSet false (dVar 1)) (dNil)))))
def sp_law_style : SpD := drawSp (fun s => [.ref s]) fun d => ∃ st, d = .tup (intsD st) ∧ OkStyle st
theorem nodup_len : ∀ {ms ns : List Int}, ms.Nodup → (∀ k ∈ ms, k ∈ ns) → ms.length ≤ ns.length
  | [], _, _, _ => Nat.zero_le _
  | m :: ms, ns, nd, hm => by
    have h1 : m ∈ ns := hm m (by simp)
    have nd' := List.nodup_cons.mp nd
    have ih := nodup_len (ms := ms) (ns := ns.erase m) nd'.2 fun k hk => (List.mem_erase_of_ne (by rintro rfl; exact nd'.1 hk)).mpr (hm k (List.mem_cons_of_mem _ hk))
    rw [List.length_erase_of_mem h1] at ih
    have := List.length_pos_of_mem h1
    rw [List.length_cons]
    omega
theorem gup_put2 {G : GH} {p s : Addr} {A B Z : GO} (h : p ≠ s) : gup (gup (gup G p A) s Z) p B = gup (gup G p B) s Z := by
  rw [gup_comm (Ne.symm h), gup_gup]
theorem gup_at2 {G : GH} {p s : Addr} {A Z : GO} (h : p ≠ s) : gup (gup G p A) s Z p = some A := by rw [gup_ne h, gup_same]
theorem law_law_style : ∀ ds G Q E, sp_law_style ds G Q E → ds.length = 1 ∧ t_law_style (endsD Q) (startD 4 ds) G := by
  rintro ds G Q E ⟨s, z, rfl, hz, hs, h⟩
  refine ⟨rfl, ?_⟩
  unfold t_law_style
  rw [← gup_self hs]
  walk_at "d"
  intro p hp
  have hps : p ≠ s := fun e => by subst e; rw [gup_same] at hp; cases hp
  rw [gup_ne hps] at hp
  rw [gup_comm (Ne.symm hps)]
  refine draw (by decide) (by decide) hz fun x1 z1 a1 b1 c1 => ?_
  walk_at "d"
  refine ⟨⟨by omega, by omega⟩, ?_⟩
  refine dLoop_inv (fun i Γ' G' => ∃ (z' : DrawSt) (ns : List Int) (l : Int) (o : Option D), z'.ok ∧ Γ' = [some (.ref s), some (.ref p), some (.int l), o] ∧ G' = gup (gup G p (.lst (intsD ns))) s z'.o ∧ ns.length = i ∧ 0 ≤ l ∧ ∀ n ∈ ns, 1 ≤ n ∧ n ≤ 99) ⟨z1, [], 0, none, c1, rfl, rfl, rfl, by decide, by simp⟩ (fun _ _ _ _ => trivial) ?_ ?_
  · rintro i x Γ' G' K hx ⟨z', ns, l, o, hz', rfl, rfl, hl, hl0, hb⟩ hK
    obtain ⟨hi, rfl⟩ := rngD_get hx
    walk_at "d"
    refine draw (by decide) (by decide) hz' fun x1 z1 a1 b1 c1 => ?_
    obtain ⟨d, hat, k, rfl, hk1, hk2⟩ := two (a := .int 2) (b := .int 16) (R := fun d => ∃ k : Int, d = .int k ∧ 0 < k ∧ k ≤ 16) a1 b1 ⟨2, rfl, by decide, by decide⟩ ⟨16, rfl, by decide, by decide⟩
    simp only [hat]
    refine draw hk1 (by omega) c1 fun x2 z2 a2 b2 c2 => ?_
    walk_at "d"
    simp only [vw_at (gup_at2 hps), gup_at2 hps]
    refine ⟨trivial, sizeLine_gt (by rw [List.length_map]; omega), hK _ _ ⟨z2, ns ++ [if l + 1 + x2 < 99 then l + 1 + x2 else 99], _, _, c2, rfl, ?_, by simp [hl], by omega, fun n hn => ?_⟩⟩
    · rw [gup_put2 hps, show intsD (ns ++ [if l + 1 + x2 < 99 then l + 1 + x2 else 99]) = intsD ns ++ [D.int (if l + 1 + x2 < 99 then l + 1 + x2 else 99)] from List.map_append]
    · rcases List.mem_append.mp hn with hn | hn
      · exact hb n hn
      · simp at hn; subst hn; split <;> omega
  · rintro Γ' G' ⟨z', ns, l, o, hz', rfl, rfl, hl, hl0, hb⟩
    rw [rngD_len] at hl
    walk_at "d"
    refine ⟨ns, .inl (vw_at (gup_at2 hps)), by omega, fun ms hup hmem => ?_⟩
    refine ⟨gup G s z'.o, ?_, h _ z' ⟨ms, rfl, ?_, ?_, hup, fun k hk => hb k ((hmem k).mp hk)⟩ hz'⟩
    · rw [gup_comm hps]; exact .gup (by rw [gup_ne hps]; exact hp)
    · cases ns with
      | nil => simp at hl; omega
      | cons n r => exact List.length_pos_of_mem ((hmem n).mpr (by simp))
    · have := nodup_len (hup.imp fun hab => by omega) fun k hk => (hmem k).mp hk
      omega
/-- the names of all tiles, rising -/
def colM (h z i : Nat) : List D := (List.range (many h z)).map fun j => nameD z i j
def zoomM (w h z : Nat) : List D := (List.range (many w z)).flatMap (colM h z)
def namesM (w h : Nat) : List D := (List.range 3).flatMap (zoomM w h)
theorem flatMap_range_succ {α : Type} (f : Nat → List α) (n : Nat) : (List.range (n + 1)).flatMap f = (List.range n).flatMap f ++ f n := by
  rw [List.range_succ, List.flatMap_append]; simp
theorem many_of {w z : Nat} (hw : 1 ≤ w) {b : Int} (hb : b = ((4 * sideN z : Nat) : Int)) (h0 : 0 < 4 * sideN z) : ((w : Int) - 1) / b + 1 = ((many w z : Nat) : Int) := by
  subst hb
  unfold many
  rw [show w + 4 * sideN z - 1 = (w - 1) + 4 * sideN z by omega, Nat.add_div_right _ h0, Int.natCast_succ, Int.natCast_ediv, show ((w - 1 : Nat) : Int) = (w : Int) - 1 by omega]
theorem col_len {h z i : Nat} (hh : h ≤ 24) (hz : z ≤ 2) : (colM h z i).length ≤ 6 := by
  unfold colM; rw [List.length_map, List.length_range]; exact many_le hh hz
theorem flat_len {f : Nat → List D} {b : Nat} : ∀ {l : List Nat}, (∀ i ∈ l, (f i).length ≤ b) → (l.flatMap f).length ≤ b * l.length
  | [], _ => Nat.zero_le _
  | i :: l, h => by
    have ih := flat_len (f := f) (b := b) (l := l) fun j hj => h j (List.mem_cons_of_mem _ hj)
    have h1 := h i (by simp)
    rw [List.flatMap_cons, List.length_append, List.length_cons, Nat.mul_succ]
    omega
theorem zoom_len {w h z : Nat} (hw : w ≤ 24) (hh : h ≤ 24) (hz : z ≤ 2) : (zoomM w h z).length ≤ 36 := by
  have := flat_len (f := colM h z) (b := 6) (l := List.range (many w z)) fun i _ => col_len hh hz
  have := many_le hw hz
  rw [List.length_range] at *
  unfold zoomM
  omega
def t_law_names : DS :=
  dSeq (dSet 2 (dLst false (dNil)))
  (dSeq (dFor (diRng1 (dCons (dC (.int 3)) (dNil))) (dgName 3) (dSeq (dSet 4 (dOp dIxR (dLst false (dCons (dC (.int 4)) (dCons (dC (.int 8)) (dCons (dC (.int 16)) (dNil))))) (dVar 3)))
  (dFor (diRng1 (dCons (dOp (dAddR false) (dOp (dFdivR) (dOp (dSubR) (dVar 0) (dC (.int 1))) (dVar 4)) (dC (.int 1))) (dNil))) (dgName 5) (dSet 2 (dOp (dAddR false) (dVar 2) (dLc false (diRng1 (dCons (dOp (dAddR false) (dOp (dFdivR) (dOp (dSubR) (dVar 1) (dC (.int 1))) (dVar 4)) (dC (.int 1))) (dNil))) (dgName 6) (dYes) (dTup (dCons (dVar 3) (dCons (dVar 5) (dCons (dVar 6) (dNil))))) [6]))))))
  (dRet (dVar 2)))
def sp_law_names : SpD := fun ds G Q _ => ∃ w h : Nat, ds = [.int w, .int h] ∧ 1 ≤ w ∧ w ≤ 24 ∧ 1 ≤ h ∧ h ≤ 24 ∧ Q (.lst (namesM w h)) G
theorem law_law_names : ∀ ds G Q E, sp_law_names ds G Q E → ds.length = 2 ∧ t_law_names (endsD Q) (startD 7 ds) G := by
  rintro ds G Q E ⟨w, h, rfl, w1, w2, h1, h2, hQ⟩
  refine ⟨rfl, ?_⟩
  unfold t_law_names
  walk_at "d"
  refine ⟨⟨by decide, by decide⟩, ?_⟩
  refine dLoop_inv (fun n Γ' G' => ∃ o3 o4 o5 o6, Γ' = [some (.int w), some (.int h), some (.lst ((List.range n).flatMap (zoomM w h))), o3, o4, o5, o6] ∧ G' = G) ⟨none, none, none, none, rfl, rfl⟩ (fun _ _ _ _ => trivial) ?_ ?_
  · rintro z x Γ' G' K hx ⟨o3, o4, o5, o6, rfl, rfl⟩ hK
    obtain ⟨hz, rfl⟩ := rngD_get hx
    have hz2 : z ≤ 2 := by simp at hz; omega
    walk_at "d"
    obtain ⟨b, hat, hb, hb0, hbm⟩ : ∃ b : Int, atI [D.int 4, D.int 8, D.int 16] (0 + (z : Int)) = some (.int b) ∧ b = ((4 * sideN z : Nat) : Int) ∧ 0 < 4 * sideN z ∧ b < 100 := by
      have : z = 0 ∨ z = 1 ∨ z = 2 := by omega
      rcases this with rfl | rfl | rfl
      · exact ⟨4, rfl, rfl, by decide, by decide⟩
      · exact ⟨8, rfl, rfl, by decide, by decide⟩
      · exact ⟨16, rfl, rfl, by decide, by decide⟩
    simp only [hat]
    have hcd : ∀ i : Int, CDiv i b := fun i => ⟨by omega, by omega⟩
    have hm1 := many_le w2 hz2
    have hm2 := many_le h2 hz2
    rw [many_of w1 hb hb0]
    refine ⟨hcd _, ⟨by omega, by omega⟩, ?_⟩
    have hpre : ((List.range z).flatMap (zoomM w h)).length ≤ 36 * z := by
      have := flat_len (f := zoomM w h) (b := 36) (l := List.range z) fun i hi => zoom_len w2 h2 (by have := List.mem_range.mp hi; omega)
      rwa [List.length_range] at this
    refine dLoop_inv (fun n Γ' G1 => ∃ o5 o6, Γ' = [some (.int w), some (.int h), some (.lst ((List.range z).flatMap (zoomM w h) ++ (List.range n).flatMap (colM h z))), some (.int (0 + z)), some (.int b), o5, o6] ∧ G1 = G') ⟨o5, o6, by simp, rfl⟩ (fun _ _ _ _ => trivial) ?_ ?_
    · rintro i x Γ' G' K hx ⟨o5, o6, rfl, rfl⟩ hK
      obtain ⟨hi, rfl⟩ := rngD_get hx
      have hi6 : i < 6 := by omega
      walk_at "d"
      rw [many_of h1 hb hb0]
      refine ⟨hcd _, ⟨by omega, by omega⟩, by rw [rngD_len]; exact sizeLine_ge (by omega), ?_⟩
      refine dComp_map (fun j : Nat => D.int (0 + j)) (fun j => nameD z i j) (fun _ => true) trivial (fun j hj K1 K2 g1 g2 => ?_) ?_
      · walk_at "d"
        rw [Int.zero_add, Int.zero_add, Int.zero_add]
        exact g1 rfl
      · rw [List.filter_eq_self.mpr (fun _ _ => rfl), List.nil_append]
        have hcl := flat_len (f := colM h z) (b := 6) (l := List.range i) fun i _ => col_len h2 hz2
        rw [List.length_range] at hcl
        refine ⟨sizeLine_ge ?_, hK _ _ ⟨some (.int (0 + i)), o6, ?_, rfl⟩⟩
        · rw [List.length_append, List.length_map, List.length_range]
          have : ((many h z : Nat) : Int).toNat = many h z := by omega
          omega
        · rw [flatMap_range_succ, ← List.append_assoc]
          rfl
    · rintro Γ' G' ⟨o5, o6, rfl, rfl⟩
      refine hK _ _ ⟨some (.int (0 + z)), some (.int b), o5, o6, ?_, rfl⟩
      rw [rngD_len, flatMap_range_succ, show ((many w z : Nat) : Int).toNat = many w z by omega]
      rfl
  · rintro Γ' G' ⟨o3, o4, o5, o6, rfl, rfl⟩
    exact .here hQ
end TK

namespace TK
open PySem PySem.Spec L2
local macro_rules | `(tactic| walk_at "d") => `(tactic| simp only [gsub_refl, isC, dCountB, dIndexB, blL, dCallX, dDropX, dRetX, dSetX, dRaise, dxOf, startD, dSeq, dNext, dRet, dRetN, dSet, dAsg, dPar, dIfS, dDrop, dFor, dTest, dAnd, dOr, dNot, dAndV, dOrV, dNotV, dIf, dVar, dC, dNil, dCons, dOp, dTup, dLst, dCB, dCall, dMt, dChain, dCmpI, dSubR, dAddR, dMulI, dFdivR, dModR, dPowR, dIxR, dLen, dIsi, dTuple, dList, dInt, dIsNR, dNotNR, dEqR, dNeR, dgName, dgTup, dgCons, dgNil, newL, tyD, dLc, diAny, diRng1, diRng2, dSlice, dSl, doSome, doNone, wipeD, dYes, dMax, dMin, dUn, dNegR, dBreak, dCont, dAppend, dExtend, dFrz, dSetItem, dSortSet, dInL, dCallV, dNever, dJoin, dSplit, dStr, dInS, diEnumerate, dDGet, dInD, dDPut, putC, lookD, keyOf, keysOf, dNewD, dDisp, dpNil, dpCons, dSorted, dKdIn, dKdGet, dDGet2, dKdGet2, dRev, dDictPT, dMulT, b2n_t, b2n_f, dUpdate, dFld, dSetFld, dMeth, dMake, dInT, dNo, dSortA, dDisp1T, dLockE, diKeys, diZip, dPar3, dPopAt, dRemove, dMinD, List.map_cons, List.map_nil, List.length_cons, List.length_nil, List.replicate, List.cons_append, List.nil_append, List.getElem?_cons_zero, List.getElem?_cons_succ, List.set_cons_zero, List.set_cons_succ, Nat.reduceAdd, Nat.reduceSub, Nat.zero_add, Nat.add_zero, ne_eq, String.reduceEq, not_false_eq_true, not_true_eq_false, true_and, and_true, Bool.not_false, Bool.not_true, cnd_t, cnd_f, cnd_not, Bool.true_or, Bool.or_true, Bool.false_or, Bool.or_false, reduceIte, gup_same, gup_gup, endsD, List.length_cons, List.length_nil, Nat.reduceAdd, vwq_non, isNonq_non, tyq_non, vwq_bl, isNonq_bl, tyq_bl, vwq_int, isNonq_int, tyq_int, vwq_str, isNonq_str, tyq_str, vwq_tup, isNonq_tup, tyq_tup, vwq_lst, isNonq_lst, tyq_lst, vwq_frz, isNonq_frz, tyq_frz, vwq_ty, isNonq_ty, isNonq_ref, vw_gup, not_dec, okTy_NoneType, okTy_bool, okTy_int, okTy_str, okTy_tuple, okTy_list, isaB_NoneType_bool, isaB_NoneType_int, isaB_NoneType_str, isaB_NoneType_tuple, isaB_NoneType_list, isaB_bool_bool, isaB_bool_int, isaB_bool_str, isaB_bool_tuple, isaB_bool_list, isaB_int_bool, isaB_int_int, isaB_int_str, isaB_int_tuple, isaB_int_list, isaB_str_bool, isaB_str_int, isaB_str_str, isaB_str_tuple, isaB_str_list, isaB_tuple_bool, isaB_tuple_int, isaB_tuple_str, isaB_tuple_tuple, isaB_tuple_list, isaB_list_bool, isaB_list_int, isaB_list_str, isaB_list_tuple, isaB_list_list, atI_0, atI_1, atI_2, atI_3, atI_4, atI_5, atI_6, atI_7, atI_8, atI_9, atI_10, atI_11, ixN_4_0, ixN_4_1, ixN_4_2, ixN_4_3, sl_0, sl_1, sl_2, sl_3, sl_4, sl_5, sl_6, sl_7, sl_8, sl_9, sl_10, sl_11, sl_12])
/-! ## the law's level -/
def bestOf (hs : List Int) : Option Int := hs.foldl (fun o h => match o with | none => some h | some m => if h > m then some h else some m) none
def obD : Option Int → D | none => .non | some i => .int i
theorem best_snoc (hs : List Int) (h : Int) : bestOf (hs ++ [h]) = match bestOf hs with | none => some h | some m => if h > m then some h else some m := by
  unfold bestOf; rw [List.foldl_append]; rfl
theorem best_aux : ∀ (hs : List Int) (m : Int), ∃ m', hs.foldl (fun o h => match o with | none => some h | some m => if h > m then some h else some m) (some m) = some m' ∧ m ≤ m' ∧ (m' = m ∨ m' ∈ hs) ∧ ∀ y ∈ hs, y ≤ m'
  | [], m => ⟨m, rfl, Int.le_refl _, .inl rfl, by simp⟩
  | h :: r, m => by
    rw [List.foldl_cons]
    by_cases hc : h > m
    · obtain ⟨m', e, h1, h2, h3⟩ := best_aux r h
      simp only [if_pos hc]
      refine ⟨m', e, by omega, .inr ?_, fun y hy => ?_⟩
      · rcases h2 with h2 | h2
        · rw [h2]; simp
        · exact List.mem_cons_of_mem _ h2
      · rcases List.mem_cons.mp hy with hy | hy
        · omega
        · exact h3 y hy
    · obtain ⟨m', e, h1, h2, h3⟩ := best_aux r m
      simp only [if_neg hc]
      refine ⟨m', e, h1, ?_, fun y hy => ?_⟩
      · rcases h2 with h2 | h2
        · exact .inl h2
        · exact .inr (List.mem_cons_of_mem _ h2)
      · rcases List.mem_cons.mp hy with hy | hy
        · omega
        · exact h3 y hy
theorem best_max : ∀ hs : List Int, (bestOf hs = none ∧ hs = []) ∨ ∃ m, bestOf hs = some m ∧ isMax m hs
  | [] => .inl ⟨rfl, rfl⟩
  | h :: r => by
    obtain ⟨m', e, h1, h2, h3⟩ := best_aux r h
    refine .inr ⟨m', e, ?_, fun y hy => ?_⟩
    · rcases h2 with h2 | h2
      · rw [h2]; simp
      · exact List.mem_cons_of_mem _ h2
    · rcases List.mem_cons.mp hy with hy | hy
      · omega
      · exact h3 y hy
theorem isNon_ob {o : Option Int} : isNon (obD o) = !o.isSome := by cases o <;> rfl
theorem take_snoc {α : Type} {l : List α} {n : Nat} (h : n < l.length) : l.take (n + 1) = l.take n ++ [l[n]] := by
  rw [List.take_add_one, List.getElem?_eq_getElem h]; rfl
def t_law_level : DS :=
  dSeq (dSet 5 (dC .non))
  (dSeq (dFor (diRng2 (dCons (dOp (dMulI false) (dVar 4) (dVar 2)) (dCons (dCB dMin (dCons (dCB dLen (dCons (dVar 0) (dNil))) (dCons (dOp (dMulI false) (dOp (dAddR false) (dVar 4) (dC (.int 1))) (dVar 2)) (dNil)))) (dNil)))) (dgName 6) (dFor (diRng2 (dCons (dOp (dMulI false) (dVar 3) (dVar 2)) (dCons (dCB dMin (dCons (dCB dLen (dCons (dOp dIxR (dVar 0) (dC (.int 0))) (dNil))) (dCons (dOp (dMulI false) (dOp (dAddR false) (dVar 3) (dC (.int 1))) (dVar 2)) (dNil)))) (dNil)))) (dgName 7) (dSet 5 (dIf (dOr (dTest (dOp dIsNR (dVar 5) (dC .non))) (dTest (dOp dGt (dOp dIxR (dOp dIxR (dVar 0) (dVar 6)) (dVar 7)) (dVar 5)))) (dOp dIxR (dOp dIxR (dVar 0) (dVar 6)) (dVar 7)) (dVar 5)))))
  (dSeq (dIfS (dTest (dOp dIsNR (dVar 5) (dC .non))) (dRet (dC .non)) (dNext))
  (dRet (dCB dLen (dCons (dLc false (diAny (dVar 1)) (dgName 8) (dTest (dOp dLe (dVar 8) (dVar 5))) (dVar 8) [8]) (dNil))))))
def sp_law_level : SpD := fun ds G Q _ => ∃ (L : Land) (st : List Int) (w h b x y : Nat), ds = [landD true L, .tup (intsD st), .int b, .int x, .int y] ∧ OkLand L w h ∧ st.length ≤ 6 ∧ b ≤ 4 ∧ x ≤ 1000 ∧ y ≤ 1000 ∧ Q (optD (lvl L st b x y)) G
theorem law_law_level : ∀ ds G Q E, sp_law_level ds G Q E → ds.length = 5 ∧ t_law_level (endsD Q) (startD 9 ds) G := by
  rintro ds G Q E ⟨L, st, w, h, b, x, y, rfl, ok, hst, hb, hx, hy, hQ⟩
  refine ⟨rfl, ?_⟩
  unfold t_law_level
  have hl := ok.len
  have h1 := ok.h1
  have h2 := ok.h2
  have w1 := ok.w1
  have w2 := ok.w2
  obtain ⟨r0, L', e0⟩ : ∃ r0 L', L = r0 :: L' := by
    cases L with
    | nil => simp at hl; omega
    | cons r0 L' => exact ⟨_, _, rfl⟩
  have hr0 : (intsD r0).length = w := by rw [List.length_map]; exact ok.row r0 (by rw [e0]; simp)
  have hL0 : (L.map (rowD true)).length = h := by rw [List.length_map, hl]
  have e1 : atI (L.map (rowD true)) 0 = some (.tup (intsD r0)) := by rw [e0]; exact atI_0
  generalize hR : (L.drop (y * b)).take b = R
  have hRl : R.length = min h (y * b + b) - y * b := by rw [← hR, List.length_take, List.length_drop, hl]; omega
  have hRat : ∀ n, (hn : n < R.length) → L[y * b + n]? = some R[n] := by
    intro n hn
    have : R[n]? = L[y * b + n]? := by
      rw [← hR, List.getElem?_take_of_lt (by rw [hRl] at hn; omega), List.getElem?_drop]
    rw [← this, List.getElem?_eq_getElem hn]
  have hsp : spotHs L b x y = R.flatMap fun r => (r.drop (x * b)).take b := by unfold spotHs; rw [hR]
  have ey : (y : Int) * (b : Int) = ((y * b : Nat) : Int) := by rw [Int.natCast_mul]
  have ey1 : ((y : Int) + 1) * (b : Int) = ((y * b + b : Nat) : Int) := by rw [Int.add_mul, Int.one_mul, Int.natCast_add, Int.natCast_mul]
  have ex : (x : Int) * (b : Int) = ((x * b : Nat) : Int) := by rw [Int.natCast_mul]
  have ex1 : ((x : Int) + 1) * (b : Int) = ((x * b + b : Nat) : Int) := by rw [Int.add_mul, Int.one_mul, Int.natCast_add, Int.natCast_mul]
  have hyb : y * b ≤ 4000 := Nat.le_trans (Nat.mul_le_mul hy hb) (by decide)
  have hxb : x * b ≤ 4000 := Nat.le_trans (Nat.mul_le_mul hx hb) (by decide)
  have emin : ∀ m n : Nat, (if ((n : Nat) : Int) < (m : Int) then ((n : Nat) : Int) else (m : Int)) = ((min m n : Nat) : Int) := fun m n => by split <;> omega
  simp only [landD]
  walk_at "d"
  rw [ey, ey1, hL0, emin]
  refine ⟨CMul_small (by omega) (by omega), CMul_small (by omega) (by omega), ⟨by omega, by omega⟩, ⟨by omega, by omega⟩, ?_⟩
  rw [show (((min h (y * b + b) : Nat) : Int) - ((y * b : Nat) : Int)).toNat = R.length by rw [hRl]; omega]
  refine dLoop_inv (fun n Γ' G' => ∃ o6 o7, Γ' = [some (landD true L), some (.tup (intsD st)), some (.int b), some (.int x), some (.int y), some (obD (bestOf ((R.take n).flatMap fun r => (r.drop (x * b)).take b))), o6, o7, none] ∧ G' = G) ⟨none, none, rfl, rfl⟩ (fun _ _ _ _ => trivial) ?_ ?_
  · rintro n x0 Γ' G' K hx0 ⟨o6, o7, rfl, rfl⟩ hK
    obtain ⟨hn, rfl⟩ := rngD_get hx0
    have hmem : R[n] ∈ L := by
      have := hRat n hn
      exact List.mem_of_getElem? this
    have hrw := ok.row _ hmem
    generalize hc : (R[n].drop (x * b)).take b = C
    have hCl : C.length = min w (x * b + b) - x * b := by rw [← hc, List.length_take, List.length_drop, hrw]; omega
    have hCat : ∀ m, (hm : m < C.length) → R[n][x * b + m]? = some C[m] := by
      intro m hm
      have : C[m]? = R[n][x * b + m]? := by
        rw [← hc, List.getElem?_take_of_lt (by rw [hCl] at hm; omega), List.getElem?_drop]
      rw [← this, List.getElem?_eq_getElem hm]
    have hrow : atI (L.map (rowD true)) (((y * b : Nat) : Int) + (n : Int)) = some (.tup (intsD R[n])) := by
      rw [show ((y * b : Nat) : Int) + (n : Int) = ((y * b + n : Nat) : Int) by omega]
      refine atI_nat ?_
      rw [List.getElem?_map, hRat n hn]; rfl
    simp only [landD]
    walk_at "d"
    simp only [e1]
    walk_at "d"
    rw [ex, ex1, hr0, emin]
    refine ⟨CMul_small (by omega) (by omega), CMul_small (by omega) (by omega), ⟨by omega, by omega⟩, ⟨by omega, by omega⟩, ?_⟩
    rw [show (((min w (x * b + b) : Nat) : Int) - ((x * b : Nat) : Int)).toNat = C.length by rw [hCl]; omega]
    refine dLoop_inv (fun m Γ' G1 => ∃ o7, Γ' = [some (landD true L), some (.tup (intsD st)), some (.int b), some (.int x), some (.int y), some (obD (bestOf (((R.take n).flatMap fun r => (r.drop (x * b)).take b) ++ C.take m))), some (.int (((y * b : Nat) : Int) + (n : Int))), o7, none] ∧ G1 = G') ⟨o7, by simp [landD], rfl⟩ (fun _ _ _ _ => trivial) ?_ ?_
    · rintro m x1 Γ' G1 K1 hx1 ⟨o7, rfl, rfl⟩ hK1
      obtain ⟨hm, rfl⟩ := rngD_get hx1
      have hcell : atI (intsD R[n]) (((x * b : Nat) : Int) + (m : Int)) = some (.int C[m]) := by
        rw [show ((x * b : Nat) : Int) + (m : Int) = ((x * b + m : Nat) : Int) by omega]
        refine atI_nat ?_
        rw [List.getElem?_map, hCat m hm]; rfl
      have hbs := best_snoc (((R.take n).flatMap fun r => (r.drop (x * b)).take b) ++ C.take m) C[m]
      rw [List.append_assoc, ← take_snoc hm] at hbs
      simp only [landD] at hK1 ⊢
      generalize bestOf (((R.take n).flatMap fun r => (r.drop (x * b)).take b) ++ C.take m) = best at hbs
      cases best with
      | none =>
        simp only [obD]
        walk_at "d"
        simp only [hrow]
        walk_at "d"
        simp only [hcell]
        exact hK1 _ _ ⟨_, by rw [hbs]; rfl, rfl⟩
      | some v =>
        simp only [obD]
        walk_at "d"
        simp only [hrow]
        walk_at "d"
        simp only [hcell]
        walk_at "d"
        refine cndP (fun hc => ?_) fun hc => ?_
        · exact hK1 _ _ ⟨_, by rw [hbs]; simp only [gt_iff_lt, if_pos hc]; rfl, rfl⟩
        · exact hK1 _ _ ⟨_, by rw [hbs]; simp only [gt_iff_lt, if_neg hc]; rfl, rfl⟩
    · rintro Γ' G1 ⟨o7, rfl, rfl⟩
      refine hK _ _ ⟨some (.int (((y * b : Nat) : Int) + (n : Int))), o7, ?_, rfl⟩
      rw [rngD_len, List.take_length, take_snoc hn, List.flatMap_append, ← hc]
      simp
  · rintro Γ' G' ⟨o6, o7, rfl, rfl⟩
    rw [rngD_len, List.take_length, ← hsp]
    unfold lvl at hQ
    rcases best_max (spotHs L b x y) with ⟨e, e2⟩ | ⟨m, e, hm⟩
    · rw [e]
      rw [if_pos e2] at hQ
      simp only [obD]
      walk_at "d"
      exact .here hQ
    · rw [e]
      rw [if_neg (fun z => by rw [z] at hm; exact absurd hm.1 (by simp))] at hQ
      simp only [obD]
      walk_at "d"
      refine ⟨sizeLine_ge (by rw [List.length_map]; omega), dComp_map D.int D.int (fun s => (spotHs L b x y).any fun h => decide (s ≤ h)) trivial (fun s hs K1 K2 g1 g2 => ?_) ?_⟩
      · walk_at "d"
        refine cndP (fun hsm => ?_) fun hsm => ?_
        · exact g1 (List.any_eq_true.mpr ⟨m, hm.1, decide_eq_true hsm⟩)
        · refine g2 (List.any_eq_false.mpr fun z hz => ?_)
          have := hm.2 z hz
          simp only [decide_eq_true_eq]
          omega
      · rw [List.nil_append, List.length_map]
        exact .here hQ
end TK

namespace TK
open PySem PySem.Spec L2
local macro_rules | `(tactic| walk_at "d") => `(tactic| simp only [gsub_refl, isC, dCountB, dIndexB, blL, dCallX, dDropX, dRetX, dSetX, dRaise, dxOf, startD, dSeq, dNext, dRet, dRetN, dSet, dAsg, dPar, dIfS, dDrop, dFor, dTest, dAnd, dOr, dNot, dAndV, dOrV, dNotV, dIf, dVar, dC, dNil, dCons, dOp, dTup, dLst, dCB, dCall, dMt, dChain, dCmpI, dSubR, dAddR, dMulI, dFdivR, dModR, dPowR, dIxR, dLen, dIsi, dTuple, dList, dInt, dIsNR, dNotNR, dEqR, dNeR, dgName, dgTup, dgCons, dgNil, newL, tyD, dLc, diAny, diRng1, diRng2, dSlice, dSl, doSome, doNone, wipeD, dYes, dMax, dMin, dUn, dNegR, dBreak, dCont, dAppend, dExtend, dFrz, dSetItem, dSortSet, dInL, dCallV, dNever, dJoin, dSplit, dStr, dInS, diEnumerate, dDGet, dInD, dDPut, putC, lookD, keyOf, keysOf, dNewD, dDisp, dpNil, dpCons, dSorted, dKdIn, dKdGet, dDGet2, dKdGet2, dRev, dDictPT, dMulT, b2n_t, b2n_f, dUpdate, dFld, dSetFld, dMeth, dMake, dInT, dNo, dSortA, dDisp1T, dLockE, diKeys, diZip, dPar3, dPopAt, dRemove, dMinD, List.map_cons, List.map_nil, List.length_cons, List.length_nil, List.replicate, List.cons_append, List.nil_append, List.getElem?_cons_zero, List.getElem?_cons_succ, List.set_cons_zero, List.set_cons_succ, Nat.reduceAdd, Nat.reduceSub, Nat.zero_add, Nat.add_zero, ne_eq, String.reduceEq, not_false_eq_true, not_true_eq_false, true_and, and_true, Bool.not_false, Bool.not_true, cnd_t, cnd_f, cnd_not, Bool.true_or, Bool.or_true, Bool.false_or, Bool.or_false, reduceIte, gup_same, gup_gup, endsD, List.length_cons, List.length_nil, Nat.reduceAdd, vwq_non, isNonq_non, tyq_non, vwq_bl, isNonq_bl, tyq_bl, vwq_int, isNonq_int, tyq_int, vwq_str, isNonq_str, tyq_str, vwq_tup, isNonq_tup, tyq_tup, vwq_lst, isNonq_lst, tyq_lst, vwq_frz, isNonq_frz, tyq_frz, vwq_ty, isNonq_ty, isNonq_ref, vw_gup, not_dec, okTy_NoneType, okTy_bool, okTy_int, okTy_str, okTy_tuple, okTy_list, isaB_NoneType_bool, isaB_NoneType_int, isaB_NoneType_str, isaB_NoneType_tuple, isaB_NoneType_list, isaB_bool_bool, isaB_bool_int, isaB_bool_str, isaB_bool_tuple, isaB_bool_list, isaB_int_bool, isaB_int_int, isaB_int_str, isaB_int_tuple, isaB_int_list, isaB_str_bool, isaB_str_int, isaB_str_str, isaB_str_tuple, isaB_str_list, isaB_tuple_bool, isaB_tuple_int, isaB_tuple_str, isaB_tuple_tuple, isaB_tuple_list, isaB_list_bool, isaB_list_int, isaB_list_str, isaB_list_tuple, isaB_list_list, atI_0, atI_1, atI_2, atI_3, atI_4, atI_5, atI_6, atI_7, atI_8, atI_9, atI_10, atI_11, ixN_4_0, ixN_4_1, ixN_4_2, ixN_4_3, sl_0, sl_1, sl_2, sl_3, sl_4, sl_5, sl_6, sl_7, sl_8, sl_9, sl_10, sl_11, sl_12])
theorem range_at {f : Nat → D} {n k : Nat} (h : k < n) : atI ((List.range n).map f) (k : Int) = some (f k) := by
  refine atI_nat ?_
  rw [List.getElem?_map, List.getElem?_range h]; rfl
def t_law_tile : DS :=
  dSeq (dAsg (dVar 2) (dgTup 3 (dgCons (dgName 3) (dgCons (dgName 4) (dgCons (dgName 5) (dgNil))))))
  (dSeq (dSet 6 (dOp dIxR (dLst false (dCons (dC (.int 1)) (dCons (dC (.int 2)) (dCons (dC (.int 4)) (dNil))))) (dVar 3)))
  (dSeq (dSet 7 (dLst true (dNil)))
  (dSeq (dFor (diRng2 (dCons (dOp (dMulI false) (dC (.int 4)) (dVar 5)) (dCons (dOp (dAddR false) (dOp (dMulI false) (dC (.int 4)) (dVar 5)) (dC (.int 5))) (dNil)))) (dgName 8) (dDrop (dMt "list" dAppend (dVar 7) (dCons (dLc false (diRng2 (dCons (dOp (dMulI false) (dC (.int 4)) (dVar 4)) (dCons (dOp (dAddR false) (dOp (dMulI false) (dC (.int 4)) (dVar 4)) (dC (.int 5))) (dNil)))) (dgName 9) (dYes) (dCall sp_law_level (dCons (dVar 0) (dCons (dVar 1) (dCons (dVar 6) (dCons (dVar 9) (dCons (dVar 8) (dNil))))))) [9]) (dNil)))))
  (dSeq (dSet 10 (dLst true (dNil)))
  (dSeq (dFor (diRng1 (dCons (dC (.int 4)) (dNil))) (dgName 8) (dSeq (dSet 11 (dLst true (dNil)))
  (dSeq (dFor (diRng1 (dCons (dC (.int 4)) (dNil))) (dgName 9) (dSeq (dSet 12 (dOp dIxR (dOp dIxR (dVar 7) (dVar 8)) (dVar 9)))
  (dSeq (dPar 13 14 (dCons (dOp dIxR (dOp dIxR (dVar 7) (dVar 8)) (dOp (dAddR false) (dVar 9) (dC (.int 1)))) (dCons (dOp dIxR (dOp dIxR (dVar 7) (dOp (dAddR false) (dVar 8) (dC (.int 1)))) (dVar 9)) (dNil))))
  (dSeq (dSet 15 (dOrV (dAndV (dOp dNotNR (dVar 13) (dC .non)) (dOp dNeR (dVar 13) (dVar 12))) (dAndV (dOp dNotNR (dVar 14) (dC .non)) (dOp dNeR (dVar 14) (dVar 12)))))
  (dDrop (dMt "list" dAppend (dVar 11) (dCons (dIf (dTest (dOp dIsNR (dVar 12) (dC .non))) (dC .non) (dTup (dCons (dVar 12) (dCons (dVar 15) (dNil))))) (dNil))))))))
  (dDrop (dMt "list" dAppend (dVar 10) (dCons (dCB dTuple (dCons (dVar 11) (dNil))) (dNil)))))))
  (dRet (dCB dTuple (dCons (dVar 10) (dNil)))))))))
def sp_law_tile : SpD := fun ds G Q _ => ∃ (L : Land) (st : List Int) (w h z i j : Nat), ds = [landD true L, .tup (intsD st), nameD z i j] ∧ OkLand L w h ∧ st.length ≤ 6 ∧ z ≤ 2 ∧ i ≤ 6 ∧ j ≤ 6 ∧ Q (tileM L st z i j) G
theorem law_law_tile : ∀ ds G Q E, sp_law_tile ds G Q E → ds.length = 3 ∧ t_law_tile (endsD Q) (startD 16 ds) G := by
  rintro ds G Q E ⟨L, st, w, h, z, i, j, rfl, ok, hst, hz, hi, hj, hQ⟩
  refine ⟨rfl, ?_⟩
  unfold t_law_tile
  have main : atI [D.int 1, D.int 2, D.int 4] (z : Int) = some (.int ((sideN z : Nat) : Int)) ∧ sideN z ≤ 4 := by
    have hz3 : z = 0 ∨ z = 1 ∨ z = 2 := by omega
    rcases hz3 with rfl | rfl | rfl
    · exact ⟨rfl, by decide⟩
    · exact ⟨rfl, by decide⟩
    · exact ⟨rfl, by decide⟩
  simp only [nameD]
  walk_at "d"
  simp only [main.1]
  obtain ⟨-, hb⟩ := main
  unfold tileM at hQ
  generalize sideN z = b at hb hQ
  intro p hp
  refine ⟨CMul_small (by omega) (by omega), CMul_small (by omega) (by omega), ⟨by omega, by omega⟩, ⟨by omega, by omega⟩, ?_⟩
  rw [show ((4 : Int) * (j : Int) + 5 - 4 * (j : Int)).toNat = 5 by omega]
  have lev : ∀ (x y : Nat) (G1 : GH) (Q1 : DK), x ≤ 1000 → y ≤ 1000 → Q1 (optD (lvl L st b x y)) G1 → sp_law_level [landD true L, .tup (intsD st), .int b, .int (x : Int), .int (y : Int)] G1 Q1 XD0 := fun x y G1 Q1 hx hy h => ⟨L, st, _, _, b, x, y, rfl, ok, hst, hb, hx, hy, h⟩
  generalize hlevs : (List.range 5).map (fun k => D.lst ((List.range 5).map fun l => optD (lvl L st b (i * 4 + l) (j * 4 + k)))) = levs
  have hll : levs.length = 5 := by rw [← hlevs]; simp
  have hat1 : ∀ k : Nat, k < 5 → atI levs (k : Int) = some (D.lst ((List.range 5).map fun l => optD (lvl L st b (i * 4 + l) (j * 4 + k)))) := fun k hk => by rw [← hlevs]; exact range_at hk
  refine dLoop_inv (fun n Γ' G' => ∃ o8, Γ' = [some (landD true L), some (D.tup (intsD st)), some (D.tup [D.int z, D.int i, D.int j]), some (D.int z), some (D.int i), some (D.int j), some (D.int b), some (D.ref p), o8, none, none, none, none, none, none, none] ∧ GSub G G' ∧ G' p = some (.lst (levs.take n)))
    ⟨none, rfl, .gup hp, gup_same⟩ (fun _ _ _ _ => trivial) ?_ ?_
  · rintro n x0 Γ' G' K hx0 ⟨o8, rfl, hs, hpc⟩ hK
    obtain ⟨hn, rfl⟩ := rngD_get hx0
    rw [show (4 : Int) * (j : Int) + (n : Int) = ((j * 4 + n : Nat) : Int) by omega]
    walk_at "d"
    simp only [vw_at hpc]
    refine ⟨trivial, CMul_small (by omega) (by omega), CMul_small (by omega) (by omega), ⟨by omega, by omega⟩, ⟨by omega, by omega⟩, by rw [rngD_len]; exact sizeLine_ge (by omega), ?_⟩
    rw [show ((4 : Int) * (i : Int) + 5 - 4 * (i : Int)).toNat = 5 by omega]
    refine dComp_map (fun k : Nat => D.int (4 * (i : Int) + (k : Int))) (fun k => optD (lvl L st b (i * 4 + k) (j * 4 + n))) (fun _ => true) trivial (fun k hk K1 K2 g1 g2 => ?_) ?_
    · have hk5 := List.mem_range.mp hk
      rw [show (4 : Int) * (i : Int) + (k : Int) = ((i * 4 + k : Nat) : Int) by omega]
      walk_at "d"
      exact lev _ _ _ _ (by omega) (by omega) (g1 rfl)
    · rw [List.filter_eq_self.mpr (fun _ _ => rfl), List.nil_append]
      simp only [hpc]
      refine ⟨sizeLine_gt (by rw [List.length_take]; omega), hK _ _ ⟨_, rfl, hs.gup2 hp, ?_⟩⟩
      rw [gup_same, ← hlevs, take_range_succ _ hn]
  · rintro Γ' G0 ⟨o8, rfl, hs0, hp0⟩
    rw [rngD_len, List.take_of_length_le (by omega)] at hp0
    walk_at "d"
    intro r hr
    have hrp : r ≠ p := fun e => by subst e; rw [hp0] at hr; cases hr
    have hrG := hs0.none hr
    generalize hrows : (List.range 4).map (fun k => trowM L st b i (j * 4 + k)) = rows
    rw [hrows] at hQ
    have hrl : rows.length = 4 := by rw [← hrows]; simp
    refine ⟨⟨by decide, by decide⟩, ?_⟩
    refine dLoop_inv (fun n Γ' G' => ∃ o8 o9 o11 o12 o13 o14 o15, Γ' = [some (landD true L), some (D.tup (intsD st)), some (D.tup [D.int z, D.int i, D.int j]), some (D.int z), some (D.int i), some (D.int j), some (D.int b), some (D.ref p), o8, o9, some (D.ref r), o11, o12, o13, o14, o15] ∧ GSub G G' ∧ G' p = some (.lst levs) ∧ G' r = some (.lst (rows.take n)))
      ⟨o8, none, none, none, none, none, none, rfl, hs0.gup2 hrG, by rw [gup_ne hrp.symm]; exact hp0, gup_same⟩ (fun _ _ _ _ => trivial) ?_ ?_
    · rintro n x0 Γ' G' K hx0 ⟨o8, o9, o11, o12, o13, o14, o15, rfl, hs, hpc, hrc⟩ hK
      obtain ⟨hn, rfl⟩ := rngD_get hx0
      rw [show Int.toNat 4 = 4 from rfl] at hn
      rw [Int.zero_add]
      walk_at "d"
      intro q hq
      have hqp : q ≠ p := fun e => by subst e; rw [hpc] at hq; cases hq
      have hqr : q ≠ r := fun e => by subst e; rw [hrc] at hq; cases hq
      have hqG := hs.none hq
      refine ⟨⟨by decide, by decide⟩, ?_⟩
      generalize hcells : (List.range 4).map (fun k => cellM L st b (i * 4 + k) (j * 4 + n)) = cells
      have hcl : cells.length = 4 := by rw [← hcells]; simp
      refine dLoop_inv (fun m Γ' G' => ∃ o9 o12 o13 o14 o15, Γ' = [some (landD true L), some (D.tup (intsD st)), some (D.tup [D.int z, D.int i, D.int j]), some (D.int z), some (D.int i), some (D.int j), some (D.int b), some (D.ref p), some (D.int n), o9, some (D.ref r), some (D.ref q), o12, o13, o14, o15] ∧ GSub G G' ∧ G' p = some (.lst levs) ∧ G' r = some (.lst (rows.take n)) ∧ G' q = some (.lst (cells.take m)))
        ⟨o9, o12, o13, o14, o15, rfl, hs.gup2 hqG, by rw [gup_ne hqp.symm]; exact hpc, by rw [gup_ne hqr.symm]; exact hrc, gup_same⟩ (fun _ _ _ _ => trivial) ?_ ?_
      · rintro m x1 Γ' G1 K1 hx1 ⟨o9, o12, o13, o14, o15, rfl, hs1, hp1, hr1, hq1⟩ hK1
        obtain ⟨hm, rfl⟩ := rngD_get hx1
        rw [show Int.toNat 4 = 4 from rfl] at hm
        rw [Int.zero_add]
        walk_at "d"
        simp only [vw_at hp1, vw_at hq1]
        have en1 : (n : Int) + 1 = ((n + 1 : Nat) : Int) := by omega
        have em1 : (m : Int) + 1 = ((m + 1 : Nat) : Int) := by omega
        simp only [en1, em1, hat1 n (by omega), hat1 (n + 1) (by omega)]
        walk_at "d"
        simp only [range_at (show m < 5 by omega), range_at (show m + 1 < 5 by omega)]
        have hed : edgeM L st b (i * 4 + m) (j * 4 + n) = ((lvl L st b (i * 4 + (m + 1)) (j * 4 + n)).isSome && !decide (lvl L st b (i * 4 + (m + 1)) (j * 4 + n) = lvl L st b (i * 4 + m) (j * 4 + n)) || (lvl L st b (i * 4 + m) (j * 4 + (n + 1))).isSome && !decide (lvl L st b (i * 4 + m) (j * 4 + (n + 1)) = lvl L st b (i * 4 + m) (j * 4 + n))) := by
          unfold edgeM
          simp only [List.any_cons, List.any_nil, Bool.or_false, ne_eq, decide_not, Nat.add_assoc]
        have hlt : (cells.take m).length < sizeLine := sizeLine_gt (by rw [List.length_take]; omega)
        have hcm : cells.take (m + 1) = cells.take m ++ [cellM L st b (i * 4 + m) (j * 4 + n)] := by
          rw [← hcells]; exact take_range_succ _ hm
        have hce : cellM L st b (i * 4 + m) (j * 4 + n) = match lvl L st b (i * 4 + m) (j * 4 + n) with | none => .non | some l => .tup [.int l, .bl (edgeM L st b (i * 4 + m) (j * 4 + n))] := rfl
        have fin : ∀ (d : D) (o12 o13 o14 o15 : Option D), d = cellM L st b (i * 4 + m) (j * 4 + n) → (cells.take m).length < sizeLine ∧ K1 [some (landD true L), some (D.tup (intsD st)), some (D.tup [D.int z, D.int i, D.int j]), some (D.int z), some (D.int i), some (D.int j), some (D.int b), some (D.ref p), some (D.int n), some (D.int m), some (D.ref r), some (D.ref q), o12, o13, o14, o15] (gup G1 q (.lst (cells.take m ++ [d]))) := by
          rintro d o12 o13 o14 o15 rfl
          exact ⟨hlt, hK1 _ _ ⟨_, _, _, _, _, rfl, hs1.gup2 hqG, by rw [gup_ne hqp.symm]; exact hp1, by rw [gup_ne hqr.symm]; exact hr1, by rw [gup_same, hcm]⟩⟩
        rw [hed] at hce
        simp only [vw_opt, eqD_opt, isNon_opt, hq1]
        generalize lvl L st b (i * 4 + m) (j * 4 + n) = here at hce
        generalize lvl L st b (i * 4 + (m + 1)) (j * 4 + n) = right at hce
        generalize lvl L st b (i * 4 + m) (j * 4 + (n + 1)) = below at hce
        cases right <;> cases below <;> cases here <;> simp only [Option.isSome, cnd_not, cnd_t, cnd_f, Bool.not_true, Bool.not_false, Bool.true_and, Bool.false_and, Bool.false_or, Bool.or_false] at hce ⊢
        all_goals (repeat' (first | refine ⟨okE_opt, okE_opt, ?_⟩ | refine cndI (fun e => ?_) (fun e => ?_)))
        all_goals (refine fin _ _ _ _ _ ?_; rw [hce])
        all_goals (first | rfl | (simp only [e, Bool.not_true, Bool.not_false, Bool.true_or, Bool.false_or, Bool.or_false]; rfl))
      · rintro Γ' G1 ⟨o9, o12, o13, o14, o15, rfl, hs1, hp1, hr1, hq1⟩
        walk_at "d"
        simp only [vw_at hr1, vw_at hq1, hr1]
        rw [rngD_len, List.take_of_length_le (show cells.length ≤ Int.toNat 4 by rw [hcl]; decide)]
        refine ⟨trivial, sizeLine_gt (by rw [List.length_take]; omega), hK _ _ ⟨_, _, _, _, _, _, _, rfl, hs1.gup2 hrG, by rw [gup_ne hrp.symm]; exact hp1, ?_⟩⟩
        rw [gup_same, ← hcells]
        show some (GO.lst (rows.take n ++ [trowM L st b i (j * 4 + n)])) = _
        rw [← hrows, take_range_succ _ hn]
    · rintro Γ' G1 ⟨o8, o9, o11, o12, o13, o14, o15, rfl, hs, hpc, hrc⟩
      walk_at "d"
      simp only [vw_at hrc]
      rw [rngD_len, List.take_of_length_le (show rows.length ≤ Int.toNat 4 by rw [hrl]; decide)]
      exact ⟨G, hs, hQ⟩
end TK

namespace TK
open PySem PySem.Spec L2
local macro_rules | `(tactic| walk_at "d") => `(tactic| simp only [gsub_refl, isC, dCountB, dIndexB, blL, dCallX, dDropX, dRetX, dSetX, dRaise, dxOf, startD, dSeq, dNext, dRet, dRetN, dSet, dAsg, dPar, dIfS, dDrop, dFor, dTest, dAnd, dOr, dNot, dAndV, dOrV, dNotV, dIf, dVar, dC, dNil, dCons, dOp, dTup, dLst, dCB, dCall, dMt, dChain, dCmpI, dSubR, dAddR, dMulI, dFdivR, dModR, dPowR, dIxR, dLen, dIsi, dTuple, dList, dInt, dIsNR, dNotNR, dEqR, dNeR, dgName, dgTup, dgCons, dgNil, newL, tyD, dLc, diAny, diRng1, diRng2, dSlice, dSl, doSome, doNone, wipeD, dYes, dMax, dMin, dUn, dNegR, dBreak, dCont, dAppend, dExtend, dFrz, dSetItem, dSortSet, dInL, dCallV, dNever, dJoin, dSplit, dStr, dInS, diEnumerate, dDGet, dInD, dDPut, putC, lookD, keyOf, keysOf, dNewD, dDisp, dpNil, dpCons, dSorted, dKdIn, dKdGet, dDGet2, dKdGet2, dRev, dDictPT, dMulT, b2n_t, b2n_f, dUpdate, dFld, dSetFld, dMeth, dMake, dInT, dNo, dSortA, dDisp1T, dLockE, diKeys, diZip, dPar3, dPopAt, dRemove, dMinD, List.map_cons, List.map_nil, List.length_cons, List.length_nil, List.replicate, List.cons_append, List.nil_append, List.getElem?_cons_zero, List.getElem?_cons_succ, List.set_cons_zero, List.set_cons_succ, Nat.reduceAdd, Nat.reduceSub, Nat.zero_add, Nat.add_zero, ne_eq, String.reduceEq, not_false_eq_true, not_true_eq_false, true_and, and_true, Bool.not_false, Bool.not_true, cnd_t, cnd_f, cnd_not, Bool.true_or, Bool.or_true, Bool.false_or, Bool.or_false, reduceIte, gup_same, gup_gup, endsD, List.length_cons, List.length_nil, Nat.reduceAdd, vwq_non, isNonq_non, tyq_non, vwq_bl, isNonq_bl, tyq_bl, vwq_int, isNonq_int, tyq_int, vwq_str, isNonq_str, tyq_str, vwq_tup, isNonq_tup, tyq_tup, vwq_lst, isNonq_lst, tyq_lst, vwq_frz, isNonq_frz, tyq_frz, vwq_ty, isNonq_ty, isNonq_ref, vw_gup, not_dec, okTy_NoneType, okTy_bool, okTy_int, okTy_str, okTy_tuple, okTy_list, isaB_NoneType_bool, isaB_NoneType_int, isaB_NoneType_str, isaB_NoneType_tuple, isaB_NoneType_list, isaB_bool_bool, isaB_bool_int, isaB_bool_str, isaB_bool_tuple, isaB_bool_list, isaB_int_bool, isaB_int_int, isaB_int_str, isaB_int_tuple, isaB_int_list, isaB_str_bool, isaB_str_int, isaB_str_str, isaB_str_tuple, isaB_str_list, isaB_tuple_bool, isaB_tuple_int, isaB_tuple_str, isaB_tuple_tuple, isaB_tuple_list, isaB_list_bool, isaB_list_int, isaB_list_str, isaB_list_tuple, isaB_list_list, atI_0, atI_1, atI_2, atI_3, atI_4, atI_5, atI_6, atI_7, atI_8, atI_9, atI_10, atI_11, ixN_4_0, ixN_4_1, ixN_4_2, ixN_4_3, sl_0, sl_1, sl_2, sl_3, sl_4, sl_5, sl_6, sl_7, sl_8, sl_9, sl_10, sl_11, sl_12])
/-! ## on which cells a tile hangs -/
def t_need_sides : DS :=
  dIfS (dOr (dNot (dTest (dCall sp_is_number (dCons (dVar 0) (dCons (dC (.int 1)) (dCons (dC (.int 24)) (dNil))))))) (dNot (dTest (dCall sp_is_number (dCons (dVar 1) (dCons (dC (.int 1)) (dCons (dC (.int 24)) (dNil)))))))) (dNever) (dNext)
def sp_need_sides : SpD := fun ds G Q _ => ∃ w h : Nat, ds = [.int w, .int h] ∧ 1 ≤ w ∧ w ≤ 24 ∧ 1 ≤ h ∧ h ≤ 24 ∧ Q .non G
theorem num_ok {n : Nat} {lo hi : Int} (h1 : lo ≤ n) (h2 : (n : Int) ≤ hi) : isNum (.int n) lo hi = true := by
  simp only [isNum]; rw [decide_eq_true h1, decide_eq_true h2]; rfl
theorem law_need_sides : ∀ ds G Q E, sp_need_sides ds G Q E → ds.length = 2 ∧ t_need_sides (endsD Q) (startD 2 ds) G := by
  rintro ds G Q E ⟨w, h, rfl, w1, w2, h1, h2, hQ⟩
  refine ⟨rfl, ?_⟩
  unfold t_need_sides
  walk_at "d"
  refine ⟨_, _, _, rfl, rfl, ?_⟩
  rw [num_ok (by omega) (by omega)]
  refine ⟨_, _, _, rfl, rfl, ?_⟩
  rw [num_ok (by omega) (by omega)]
  exact .here hQ
def t_need_cell : DS :=
  dIfS (dOr (dNot (dTest (dCall sp_is_number (dCons (dVar 2) (dCons (dC (.int 0)) (dCons (dOp (dSubR) (dVar 0) (dC (.int 1))) (dNil))))))) (dNot (dTest (dCall sp_is_number (dCons (dVar 3) (dCons (dC (.int 0)) (dCons (dOp (dSubR) (dVar 1) (dC (.int 1))) (dNil)))))))) (dNever) (dNext)
def sp_need_cell : SpD := fun ds G Q _ => ∃ w h x y : Nat, ds = [.int w, .int h, .int x, .int y] ∧ x < w ∧ y < h ∧ Q .non G
theorem law_need_cell : ∀ ds G Q E, sp_need_cell ds G Q E → ds.length = 4 ∧ t_need_cell (endsD Q) (startD 4 ds) G := by
  rintro ds G Q E ⟨w, h, x, y, rfl, hx, hy, hQ⟩
  refine ⟨rfl, ?_⟩
  unfold t_need_cell
  walk_at "d"
  refine ⟨_, _, _, rfl, rfl, ?_⟩
  rw [num_ok (by omega) (by omega)]
  refine ⟨_, _, _, rfl, rfl, ?_⟩
  rw [num_ok (by omega) (by omega)]
  exact .here hQ
def areaM (w h z i j : Nat) : D := .tup [.int ((i * 4 * sideN z : Nat) : Int), .int ((j * 4 * sideN z : Nat) : Int), .int ((min (i * 4 * sideN z + 5 * sideN z - 1) (w - 1) : Nat) : Int), .int ((min (j * 4 * sideN z + 5 * sideN z - 1) (h - 1) : Nat) : Int)]
def hangB (z i j x y : Nat) : Bool := decide (i * 4 * sideN z ≤ x ∧ x < i * 4 * sideN z + 5 * sideN z) && decide (j * 4 * sideN z ≤ y ∧ y < j * 4 * sideN z + 5 * sideN z)
theorem zoom3 {z : Nat} (h : z ≤ 2) : z = 0 ∨ z = 1 ∨ z = 2 := by omega
theorem min_cast {a b : Int} {m n : Nat} (ha : a = m) (hb : b = n) : D.int (if b < a then b else a) = D.int ((min m n : Nat) : Int) := by
  subst ha hb; split <;> congr 1 <;> omega
def t_area_of : DS :=
  dSeq (dAsg (dVar 2) (dgTup 3 (dgCons (dgName 3) (dgCons (dgName 4) (dgCons (dgName 5) (dgNil))))))
  (dSeq (dSet 6 (dOp dIxR (dLst false (dCons (dC (.int 1)) (dCons (dC (.int 2)) (dCons (dC (.int 4)) (dNil))))) (dVar 3)))
  (dSeq (dSet 7 (dTup (dCons (dOp (dMulI false) (dOp (dMulI false) (dVar 4) (dC (.int 4))) (dVar 6)) (dCons (dOp (dMulI false) (dOp (dMulI false) (dVar 5) (dC (.int 4))) (dVar 6)) (dNil)))))
  (dSeq (dSet 8 (dTup (dCons (dOp (dSubR) (dOp (dAddR false) (dOp dIxR (dVar 7) (dC (.int 0))) (dOp (dMulI false) (dOp (dAddR false) (dC (.int 4)) (dC (.int 1))) (dVar 6))) (dC (.int 1))) (dCons (dOp (dSubR) (dOp (dAddR false) (dOp dIxR (dVar 7) (dC (.int 1))) (dOp (dMulI false) (dOp (dAddR false) (dC (.int 4)) (dC (.int 1))) (dVar 6))) (dC (.int 1))) (dNil)))))
  (dRet (dOp (dAddR false) (dVar 7) (dTup (dCons (dCB dMin (dCons (dOp dIxR (dVar 8) (dC (.int 0))) (dCons (dOp (dSubR) (dVar 0) (dC (.int 1))) (dNil)))) (dCons (dCB dMin (dCons (dOp dIxR (dVar 8) (dC (.int 1))) (dCons (dOp (dSubR) (dVar 1) (dC (.int 1))) (dNil)))) (dNil)))))))))
def sp_area_of : SpD := fun ds G Q _ => ∃ w h z i j : Nat, ds = [.int w, .int h, nameD z i j] ∧ z ≤ 2 ∧ i ≤ 6 ∧ j ≤ 6 ∧ 1 ≤ w ∧ 1 ≤ h ∧ Q (areaM w h z i j) G
theorem law_area_of : ∀ ds G Q E, sp_area_of ds G Q E → ds.length = 3 ∧ t_area_of (endsD Q) (startD 9 ds) G := by
  rintro ds G Q E ⟨w, h, z, i, j, rfl, hz, hi, hj, w1, h1, hQ⟩
  refine ⟨rfl, ?_⟩
  unfold t_area_of
  simp only [nameD]
  have main : atI [D.int 1, D.int 2, D.int 4] (z : Int) = some (.int ((sideN z : Nat) : Int)) ∧ sideN z ≤ 4 ∧ 1 ≤ sideN z := by
    rcases zoom3 hz with rfl | rfl | rfl
    · exact ⟨rfl, by decide, by decide⟩
    · exact ⟨rfl, by decide, by decide⟩
    · exact ⟨rfl, by decide, by decide⟩
  walk_at "d"
  simp only [main.1]
  obtain ⟨-, hb, hb1⟩ := main
  unfold areaM at hQ
  generalize sideN z = b at hb hb1 hQ
  have e1 : (i : Int) * 4 * (b : Int) = ((i * 4 * b : Nat) : Int) := by rw [Int.natCast_mul, Int.natCast_mul]; rfl
  have e2 : (j : Int) * 4 * (b : Int) = ((j * 4 * b : Nat) : Int) := by rw [Int.natCast_mul, Int.natCast_mul]; rfl
  rw [e1, e2, min_cast (a := ((i * 4 * b : Nat) : Int) + (4 + 1) * (b : Int) - 1) (m := i * 4 * b + 5 * b - 1) (n := w - 1) (by omega) (by omega), min_cast (a := ((j * 4 * b : Nat) : Int) + (4 + 1) * (b : Int) - 1) (m := j * 4 * b + 5 * b - 1) (n := h - 1) (by omega) (by omega)]
  have c1 : ∀ k : Int, CMul (4 + 1) k := fun k => .inl ⟨by decide, by decide⟩
  exact ⟨CMul_small (by omega) (by omega), CMul_small (by omega) (by omega), CMul_small (by omega) (by omega), CMul_small (by omega) (by omega), c1 _, c1 _, .here hQ⟩
def t_area : DS :=
  dSeq (dDrop (dCall sp_need_sides (dCons (dVar 0) (dCons (dVar 1) (dNil)))))
  (dSeq (dDrop (dCall sp_need_tile (dCons (dVar 0) (dCons (dVar 1) (dCons (dVar 2) (dNil))))))
  (dRet (dCall sp_area_of (dCons (dVar 0) (dCons (dVar 1) (dCons (dVar 2) (dNil)))))))
def sp_area : SpD := fun ds G Q _ => ∃ w h z i j : Nat, ds = [.int w, .int h, nameD z i j] ∧ 1 ≤ w ∧ w ≤ 24 ∧ 1 ≤ h ∧ h ≤ 24 ∧ z ≤ 2 ∧ i < many w z ∧ j < many h z ∧ Q (areaM w h z i j) G
theorem law_area : ∀ ds G Q E, sp_area ds G Q E → ds.length = 3 ∧ t_area (endsD Q) (startD 3 ds) G := by
  rintro ds G Q E ⟨w, h, z, i, j, rfl, w1, w2, h1, h2, hz, hi, hj, hQ⟩
  refine ⟨rfl, ?_⟩
  unfold t_area
  have m1 := many_le w2 hz
  have m2 := many_le h2 hz
  walk_at "d"
  exact ⟨w, h, rfl, w1, w2, h1, h2, w, h, z, i, j, rfl, hz, hi, hj, w, h, z, i, j, rfl, hz, by omega, by omega, w1, h1, .here hQ⟩
def t_hangs : DS :=
  dSeq (dAsg (dCall sp_area_of (dCons (dVar 0) (dCons (dVar 1) (dCons (dVar 2) (dNil))))) (dgTup 4 (dgCons (dgName 4) (dgCons (dgName 5) (dgCons (dgName 6) (dgCons (dgName 7) (dgNil)))))))
  (dRet (dAndV (dChain dLe dLe (dVar 4) (dOp dIxR (dVar 3) (dC (.int 0))) (dVar 6)) (dChain dLe dLe (dVar 5) (dOp dIxR (dVar 3) (dC (.int 1))) (dVar 7))))
def sp_hangs : SpD := fun ds G Q _ => ∃ w h z i j x y : Nat, ds = [.int w, .int h, nameD z i j, .tup [.int x, .int y]] ∧ z ≤ 2 ∧ i ≤ 6 ∧ j ≤ 6 ∧ x < w ∧ y < h ∧ Q (.bl (hangB z i j x y)) G
theorem law_hangs : ∀ ds G Q E, sp_hangs ds G Q E → ds.length = 4 ∧ t_hangs (endsD Q) (startD 8 ds) G := by
  rintro ds G Q E ⟨w, h, z, i, j, x, y, rfl, hz, hi, hj, hx, hy, hQ⟩
  refine ⟨rfl, ?_⟩
  unfold t_hangs
  walk_at "d"
  refine ⟨w, h, z, i, j, rfl, hz, hi, hj, by omega, by omega, ?_⟩
  unfold areaM
  walk_at "d"
  have key : ∀ (k : Bool), k = hangB z i j x y → Drop (Q (.bl k)) G := fun k e => by subst e; exact .here hQ
  unfold hangB at key
  have hb1 : 1 ≤ sideN z := by rcases zoom3 hz with rfl | rfl | rfl <;> decide
  generalize sideN z = b at key hb1
  refine cndP (fun a1 => ?_) fun a1 => ?_
  · refine cndP (fun a2 => ?_) fun a2 => ?_
    · refine cndP (fun a3 => ?_) fun a3 => key _ ?_
      · refine key _ ?_
        rw [decide_eq_true (show i * 4 * b ≤ x ∧ x < i * 4 * b + 5 * b by omega), Bool.true_and, decide_eq_decide]
        omega
      · rw [decide_eq_false (show ¬ (j * 4 * b ≤ y ∧ y < j * 4 * b + 5 * b) by omega), Bool.and_false]
    · refine key _ ?_
      rw [decide_eq_false (show ¬ (i * 4 * b ≤ x ∧ x < i * 4 * b + 5 * b) by omega), Bool.false_and]
  · refine key _ ?_
    rw [decide_eq_false (show ¬ (i * 4 * b ≤ x ∧ x < i * 4 * b + 5 * b) by omega), Bool.false_and]
def t_all_names : DS :=
  dSeq (dSet 2 (dLst true (dNil)))
  (dSeq (dFor (diRng1 (dCons (dOp (dAddR false) (dC (.int 2)) (dC (.int 1))) (dNil))) (dgName 3) (dSeq (dSet 4 (dCall sp_how_many (dCons (dVar 0) (dCons (dVar 1) (dCons (dVar 3) (dNil))))))
  (dFor (diRng1 (dCons (dOp dIxR (dVar 4) (dC (.int 0))) (dNil))) (dgName 5) (dDrop (dMt "list" dExtend (dVar 2) (dCons (dLc false (diRng1 (dCons (dOp dIxR (dVar 4) (dC (.int 1))) (dNil))) (dgName 6) (dYes) (dTup (dCons (dVar 3) (dCons (dVar 5) (dCons (dVar 6) (dNil))))) [6]) (dNil)))))))
  (dRet (dFrz (dVar 2))))
def sp_all_names : SpD := fun ds G Q _ => ∃ w h : Nat, ds = [.int w, .int h] ∧ 1 ≤ w ∧ w ≤ 24 ∧ 1 ≤ h ∧ h ≤ 24 ∧ Q (.lst (namesM w h)) G
theorem law_all_names : ∀ ds G Q E, sp_all_names ds G Q E → ds.length = 2 ∧ t_all_names (endsD Q) (startD 7 ds) G := by
  rintro ds G Q E ⟨w, h, rfl, w1, w2, h1, h2, hQ⟩
  refine ⟨rfl, ?_⟩
  unfold t_all_names
  walk_at "d"
  intro p hp
  refine ⟨⟨by decide, by decide⟩, ?_⟩
  refine dLoop_inv (fun n Γ' G' => ∃ o3 o4 o5 o6, Γ' = [some (.int w), some (.int h), some (.ref p), o3, o4, o5, o6] ∧ G' = gup G p (.lst ((List.range n).flatMap (zoomM w h)))) ⟨none, none, none, none, rfl, rfl⟩ (fun _ _ _ _ => trivial) ?_ ?_
  · rintro z x Γ' G' K hx ⟨o3, o4, o5, o6, rfl, rfl⟩ hK
    obtain ⟨hz, rfl⟩ := rngD_get hx
    have hz2 : z ≤ 2 := by simp at hz; omega
    rw [Int.zero_add]
    have hm1 := many_le w2 hz2
    have hm2 := many_le h2 hz2
    have hpre : ((List.range z).flatMap (zoomM w h)).length ≤ 36 * z := by
      have := flat_len (f := zoomM w h) (b := 36) (l := List.range z) fun i hi => zoom_len w2 h2 (by have := List.mem_range.mp hi; omega)
      rwa [List.length_range] at this
    walk_at "d"
    refine ⟨w, h, z, rfl, hz2, ?_⟩
    walk_at "d"
    refine ⟨⟨by omega, by omega⟩, ?_⟩
    refine dLoop_inv (fun n Γ' G1 => ∃ o5 o6, Γ' = [some (.int w), some (.int h), some (.ref p), some (.int z), some (.tup [.int (many w z), .int (many h z)]), o5, o6] ∧ G1 = gup G p (.lst ((List.range z).flatMap (zoomM w h) ++ (List.range n).flatMap (colM h z)))) ⟨o5, o6, rfl, by simp⟩ (fun _ _ _ _ => trivial) ?_ ?_
    · rintro i x Γ' G' K hx ⟨o5, o6, rfl, rfl⟩ hK
      obtain ⟨hi, rfl⟩ := rngD_get hx
      rw [Int.zero_add]
      have hcl := flat_len (f := colM h z) (b := 6) (l := List.range i) fun i _ => col_len h2 hz2
      rw [List.length_range] at hcl
      walk_at "d"
      refine ⟨⟨by omega, by omega⟩, by rw [rngD_len]; exact sizeLine_ge (by omega), ?_⟩
      refine dComp_map (fun j : Nat => D.int (0 + j)) (fun j => nameD z i j) (fun _ => true) trivial (fun j hj K1 K2 g1 g2 => ?_) ?_
      · walk_at "d"
        rw [Int.zero_add]
        exact g1 rfl
      · rw [List.filter_eq_self.mpr (fun _ _ => rfl), List.nil_append]
        walk_at "d"
        rw [show ((many h z : Nat) : Int).toNat = many h z by omega]
        refine ⟨sizeLine_ge ?_, hK _ _ ⟨some (.int i), o6, rfl, ?_⟩⟩
        · rw [List.length_append, List.length_map, List.length_range]
          omega
        · rw [flatMap_range_succ, ← List.append_assoc]
          rfl
    · rintro Γ' G' ⟨o5, o6, rfl, rfl⟩
      refine hK _ _ ⟨some (.int z), some (.tup [.int (many w z), .int (many h z)]), o5, o6, rfl, ?_⟩
      rw [rngD_len, flatMap_range_succ, show ((many w z : Nat) : Int).toNat = many w z by omega]
      rfl
  · rintro Γ' G' ⟨o3, o4, o5, o6, rfl, rfl⟩
    walk_at "d"
    rw [gdel_gup hp]
    exact .here hQ
def t_touched : DS :=
  dSeq (dDrop (dCall sp_need_sides (dCons (dVar 0) (dCons (dVar 1) (dNil)))))
  (dSeq (dDrop (dCall sp_need_cell (dCons (dVar 0) (dCons (dVar 1) (dCons (dVar 2) (dCons (dVar 3) (dNil)))))))
  (dRet (dLc true (diAny (dCall sp_all_names (dCons (dVar 0) (dCons (dVar 1) (dNil))))) (dgName 4) (dTest (dCall sp_hangs (dCons (dVar 0) (dCons (dVar 1) (dCons (dVar 4) (dCons (dTup (dCons (dVar 2) (dCons (dVar 3) (dNil)))) (dNil))))))) (dVar 4) [4])))
def touchM (w h x y : Nat) : List D := (namesM w h).filter fun d => match d with | .tup [.int z, .int i, .int j] => hangB z.toNat i.toNat j.toNat x y | _ => false
theorem hang_name {z i j x y : Nat} : (match nameD z i j with | .tup [.int z, .int i, .int j] => hangB z.toNat i.toNat j.toNat x y | _ => false) = hangB z i j x y := by
  show hangB (z : Int).toNat (i : Int).toNat (j : Int).toNat x y = _
  rw [Int.toNat_natCast, Int.toNat_natCast, Int.toNat_natCast]
theorem names_mem {w h : Nat} {d : D} (hd : d ∈ namesM w h) : ∃ z i j, d = nameD z i j ∧ z ≤ 2 ∧ i < many w z ∧ j < many h z := by
  obtain ⟨z, hz, hd⟩ := List.mem_flatMap.mp hd
  obtain ⟨i, hi, hd⟩ := List.mem_flatMap.mp hd
  obtain ⟨j, hj, rfl⟩ := List.mem_map.mp hd
  exact ⟨z, i, j, rfl, by have := List.mem_range.mp hz; omega, List.mem_range.mp hi, List.mem_range.mp hj⟩
theorem names_len {w h : Nat} (w2 : w ≤ 24) (h2 : h ≤ 24) : (namesM w h).length ≤ 108 := by
  have := flat_len (f := zoomM w h) (b := 36) (l := List.range 3) fun i hi => zoom_len w2 h2 (by have := List.mem_range.mp hi; omega)
  simpa [namesM] using this
def sp_touched : SpD := fun ds G Q _ => ∃ w h x y : Nat, ds = [.int w, .int h, .int x, .int y] ∧ w ≤ 24 ∧ h ≤ 24 ∧ x < w ∧ y < h ∧ ∀ p, G p = none → Q (.ref p) (gup G p (.lst (touchM w h x y)))
theorem law_touched : ∀ ds G Q E, sp_touched ds G Q E → ds.length = 4 ∧ t_touched (endsD Q) (startD 5 ds) G := by
  rintro ds G Q E ⟨w, h, x, y, rfl, w2, h2, hx, hy, hQ⟩
  refine ⟨rfl, ?_⟩
  unfold t_touched
  walk_at "d"
  refine ⟨w, h, rfl, by omega, w2, by omega, h2, w, h, x, y, rfl, hx, hy, w, h, rfl, by omega, w2, by omega, h2, ?_⟩
  walk_at "d"
  refine ⟨sizeLine_ge (Nat.le_trans (names_len w2 h2) (by decide)), dComp_pure id (fun d => match d with | .tup [.int z, .int i, .int j] => hangB z.toNat i.toNat j.toNat x y | _ => false) trivial (fun d hd K1 K2 g1 g2 => ?_) ?_⟩
  · obtain ⟨z, i, j, rfl, hz, hi, hj⟩ := names_mem hd
    have m1 := many_le w2 hz
    have m2 := many_le h2 hz
    rw [hang_name] at g1 g2
    walk_at "d"
    exact ⟨w, h, z, i, j, x, y, rfl, hz, by omega, by omega, hx, hy, cndI g1 g2⟩
  · intro p hp
    rw [List.nil_append, List.map_id]
    exact .here (hQ p hp)
def t_law_hangs : DS :=
  dSeq (dAsg (dVar 2) (dgTup 3 (dgCons (dgName 5) (dgCons (dgName 6) (dgCons (dgName 7) (dgNil))))))
  (dSeq (dSet 8 (dOp dIxR (dLst false (dCons (dC (.int 1)) (dCons (dC (.int 2)) (dCons (dC (.int 4)) (dNil))))) (dVar 5)))
  (dRet (dAndV (dChain dLe dLe (dOp (dMulI false) (dC (.int 4)) (dVar 6)) (dOp (dFdivR) (dVar 3) (dVar 8)) (dOp (dAddR false) (dOp (dMulI false) (dC (.int 4)) (dVar 6)) (dC (.int 4)))) (dChain dLe dLe (dOp (dMulI false) (dC (.int 4)) (dVar 7)) (dOp (dFdivR) (dVar 4) (dVar 8)) (dOp (dAddR false) (dOp (dMulI false) (dC (.int 4)) (dVar 7)) (dC (.int 4)))))))
def sp_law_hangs : SpD := fun ds G Q _ => ∃ w h z i j x y : Nat, ds = [.int w, .int h, nameD z i j, .int x, .int y] ∧ z ≤ 2 ∧ i ≤ 6 ∧ j ≤ 6 ∧ Q (.bl (hangB z i j x y)) G
theorem law_law_hangs : ∀ ds G Q E, sp_law_hangs ds G Q E → ds.length = 5 ∧ t_law_hangs (endsD Q) (startD 9 ds) G := by
  rintro ds G Q E ⟨w, h, z, i, j, x, y, rfl, hz, hi, hj, hQ⟩
  refine ⟨rfl, ?_⟩
  unfold t_law_hangs
  have key : ∀ (k : Bool) (b : Nat), b = sideN z → (k = true ↔ (i * 4 * b ≤ x ∧ x < i * 4 * b + 5 * b) ∧ j * 4 * b ≤ y ∧ y < j * 4 * b + 5 * b) → Drop (Q (.bl k)) G := fun k b eb e => by
    subst eb
    have : k = hangB z i j x y := by
      rw [Bool.eq_iff_iff, e]; unfold hangB; simp only [Bool.and_eq_true, decide_eq_true_eq]
    subst this; exact .here hQ
  simp only [nameD]
  rcases zoom3 hz with rfl | rfl | rfl <;> walk_at "d"
  case' inl => have key := fun k => key k 1 rfl
  case' inr.inl => have key := fun k => key k 2 rfl
  case' inr.inr => have key := fun k => key k 4 rfl
  all_goals
    refine ⟨CMul_small (by omega) (by omega), ⟨by decide, by decide⟩, ?_⟩
    refine cndP (fun a1 => ?_) fun a1 => key _ (by simp only [Bool.false_eq_true, false_iff]; omega)
    refine ⟨CMul_small (by omega) (by omega), ?_⟩
    refine cndP (fun a2 => ?_) fun a2 => key _ (by simp only [Bool.false_eq_true, false_iff]; omega)
    refine ⟨CMul_small (by omega) (by omega), ⟨by decide, by decide⟩, ?_⟩
    refine cndP (fun a3 => ?_) fun a3 => key _ (by simp only [Bool.false_eq_true, false_iff]; omega)
    exact ⟨CMul_small (by omega) (by omega), key _ (by simp only [decide_eq_true_eq]; omega)⟩
end TK

namespace TK
open PySem PySem.Spec L2
local macro_rules | `(tactic| walk_at "d") => `(tactic| simp only [gsub_refl, isC, dCountB, dIndexB, blL, dCallX, dDropX, dRetX, dSetX, dRaise, dxOf, startD, dSeq, dNext, dRet, dRetN, dSet, dAsg, dPar, dIfS, dDrop, dFor, dTest, dAnd, dOr, dNot, dAndV, dOrV, dNotV, dIf, dVar, dC, dNil, dCons, dOp, dTup, dLst, dCB, dCall, dMt, dChain, dCmpI, dSubR, dAddR, dMulI, dFdivR, dModR, dPowR, dIxR, dLen, dIsi, dTuple, dList, dInt, dIsNR, dNotNR, dEqR, dNeR, dgName, dgTup, dgCons, dgNil, newL, tyD, dLc, diAny, diRng1, diRng2, dSlice, dSl, doSome, doNone, wipeD, dYes, dMax, dMin, dUn, dNegR, dBreak, dCont, dAppend, dExtend, dFrz, dSetItem, dSortSet, dInL, dCallV, dNever, dJoin, dSplit, dStr, dInS, diEnumerate, dDGet, dInD, dDPut, putC, lookD, keyOf, keysOf, dNewD, dDisp, dpNil, dpCons, dSorted, dKdIn, dKdGet, dDGet2, dKdGet2, dRev, dDictPT, dMulT, b2n_t, b2n_f, dUpdate, dFld, dSetFld, dMeth, dMake, dInT, dNo, dSortA, dDisp1T, dLockE, diKeys, diZip, dPar3, dPopAt, dRemove, dMinD, List.map_cons, List.map_nil, List.length_cons, List.length_nil, List.replicate, List.cons_append, List.nil_append, List.getElem?_cons_zero, List.getElem?_cons_succ, List.set_cons_zero, List.set_cons_succ, Nat.reduceAdd, Nat.reduceSub, Nat.zero_add, Nat.add_zero, ne_eq, String.reduceEq, not_false_eq_true, not_true_eq_false, true_and, and_true, Bool.not_false, Bool.not_true, cnd_t, cnd_f, cnd_not, Bool.true_or, Bool.or_true, Bool.false_or, Bool.or_false, reduceIte, gup_same, gup_gup, endsD, List.length_cons, List.length_nil, Nat.reduceAdd, vwq_non, isNonq_non, tyq_non, vwq_bl, isNonq_bl, tyq_bl, vwq_int, isNonq_int, tyq_int, vwq_str, isNonq_str, tyq_str, vwq_tup, isNonq_tup, tyq_tup, vwq_lst, isNonq_lst, tyq_lst, vwq_frz, isNonq_frz, tyq_frz, vwq_ty, isNonq_ty, isNonq_ref, vw_gup, not_dec, okTy_NoneType, okTy_bool, okTy_int, okTy_str, okTy_tuple, okTy_list, isaB_NoneType_bool, isaB_NoneType_int, isaB_NoneType_str, isaB_NoneType_tuple, isaB_NoneType_list, isaB_bool_bool, isaB_bool_int, isaB_bool_str, isaB_bool_tuple, isaB_bool_list, isaB_int_bool, isaB_int_int, isaB_int_str, isaB_int_tuple, isaB_int_list, isaB_str_bool, isaB_str_int, isaB_str_str, isaB_str_tuple, isaB_str_list, isaB_tuple_bool, isaB_tuple_int, isaB_tuple_str, isaB_tuple_tuple, isaB_tuple_list, isaB_list_bool, isaB_list_int, isaB_list_str, isaB_list_tuple, isaB_list_list, atI_0, atI_1, atI_2, atI_3, atI_4, atI_5, atI_6, atI_7, atI_8, atI_9, atI_10, atI_11, ixN_4_0, ixN_4_1, ixN_4_2, ixN_4_3, sl_0, sl_1, sl_2, sl_3, sl_4, sl_5, sl_6, sl_7, sl_8, sl_9, sl_10, sl_11, sl_12])
theorem split_range {n k : Nat} (h : k < n) : ∃ t, List.range n = List.range k ++ k :: t ∧ ∀ y ∈ t, k < y ∧ y < n := by
  obtain ⟨m, rfl⟩ : ∃ m, n = k + (m + 1) := ⟨n - k - 1, by omega⟩
  refine ⟨(List.range m).map fun y => k + (y + 1), ?_, fun y hy => ?_⟩
  · rw [List.range_add, List.range_succ_eq_map, List.map_cons, List.map_map]
    rfl
  · obtain ⟨q, hq, rfl⟩ := List.mem_map.mp hy
    have := List.mem_range.mp hq
    omega
theorem head_range {p : Nat → Bool} {w x0 : Nat} (h : x0 < w) (hp : p x0 = true) (hn : ∀ x, x < x0 → p x = false) : ∃ r, (List.range w).filter p = x0 :: r := by
  obtain ⟨t, e, _⟩ := split_range h
  rw [e, List.filter_append, List.filter_eq_nil_iff.mpr fun x hx => by rw [hn x (List.mem_range.mp hx)]; simp, List.nil_append, List.filter_cons_of_pos hp]
  exact ⟨_, rfl⟩
theorem last_range {p : Nat → Bool} {w x1 : Nat} (h : x1 < w) (hp : p x1 = true) (hn : ∀ x, x1 < x → x < w → p x = false) : ∃ r, (List.range w).filter p = r ++ [x1] := by
  obtain ⟨t, e, ht⟩ := split_range h
  have ht0 : t.filter p = [] := List.filter_eq_nil_iff.mpr fun x hx => by rw [hn x (ht x hx).1 (ht x hx).2]; simp
  rw [e, List.filter_append, List.filter_cons_of_pos hp, ht0]
  exact ⟨_, rfl⟩
theorem head_flat {f : Nat → List D} {n k : Nat} {a : D} {r : List D} (h : k < n) (hf : f k = a :: r) (hn : ∀ y, y < k → f y = []) : ∃ s, (List.range n).flatMap f = a :: s := by
  obtain ⟨t, e, _⟩ := split_range h
  rw [e, List.flatMap_append, List.flatMap_cons, hf, List.flatMap_eq_nil_iff.mpr fun y hy => hn y (List.mem_range.mp hy)]
  exact ⟨_, rfl⟩
theorem last_flat {f : Nat → List D} {n k : Nat} {a : D} {r : List D} (h : k < n) (hf : f k = r ++ [a]) (hn : ∀ y, k < y → y < n → f y = []) : ∃ s, (List.range n).flatMap f = s ++ [a] := by
  obtain ⟨t, e, ht⟩ := split_range h
  rw [e, List.flatMap_append, List.flatMap_cons, hf, List.flatMap_eq_nil_iff.mpr fun y hy => hn y (ht y hy).1 (ht y hy).2, List.append_nil, ← List.append_assoc]
  exact ⟨_, rfl⟩
theorem hang_iff {z i j x y : Nat} : hangB z i j x y = true ↔ (i * 4 * sideN z ≤ x ∧ x < i * 4 * sideN z + 5 * sideN z) ∧ j * 4 * sideN z ≤ y ∧ y < j * 4 * sideN z + 5 * sideN z := by
  unfold hangB; simp only [Bool.and_eq_true, decide_eq_true_eq]
theorem hang_not {z i j x y : Nat} (h : ¬ ((i * 4 * sideN z ≤ x ∧ x < i * 4 * sideN z + 5 * sideN z) ∧ j * 4 * sideN z ≤ y ∧ y < j * 4 * sideN z + 5 * sideN z)) : hangB z i j x y = false := by
  rw [← Bool.not_eq_true, hang_iff]; exact h
theorem many_lt {w z i : Nat} (hz : z ≤ 2) (hi : i < many w z) : i * 4 * sideN z < w := by
  unfold many at hi
  rcases zoom3 hz with rfl | rfl | rfl <;> simp only [sideN] at * <;> omega
def rowC (w z i j y : Nat) : List D := ((List.range w).filter fun x => hangB z i j x y).map fun x : Nat => .tup [.int x, .int y]
def t_law_area : DS :=
  dSeq (dAsg (dVar 2) (dgTup 3 (dgCons (dgName 3) (dgCons (dgName 4) (dgCons (dgName 5) (dgNil))))))
  (dSeq (dSet 6 (dLst false (dNil)))
  (dSeq (dFor (diRng1 (dCons (dVar 1) (dNil))) (dgName 7) (dSet 6 (dOp (dAddR false) (dVar 6) (dLc false (diRng1 (dCons (dVar 0) (dNil))) (dgName 8) (dTest (dCall sp_law_hangs (dCons (dVar 0) (dCons (dVar 1) (dCons (dVar 2) (dCons (dVar 8) (dCons (dVar 7) (dNil)))))))) (dTup (dCons (dVar 8) (dCons (dVar 7) (dNil)))) [8]))))
  (dRet (dOp (dAddR false) (dOp dIxR (dVar 6) (dC (.int 0))) (dOp dIxR (dVar 6) (dUn dNegR (dC (.int 1))))))))
def sp_law_area : SpD := fun ds G Q _ => ∃ w h z i j : Nat, ds = [.int w, .int h, nameD z i j] ∧ w ≤ 24 ∧ h ≤ 24 ∧ z ≤ 2 ∧ i < many w z ∧ j < many h z ∧ Q (areaM w h z i j) G
theorem law_law_area : ∀ ds G Q E, sp_law_area ds G Q E → ds.length = 3 ∧ t_law_area (endsD Q) (startD 9 ds) G := by
  rintro ds G Q E ⟨w, h, z, i, j, rfl, w2, h2, hz, hi, hj, hQ⟩
  refine ⟨rfl, ?_⟩
  unfold t_law_area
  have m1 := many_le w2 hz
  have m2 := many_le h2 hz
  have x0w := many_lt hz hi
  have y0h := many_lt hz hj
  simp only [nameD]
  walk_at "d"
  refine ⟨⟨by omega, by omega⟩, ?_⟩
  have rl : ∀ y, (rowC w z i j y).length ≤ 24 := fun y => by
    unfold rowC; rw [List.length_map]
    exact Nat.le_trans (List.length_filter_le _ _) (by rw [List.length_range]; exact w2)
  refine dLoop_inv (fun n Γ' G' => ∃ o7 o8, Γ' = [some (.int w), some (.int h), some (nameD z i j), some (.int z), some (.int i), some (.int j), some (.lst ((List.range n).flatMap (rowC w z i j))), o7, o8] ∧ G' = G) ⟨none, none, rfl, rfl⟩ (fun _ _ _ _ => trivial) ?_ ?_
  · rintro y x0 Γ' G' K hx ⟨o7, o8, rfl, rfl⟩ hK
    obtain ⟨hy, rfl⟩ := rngD_get hx
    rw [Int.zero_add]
    have hfl := flat_len (f := rowC w z i j) (b := 24) (l := List.range y) fun k _ => rl k
    rw [List.length_range] at hfl
    walk_at "d"
    refine ⟨⟨by omega, by omega⟩, by rw [rngD_len]; exact sizeLine_ge (by omega), ?_⟩
    refine dComp_map (fun x : Nat => D.int (0 + x)) (fun x : Nat => .tup [.int x, .int y]) (fun x => hangB z i j x y) trivial (fun x hx K1 K2 g1 g2 => ?_) ?_
    · rw [Int.zero_add]
      walk_at "d"
      exact ⟨w, h, z, i, j, x, y, rfl, hz, by omega, by omega, cndI g1 g2⟩
    · rw [List.nil_append, show ((w : Nat) : Int).toNat = w by omega]
      have := rl y
      unfold rowC at this
      exact ⟨sizeLine_ge (by omega), hK _ _ ⟨_, _, by rw [flatMap_range_succ]; rfl, rfl⟩⟩
  · rintro Γ' G' ⟨o7, o8, rfl, rfl⟩
    rw [rngD_len, show ((h : Nat) : Int).toNat = h by omega]
    unfold areaM at hQ
    have hb1 : 1 ≤ sideN z := by rcases zoom3 hz with rfl | rfl | rfl <;> decide
    have nx : ∀ y, ¬ (j * 4 * sideN z ≤ y ∧ y < j * 4 * sideN z + 5 * sideN z) → rowC w z i j y = [] := fun y hy => by
      unfold rowC
      rw [List.filter_eq_nil_iff.mpr fun x _ => by rw [hang_not (by omega)]; simp]; rfl
    obtain ⟨r1, e1⟩ := head_range (p := fun x => hangB z i j x (j * 4 * sideN z)) (x0 := i * 4 * sideN z) x0w (hang_iff.mpr (by omega)) fun x hx => hang_not (by omega)
    have y1h : min (j * 4 * sideN z + 5 * sideN z - 1) (h - 1) < h := by omega
    have x1w : min (i * 4 * sideN z + 5 * sideN z - 1) (w - 1) < w := by omega
    obtain ⟨r2, e2⟩ := last_range (p := fun x => hangB z i j x (min (j * 4 * sideN z + 5 * sideN z - 1) (h - 1))) (x1 := min (i * 4 * sideN z + 5 * sideN z - 1) (w - 1)) x1w (hang_iff.mpr (by omega)) fun x hx hx2 => hang_not (by omega)
    obtain ⟨s1, f1⟩ := head_flat (f := rowC w z i j) (n := h) (k := j * 4 * sideN z) (a := .tup [.int ((i * 4 * sideN z : Nat) : Int), .int ((j * 4 * sideN z : Nat) : Int)]) (r := r1.map fun x : Nat => .tup [.int x, .int ((j * 4 * sideN z : Nat) : Int)]) y0h (by unfold rowC; rw [e1]; rfl) fun y hy => nx y (by omega)
    obtain ⟨s2, f2⟩ := last_flat (f := rowC w z i j) (n := h) (k := min (j * 4 * sideN z + 5 * sideN z - 1) (h - 1)) (a := .tup [.int ((min (i * 4 * sideN z + 5 * sideN z - 1) (w - 1) : Nat) : Int), .int ((min (j * 4 * sideN z + 5 * sideN z - 1) (h - 1) : Nat) : Int)]) (r := r2.map fun x : Nat => .tup [.int x, .int ((min (j * 4 * sideN z + 5 * sideN z - 1) (h - 1) : Nat) : Int)]) y1h (by unfold rowC; rw [e2, List.map_append]; rfl) fun y hy hy2 => nx y (by omega)
    have a1 : atI ((List.range h).flatMap (rowC w z i j)) 0 = some (.tup [.int ((i * 4 * sideN z : Nat) : Int), .int ((j * 4 * sideN z : Nat) : Int)]) := by rw [f1]; exact atI_0
    have a2 : atI ((List.range h).flatMap (rowC w z i j)) (-1) = some (.tup [.int ((min (i * 4 * sideN z + 5 * sideN z - 1) (w - 1) : Nat) : Int), .int ((min (j * 4 * sideN z + 5 * sideN z - 1) (h - 1) : Nat) : Int)]) := by rw [f2]; exact atI_last _ _
    walk_at "d"
    simp only [a1, a2]
    walk_at "d"
    exact .here hQ
end TK

namespace TK
open PySem PySem.Spec L2
local macro_rules | `(tactic| walk_at "d") => `(tactic| simp only [gsub_refl, isC, dCountB, dIndexB, blL, dCallX, dDropX, dRetX, dSetX, dRaise, dxOf, startD, dSeq, dNext, dRet, dRetN, dSet, dAsg, dPar, dIfS, dDrop, dFor, dTest, dAnd, dOr, dNot, dAndV, dOrV, dNotV, dIf, dVar, dC, dNil, dCons, dOp, dTup, dLst, dCB, dCall, dMt, dChain, dCmpI, dSubR, dAddR, dMulI, dFdivR, dModR, dPowR, dIxR, dLen, dIsi, dTuple, dList, dInt, dIsNR, dNotNR, dEqR, dNeR, dgName, dgTup, dgCons, dgNil, newL, tyD, dLc, diAny, diRng1, diRng2, dSlice, dSl, doSome, doNone, wipeD, dYes, dMax, dMin, dUn, dNegR, dBreak, dCont, dAppend, dExtend, dFrz, dSetItem, dSortSet, dInL, dCallV, dNever, dJoin, dSplit, dStr, dInS, diEnumerate, dDGet, dInD, dDPut, putC, lookD, keyOf, keysOf, dNewD, dDisp, dpNil, dpCons, dSorted, dKdIn, dKdGet, dDGet2, dKdGet2, dRev, dDictPT, dMulT, b2n_t, b2n_f, dUpdate, dFld, dSetFld, dMeth, dMake, dInT, dNo, dSortA, dDisp1T, dLockE, diKeys, diZip, dPar3, dPopAt, dRemove, dMinD, List.map_cons, List.map_nil, List.length_cons, List.length_nil, List.replicate, List.cons_append, List.nil_append, List.getElem?_cons_zero, List.getElem?_cons_succ, List.set_cons_zero, List.set_cons_succ, Nat.reduceAdd, Nat.reduceSub, Nat.zero_add, Nat.add_zero, ne_eq, String.reduceEq, not_false_eq_true, not_true_eq_false, true_and, and_true, Bool.not_false, Bool.not_true, cnd_t, cnd_f, cnd_not, Bool.true_or, Bool.or_true, Bool.false_or, Bool.or_false, reduceIte, gup_same, gup_gup, endsD, List.length_cons, List.length_nil, Nat.reduceAdd, vwq_non, isNonq_non, tyq_non, vwq_bl, isNonq_bl, tyq_bl, vwq_int, isNonq_int, tyq_int, vwq_str, isNonq_str, tyq_str, vwq_tup, isNonq_tup, tyq_tup, vwq_lst, isNonq_lst, tyq_lst, vwq_frz, isNonq_frz, tyq_frz, vwq_ty, isNonq_ty, isNonq_ref, vw_gup, not_dec, okTy_NoneType, okTy_bool, okTy_int, okTy_str, okTy_tuple, okTy_list, isaB_NoneType_bool, isaB_NoneType_int, isaB_NoneType_str, isaB_NoneType_tuple, isaB_NoneType_list, isaB_bool_bool, isaB_bool_int, isaB_bool_str, isaB_bool_tuple, isaB_bool_list, isaB_int_bool, isaB_int_int, isaB_int_str, isaB_int_tuple, isaB_int_list, isaB_str_bool, isaB_str_int, isaB_str_str, isaB_str_tuple, isaB_str_list, isaB_tuple_bool, isaB_tuple_int, isaB_tuple_str, isaB_tuple_tuple, isaB_tuple_list, isaB_list_bool, isaB_list_int, isaB_list_str, isaB_list_tuple, isaB_list_list, atI_0, atI_1, atI_2, atI_3, atI_4, atI_5, atI_6, atI_7, atI_8, atI_9, atI_10, atI_11, ixN_4_0, ixN_4_1, ixN_4_2, ixN_4_3, sl_0, sl_1, sl_2, sl_3, sl_4, sl_5, sl_6, sl_7, sl_8, sl_9, sl_10, sl_11, sl_12])
theorem fit_tile {L : Land} {st : List Int} {z i j : Nat} (n : Nat) : fitD (n + 3) (tileM L st z i j) := by
  refine ⟨by simp, fun x hx => ?_⟩
  obtain ⟨k, _, rfl⟩ := List.mem_map.mp hx
  refine ⟨by simp, fun x hx => ?_⟩
  obtain ⟨l, _, rfl⟩ := List.mem_map.mp hx
  unfold cellM
  split
  · trivial
  · refine ⟨by simp, fun x hx => ?_⟩
    simp at hx
    rcases hx with rfl | rfl
    · cases n <;> trivial
    · cases n <;> trivial
/-! ## a cell on which a tile does not hang -/
theorem take_drop_set {α : Type} {l : List α} {a b k : Nat} {v : α} (h : k < a ∨ a + b ≤ k) : ((l.set k v).drop a).take b = (l.drop a).take b := by
  rw [List.drop_set]
  rcases h with h | h
  · rw [if_pos h]
  · by_cases h2 : k < a
    · rw [if_pos h2]
    · rw [if_neg h2, List.take_set, List.set_eq_of_length_le]
      rw [List.length_take]; omega
theorem map_set_self {α β : Type} {f : α → β} {l : List α} {k : Nat} {v r : α} (hr : l[k]? = some r) (h : f v = f r) : (l.set k v).map f = l.map f := by
  rw [List.map_set, h]
  apply List.ext_getElem?
  intro n
  rw [List.getElem?_set]
  split
  · rename_i e
    subst e
    obtain ⟨h1, h2⟩ := List.getElem?_eq_some_iff.mp hr
    rw [List.length_map, if_pos h1, List.getElem?_map, hr]; rfl
  · rfl
theorem spot_map (L : Land) (b x y : Nat) : spotHs L b x y = (((L.map fun r => (r.drop (x * b)).take b).drop (y * b)).take b).flatten := by
  unfold spotHs
  rw [List.flatMap, List.map_take, List.map_drop]
theorem spot_far {L : Land} {b X Y x y : Nat} {v : Int} {r : List Int} (hr : L[y]? = some r) (h : ¬ ((X * b ≤ x ∧ x < X * b + b) ∧ Y * b ≤ y ∧ y < Y * b + b)) : spotHs (L.set y (r.set x v)) b X Y = spotHs L b X Y := by
  by_cases hy : Y * b ≤ y ∧ y < Y * b + b
  · rw [spot_map, spot_map, map_set_self hr (take_drop_set (by omega))]
  · unfold spotHs
    rw [take_drop_set (by omega)]
theorem tile_far {L : Land} {st : List Int} {z i j x y : Nat} {v : Int} {r : List Int} (hr : L[y]? = some r) (h : hangB z i j x y = false) : tileM (L.set y (r.set x v)) st z i j = tileM L st z i j := by
  have h : ¬ ((i * 4 * sideN z ≤ x ∧ x < i * 4 * sideN z + 5 * sideN z) ∧ j * 4 * sideN z ≤ y ∧ y < j * 4 * sideN z + 5 * sideN z) := fun c => by
    rw [hang_iff.mpr c] at h; cases h
  unfold tileM
  generalize sideN z = b at h
  have lv : ∀ X Y : Nat, i * 4 ≤ X → X ≤ i * 4 + 4 → j * 4 ≤ Y → Y ≤ j * 4 + 4 → lvl (L.set y (r.set x v)) st b X Y = lvl L st b X Y := by
    intro X Y a1 a2 a3 a4
    have b1 := Nat.mul_le_mul_right b a1
    have b2 := Nat.mul_le_mul_right b a2
    have b3 := Nat.mul_le_mul_right b a3
    have b4 := Nat.mul_le_mul_right b a4
    rw [Nat.add_mul] at b2 b4
    unfold lvl
    rw [spot_far hr (by omega)]
  congr 1
  refine List.map_congr_left fun m hm => ?_
  have hm := List.mem_range.mp hm
  unfold trowM
  congr 1
  refine List.map_congr_left fun n hn => ?_
  have hn := List.mem_range.mp hn
  unfold cellM edgeM
  rw [lv _ _ (by omega) (by omega) (by omega) (by omega), lv _ _ (by omega) (by omega) (by omega) (by omega), lv _ _ (by omega) (by omega) (by omega) (by omega)]
theorem OkLand.set {L : Land} {w h x y : Nat} {v : Int} {r : List Int} (ok : OkLand L w h) (hr : L[y]? = some r) (h0 : 0 ≤ v) (h1 : v ≤ 99) : OkLand (L.set y (r.set x v)) w h := by
  have hm : r ∈ L := List.mem_of_getElem? hr
  refine ⟨by rw [List.length_set]; exact ok.len, ok.h1, ok.h2, ok.w1, ok.w2, fun q hq => ?_, fun q hq => ?_⟩
  · rcases List.mem_or_eq_of_mem_set hq with hq | rfl
    · exact ok.row q hq
    · rw [List.length_set]; exact ok.row r hm
  · rcases List.mem_or_eq_of_mem_set hq with hq | rfl
    · exact ok.ht q hq
    · intro k hk
      rcases List.mem_or_eq_of_mem_set hk with hk | rfl
      · exact ok.ht r hm k hk
      · exact ⟨h0, h1⟩
theorem fit_name {z i j : Nat} (n : Nat) : fitD (n + 1) (nameD z i j) := by
  refine ⟨by simp, fun x hx => ?_⟩
  simp at hx
  rcases hx with rfl | rfl | rfl <;> cases n <;> trivial
theorem fit_names {w h : Nat} {p : D → Bool} (w2 : w ≤ 24) (h2 : h ≤ 24) (n : Nat) : fitD (n + 2) (.lst ((namesM w h).filter p)) := by
  refine ⟨Nat.le_trans (List.length_filter_le _ _) (Nat.le_trans (names_len w2 h2) (by decide)), fun x hx => ?_⟩
  obtain ⟨z, i, j, rfl, _⟩ := names_mem (List.mem_filter.mp hx).1
  exact fit_name n
theorem names_at {w h : Nat} {x : Int} (x0 : 0 ≤ x) (x1 : x < (namesM w h).length) : ∃ d, atI (namesM w h) x = some d ∧ d ∈ namesM w h := by
  have hlt : x.toNat < (namesM w h).length := by omega
  refine ⟨(namesM w h)[x.toNat], ?_, List.getElem_mem hlt⟩
  have := atI_nat (List.getElem?_eq_getElem hlt)
  rwa [show ((x.toNat : Nat) : Int) = x by omega] at this
def hangN (x y : Nat) (d : D) : Bool := match d with | .tup [.int z, .int i, .int j] => hangB z.toNat i.toNat j.toNat x y | _ => false
theorem hangN_name {z i j x y : Nat} : hangN x y (nameD z i j) = hangB z i j x y := hang_name
theorem touch_eq {w h x y : Nat} : touchM w h x y = (namesM w h).filter (hangN x y) := rfl
theorem names_pos {w h : Nat} (w1 : 1 ≤ w) (h1 : 1 ≤ h) : 0 < (namesM w h).length := by
  refine List.length_pos_of_mem (a := nameD 0 0 0) (List.mem_flatMap.mpr ⟨0, by simp, List.mem_flatMap.mpr ⟨0, List.mem_range.mpr ?_, List.mem_map.mpr ⟨0, List.mem_range.mpr ?_, rfl⟩⟩⟩)
  · unfold many; simp only [sideN]; omega
  · unfold many; simp only [sideN]; omega
end TK

namespace TK
open PySem PySem.Spec L2
local macro_rules | `(tactic| walk_at "d") => `(tactic| simp only [gsub_refl, isC, dCountB, dIndexB, blL, dCallX, dDropX, dRetX, dSetX, dRaise, dxOf, startD, dSeq, dNext, dRet, dRetN, dSet, dAsg, dPar, dIfS, dDrop, dFor, dTest, dAnd, dOr, dNot, dAndV, dOrV, dNotV, dIf, dVar, dC, dNil, dCons, dOp, dTup, dLst, dCB, dCall, dMt, dChain, dCmpI, dSubR, dAddR, dMulI, dFdivR, dModR, dPowR, dIxR, dLen, dIsi, dTuple, dList, dInt, dIsNR, dNotNR, dEqR, dNeR, dgName, dgTup, dgCons, dgNil, newL, tyD, dLc, diAny, diRng1, diRng2, dSlice, dSl, doSome, doNone, wipeD, dYes, dMax, dMin, dUn, dNegR, dBreak, dCont, dAppend, dExtend, dFrz, dSetItem, dSortSet, dInL, dCallV, dNever, dJoin, dSplit, dStr, dInS, diEnumerate, dDGet, dInD, dDPut, putC, lookD, keyOf, keysOf, dNewD, dDisp, dpNil, dpCons, dSorted, dKdIn, dKdGet, dDGet2, dKdGet2, dRev, dDictPT, dMulT, b2n_t, b2n_f, dUpdate, dFld, dSetFld, dMeth, dMake, dInT, dNo, dSortA, dDisp1T, dLockE, diKeys, diZip, dPar3, dPopAt, dRemove, dMinD, List.map_cons, List.map_nil, List.length_cons, List.length_nil, List.replicate, List.cons_append, List.nil_append, List.getElem?_cons_zero, List.getElem?_cons_succ, List.set_cons_zero, List.set_cons_succ, Nat.reduceAdd, Nat.reduceSub, Nat.zero_add, Nat.add_zero, ne_eq, String.reduceEq, not_false_eq_true, not_true_eq_false, true_and, and_true, Bool.not_false, Bool.not_true, cnd_t, cnd_f, cnd_not, Bool.true_or, Bool.or_true, Bool.false_or, Bool.or_false, reduceIte, gup_same, gup_gup, endsD, List.length_cons, List.length_nil, Nat.reduceAdd, vwq_non, isNonq_non, tyq_non, vwq_bl, isNonq_bl, tyq_bl, vwq_int, isNonq_int, tyq_int, vwq_str, isNonq_str, tyq_str, vwq_tup, isNonq_tup, tyq_tup, vwq_lst, isNonq_lst, tyq_lst, vwq_frz, isNonq_frz, tyq_frz, vwq_ty, isNonq_ty, isNonq_ref, vw_gup, not_dec, okTy_NoneType, okTy_bool, okTy_int, okTy_str, okTy_tuple, okTy_list, isaB_NoneType_bool, isaB_NoneType_int, isaB_NoneType_str, isaB_NoneType_tuple, isaB_NoneType_list, isaB_bool_bool, isaB_bool_int, isaB_bool_str, isaB_bool_tuple, isaB_bool_list, isaB_int_bool, isaB_int_int, isaB_int_str, isaB_int_tuple, isaB_int_list, isaB_str_bool, isaB_str_int, isaB_str_str, isaB_str_tuple, isaB_str_list, isaB_tuple_bool, isaB_tuple_int, isaB_tuple_str, isaB_tuple_tuple, isaB_tuple_list, isaB_list_bool, isaB_list_int, isaB_list_str, isaB_list_tuple, isaB_list_list, atI_0, atI_1, atI_2, atI_3, atI_4, atI_5, atI_6, atI_7, atI_8, atI_9, atI_10, atI_11, ixN_4_0, ixN_4_1, ixN_4_2, ixN_4_3, sl_0, sl_1, sl_2, sl_3, sl_4, sl_5, sl_6, sl_7, sl_8, sl_9, sl_10, sl_11, sl_12])
def t_need_height : DS :=
  dIfS (dNot (dTest (dCall sp_is_number (dCons (dVar 0) (dCons (dC (.int 0)) (dCons (dC (.int 99)) (dNil))))))) (dNever) (dNext)
def sp_need_height : SpD := fun ds G Q _ => ∃ v : Int, ds = [.int v] ∧ 0 ≤ v ∧ v ≤ 99 ∧ Q .non G
theorem law_need_height : ∀ ds G Q E, sp_need_height ds G Q E → ds.length = 1 ∧ t_need_height (endsD Q) (startD 1 ds) G := by
  rintro ds G Q E ⟨v, rfl, h0, h1, hQ⟩
  refine ⟨rfl, ?_⟩
  unfold t_need_height
  walk_at "d"
  refine ⟨_, _, _, rfl, rfl, ?_⟩
  have : isNum (.int v) 0 99 = true := by simp only [isNum]; rw [decide_eq_true h0, decide_eq_true h1]; rfl
  rw [this]
  exact .here hQ
theorem nodup_inj {l : List Addr} (h : l.Nodup) {i j : Nat} (hi : i < l.length) (hj : j < l.length) (e : l[i] = l[j]) : i = j := by
  have hp := List.pairwise_iff_getElem.mp h
  rcases Nat.lt_trichotomy i j with c | c | c
  · exact absurd e (hp i j hi hj c)
  · exact c
  · exact absurd e.symm (hp j i hj hi c)
theorem view_ints {G : GH} {r : List Int} : ViewAll G (intsD r) (intsD r) := view_all fun x hx => by
  obtain ⟨i, _, rfl⟩ := List.mem_map.mp hx
  exact .int i
def zerosL (w h : Nat) : Land := List.replicate h (List.replicate w 0)
theorem vw_dep {G : GH} {n : Nat} {d : D} (h : depD n d) : vw G d = d := by
  cases d <;> first | rfl | (cases n <;> exact h.elim)
theorem nolsts_all {xs : List D} (h : ∀ x ∈ xs, nolst x = true) : nolsts xs = true := by
  induction xs with
  | nil => rfl
  | cons x r ih => rw [nolsts, h x (by simp), ih fun y hy => h y (List.mem_cons_of_mem _ hy)]; rfl
theorem nolst_tile {L : Land} {st : List Int} {z i j : Nat} : nolst (tileM L st z i j) = true := by
  unfold tileM
  rw [nolst]
  refine nolsts_all fun x hx => ?_
  obtain ⟨k, _, rfl⟩ := List.mem_map.mp hx
  unfold trowM
  rw [nolst]
  refine nolsts_all fun x hx => ?_
  obtain ⟨l, _, rfl⟩ := List.mem_map.mp hx
  unfold cellM
  split
  · rfl
  · rfl
theorem ok_zeros {w h : Nat} (w1 : 1 ≤ w) (w2 : w ≤ 24) (h1 : 1 ≤ h) (h2 : h ≤ 24) : OkLand (zerosL w h) w h := by
  refine ⟨by simp [zerosL], h1, h2, w1, w2, fun r hr => ?_, fun r hr x hx => ?_⟩
  · rw [List.eq_of_mem_replicate hr, List.length_replicate]
  · rw [List.eq_of_mem_replicate hr] at hx
    rw [List.eq_of_mem_replicate hx]
    omega
theorem okE_int {i : Int} : okE (.int i) = true := okE_of (n := 0) trivial (by decide)
theorem okE_nil : okE (.lst []) = true := okE_of (n := 1) (fun x hx => absurd hx (by simp)) (by decide)
end TK

namespace TK
open PySem PySem.Spec L2
local macro_rules | `(tactic| walk_at "d") => `(tactic| simp only [gsub_refl, isC, dCountB, dIndexB, blL, dCallX, dDropX, dRetX, dSetX, dRaise, dxOf, startD, dSeq, dNext, dRet, dRetN, dSet, dAsg, dPar, dIfS, dDrop, dFor, dTest, dAnd, dOr, dNot, dAndV, dOrV, dNotV, dIf, dVar, dC, dNil, dCons, dOp, dTup, dLst, dCB, dCall, dMt, dChain, dCmpI, dSubR, dAddR, dMulI, dFdivR, dModR, dPowR, dIxR, dLen, dIsi, dTuple, dList, dInt, dIsNR, dNotNR, dEqR, dNeR, dgName, dgTup, dgCons, dgNil, newL, tyD, dLc, diAny, diRng1, diRng2, dSlice, dSl, doSome, doNone, wipeD, dYes, dMax, dMin, dUn, dNegR, dBreak, dCont, dAppend, dExtend, dFrz, dSetItem, dSortSet, dInL, dCallV, dNever, dJoin, dSplit, dStr, dInS, diEnumerate, dDGet, dInD, dDPut, putC, lookD, keyOf, keysOf, dNewD, dDisp, dpNil, dpCons, dSorted, dKdIn, dKdGet, dDGet2, dKdGet2, dRev, dDictPT, dMulT, b2n_t, b2n_f, dUpdate, dFld, dSetFld, dMeth, dMake, dInT, dNo, dSortA, dDisp1T, dLockE, diKeys, diZip, dPar3, dPopAt, dRemove, dMinD, List.map_cons, List.map_nil, List.length_cons, List.length_nil, List.replicate, List.cons_append, List.nil_append, List.getElem?_cons_zero, List.getElem?_cons_succ, List.set_cons_zero, List.set_cons_succ, Nat.reduceAdd, Nat.reduceSub, Nat.zero_add, Nat.add_zero, ne_eq, String.reduceEq, not_false_eq_true, not_true_eq_false, true_and, and_true, Bool.not_false, Bool.not_true, cnd_t, cnd_f, cnd_not, Bool.true_or, Bool.or_true, Bool.false_or, Bool.or_false, reduceIte, gup_same, gup_gup, endsD, List.length_cons, List.length_nil, Nat.reduceAdd, vwq_non, isNonq_non, tyq_non, vwq_bl, isNonq_bl, tyq_bl, vwq_int, isNonq_int, tyq_int, vwq_str, isNonq_str, tyq_str, vwq_tup, isNonq_tup, tyq_tup, vwq_lst, isNonq_lst, tyq_lst, vwq_frz, isNonq_frz, tyq_frz, vwq_ty, isNonq_ty, isNonq_ref, vw_gup, not_dec, okTy_NoneType, okTy_bool, okTy_int, okTy_str, okTy_tuple, okTy_list, isaB_NoneType_bool, isaB_NoneType_int, isaB_NoneType_str, isaB_NoneType_tuple, isaB_NoneType_list, isaB_bool_bool, isaB_bool_int, isaB_bool_str, isaB_bool_tuple, isaB_bool_list, isaB_int_bool, isaB_int_int, isaB_int_str, isaB_int_tuple, isaB_int_list, isaB_str_bool, isaB_str_int, isaB_str_str, isaB_str_tuple, isaB_str_list, isaB_tuple_bool, isaB_tuple_int, isaB_tuple_str, isaB_tuple_tuple, isaB_tuple_list, isaB_list_bool, isaB_list_int, isaB_list_str, isaB_list_tuple, isaB_list_list, atI_0, atI_1, atI_2, atI_3, atI_4, atI_5, atI_6, atI_7, atI_8, atI_9, atI_10, atI_11, ixN_4_0, ixN_4_1, ixN_4_2, ixN_4_3, sl_0, sl_1, sl_2, sl_3, sl_4, sl_5, sl_6, sl_7, sl_8, sl_9, sl_10, sl_11, sl_12])
/-! ## rows of asks -/
abbrev Ask := Bool × Nat
def wordS : Bool → Str | true => "ask" | false => "gone"
def Ask.d (a : Ask) : D := .tup [.str (wordS a.1), .int a.2]
theorem eqD_word {b : Bool} : eqD (.str (wordS b)) (.str "ask") = b := by
  rw [eqD_str]; cases b <;> decide
theorem eqD_gone {b : Bool} : eqD (.str (wordS b)) (.str "gone") = !b := by
  rw [eqD_str]; cases b <;> decide
theorem okE_word {b : Bool} : okE (.str (wordS b)) = true := okE_of (n := 0) (by cases b <;> (show PyData.strOk _ = true; decide +kernel)) (by decide)
theorem okE_lit_ask : okE (.str "ask") = true := okE_of (n := 0) (by show PyData.strOk _ = true; decide +kernel) (by decide)
theorem okE_lit_gone : okE (.str "gone") = true := okE_of (n := 0) (by show PyData.strOk _ = true; decide +kernel) (by decide)
theorem in_word {b : Bool} : inV (fv (.str (wordS b))) ([D.str "ask", D.str "gone"].map fv) = true := by cases b <;> rfl
theorem eqD_nat {m n : Nat} : eqD (.int m) (.int n) = decide (m = n) := by
  rw [eqD_int]
  by_cases h : m = n
  · subst h; simp
  · have : ¬ (m : Int) = (n : Int) := by omega
    simp [h, this]
def natsD (ks : List Nat) : List D := ks.map fun n : Nat => .int n
theorem dep_nats {ks : List Nat} : depD 1 (.lst (natsD ks)) := fun x hx => by
  obtain ⟨n, _, rfl⟩ := List.mem_map.mp hx
  trivial
theorem any_nats {ks : List Nat} {n : Nat} : ((natsD ks).any fun z => eqD z (.int n)) = decide (n ∈ ks) := by
  induction ks with
  | nil => rfl
  | cons a ks ih =>
    show (eqD (.int a) (.int n) || (natsD ks).any fun z => eqD z (.int n)) = _
    rw [ih, eqD_nat]
    by_cases h : a = n
    · subst h; simp
    · have : ¬ n = a := fun e => h e.symm
      simp [h, this]
def Ask.ok (a : Ask) : Prop := a.2 < 8
def t_need_asks : DS :=
  dSeq (dIfS (dNot (dTest (dCall sp_is_number (dCons (dVar 0) (dCons (dC (.int 0)) (dCons (dC (.int 8)) (dNil))))))) (dNever) (dNext))
  (dFor (diEnumerate (dCons (dVar 1) (dNil))) (dgTup 2 (dgCons (dgName 2) (dgCons (dgName 3) (dgNil)))) (dSeq (dIfS (dOr (dTest (dOp dEqR (dVar 2) (dC (.int 40)))) (dOr (dNot (dTest (dCB dIsi (dCons (dVar 3) (dCons (dC (.ty "tuple")) (dNil)))))) (dOr (dTest (dOp dNeR (dCB dLen (dCons (dVar 3) (dNil))) (dC (.int 2)))) (dTest (dOp (dInT true) (dOp dIxR (dVar 3) (dC (.int 0))) (dTup (dCons (dC (.str "ask")) (dCons (dC (.str "gone")) (dNil))))))))) (dNever) (dNext))
  (dIfS (dNot (dTest (dCall sp_is_number (dCons (dOp dIxR (dVar 3) (dC (.int 1))) (dCons (dC (.int 0)) (dCons (dOp (dSubR) (dC (.int 8)) (dC (.int 1))) (dNil))))))) (dNever) (dNext))))
def sp_need_asks : SpD := fun ds G Q _ => ∃ (room : Nat) (rows : List Ask), ds = [.int room, .lst (rows.map Ask.d)] ∧ room ≤ 8 ∧ rows.length ≤ 40 ∧ (∀ a ∈ rows, a.ok) ∧ Q .non G
theorem law_need_asks : ∀ ds G Q E, sp_need_asks ds G Q E → ds.length = 2 ∧ t_need_asks (endsD Q) (startD 4 ds) G := by
  rintro ds G Q E ⟨room, rows, rfl, hr, hl, ok, hQ⟩
  refine ⟨rfl, ?_⟩
  unfold t_need_asks
  walk_at "d"
  refine ⟨_, _, _, rfl, rfl, ?_⟩
  rw [num_ok (by omega) (by omega)]
  try walk_at "d"
  refine dLoop_inv (fun n Γ' G' => ∃ o2 o3, Γ' = [some (.int room), some (.lst (rows.map Ask.d)), o2, o3] ∧ G' = G) ⟨none, none, rfl, rfl⟩ (fun _ _ _ _ => trivial) ?_ ?_
  · rintro n x Γ' G' K hx ⟨o2, o3, rfl, rfl⟩ hK
    obtain ⟨y, hy, rfl⟩ := numD_get hx
    rw [List.getElem?_map, Option.map_eq_some_iff] at hy
    obtain ⟨a, ha, rfl⟩ := hy
    have hn := (List.getElem?_eq_some_iff.mp ha).1
    have oka := ok a (List.mem_of_getElem? ha)
    simp only [Ask.d]
    walk_at "d"
    refine ⟨okE_int, okE_int, ?_⟩
    rw [eqD_int, show ((n : Int) == 40) = false by rw [beq_eq_false_iff_ne]; omega]
    try walk_at "d"
    refine ⟨okE_int, okE_int, ?_⟩
    rw [eqD_int, show (((2 : Nat) : Int) == 2) = true by decide]
    try walk_at "d"
    refine ⟨rfl, rfl, ?_⟩
    have hw : inV (fv (.str (wordS a.1))) [fv (.str "ask"), fv (.str "gone")] = true := in_word
    rw [hw]
    try walk_at "d"
    refine ⟨_, _, _, rfl, rfl, ?_⟩
    unfold Ask.ok at oka
    rw [num_ok (by omega) (by omega)]
    exact hK _ _ ⟨_, _, rfl, rfl⟩
  · rintro Γ' G' ⟨o2, o3, rfl, rfl⟩
    exact .here hQ
/-! ## the longest ago goes, of names -/
def cutK {α : Type} (room : Nat) (l : List α) : List α := l.drop (l.length - room)
def blK (room : Nat) (ks : List Nat) (a : Ask) : List Nat := cutK room (ks.filter (fun x => !decide (x = a.2)) ++ if a.1 then [a.2] else [])
def blC (ks : List Nat) (a : Ask) : Nat := if a.1 && !decide (a.2 ∈ ks) then 1 else 0
def blS (room : Nat) (st : Nat × List Nat) (a : Ask) : Nat × List Nat := (st.1 + blC st.2 a, blK room st.2 a)
def bl (room : Nat) (rows : List Ask) : Nat × List Nat := rows.foldl (blS room) (0, [])
theorem bl_snoc {room : Nat} {rows : List Ask} {a : Ask} : bl room (rows ++ [a]) = blS room (bl room rows) a := by
  unfold bl; rw [List.foldl_append]; rfl
theorem blK_len {room : Nat} {ks : List Nat} {a : Ask} : (blK room ks a).length ≤ room := by
  unfold blK cutK; rw [List.length_drop]; omega
theorem bl_len {room : Nat} {rows : List Ask} : (bl room rows).2.length ≤ room := by
  rcases List.eq_nil_or_concat rows with rfl | ⟨r, a, rfl⟩
  · exact Nat.zero_le _
  · rw [List.concat_eq_append, bl_snoc]; exact blK_len
theorem max_cut {n room : Nat} : (if ((n : Nat) : Int) - (room : Int) > 0 then ((n : Nat) : Int) - (room : Int) else 0) = ((n - room : Nat) : Int) := by split <;> omega
def t_by_last : DS :=
  dSeq (dDrop (dCall sp_need_asks (dCons (dVar 0) (dCons (dVar 1) (dNil)))))
  (dSeq (dPar 2 3 (dCons (dLst false (dNil)) (dCons (dC (.int 0)) (dNil))))
  (dSeq (dFor (diAny (dVar 1)) (dgTup 2 (dgCons (dgName 4) (dgCons (dgName 5) (dgNil)))) (dSeq (dSet 3 (dOp (dAddR false) (dVar 3) (dCB dInt (dCons (dAndV (dOp dEqR (dVar 4) (dC (.str "ask"))) (dOp (dInL true) (dVar 5) (dVar 2))) (dNil)))))
  (dSeq (dSet 2 (dOp (dAddR false) (dLc false (diAny (dVar 2)) (dgName 6) (dTest (dOp dNeR (dVar 6) (dVar 5))) (dVar 6) [6]) (dOp (dMulI false) (dLst false (dCons (dVar 5) (dNil))) (dCB dInt (dCons (dOp dEqR (dVar 4) (dC (.str "ask"))) (dNil))))))
  (dSet 2 (dSlice false (dVar 2) (doSome (dCB dMax (dCons (dC (.int 0)) (dCons (dOp (dSubR) (dCB dLen (dCons (dVar 2) (dNil))) (dVar 0)) (dNil))))) (doNone))))))
  (dRet (dVar 3))))
def sp_by_last : SpD := fun ds G Q _ => ∃ (room : Nat) (rows : List Ask), ds = [.int room, .lst (rows.map Ask.d)] ∧ room ≤ 8 ∧ rows.length ≤ 40 ∧ (∀ a ∈ rows, a.ok) ∧ Q (.int (bl room rows).1) G
theorem law_by_last : ∀ ds G Q E, sp_by_last ds G Q E → ds.length = 2 ∧ t_by_last (endsD Q) (startD 7 ds) G := by
  rintro ds G Q E ⟨room, rows, rfl, hr, hl, ok, hQ⟩
  refine ⟨rfl, ?_⟩
  unfold t_by_last
  walk_at "d"
  refine ⟨room, rows, rfl, hr, hl, ok, ?_⟩
  try walk_at "d"
  refine dLoop_map Ask.d (fun pre Γ' G' => ∃ o4 o5, Γ' = [some (.int room), some (.lst (rows.map Ask.d)), some (.lst (natsD (bl room pre).2)), some (.int (bl room pre).1), o4, o5, none] ∧ G' = G) ⟨none, none, rfl, rfl⟩ (fun _ _ _ _ => trivial) ?_ ?_
  · rintro pre a Γ' G' K hpre ⟨o4, o5, rfl, rfl⟩ hK
    have hks := bl_len (room := room) (rows := pre)
    generalize hst : bl room pre = st at hks hK
    obtain ⟨c, ks⟩ := st
    have hfin : ∀ o4 o5, K [some (.int room), some (.lst (rows.map Ask.d)), some (.lst (natsD (blK room ks a))), some (.int ((c + blC ks a : Nat) : Int)), o4, o5, none] G' := fun o4 o5 => hK _ _ ⟨o4, o5, by rw [bl_snoc, hst]; rfl, rfl⟩
    obtain ⟨b, n⟩ := a
    simp only at hks
    have hfl := List.length_filter_le (fun x => !decide (x = n)) ks
    have comp : ∀ (Γ0 : GEnv) (Q1 : List D → GH → Prop), Γ0[5]? = some (some (.int n)) → 6 < Γ0.length → Q1 (natsD (ks.filter fun x => !decide (x = n))) G' → (natsD ks).length ≤ sizeLine ∧ dComp (fun x => True) (dgName 6) (dTest (dOp dNeR (dVar 6) (dVar 5))) (dVar 6) Γ0 Q1 (natsD ks) [] G' := by
      intro Γ0 Q1 h5 h6 hq
      refine ⟨sizeLine_ge (by rw [natsD, List.length_map]; omega), dComp_map (fun n : Nat => D.int n) (fun n : Nat => D.int n) (fun x => !decide (x = n)) trivial (fun x hx K1 K2 g1 g2 => ?_) hq⟩
      have e6 : (Γ0.set 6 (some (D.int x)))[6]? = some (some (.int x)) := by rw [List.getElem?_set]; simp [h6]
      have e5 : (Γ0.set 6 (some (D.int x)))[5]? = some (some (.int n)) := by rw [List.getElem?_set]; simp [h5]
      simp only [dgName, dTest, dOp, dVar, e6, e5]
      walk_at "d"
      refine ⟨okE_int, okE_int, ?_⟩
      rw [eqD_nat]
      exact cndP (fun e => g2 (by simp [e])) fun e => g1 (by simp [e])
    cases b
    all_goals
      simp only [Ask.d]
      walk_at "d"
      refine ⟨okE_word, okE_lit_ask, ?_⟩
      simp only [eqD_word]
      try walk_at "d"
    · refine comp _ _ rfl (by simp) ?_
      refine ⟨okE_word, okE_lit_ask, by decide, by decide, by decide, ?_⟩
      have e0 : (List.replicate (Int.toNat 0) [D.int n]).flatten = natsD [] := rfl
      have e1 : ∀ a b : List Nat, natsD a ++ natsD b = natsD (a ++ b) := fun a b => List.map_append.symm
      have eln : ∀ l : List Nat, (natsD l).length = l.length := fun l => List.length_map _
      simp only [e0, e1, eln, max_cut, cutD_drop]
      refine ⟨sizeLine_ge (by simp; omega), ?_⟩
      have hf := hfin (some (.str (wordS false))) (some (.int n))
      rw [show natsD (blK room ks (false, n)) = List.drop (((ks.filter fun x => !decide (x = n)) ++ []).length - room) (natsD ((ks.filter fun x => !decide (x = n)) ++ [])) from List.map_drop.symm ▸ rfl, show ((c + blC ks (false, n) : Nat) : Int) = (c : Int) + 0 from rfl] at hf
      exact hf
    · refine ⟨okE_int, okE_of dep_nats (by decide), ?_⟩
      simp only [any_nats]
      refine comp _ _ rfl (by simp) ?_
      refine ⟨okE_word, okE_lit_ask, by decide, by decide, by decide, ?_⟩
      have e0 : (List.replicate (Int.toNat 1) [D.int n]).flatten = natsD [n] := rfl
      have e1 : ∀ a b : List Nat, natsD a ++ natsD b = natsD (a ++ b) := fun a b => List.map_append.symm
      have eln : ∀ l : List Nat, (natsD l).length = l.length := fun l => List.length_map _
      simp only [e0, e1, eln, max_cut, cutD_drop]
      refine ⟨sizeLine_ge (by simp; omega), ?_⟩
      have hf := hfin (some (.str (wordS true))) (some (.int n))
      have ec : ((c + blC ks (true, n) : Nat) : Int) = (c : Int) + b2n (true != decide (n ∈ ks)) := by
        unfold blC
        by_cases h : n ∈ ks <;> simp [h, b2n]
      rw [ec, show natsD (blK room ks (true, n)) = List.drop (((ks.filter fun x => !decide (x = n)) ++ [n]).length - room) (natsD ((ks.filter fun x => !decide (x = n)) ++ [n])) from List.map_drop.symm ▸ rfl] at hf
      exact hf
  · rintro Γ' G' ⟨o4, o5, rfl, rfl⟩
    walk_at "d"
    exact .here hQ
def t_law_asks : DS :=
  dSeq (dSet 2 (dOp dIxR (dLst false (dCons (dC (.int 3)) (dCons (dC (.int 5)) (dCons (dC (.int 8)) (dNil))))) (dCall sp_law_drawn (dCons (dVar 0) (dCons (dC (.int 3)) (dNil))))))
  (dSeq (dSet 3 (dLst true (dNil)))
  (dSeq (dFor (diRng1 (dCons (dCall sp_law_drawn (dCons (dVar 0) (dCons (dOp (dAddR false) (dVar 1) (dC (.int 1))) (dNil)))) (dNil))) (dgName 4) (dDrop (dMt "list" dAppend (dVar 3) (dCons (dTup (dCons (dOp dIxR (dLst false (dCons (dC (.str "ask")) (dCons (dC (.str "gone")) (dNil)))) (dCB dInt (dCons (dOp dEqR (dCall sp_law_drawn (dCons (dVar 0) (dCons (dC (.int 5)) (dNil)))) (dC (.int 0))) (dNil)))) (dCons (dCall sp_law_drawn (dCons (dVar 0) (dCons (dVar 2) (dNil)))) (dNil)))) (dNil)))))
  (dRet (dFrz (dVar 3)))))
def sp_law_asks : SpD := fun ds G Q _ => ∃ (s : Addr) (z : DrawSt) (most : Nat), ds = [.ref s, .int most] ∧ most ≤ 40 ∧ z.ok ∧ G s = some z.o ∧ ∀ (rows : List Ask) (z' : DrawSt), rows.length ≤ most → (∀ a ∈ rows, a.ok) → z'.ok → Q (.lst (rows.map Ask.d)) (gup G s z'.o)
theorem law_law_asks : ∀ ds G Q E, sp_law_asks ds G Q E → ds.length = 2 ∧ t_law_asks (endsD Q) (startD 5 ds) G := by
  rintro ds G Q E ⟨s, z, most, rfl, hm, hz, hs, hQ⟩
  refine ⟨rfl, ?_⟩
  unfold t_law_asks
  rw [← gup_self hs]
  walk_at "d"
  refine draw (by decide) (by decide) hz fun x1 z1 a1 b1 c1 => ?_
  obtain ⟨d, hat, few, rfl, hf1, hf2⟩ := three (a := .int 3) (b := .int 5) (c := .int 8) (R := fun d => ∃ k : Int, d = .int k ∧ 0 < k ∧ k ≤ 8) a1 b1 ⟨3, rfl, by decide, by decide⟩ ⟨5, rfl, by decide, by decide⟩ ⟨8, rfl, by decide, by decide⟩
  simp only [hat]
  intro p hp
  have hps : p ≠ s := fun e => by subst e; rw [gup_same] at hp; cases hp
  rw [gup_ne hps] at hp
  rw [gup_comm (Ne.symm hps)]
  refine draw (by omega) (by omega) c1 fun x2 z2 a2 b2 c2 => ?_
  try walk_at "d"
  refine ⟨⟨by omega, by omega⟩, ?_⟩
  refine dLoop_inv (fun n Γ' G' => ∃ (z' : DrawSt) (rows : List Ask) (o4 : Option D), z'.ok ∧ Γ' = [some (.ref s), some (.int most), some (.int few), some (.ref p), o4] ∧ G' = gup (gup G p (.lst (rows.map Ask.d))) s z'.o ∧ rows.length = n ∧ ∀ a ∈ rows, a.ok) ⟨z2, [], none, c2, rfl, rfl, rfl, by simp⟩ (fun _ _ _ _ => trivial) ?_ ?_
  · rintro n x Γ' G' K hx ⟨z3, rows, o4, hz3, rfl, rfl, hl, ok⟩ hK
    obtain ⟨hn, rfl⟩ := rngD_get hx
    walk_at "d"
    simp only [vw_at (gup_at2 hps)]
    refine ⟨trivial, draw (by decide) (by decide) hz3 fun x3 z4 a3 b3 c3 => ?_⟩
    try walk_at "d"
    refine ⟨okE_int, okE_int, ?_⟩
    have hb : atI [D.str "ask", D.str "gone"] (b2n (eqD (.int x3) (.int 0))) = some (.str (wordS (!eqD (.int x3) (.int 0)))) := by
      cases eqD (.int x3) (.int 0) <;> rfl
    try walk_at "d"
    simp only [hb]
    refine draw hf1 (by omega) c3 fun x4 z5 a4 b4 c4 => ?_
    try walk_at "d"
    simp only [gup_at2 hps]
    refine ⟨sizeLine_gt (by rw [List.length_map]; omega), hK _ _ ⟨z5, rows ++ [(!eqD (.int x3) (.int 0), x4.toNat)], _, c4, rfl, ?_, by simp [hl], fun a ha => ?_⟩⟩
    · rw [gup_put2 hps, List.map_append]
      have : List.map Ask.d [(!eqD (D.int x3) (D.int 0), x4.toNat)] = [D.tup [D.str (wordS (!eqD (D.int x3) (D.int 0))), D.int x4]] := by
        show [D.tup [D.str (wordS (!eqD (D.int x3) (D.int 0))), D.int ((x4.toNat : Nat) : Int)]] = _
        rw [show ((x4.toNat : Nat) : Int) = x4 by omega]
      rw [this]
    · rcases List.mem_append.mp ha with ha | ha
      · exact ok a ha
      · have : a = (!eqD (.int x3) (.int 0), x4.toNat) := by simpa using ha
        subst this
        show x4.toNat < 8
        omega
  · rintro Γ' G' ⟨z3, rows, o4, hz3, rfl, rfl, hl, ok⟩
    rw [rngD_len] at hl
    walk_at "d"
    simp only [gup_at2 hps]
    refine ⟨gup G s z3.o, ?_, hQ rows z3 (by omega) ok hz3⟩
    intro a o e
    have hap : a ≠ p := fun z => by subst z; rw [gup_ne hps, hp] at e; cases e
    unfold gdel
    rw [if_neg hap]
    by_cases has : a = s
    · subst has; rw [gup_same] at e ⊢; exact e
    · rw [gup_ne has] at e ⊢; rw [gup_ne hap]; exact e
end TK

namespace TK
open PySem PySem.Spec L2
local macro_rules | `(tactic| walk_at "d") => `(tactic| simp only [gsub_refl, isC, dCountB, dIndexB, blL, dCallX, dDropX, dRetX, dSetX, dRaise, dxOf, startD, dSeq, dNext, dRet, dRetN, dSet, dAsg, dPar, dIfS, dDrop, dFor, dTest, dAnd, dOr, dNot, dAndV, dOrV, dNotV, dIf, dVar, dC, dNil, dCons, dOp, dTup, dLst, dCB, dCall, dMt, dChain, dCmpI, dSubR, dAddR, dMulI, dFdivR, dModR, dPowR, dIxR, dLen, dIsi, dTuple, dList, dInt, dIsNR, dNotNR, dEqR, dNeR, dgName, dgTup, dgCons, dgNil, newL, tyD, dLc, diAny, diRng1, diRng2, dSlice, dSl, doSome, doNone, wipeD, dYes, dMax, dMin, dUn, dNegR, dBreak, dCont, dAppend, dExtend, dFrz, dSetItem, dSortSet, dInL, dCallV, dNever, dJoin, dSplit, dStr, dInS, diEnumerate, dDGet, dInD, dDPut, putC, lookD, keyOf, keysOf, dNewD, dDisp, dpNil, dpCons, dSorted, dKdIn, dKdGet, dDGet2, dKdGet2, dRev, dDictPT, dMulT, b2n_t, b2n_f, dUpdate, dFld, dSetFld, dMeth, dMake, dInT, dNo, dSortA, dDisp1T, dLockE, diKeys, diZip, dPar3, dPopAt, dRemove, dMinD, List.map_cons, List.map_nil, List.length_cons, List.length_nil, List.replicate, List.cons_append, List.nil_append, List.getElem?_cons_zero, List.getElem?_cons_succ, List.set_cons_zero, List.set_cons_succ, Nat.reduceAdd, Nat.reduceSub, Nat.zero_add, Nat.add_zero, ne_eq, String.reduceEq, not_false_eq_true, not_true_eq_false, true_and, and_true, Bool.not_false, Bool.not_true, cnd_t, cnd_f, cnd_not, Bool.true_or, Bool.or_true, Bool.false_or, Bool.or_false, reduceIte, gup_same, gup_gup, endsD, List.length_cons, List.length_nil, Nat.reduceAdd, vwq_non, isNonq_non, tyq_non, vwq_bl, isNonq_bl, tyq_bl, vwq_int, isNonq_int, tyq_int, vwq_str, isNonq_str, tyq_str, vwq_tup, isNonq_tup, tyq_tup, vwq_lst, isNonq_lst, tyq_lst, vwq_frz, isNonq_frz, tyq_frz, vwq_ty, isNonq_ty, isNonq_ref, vw_gup, not_dec, okTy_NoneType, okTy_bool, okTy_int, okTy_str, okTy_tuple, okTy_list, isaB_NoneType_bool, isaB_NoneType_int, isaB_NoneType_str, isaB_NoneType_tuple, isaB_NoneType_list, isaB_bool_bool, isaB_bool_int, isaB_bool_str, isaB_bool_tuple, isaB_bool_list, isaB_int_bool, isaB_int_int, isaB_int_str, isaB_int_tuple, isaB_int_list, isaB_str_bool, isaB_str_int, isaB_str_str, isaB_str_tuple, isaB_str_list, isaB_tuple_bool, isaB_tuple_int, isaB_tuple_str, isaB_tuple_tuple, isaB_tuple_list, isaB_list_bool, isaB_list_int, isaB_list_str, isaB_list_tuple, isaB_list_list, atI_0, atI_1, atI_2, atI_3, atI_4, atI_5, atI_6, atI_7, atI_8, atI_9, atI_10, atI_11, ixN_4_0, ixN_4_1, ixN_4_2, ixN_4_3, sl_0, sl_1, sl_2, sl_3, sl_4, sl_5, sl_6, sl_7, sl_8, sl_9, sl_10, sl_11, sl_12])
/-! ## the fewest, in plain words -/
def tI (k : List Int) : D := .tup (intsD k)
def dropI (n : Int) (k : List Int) : List Int := k.filter fun x => !decide (x = n)
def wOne (k : List Int) (n : Int) (room : Nat) : List (List Int) := if k.length < room then [k, sortI (k ++ [n])] else k :: k.map fun o => sortI (dropI o k ++ [n])
/-- (what it costs, what is kept then) -/
def cand (room : Nat) (k : List Int) (a : Ask) : List (Nat × List Int) := if a.1 then (if (a.2 : Int) ∈ k then [(0, k)] else (wOne k a.2 room).map fun o => (1, o)) else [(0, dropI a.2 k)]
inductive Way (room : Nat) : List Ask → Nat → List (List Int) → List Int → Prop
  | nil : Way room [] 0 [] []
  | snoc {pre : List Ask} {c m : Nat} {p : List (List Int)} {k o : List Int} (a : Ask) : Way room pre c p k → (m, o) ∈ cand room k a → Way room (pre ++ [a]) (c + m) (p ++ [o]) o
structure Rs (room : Nat) (k : List Int) : Prop where
  up : k.Pairwise (· < ·)
  bd : ∀ x ∈ k, 0 ≤ x ∧ x < 8
  ln : k.length ≤ room
theorem up_nd {k : List Int} (h : k.Pairwise (· < ·)) : k.Nodup := h.imp fun {a b} (h : a < b) => by omega
theorem up_of {k : List Int} (h : k.Nodup) (h2 : k.Pairwise (· ≤ ·)) : k.Pairwise (· < ·) := by
  unfold List.Nodup at h
  exact (h.and h2).imp fun {a b} h => by omega
theorem drop_mem {n x : Int} {k : List Int} : x ∈ dropI n k ↔ x ∈ k ∧ x ≠ n := by simp [dropI]
theorem drop_len {n : Int} {k : List Int} : (dropI n k).length ≤ k.length := List.length_filter_le _ _
theorem drop_lt {n : Int} : ∀ {k : List Int}, n ∈ k → (dropI n k).length < k.length
  | [], h => by simp at h
  | x :: k, h => by
    unfold dropI
    by_cases e : x = n
    · rw [List.filter_cons_of_neg (by simp [e])]
      have := drop_len (n := n) (k := k)
      unfold dropI at this
      rw [List.length_cons]; omega
    · rw [List.filter_cons_of_pos (by simp [e])]
      have := drop_lt (n := n) (k := k) (by rcases List.mem_cons.mp h with rfl | h; exact absurd rfl e; exact h)
      unfold dropI at this
      rw [List.length_cons, List.length_cons]; omega
theorem sort_rs {room : Nat} {k : List Int} {n : Int} (nd : k.Nodup) (hn : n ∉ k) (bd : ∀ x ∈ k, 0 ≤ x ∧ x < 8) (n0 : 0 ≤ n) (n8 : n < 8) (hl : k.length < room) : Rs room (sortI (k ++ [n])) := by
  have p := sortI_perm (k ++ [n])
  refine ⟨up_of (p.nodup_iff.mpr ?_) (sortI_pw _), fun x hx => ?_, by rw [p.length_eq, List.length_append]; simp; omega⟩
  · rw [List.nodup_append]
    exact ⟨nd, by simp, fun x hx y hy => by simp at hy; subst hy; exact fun z => hn (z ▸ hx)⟩
  · rcases List.mem_append.mp (p.mem_iff.mp hx) with h | h
    · exact bd x h
    · simp at h; subst h; exact ⟨n0, n8⟩
theorem Rs.one {room : Nat} {k o : List Int} {n : Int} (h : Rs room k) (hn : n ∉ k) (n0 : 0 ≤ n) (n8 : n < 8) (ho : o ∈ wOne k n room) : Rs room o := by
  unfold wOne at ho
  split at ho
  · rename_i hl
    simp at ho
    rcases ho with rfl | rfl
    · exact h
    · exact sort_rs (up_nd h.up) hn h.bd n0 n8 hl
  · rcases List.mem_cons.mp ho with rfl | ho
    · exact h
    · obtain ⟨x, hx, rfl⟩ := List.mem_map.mp ho
      exact sort_rs ((up_nd h.up).filter _) (fun z => hn (drop_mem.mp z).1) (fun y hy => h.bd y (drop_mem.mp hy).1) n0 n8 (Nat.lt_of_lt_of_le (drop_lt hx) h.ln)
theorem Rs.cand {room m : Nat} {k o : List Int} {a : Ask} (h : Rs room k) (oka : a.ok) (hm : (m, o) ∈ cand room k a) : Rs room o := by
  unfold Ask.ok at oka
  unfold TK.cand at hm
  split at hm
  · split at hm
    · simp at hm; rw [hm.2]; exact h
    · rename_i hn
      obtain ⟨x, hx, e⟩ := List.mem_map.mp hm
      cases e
      exact h.one hn (by omega) (by omega) hx
  · simp at hm
    rw [hm.2]
    exact ⟨h.up.filter _, fun x hx => h.bd x (drop_mem.mp hx).1, Nat.le_trans drop_len h.ln⟩
theorem cand_le {room m : Nat} {k o : List Int} {a : Ask} (hm : (m, o) ∈ cand room k a) : m ≤ 1 := by
  unfold cand at hm
  split at hm
  · split at hm
    · simp at hm; omega
    · obtain ⟨x, _, e⟩ := List.mem_map.mp hm; cases e; exact Nat.le_refl _
  · simp at hm; omega
theorem cand_ne {room : Nat} {k : List Int} {a : Ask} : ∃ m o, (m, o) ∈ cand room k a := by
  unfold cand
  split
  · split
    · exact ⟨0, k, List.mem_singleton.mpr rfl⟩
    · exact ⟨1, k, List.mem_map.mpr ⟨k, by unfold wOne; split <;> simp, rfl⟩⟩
  · exact ⟨0, _, List.mem_singleton.mpr rfl⟩
theorem Way.rs {room : Nat} {pre : List Ask} {c : Nat} {p : List (List Int)} {k : List Int} (h : Way room pre c p k) (ok : ∀ a ∈ pre, a.ok) : Rs room k ∧ (∀ t ∈ p, Rs room t) ∧ p.length = pre.length ∧ c ≤ pre.length := by
  induction h with
  | nil => exact ⟨⟨.nil, by simp, Nat.zero_le _⟩, by simp, rfl, Nat.le_refl _⟩
  | snoc a h hm ih =>
    obtain ⟨h1, h2, h3, h4⟩ := ih fun b hb => ok b (by simp [hb])
    have := h1.cand (ok a (by simp)) hm
    have := cand_le hm
    refine ⟨‹_›, fun t ht => ?_, by simp [h3], by simp; omega⟩
    rcases List.mem_append.mp ht with z | z
    · exact h2 t z
    · simp at z; subst z; assumption
theorem Way.some {room : Nat} (rows : List Ask) : ∃ c p k, Way room rows c p k := by
  have : ∀ (r pre : List Ask), (∃ c p k, Way room pre c p k) → ∃ c p k, Way room (pre ++ r) c p k := by
    intro r
    induction r with
    | nil => intro pre h; simpa using h
    | cons a r ih =>
      intro pre ⟨c, p, k, h⟩
      obtain ⟨m, o, hm⟩ := cand_ne (room := room) (k := k) (a := a)
      have := ih (pre ++ [a]) ⟨_, _, _, h.snoc a hm⟩
      simpa using this
  simpa using this rows [] ⟨0, [], [], .nil⟩
/-! what the dict holds -/
structure En where
  k : List Int
  c : Nat
  p : List (List Int)
def En.v (e : En) : D := .tup [.int e.c, .tup (e.p.map tI)]
def keyI (k : List Int) : List Key := k.map Sum.inl
def En.kd (e : En) : List Key × D := (keyI e.k, e.v)
theorem keyI_inj {a b : List Int} : keyI a = keyI b ↔ a = b := by
  constructor
  · intro h
    exact (List.map_inj_right (f := (Sum.inl : Int → Key)) (fun x y => by simp)).mp h
  · intro h; rw [h]
theorem keysOf_ints : ∀ k : List Int, keysOf (intsD k) = some (keyI k)
  | [] => rfl
  | x :: r => by
    show (match keyOf (.int x), keysOf (intsD r) with | some k, some ks => some (k :: ks) | _, _ => none) = _
    rw [keysOf_ints r]; rfl
theorem keyD_I (k : List Int) : (keyI k).map keyD = intsD k := by unfold keyI; rw [List.map_map]; rfl
def putE (W : List En) (e : En) : List En := if (W.any fun x => decide (x.k = e.k)) = true then W.map (fun x => if x.k = e.k then e else x) else W ++ [e]
theorem val_E {W : List En} {k : List Int} : valD (W.map En.kd) (keyI k) = (W.find? fun e => decide (e.k = k)).map En.v := by
  unfold valD
  induction W with
  | nil => rfl
  | cons e W ih =>
    rw [List.map_cons]
    by_cases h : e.k = k
    · have h' : (e.kd).1 = keyI k := keyI_inj.mpr h
      rw [List.find?_cons_of_pos (by simpa using h'), List.find?_cons_of_pos (by simpa using h)]; rfl
    · have h' : ¬ (e.kd).1 = keyI k := fun z => h (keyI_inj.mp z)
      rw [List.find?_cons_of_neg (by simpa using h'), List.find?_cons_of_neg (by simpa using h)]; exact ih
theorem put_E {W : List En} {e : En} : putD (W.map En.kd) (keyI e.k) e.v = (putE W e).map En.kd := by
  unfold putD putE
  have h1 : ((W.map En.kd).any fun kv => decide (kv.1 = keyI e.k)) = W.any fun x => decide (x.k = e.k) := by
    rw [List.any_map]
    congr 1
    funext x
    exact decide_eq_decide.mpr keyI_inj
  rw [h1]
  split
  · rw [List.map_map, List.map_map]
    apply List.map_congr_left
    intro x _
    show (if keyI x.k = keyI e.k then (keyI x.k, e.v) else x.kd) = (if x.k = e.k then e else x).kd
    by_cases h : x.k = e.k
    · rw [if_pos (keyI_inj.mpr h), if_pos h, h]; rfl
    · rw [if_neg (fun z => h (keyI_inj.mp z)), if_neg h]
  · rw [List.map_append]; rfl
theorem putE_mem {W : List En} {e x : En} (h : x ∈ putE W e) : x = e ∨ x ∈ W := by
  unfold putE at h
  split at h
  · obtain ⟨y, hy, rfl⟩ := List.mem_map.mp h
    split
    · exact .inl rfl
    · exact .inr hy
  · rcases List.mem_append.mp h with z | z
    · exact .inr z
    · simp at z; exact .inl z
theorem putE_new {W : List En} {e : En} : e ∈ putE W e := by
  unfold putE
  split
  · rename_i h
    obtain ⟨y, hy, e1⟩ := List.any_eq_true.mp h
    exact List.mem_map.mpr ⟨y, hy, by rw [if_pos (by simpa using e1)]⟩
  · simp
theorem putE_old {W : List En} {e x : En} (h : x ∈ W) (hk : x.k ≠ e.k) : x ∈ putE W e := by
  unfold putE
  split
  · exact List.mem_map.mpr ⟨x, h, by rw [if_neg hk]⟩
  · simp [h]
theorem putE_nd {W : List En} {e : En} (h : (W.map En.k).Nodup) : ((putE W e).map En.k).Nodup := by
  unfold putE
  split
  · rw [List.map_map]
    have : W.map (En.k ∘ fun x => if x.k = e.k then e else x) = W.map En.k := List.map_congr_left fun x _ => by
      show (if x.k = e.k then e else x).k = x.k
      split
      · rename_i z; exact z.symm
      · rfl
    rw [this]; exact h
  · rename_i hn
    rw [List.map_append, List.nodup_append]
    refine ⟨h, by simp, fun x hx y hy => ?_⟩
    simp at hy
    subst hy
    obtain ⟨z, hz, rfl⟩ := List.mem_map.mp hx
    intro ez
    exact hn (List.any_eq_true.mpr ⟨z, hz, by simp [ez]⟩)
theorem find_E {W : List En} {k : List Int} (h : k ∈ W.map En.k) : ∃ e, e ∈ W ∧ e.k = k ∧ (W.find? fun e => decide (e.k = k)) = some e := by
  obtain ⟨x, hx, rfl⟩ := List.mem_map.mp h
  cases hf : W.find? fun e => decide (e.k = x.k) with
  | none => have := List.find?_eq_none.mp hf x hx; simp at this
  | some e => exact ⟨e, List.mem_of_find?_eq_some hf, by simpa using List.find?_some hf, rfl⟩
theorem nd_uniq {W : List En} (h : (W.map En.k).Nodup) {x y : En} (hx : x ∈ W) (hy : y ∈ W) (e : x.k = y.k) : x = y := by
  induction W with
  | nil => simp at hx
  | cons z W ih =>
    rw [List.map_cons, List.nodup_cons] at h
    rcases List.mem_cons.mp hx with e1 | hx1 <;> rcases List.mem_cons.mp hy with e2 | hy1
    · rw [e1, e2]
    · rw [e1] at e
      exact absurd (List.mem_map.mpr ⟨y, hy1, e.symm⟩) h.1
    · rw [e2] at e
      exact absurd (List.mem_map.mpr ⟨x, hx1, e⟩) h.1
    · exact ih h.2 hx1 hy1
/-! there are not many -/
def subs : List Int → List (List Int)
  | [] => [[]]
  | x :: r => subs r ++ (subs r).map (x :: ·)
theorem subs_nil : ∀ l : List Int, [] ∈ subs l
  | [] => by simp [subs]
  | x :: r => by simp [subs, subs_nil r]
theorem subs_mem : ∀ {l k : List Int}, l.Pairwise (· < ·) → k.Pairwise (· < ·) → (∀ x ∈ k, x ∈ l) → k ∈ subs l
  | [], k, _, _, h => by
    cases k with
    | nil => simp [subs]
    | cons x r => have := h x (by simp); simp at this
  | y :: r, k, hl, hk, h => by
    rw [List.pairwise_cons] at hl
    cases k with
    | nil => exact subs_nil _
    | cons x t =>
      rw [List.pairwise_cons] at hk
      unfold subs
      rcases List.mem_cons.mp (h x (by simp)) with e | hx
      · subst e
        refine List.mem_append.mpr (.inr (List.mem_map.mpr ⟨t, subs_mem hl.2 hk.2 fun z hz => ?_, rfl⟩))
        rcases List.mem_cons.mp (h z (by simp [hz])) with e | hz'
        · have := hk.1 z hz; omega
        · exact hz'
      · refine List.mem_append.mpr (.inl (subs_mem hl.2 (List.pairwise_cons.mpr hk) fun z hz => ?_))
        rcases List.mem_cons.mp (h z hz) with e | hz'
        · have h1 := hl.1 x hx
          rcases List.mem_cons.mp hz with e2 | hz2
          · omega
          · have := hk.1 z hz2; omega
        · exact hz'
theorem nodup_lenG {α : Type} [DecidableEq α] : ∀ {ms ns : List α}, ms.Nodup → (∀ k ∈ ms, k ∈ ns) → ms.length ≤ ns.length
  | [], _, _, _ => Nat.zero_le _
  | m :: ms, ns, nd, hm => by
    have h1 : m ∈ ns := hm m (by simp)
    have nd' := List.nodup_cons.mp nd
    have ih := nodup_lenG (ms := ms) (ns := ns.erase m) nd'.2 fun k hk => (List.mem_erase_of_ne (by rintro rfl; exact nd'.1 hk)).mpr (hm k (List.mem_cons_of_mem _ hk))
    rw [List.length_erase_of_mem h1] at ih
    have := List.length_pos_of_mem h1
    rw [List.length_cons]
    omega
theorem few_len {room : Nat} {ks : List (List Int)} (nd : ks.Nodup) (h : ∀ k ∈ ks, Rs room k) : ks.length ≤ 256 := by
  have := nodup_lenG (ns := subs [0, 1, 2, 3, 4, 5, 6, 7]) nd fun k hk => subs_mem (by decide) (h k hk).up fun x hx => by
    obtain ⟨h0, h8⟩ := (h k hk).bd x hx
    have : x = 0 ∨ x = 1 ∨ x = 2 ∨ x = 3 ∨ x = 4 ∨ x = 5 ∨ x = 6 ∨ x = 7 := by omega
    simpa using this
  exact Nat.le_trans this (by decide)
/-- what ways holds behind some rows -/
structure WI (room : Nat) (pre : List Ask) (W : List En) : Prop where
  nd : (W.map En.k).Nodup
  so : ∀ e ∈ W, Way room pre e.c e.p e.k
  co : ∀ c p k, Way room pre c p k → ∃ e, e ∈ W ∧ e.k = k ∧ e.c ≤ c
/-- what later holds, some ways of going on being looked at -/
structure LI (room : Nat) (pre : List Ask) (dn : List (Nat × List Int)) (W : List En) : Prop where
  nd : (W.map En.k).Nodup
  so : ∀ e ∈ W, Way room pre e.c e.p e.k
  co : ∀ x ∈ dn, ∃ e, e ∈ W ∧ e.k = x.2 ∧ e.c ≤ x.1
theorem LI.put {room : Nat} {pre : List Ask} {dn : List (Nat × List Int)} {W : List En} {e : En} (h : LI room pre dn W) (hw : Way room pre e.c e.p e.k) (hc : ∀ x ∈ W, x.k = e.k → e.c ≤ x.c) : LI room pre (dn ++ [(e.c, e.k)]) (putE W e) := by
  refine ⟨putE_nd h.nd, fun x hx => ?_, fun x hx => ?_⟩
  · rcases putE_mem hx with rfl | z
    · exact hw
    · exact h.so x z
  · rcases List.mem_append.mp hx with z | z
    · obtain ⟨y, h1, h2, h3⟩ := h.co x z
      by_cases ek : y.k = e.k
      · exact ⟨e, putE_new, ek.symm.trans h2, Nat.le_trans (hc y h1 ek) h3⟩
      · exact ⟨y, putE_old h1 ek, h2, h3⟩
    · simp at z; subst z; exact ⟨e, putE_new, rfl, Nat.le_refl _⟩
theorem LI.skip {room : Nat} {pre : List Ask} {dn : List (Nat × List Int)} {W : List En} {m : Nat} {o : List Int} {e : En} (h : LI room pre dn W) (he : e ∈ W) (ek : e.k = o) (hc : e.c ≤ m) : LI room pre (dn ++ [(m, o)]) W :=
  ⟨h.nd, h.so, fun x hx => by
    rcases List.mem_append.mp hx with z | z
    · exact h.co x z
    · simp at z; subst z; exact ⟨e, he, ek, hc⟩⟩
/-- what is looked at for one that was kept -/
def moves (room : Nat) (a : Ask) (e : En) : List (Nat × List Int) := (cand room e.k a).map fun z => (e.c + z.1, z.2)
theorem LI.done {room : Nat} {pre : List Ask} {a : Ask} {W L : List En} {zs : List (List Int)} {f : List Int → En} (hW : WI room pre W) (hz : ∀ k, k ∈ zs ↔ k ∈ W.map En.k) (hf : ∀ e ∈ W, f e.k = e) (h : LI room (pre ++ [a]) (zs.flatMap fun k => moves room a (f k)) L) : WI room (pre ++ [a]) L := by
  refine ⟨h.nd, h.so, fun c p k hw => ?_⟩
  generalize hp : pre ++ [a] = q at hw
  cases hw with
  | nil => simp at hp
  | snoc b h1 h2 =>
    rename_i pre' c1 m p1 k1
    have e1 := List.append_inj hp (by have := congrArg List.length hp; simp at this; exact this)
    obtain ⟨rfl, e2⟩ := e1
    cases e2
    obtain ⟨e, he, ek, ec⟩ := hW.co _ _ _ h1
    have hm : (e.c + m, k) ∈ zs.flatMap fun k => moves room a (f k) := by
      refine List.mem_flatMap.mpr ⟨e.k, (hz _).mpr (List.mem_map.mpr ⟨e, he, rfl⟩), ?_⟩
      rw [hf e he]
      exact List.mem_map.mpr ⟨(m, k), by rw [ek]; exact h2, rfl⟩
    obtain ⟨x, x1, x2, x3⟩ := h.co _ hm
    exact ⟨x, x1, x2, by simp at x3; omega⟩
end TK

namespace TK
open PySem PySem.Spec L2
local macro_rules | `(tactic| walk_at "d") => `(tactic| simp only [gsub_refl, isC, dCountB, dIndexB, blL, dCallX, dDropX, dRetX, dSetX, dRaise, dxOf, startD, dSeq, dNext, dRet, dRetN, dSet, dAsg, dPar, dIfS, dDrop, dFor, dTest, dAnd, dOr, dNot, dAndV, dOrV, dNotV, dIf, dVar, dC, dNil, dCons, dOp, dTup, dLst, dCB, dCall, dMt, dChain, dCmpI, dSubR, dAddR, dMulI, dFdivR, dModR, dPowR, dIxR, dLen, dIsi, dTuple, dList, dInt, dIsNR, dNotNR, dEqR, dNeR, dgName, dgTup, dgCons, dgNil, newL, tyD, dLc, diAny, diRng1, diRng2, dSlice, dSl, doSome, doNone, wipeD, dYes, dMax, dMin, dUn, dNegR, dBreak, dCont, dAppend, dExtend, dFrz, dSetItem, dSortSet, dInL, dCallV, dNever, dJoin, dSplit, dStr, dInS, diEnumerate, dDGet, dInD, dDPut, putC, lookD, keyOf, keysOf, dNewD, dDisp, dpNil, dpCons, dSorted, dKdIn, dKdGet, dDGet2, dKdGet2, dRev, dDictPT, dMulT, b2n_t, b2n_f, dUpdate, dFld, dSetFld, dMeth, dMake, dInT, dNo, dSortA, dDisp1T, dLockE, diKeys, diZip, dPar3, dPopAt, dRemove, dMinD, List.map_cons, List.map_nil, List.length_cons, List.length_nil, List.replicate, List.cons_append, List.nil_append, List.getElem?_cons_zero, List.getElem?_cons_succ, List.set_cons_zero, List.set_cons_succ, Nat.reduceAdd, Nat.reduceSub, Nat.zero_add, Nat.add_zero, ne_eq, String.reduceEq, not_false_eq_true, not_true_eq_false, true_and, and_true, Bool.not_false, Bool.not_true, cnd_t, cnd_f, cnd_not, Bool.true_or, Bool.or_true, Bool.false_or, Bool.or_false, reduceIte, gup_same, gup_gup, endsD, List.length_cons, List.length_nil, Nat.reduceAdd, vwq_non, isNonq_non, tyq_non, vwq_bl, isNonq_bl, tyq_bl, vwq_int, isNonq_int, tyq_int, vwq_str, isNonq_str, tyq_str, vwq_tup, isNonq_tup, tyq_tup, vwq_lst, isNonq_lst, tyq_lst, vwq_frz, isNonq_frz, tyq_frz, vwq_ty, isNonq_ty, isNonq_ref, vw_gup, not_dec, okTy_NoneType, okTy_bool, okTy_int, okTy_str, okTy_tuple, okTy_list, isaB_NoneType_bool, isaB_NoneType_int, isaB_NoneType_str, isaB_NoneType_tuple, isaB_NoneType_list, isaB_bool_bool, isaB_bool_int, isaB_bool_str, isaB_bool_tuple, isaB_bool_list, isaB_int_bool, isaB_int_int, isaB_int_str, isaB_int_tuple, isaB_int_list, isaB_str_bool, isaB_str_int, isaB_str_str, isaB_str_tuple, isaB_str_list, isaB_tuple_bool, isaB_tuple_int, isaB_tuple_str, isaB_tuple_tuple, isaB_tuple_list, isaB_list_bool, isaB_list_int, isaB_list_str, isaB_list_tuple, isaB_list_list, atI_0, atI_1, atI_2, atI_3, atI_4, atI_5, atI_6, atI_7, atI_8, atI_9, atI_10, atI_11, ixN_4_0, ixN_4_1, ixN_4_2, ixN_4_3, sl_0, sl_1, sl_2, sl_3, sl_4, sl_5, sl_6, sl_7, sl_8, sl_9, sl_10, sl_11, sl_12])
/-! ## lists shown, in plain words -/
def mayI (kept : List Int) (a : Ask) : List Int := (if a.1 then kept else dropI a.2 kept) ++ (if a.1 && !decide ((a.2 : Int) ∈ kept) then [(a.2 : Int)] else [])
def madeI (kept : List Int) (a : Ask) : Nat := if a.1 && !decide ((a.2 : Int) ∈ kept) then 1 else 0
def shOk (room : Nat) (kept : List Int) (a : Ask) (b : List Int) : Bool := decide (b.Pairwise (· < ·)) && decide (b.length ≤ room) && b.all fun x => decide (x ∈ mayI kept a)
def shS (room : Nat) (st : Option (Nat × List Int)) (z : Ask × List Int) : Option (Nat × List Int) := match st with
  | none => none
  | some s => if shOk room s.2 z.1 z.2 then some (s.1 + madeI s.2 z.1, z.2) else none
def shR (room : Nat) (zs : List (Ask × List Int)) : Option (Nat × List Int) := zs.foldl (shS room) (some (0, []))
def shM (room : Nat) (rows : List Ask) (told : List (List Int)) : Option Nat := if told.length = rows.length then (shR room (rows.zip told)).map (·.1) else none
theorem shR_snoc {room : Nat} {zs : List (Ask × List Int)} {z : Ask × List Int} : shR room (zs ++ [z]) = shS room (shR room zs) z := by unfold shR; rw [List.foldl_append]; rfl
theorem shS_none {room : Nat} : ∀ zs : List (Ask × List Int), zs.foldl (shS room) none = none
  | [] => rfl
  | _ :: r => by rw [List.foldl_cons]; exact shS_none r
theorem shR_none {room : Nat} {pre zs : List (Ask × List Int)} (h : pre <+: zs) (hn : shR room pre = none) : shR room zs = none := by
  obtain ⟨r, rfl⟩ := h
  unfold shR at *
  rw [List.foldl_append, hn]
  exact shS_none r
theorem up_eq : ∀ {a b : List Int}, a.Pairwise (· < ·) → b.Pairwise (· < ·) → (∀ x, x ∈ a ↔ x ∈ b) → a = b
  | [], [], _, _, _ => rfl
  | [], y :: b, _, _, h => by have := (h y).mpr (by simp); simp at this
  | x :: a, [], _, _, h => by have := (h x).mp (by simp); simp at this
  | x :: a, y :: b, ha, hb, h => by
    rw [List.pairwise_cons] at ha hb
    have e : x = y := by
      rcases List.mem_cons.mp ((h x).mp (by simp)) with e | hx
      · exact e
      · rcases List.mem_cons.mp ((h y).mpr (by simp)) with e | hy
        · exact e.symm
        · have := hb.1 x hx; have := ha.1 y hy; omega
    subst e
    rw [up_eq ha.2 hb.2 fun z => ?_]
    constructor
    · intro hz
      rcases List.mem_cons.mp ((h z).mp (by simp [hz])) with e | q
      · have := ha.1 z hz; omega
      · exact q
    · intro hz
      rcases List.mem_cons.mp ((h z).mpr (by simp [hz])) with e | q
      · have := hb.1 z hz; omega
      · exact q
theorem eqD_ints : ∀ {a b : List Int}, eqD (.lst (intsD a)) (.lst (intsD b)) = decide (a = b) := by
  have key : ∀ a b : List Int, PyData.eqvAll (toPys (intsD a)) (toPys (intsD b)) = decide (a = b) := by
    intro a
    induction a with
    | nil =>
      intro b
      cases b with
      | nil => simp [intsD, toPys, PyData.eqvAll]
      | cons y b => simp [intsD, toPys, PyData.eqvAll]
    | cons x a ih =>
      intro b
      cases b with
      | nil => simp [intsD, toPys, PyData.eqvAll]
      | cons y b =>
        have := ih b
        simp only [intsD] at this
        simp only [intsD, List.map_cons, toPys, PyData.eqvAll, this]
        have e : PyData.eqv (toPy (.int x)) (toPy (.int y)) = (x == y) := eqD_int
        rw [e]
        by_cases h : x = y
        · subst h; simp
        · simp [h]
  intro a b
  unfold eqD
  rw [toPy, toPy, PyData.eqv]
  exact key a b
theorem okE_ints {a : List Int} : okE (.lst (intsD a)) = true := okE_of dep_ints (by decide)
theorem any_ints {ks : List Int} {n : Int} : ((intsD ks).any fun z => eqD z (.int n)) = decide (n ∈ ks) := by
  induction ks with
  | nil => rfl
  | cons a ks ih =>
    show (eqD (.int a) (.int n) || (intsD ks).any fun z => eqD z (.int n)) = _
    rw [ih, eqD_int]
    by_cases h : a = n
    · subst h; simp
    · have : ¬ n = a := fun e => h e.symm
      simp [h, this]
theorem zip_D (rows : List Ask) (told : List (List Int)) : zipD (rows.map Ask.d) (told.map tI) = (rows.zip told).map fun z => .tup [z.1.d, tI z.2] := by
  unfold zipD
  rw [List.zip_map, List.map_map]; rfl
end TK

namespace TK
open PySem PySem.Spec L2
local macro_rules | `(tactic| walk_at "d") => `(tactic| simp only [gsub_refl, isC, dCountB, dIndexB, blL, dCallX, dDropX, dRetX, dSetX, dRaise, dxOf, startD, dSeq, dNext, dRet, dRetN, dSet, dAsg, dPar, dIfS, dDrop, dFor, dTest, dAnd, dOr, dNot, dAndV, dOrV, dNotV, dIf, dVar, dC, dNil, dCons, dOp, dTup, dLst, dCB, dCall, dMt, dChain, dCmpI, dSubR, dAddR, dMulI, dFdivR, dModR, dPowR, dIxR, dLen, dIsi, dTuple, dList, dInt, dIsNR, dNotNR, dEqR, dNeR, dgName, dgTup, dgCons, dgNil, newL, tyD, dLc, diAny, diRng1, diRng2, dSlice, dSl, doSome, doNone, wipeD, dYes, dMax, dMin, dUn, dNegR, dBreak, dCont, dAppend, dExtend, dFrz, dSetItem, dSortSet, dInL, dCallV, dNever, dJoin, dSplit, dStr, dInS, diEnumerate, dDGet, dInD, dDPut, putC, lookD, keyOf, keysOf, dNewD, dDisp, dpNil, dpCons, dSorted, dKdIn, dKdGet, dDGet2, dKdGet2, dRev, dDictPT, dMulT, b2n_t, b2n_f, dUpdate, dFld, dSetFld, dMeth, dMake, dInT, dNo, dSortA, dDisp1T, dLockE, diKeys, diZip, dPar3, dPopAt, dRemove, dMinD, List.map_cons, List.map_nil, List.length_cons, List.length_nil, List.replicate, List.cons_append, List.nil_append, List.getElem?_cons_zero, List.getElem?_cons_succ, List.set_cons_zero, List.set_cons_succ, Nat.reduceAdd, Nat.reduceSub, Nat.zero_add, Nat.add_zero, ne_eq, String.reduceEq, not_false_eq_true, not_true_eq_false, true_and, and_true, Bool.not_false, Bool.not_true, cnd_t, cnd_f, cnd_not, Bool.true_or, Bool.or_true, Bool.false_or, Bool.or_false, reduceIte, gup_same, gup_gup, endsD, List.length_cons, List.length_nil, Nat.reduceAdd, vwq_non, isNonq_non, tyq_non, vwq_bl, isNonq_bl, tyq_bl, vwq_int, isNonq_int, tyq_int, vwq_str, isNonq_str, tyq_str, vwq_tup, isNonq_tup, tyq_tup, vwq_lst, isNonq_lst, tyq_lst, vwq_frz, isNonq_frz, tyq_frz, vwq_ty, isNonq_ty, isNonq_ref, vw_gup, not_dec, okTy_NoneType, okTy_bool, okTy_int, okTy_str, okTy_tuple, okTy_list, isaB_NoneType_bool, isaB_NoneType_int, isaB_NoneType_str, isaB_NoneType_tuple, isaB_NoneType_list, isaB_bool_bool, isaB_bool_int, isaB_bool_str, isaB_bool_tuple, isaB_bool_list, isaB_int_bool, isaB_int_int, isaB_int_str, isaB_int_tuple, isaB_int_list, isaB_str_bool, isaB_str_int, isaB_str_str, isaB_str_tuple, isaB_str_list, isaB_tuple_bool, isaB_tuple_int, isaB_tuple_str, isaB_tuple_tuple, isaB_tuple_list, isaB_list_bool, isaB_list_int, isaB_list_str, isaB_list_tuple, isaB_list_list, atI_0, atI_1, atI_2, atI_3, atI_4, atI_5, atI_6, atI_7, atI_8, atI_9, atI_10, atI_11, ixN_4_0, ixN_4_1, ixN_4_2, ixN_4_3, sl_0, sl_1, sl_2, sl_3, sl_4, sl_5, sl_6, sl_7, sl_8, sl_9, sl_10, sl_11, sl_12])
local macro_rules | `(tactic| walk_at "e") => `(tactic| simp only [gsub_refl, isC, dCountB, dIndexB, blL, dCallX, dDropX, dRetX, dSetX, dRaise, dxOf, startD, dSeq, dNext, dRet, dRetN, dSet, dAsg, dPar, dIfS, dDrop, dFor, dTest, dAnd, dOr, dNot, dAndV, dOrV, dNotV, dIf, dVar, dC, dNil, dCons, dOp, dTup, dLst, dCB, dCall, dMt, dChain, dCmpI, dSubR, dAddR, dMulI, dFdivR, dModR, dPowR, dIxR, dLen, dIsi, dTuple, dList, dInt, dIsNR, dNotNR, dEqR, dNeR, dgName, dgTup, dgCons, dgNil, newL, tyD, dLc, diAny, diRng1, diRng2, dSlice, dSl, doSome, doNone, wipeD, dYes, dMax, dMin, dUn, dNegR, dBreak, dCont, dAppend, dExtend, dFrz, dSetItem, dSortSet, dInL, dCallV, dNever, dJoin, dSplit, dStr, dInS, diEnumerate, dDGet, dInD, dDPut, dNewD, dDisp, dpNil, dpCons, dSorted, dKdIn, dKdGet, dDGet2, dKdGet2, dRev, dDictPT, dMulT, b2n_t, b2n_f, dUpdate, dFld, dSetFld, dMeth, dMake, dInT, dNo, dSortA, dDisp1T, dLockE, diKeys, diZip, dPar3, dPopAt, dRemove, dMinD, List.map_cons, List.map_nil, List.length_cons, List.length_nil, List.replicate, List.cons_append, List.nil_append, List.getElem?_cons_zero, List.getElem?_cons_succ, List.set_cons_zero, List.set_cons_succ, Nat.reduceAdd, Nat.reduceSub, Nat.zero_add, Nat.add_zero, ne_eq, String.reduceEq, not_false_eq_true, not_true_eq_false, true_and, and_true, Bool.not_false, Bool.not_true, cnd_t, cnd_f, cnd_not, Bool.true_or, Bool.or_true, Bool.false_or, Bool.or_false, reduceIte, gup_same, gup_gup, endsD, List.length_cons, List.length_nil, Nat.reduceAdd, vwq_non, isNonq_non, tyq_non, vwq_bl, isNonq_bl, tyq_bl, vwq_int, isNonq_int, tyq_int, vwq_str, isNonq_str, tyq_str, vwq_tup, isNonq_tup, tyq_tup, vwq_lst, isNonq_lst, tyq_lst, vwq_frz, isNonq_frz, tyq_frz, vwq_ty, isNonq_ty, isNonq_ref, vw_gup, not_dec, okTy_NoneType, okTy_bool, okTy_int, okTy_str, okTy_tuple, okTy_list, isaB_NoneType_bool, isaB_NoneType_int, isaB_NoneType_str, isaB_NoneType_tuple, isaB_NoneType_list, isaB_bool_bool, isaB_bool_int, isaB_bool_str, isaB_bool_tuple, isaB_bool_list, isaB_int_bool, isaB_int_int, isaB_int_str, isaB_int_tuple, isaB_int_list, isaB_str_bool, isaB_str_int, isaB_str_str, isaB_str_tuple, isaB_str_list, isaB_tuple_bool, isaB_tuple_int, isaB_tuple_str, isaB_tuple_tuple, isaB_tuple_list, isaB_list_bool, isaB_list_int, isaB_list_str, isaB_list_tuple, isaB_list_list, atI_0, atI_1, atI_2, atI_3, atI_4, atI_5, atI_6, atI_7, atI_8, atI_9, atI_10, atI_11, ixN_4_0, ixN_4_1, ixN_4_2, ixN_4_3, sl_0, sl_1, sl_2, sl_3, sl_4, sl_5, sl_6, sl_7, sl_8, sl_9, sl_10, sl_11, sl_12])
def t_with_one : DS :=
  dSeq (dSet 3 (dLst true (dCons (dVar 0) (dNil))))
  (dSeq (dIfS (dTest (dOp dLt (dCB dLen (dCons (dVar 0) (dNil))) (dVar 2))) (dDrop (dMt "list" dAppend (dVar 3) (dCons (dCB dTuple (dCons (dCB (dSortA false) (dCons (dOp (dAddR false) (dVar 0) (dTup (dCons (dVar 1) (dNil)))) (dNil))) (dNil))) (dNil)))) (dFor (diAny (dVar 0)) (dgName 4) (dDrop (dMt "list" dAppend (dVar 3) (dCons (dCB dTuple (dCons (dCB (dSortA false) (dCons (dOp (dAddR false) (dLc false (diAny (dVar 0)) (dgName 5) (dTest (dOp dNeR (dVar 5) (dVar 4))) (dVar 5) [5]) (dLst false (dCons (dVar 1) (dNil)))) (dNil))) (dNil))) (dNil))))))
  (dRet (dFrz (dVar 3))))
def sp_with_one : SpD := fun ds G Q _ => ∃ (k : List Int) (n : Int) (room : Nat), ds = [tI k, .int n, .int room] ∧ k.length ≤ 8 ∧ Q (.lst ((wOne k n room).map tI)) G
theorem sortA_tup {ns : List Int} {G : GH} {Q : DK} (h : Q (.lst (intsD (sortI ns))) G) : sortXs false (intsD ns) G Q := ⟨plains_ints ns, sortOk_ints ns, by rw [sortD_ints]; exact h⟩
theorem law_with_one : ∀ ds G Q E, sp_with_one ds G Q E → ds.length = 3 ∧ t_with_one (endsD Q) (startD 6 ds) G := by
  rintro ds G Q E ⟨k, n, room, rfl, hk, hQ⟩
  refine ⟨rfl, ?_⟩
  unfold t_with_one tI
  walk_at "d"
  intro p hp
  try walk_at "d"
  have e1 : ∀ k : List Int, intsD k ++ [D.int n] = intsD (k ++ [n]) := fun k => by simp [intsD]
  have lk : (intsD k).length = k.length := List.length_map _
  by_cases hlt : k.length < room
  · rw [cnd_p (by rw [lk]; omega)]
    refine ⟨sizeLine_ge (by omega), ?_⟩
    rw [e1]
    refine sortA_tup ?_
    walk_at "d"
    refine ⟨by decide, ?_⟩
    rw [gdel_gup hp]
    unfold wOne at hQ
    rw [if_pos hlt] at hQ
    exact .here hQ
  · rw [cnd_n (by rw [lk]; omega)]
    unfold wOne at hQ
    rw [if_neg hlt] at hQ
    refine dLoop_map D.int (l := k) (fun pre Γ' G' => ∃ o4, Γ' = [some (D.tup (intsD k)), some (D.int n), some (D.int room), some (D.ref p), o4, none] ∧ G' = gup G p (.lst (tI k :: pre.map fun o => tI (sortI (dropI o k ++ [n]))))) ⟨none, rfl, rfl⟩ (fun _ _ _ _ => trivial) ?_ ?_
    · rintro pre o Γ' G' K hpre ⟨o4, rfl, rfl⟩ hK
      have hpl : pre.length < 8 := by
        have := hpre.length_le
        rw [List.length_append, List.length_singleton] at this
        omega
      walk_at "d"
      refine ⟨sizeLine_ge (by omega), dComp_map D.int D.int (fun x => !decide (x = o)) trivial (fun x hx K1 K2 g1 g2 => ?_) ?_⟩
      · walk_at "d"
        refine ⟨okE_int, okE_int, ?_⟩
        rw [eqD_int]
        by_cases e : x = o
        · rw [e, beq_self_eq_true]; exact g2 (by simp [e])
        · rw [beq_eq_false_iff_ne.mpr e]; exact g1 (by simp [e])
      · rw [List.nil_append]
        have dl := drop_len (n := o) (k := k)
        have e2 : List.map D.int (List.filter (fun x => !decide (x = o)) k) = intsD (dropI o k) := rfl
        rw [e2]
        try walk_at "d"
        refine ⟨sizeLine_ge (by rw [show (intsD (dropI o k)).length = _ from List.length_map _]; omega), ?_⟩
        rw [e1]
        refine sortA_tup ?_
        walk_at "d"
        refine ⟨sizeLine_gt (by rw [List.length_map]; omega), hK _ _ ⟨_, rfl, ?_⟩⟩
        rw [List.map_append]
        rfl
    · rintro Γ' G' ⟨o4, rfl, rfl⟩
      walk_at "d"
      rw [gdel_gup hp]
      refine .here ?_
      rw [List.map_cons, List.map_map] at hQ
      exact hQ
def t_fewest_L8 : DS :=
  dSet 9 (dLst false (dCons (dTup (dCons (dVar 7) (dCons (dCB dTuple (dCons (dLc false (diAny (dVar 6)) (dgName 10) (dTest (dOp dNeR (dVar 10) (dVar 4))) (dVar 10) [10]) (dNil))) (dNil)))) (dNil)))
def t_fewest_L10 : DS :=
  dSet 9 (dLst false (dCons (dTup (dCons (dVar 7) (dCons (dVar 6) (dNil)))) (dNil)))
def t_fewest_L12 : DS :=
  dSet 9 (dLc false (diAny (dCall sp_with_one (dCons (dVar 6) (dCons (dVar 4) (dCons (dVar 0) (dNil)))))) (dgName 10) (dYes) (dTup (dCons (dOp (dAddR false) (dVar 7) (dC (.int 1))) (dCons (dVar 10) (dNil)))) [10])
def t_fewest_L9 : DS :=
  dIfS (dTest (dOp (dInT false) (dVar 4) (dVar 6))) (t_fewest_L10) (t_fewest_L12)
def t_fewest_L15 : DS :=
  dDPut (dVar 5) (dVar 10) (dTup (dCons (dVar 11) (dCons (dOp (dAddR false) (dVar 8) (dTup (dCons (dVar 10) (dNil)))) (dNil))))
def t_fewest_L14 : DS :=
  dIfS (dOr (dTest (dOp (dInD true) (dVar 10) (dVar 5))) (dTest (dOp dLt (dVar 11) (dOp dIxR (dOp dDGet (dVar 5) (dVar 10)) (dC (.int 0)))))) (t_fewest_L15) (dNext)
def t_fewest_L13 : DS :=
  dFor (diAny (dVar 9)) (dgTup 2 (dgCons (dgName 11) (dgCons (dgName 10) (dgNil)))) (t_fewest_L14)
def t_fewest_L7 : DS :=
  dSeq (dIfS (dTest (dOp dEqR (dVar 3) (dC (.str "gone")))) (t_fewest_L8) (t_fewest_L9))
  (t_fewest_L13)
def t_fewest_L6 : DS :=
  dSeq (dAsg (dOp dDGet (dVar 2) (dVar 6)) (dgTup 2 (dgCons (dgName 7) (dgCons (dgName 8) (dgNil)))))
  (t_fewest_L7)
def t_fewest_L16 : DS :=
  dSet 2 (dVar 5)
def t_fewest_L5 : DS :=
  dSeq (dFor (diAny (dCB (dSortA false) (dCons (dVar 2) (dNil)))) (dgName 6) (t_fewest_L6))
  (t_fewest_L16)
def t_fewest_L4 : DS :=
  dSeq (dSet 5 (dNewD true))
  (t_fewest_L5)
def t_fewest_L17 : DS :=
  dSeq (dSet 12 (dCB dMinD (dCons (dLockE 2 (dLc false (diKeys (dVar 2)) (dgName 6) (dYes) (dOp dDGet (dVar 2) (dVar 6)) [6])) (dNil))))
  (dRet (dTup (dCons (dOp dIxR (dVar 12) (dC (.int 0))) (dCons (dCB (dList false) (dCons (dOp dIxR (dVar 12) (dC (.int 1))) (dNil))) (dNil)))))
def t_fewest_L3 : DS :=
  dSeq (dFor (diAny (dVar 1)) (dgTup 2 (dgCons (dgName 3) (dgCons (dgName 4) (dgNil)))) (t_fewest_L4))
  (t_fewest_L17)
def t_fewest_L2 : DS :=
  dSeq (dSet 2 (dDisp1T (dTup (dNil)) (dTup (dCons (dC (.int 0)) (dCons (dTup (dNil)) (dNil))))))
  (t_fewest_L3)
def t_fewest : DS :=
  dSeq (dDrop (dCall sp_need_asks (dCons (dVar 0) (dCons (dVar 1) (dNil)))))
  (t_fewest_L2)
abbrev G9 (room : Nat) (rows : List Ask) (o2 o3 o4 o5 o6 o7 o8 o9 o10 o11 : Option D) : GEnv := [some (.int room), some (.lst (rows.map Ask.d)), o2, o3, o4, o5, o6, o7, o8, o9, o10, o11, none]
def movD (z : Nat × List Int) : D := .tup [.int z.1, tI z.2]
theorem look_E {G : GH} {c : Addr} {W : List En} {k : List Int} (h : G c = some (.dT (W.map En.kd))) : lookD G c (tI k) = some ((W.find? fun e => decide (e.k = k)).map En.v) := by
  unfold lookD tI
  simp only [h, keysOf_ints, val_E]
/-- L13: the ways of going on are looked at -/
theorem few_13 {D0 : DEnds} {room : Nat} {rows pre : List Ask} {G : GH} {q : Addr} {o2 o3 o4 o6 o7 o10 o11 : Option D} {p0 : List (List Int)} {ms dn : List (Nat × List Int)} {L : List En}
    (hq : G q = some (.dT (L.map En.kd))) (hL : LI room pre dn L) (ok : ∀ a ∈ pre, a.ok) (hp0 : p0.length ≤ 1000) (hml : ms.length ≤ 1000) (hm : ∀ z ∈ ms, Way room pre z.1 (p0 ++ [z.2]) z.2)
    (hn : ∀ (o10 o11 : Option D) (L' : List En), LI room pre (dn ++ ms) L' → D0.nx (G9 room rows o2 o3 o4 (some (.ref q)) o6 o7 (some (.tup (p0.map tI))) (some (.lst (ms.map movD))) o10 o11) (gup G q (.dT (L'.map En.kd)))) :
    t_fewest_L13 D0 (G9 room rows o2 o3 o4 (some (.ref q)) o6 o7 (some (.tup (p0.map tI))) (some (.lst (ms.map movD))) o10 o11) G := by
  unfold t_fewest_L13
  walk_at "d"
  refine dLoop_map movD (l := ms) (fun pr Γ' G' => ∃ (o10 o11 : Option D) (L' : List En), Γ' = G9 room rows o2 o3 o4 (some (.ref q)) o6 o7 (some (.tup (p0.map tI))) (some (.lst (ms.map movD))) o10 o11 ∧ LI room pre (dn ++ pr) L' ∧ G' = gup G q (.dT (L'.map En.kd)))
    ⟨_, _, L, rfl, by rw [List.append_nil]; exact hL, (gup_self hq).symm⟩ (fun _ _ _ _ => trivial) ?_ ?_
  · rintro pr z Γ' G' K hpr ⟨o10, o11, L', rfl, hL', rfl⟩ hK
    have hz := hm z (hpr.subset (by simp))
    have hlen : L'.length ≤ 256 := by
      have := few_len (room := room) hL'.nd fun k hk => by
        obtain ⟨e, he, rfl⟩ := List.mem_map.mp hk
        exact ((hL'.so e he).rs ok).1
      rwa [List.length_map] at this
    have look : lookD (gup G q (.dT (L'.map En.kd))) q (tI z.2) = some ((L'.find? fun e => decide (e.k = z.2)).map En.v) := look_E gup_same
    have ev : (En.mk z.2 z.1 (p0 ++ [z.2])).v = .tup [.int z.1, .tup (p0.map tI ++ [tI z.2])] := by unfold En.v; rw [List.map_append]; rfl
    have doPut : (∀ x ∈ L', x.k = z.2 → z.1 ≤ x.c) → t_fewest_L15 { nx := K, rt := D0.rt, bk := D0.nx, ct := K, ex := D0.ex } (G9 room rows o2 o3 o4 (some (.ref q)) o6 o7 (some (.tup (p0.map tI))) (some (.lst (ms.map movD))) (some (tI z.2)) (some (.int z.1))) (gup G q (.dT (L'.map En.kd))) := fun hc => by
      unfold t_fewest_L15
      walk_at "e"
      refine ⟨sizeLine_ge (by rw [List.length_map]; omega), ?_⟩
      unfold putC
      rw [gup_same]
      simp only [tI, keysOf_ints]
      refine ⟨sizeLine_gt (by rw [List.length_map]; omega), ?_⟩
      have e2 := put_E (W := L') (e := ⟨z.2, z.1, p0 ++ [z.2]⟩)
      rw [ev] at e2
      simp only [tI] at e2
      rw [e2, gup_gup]
      refine hK _ _ ⟨_, _, putE L' ⟨z.2, z.1, p0 ++ [z.2]⟩, rfl, ?_, rfl⟩
      rw [← List.append_assoc]
      exact hL'.put (e := ⟨z.2, z.1, p0 ++ [z.2]⟩) hz hc
    unfold t_fewest_L14
    simp only [movD]
    walk_at "e"
    simp only [look]
    cases hf : L'.find? fun e => decide (e.k = z.2) with
    | none =>
      simp only [Option.map_none, Option.isSome_none]
      refine doPut fun x hx ek => ?_
      have := List.find?_eq_none.mp hf x hx
      simp [ek] at this
    | some e =>
      have he := List.mem_of_find?_eq_some hf
      have ek : e.k = z.2 := by simpa using List.find?_some hf
      simp only [Option.map_some, Option.isSome_some, En.v]
      walk_at "e"
      refine cndP (fun hc => doPut fun x hx ex => ?_) fun hc => ?_
      · rw [nd_uniq hL'.nd hx he (ex.trans ek.symm)]; omega
      · refine hK _ _ ⟨_, _, L', rfl, ?_, rfl⟩
        rw [← List.append_assoc]
        exact hL'.skip he ek (by omega)
  · rintro Γ' G' ⟨o10, o11, L', rfl, hL', rfl⟩
    exact hn _ _ _ hL'
theorem inV_ints {n : Int} : ∀ k : List Int, inV (fv (.int n)) ((intsD k).map fv) = decide (n ∈ k)
  | [] => rfl
  | x :: r => by
    have ih := inV_ints (n := n) r
    show (eqV (.int x) (.int n) || inV (fv (.int n)) ((intsD r).map fv)) = _
    rw [ih]
    show ((x == n) || decide (n ∈ r)) = _
    by_cases e : x = n
    · subst e; simp
    · have : ¬ n = x := fun z => e z.symm
      simp [e, this]
theorem flat_ints (k : List Int) : (intsD k).all flatD = true := by
  rw [List.all_eq_true]
  intro x hx
  obtain ⟨i, _, rfl⟩ := List.mem_map.mp hx
  rfl
theorem moves_way {room : Nat} {pre : List Ask} {a : Ask} {e : En} (h : Way room pre e.c e.p e.k) : ∀ z ∈ moves room a e, Way room (pre ++ [a]) z.1 (e.p ++ [z.2]) z.2 := fun z hz => by
  obtain ⟨y, hy, rfl⟩ := List.mem_map.mp hz
  exact h.snoc a hy
theorem moves_len {room : Nat} {a : Ask} {e : En} (h : e.k.length ≤ 8) : (moves room a e).length ≤ 1000 := by
  unfold moves cand wOne
  rw [List.length_map]
  split
  · split
    · simp
    · rw [List.length_map]
      split
      · simp
      · rw [List.length_cons, List.length_map]; omega
  · simp
/-- L6: one that was kept -/
theorem few_6 {D0 : DEnds} {room : Nat} {rows pre : List Ask} {G : GH} {c q : Addr} {a : Ask} {o7 o8 o9 o10 o11 : Option D} {e : En} {dn : List (Nat × List Int)} {W L : List En} (hr : room ≤ 8) (hrl : pre.length < 40)
    (hc : G c = some (.dT (W.map En.kd))) (hcq : c ≠ q) (hq : G q = some (.dT (L.map En.kd))) (hW : WI room pre W) (he : e ∈ W) (hL : LI room (pre ++ [a]) dn L) (ok : ∀ b ∈ pre ++ [a], b.ok)
    (hn : ∀ (o7 o8 o9 o10 o11 : Option D) (L' : List En), LI room (pre ++ [a]) (dn ++ moves room a e) L' → D0.nx (G9 room rows (some (.ref c)) (some (.str (wordS a.1))) (some (.int a.2)) (some (.ref q)) (some (tI e.k)) o7 o8 o9 o10 o11) (gup G q (.dT (L'.map En.kd)))) :
    t_fewest_L6 D0 (G9 room rows (some (.ref c)) (some (.str (wordS a.1))) (some (.int a.2)) (some (.ref q)) (some (tI e.k)) o7 o8 o9 o10 o11) G := by
  have hw := hW.so e he
  obtain ⟨rs, _, pl, cl⟩ := hw.rs fun b hb => ok b (by simp [hb])
  have kl : e.k.length ≤ 8 := Nat.le_trans rs.ln hr
  have fin : ∀ o10 o11, t_fewest_L13 D0 (G9 room rows (some (.ref c)) (some (.str (wordS a.1))) (some (.int a.2)) (some (.ref q)) (some (tI e.k)) (some (.int e.c)) (some (.tup (e.p.map tI))) (some (.lst ((moves room a e).map movD))) o10 o11) G := fun o10 o11 =>
    few_13 hq hL ok (by omega) (moves_len kl) (moves_way hw) fun o10 o11 L' h => hn _ _ _ _ _ _ h
  have look : lookD G c (tI e.k) = some (some e.v) := by
    rw [look_E hc]
    obtain ⟨x, x1, x2, x3⟩ := find_E (W := W) (k := e.k) (List.mem_map.mpr ⟨e, he, rfl⟩)
    rw [x3, nd_uniq hW.nd x1 he x2]; rfl
  unfold t_fewest_L6
  walk_at "e"
  simp only [look, En.v]
  walk_at "e"
  unfold t_fewest_L7
  walk_at "e"
  refine ⟨okE_word, okE_lit_gone, ?_⟩
  rw [eqD_gone]
  obtain ⟨w, n⟩ := a
  cases w with
  | false =>
    simp only [Bool.not_false, cnd_t]
    unfold t_fewest_L8
    simp only [tI]
    walk_at "e"
    refine ⟨sizeLine_ge (by rw [List.length_map]; omega), dComp_map D.int D.int (fun x => !decide (x = (n : Int))) trivial (fun x hx K1 K2 g1 g2 => ?_) ?_⟩
    · walk_at "e"
      refine ⟨okE_int, okE_int, ?_⟩
      rw [eqD_int]
      by_cases e : x = n
      · rw [e, beq_self_eq_true]; exact g2 (by simp [e])
      · rw [beq_eq_false_iff_ne.mpr e]; exact g1 (by simp [e])
    · exact fin _ _
  | true =>
    simp only [Bool.not_true, cnd_f]
    unfold t_fewest_L9
    simp only [tI]
    walk_at "e"
    refine ⟨rfl, flat_ints _, ?_⟩
    rw [inV_ints]
    by_cases hm : (n : Int) ∈ e.k
    · rw [decide_eq_true hm]
      show t_fewest_L10 _ _ _
      unfold t_fewest_L10
      walk_at "e"
      have em : moves room (true, n) e = [(e.c + 0, e.k)] := by unfold moves cand; rw [if_pos rfl, if_pos hm]; rfl
      have := fin o10 o11
      rw [em] at this
      exact this
    · rw [decide_eq_false hm]
      show t_fewest_L12 _ _ _
      unfold t_fewest_L12
      walk_at "e"
      have em : moves room (true, n) e = (wOne e.k n room).map fun o => (e.c + 1, o) := by unfold moves cand; rw [if_pos rfl, if_neg hm, List.map_map]; rfl
      have wl : (wOne e.k n room).length ≤ 10 := by
        unfold wOne
        split
        · simp
        · rw [List.length_cons, List.length_map]; omega
      refine ⟨e.k, n, room, rfl, kl, ?_⟩
      walk_at "e"
      refine ⟨sizeLine_ge (by rw [List.length_map]; omega), dComp_map tI (fun o => .tup [.int (e.c + 1 : Nat), tI o]) (fun _ => true) trivial (fun x hx K1 K2 g1 g2 => ?_) ?_⟩
      · walk_at "e"
        exact g1 rfl
      · have := fin o10 o11
        rw [em, List.map_map] at this
        rw [List.nil_append, List.filter_eq_self.mpr fun _ _ => rfl]
        exact this
def fndE (W : List En) (k : List Int) : En := match W.find? fun e => decide (e.k = k) with | some e => e | none => ⟨k, 0, []⟩
theorem fnd_E {W : List En} (nd : (W.map En.k).Nodup) {e : En} (he : e ∈ W) : fndE W e.k = e := by
  obtain ⟨x, x1, x2, x3⟩ := find_E (W := W) (k := e.k) (List.mem_map.mpr ⟨e, he, rfl⟩)
  unfold fndE
  rw [x3, nd_uniq nd x1 he x2]
theorem sortK_mem {kz : List (List Int)} {k : List Int} : k ∈ sortK kz ↔ k ∈ kz := List.mem_mergeSort
theorem keys_E (W : List En) : (W.map En.kd).map (·.1) = (W.map En.k).map (fun k => k.map Sum.inl) := by rw [List.map_map, List.map_map]; rfl
/-- L5: all that were kept -/
theorem few_5 {D0 : DEnds} {room : Nat} {rows pre : List Ask} {G : GH} {c q : Addr} {a : Ask} {o6 o7 o8 o9 o10 o11 : Option D} {W : List En} (hr : room ≤ 8) (hrl : pre.length < 40)
    (hc : G c = some (.dT (W.map En.kd))) (hcq : c ≠ q) (hq : G q = some (.dT [])) (hW : WI room pre W) (ok : ∀ b ∈ pre ++ [a], b.ok)
    (hn : ∀ (o6 o7 o8 o9 o10 o11 : Option D) (L' : List En), WI room (pre ++ [a]) L' → D0.nx (G9 room rows (some (.ref q)) (some (.str (wordS a.1))) (some (.int a.2)) (some (.ref q)) o6 o7 o8 o9 o10 o11) (gup G q (.dT (L'.map En.kd)))) :
    t_fewest_L5 D0 (G9 room rows (some (.ref c)) (some (.str (wordS a.1))) (some (.int a.2)) (some (.ref q)) o6 o7 o8 o9 o10 o11) G := by
  unfold t_fewest_L5
  walk_at "e"
  simp only [hc]
  refine ⟨W.map En.k, keys_E W, ?_⟩
  try walk_at "e"
  refine dLoop_map tI (l := sortK (W.map En.k)) (fun pr Γ' G' => ∃ (o6 o7 o8 o9 o10 o11 : Option D) (L' : List En), Γ' = G9 room rows (some (.ref c)) (some (.str (wordS a.1))) (some (.int a.2)) (some (.ref q)) o6 o7 o8 o9 o10 o11 ∧ LI room (pre ++ [a]) (pr.flatMap fun k => moves room a (fndE W k)) L' ∧ G' = gup G q (.dT (L'.map En.kd)))
    ⟨_, _, _, _, _, _, [], rfl, ⟨List.nodup_nil, by simp, by simp⟩, (gup_self hq).symm⟩ (fun _ _ _ _ => trivial) ?_ ?_
  · rintro pr z Γ' G' K hpr ⟨o6, o7, o8, o9, o10, o11, L', rfl, hL', rfl⟩ hK
    have hz : z ∈ W.map En.k := sortK_mem.mp (hpr.subset (by simp))
    obtain ⟨e, he, rfl⟩ := List.mem_map.mp hz
    refine few_6 hr hrl (by rw [gup_ne hcq]; exact hc) hcq gup_same hW he hL' ok fun o7 o8 o9 o10 o11 L2 h2 => ?_
    rw [gup_gup]
    refine hK _ _ ⟨_, _, _, _, _, _, L2, rfl, ?_, rfl⟩
    rw [List.flatMap_append]
    simp only [List.flatMap_cons, List.flatMap_nil, List.append_nil]
    rw [fnd_E hW.nd he]
    exact h2
  · rintro Γ' G' ⟨o6, o7, o8, o9, o10, o11, L', rfl, hL', rfl⟩
    unfold t_fewest_L16
    walk_at "e"
    exact hn _ _ _ _ _ _ L' (LI.done (f := fndE W) hW (fun k => sortK_mem) (fun e he => fnd_E hW.nd he) hL')
theorem dep_v {e : En} : depD 3 e.v := fun x hx => by
  simp at hx
  rcases hx with rfl | rfl
  · trivial
  · intro y hy
    obtain ⟨k, _, rfl⟩ := List.mem_map.mp hy
    intro w hw
    obtain ⟨i, _, rfl⟩ := List.mem_map.mp hw
    trivial
theorem toPy_tI (k : List Int) : toPy (tI k) = tupI k := by
  unfold tI tupI
  rw [toPy, toPys_map, List.map_map]
  exact congrArg PyData.tuple (List.map_congr_left fun x _ => by simp [toPy])
theorem toPy_v (e : En) : toPy e.v = .tuple [.int e.c, .tuple (e.p.map tupI)] := by
  unfold En.v
  rw [toPy, toPys, toPys, toPys, toPy, toPy, toPys_map, List.map_map]
  have : List.map (toPy ∘ tI) e.p = List.map tupI e.p := List.map_congr_left fun k _ => toPy_tI k
  rw [this]
theorem alike_tups : ∀ p p' : List (List Int), PySem.W.alikeAll (p.map tupI) (p'.map tupI) = true
  | [], [] => by simp [PySem.W.alikeAll]
  | [], _ :: _ => by simp [PySem.W.alikeAll]
  | _ :: _, [] => by simp [PySem.W.alikeAll]
  | k :: p, k' :: p' => by
    rw [List.map_cons, List.map_cons, PySem.W.alikeAll, alike_tupI, alike_tups p p']; rfl
theorem alike_tt (p p' : List (List Int)) : PySem.W.alike (.tuple (p.map tupI)) (.tuple (p'.map tupI)) = true := by rw [PySem.W.alike]; exact alike_tups p p'
theorem min_v {W : List En} : minOk (toPys (W.map En.v)) := by
  have all : ∀ d, d ∈ toPys (W.map En.v) → ∃ e : En, d = toPy e.v := fun d hd => by
    rw [toPys_map, List.map_map] at hd
    obtain ⟨e, _, rfl⟩ := List.mem_map.mp hd
    exact ⟨e, rfl⟩
  refine ⟨fun d hd d' hd' => ?_, fun d hd => ?_, fun d hd => ?_⟩
  · obtain ⟨e, rfl⟩ := all d hd
    obtain ⟨e', rfl⟩ := all d' hd'
    rw [toPy_v, toPy_v, PySem.W.alike, PySem.W.alikeAll, PySem.W.alikeAll, alike_tt]
    rfl
  · obtain ⟨e, rfl⟩ := all d hd
    rw [toPy_v]; exact fun z => (nomatch z)
  · obtain ⟨e, rfl⟩ := all d hd
    exact Nat.le_trans (dep_ok (dep_v (e := e))).2.2 (by decide)
theorem lt_v {e e' : En} (h : e.c < e'.c) : PySem.W.dataLt (toPy e.v) (toPy e'.v) = true := by
  rw [toPy_v, toPy_v, PySem.W.dataLt_pair rfl (alike_tt _ _)]
  have : PyData.eqv (.int e.c) (.int e'.c) = false := by
    show ((e.c : Int) == (e'.c : Int)) = false
    rw [beq_eq_false_iff_ne]; omega
  rw [this]
  simp only [Bool.false_eq_true, if_false, PySem.W.dataLt_int]
  exact decide_eq_true (by omega)
theorem look_lk {G : GH} {c : Addr} {W : List En} {k : List Int} {o : Obj} {us : List (List Key × V)} (h : G c = some (.lkT o us (W.map En.kd))) : lookD G c (tI k) = some ((W.find? fun e => decide (e.k = k)).map En.v) := by
  unfold lookD tI
  simp only [h, keysOf_ints, val_E]
def sp_fewest : SpD := fun ds G Q _ => ∃ (room : Nat) (rows : List Ask), ds = [.int room, .lst (rows.map Ask.d)] ∧ room ≤ 8 ∧ rows.length ≤ 40 ∧ (∀ a ∈ rows, a.ok) ∧
  ∀ (c : Nat) (L : List (List Int)) (k : List Int), Way room rows c L k → (∀ c' L' k', Way room rows c' L' k' → c ≤ c') → Q (.tup [.int c, .lst (L.map tI)]) G
theorem law_fewest : ∀ ds G Q E, sp_fewest ds G Q E → ds.length = 2 ∧ t_fewest (endsD Q) (startD 13 ds) G := by
  rintro ds G Q E ⟨room, rows, rfl, hr, hl, ok, hQ⟩
  refine ⟨rfl, ?_⟩
  unfold t_fewest
  walk_at "e"
  refine ⟨room, rows, rfl, hr, hl, ok, ?_⟩
  unfold t_fewest_L2
  walk_at "e"
  simp only [keysOf]
  intro c hcn
  unfold t_fewest_L3
  walk_at "e"
  refine dLoop_map Ask.d (l := rows) (fun pre Γ' G' => ∃ (o3 o4 o5 o6 o7 o8 o9 o10 o11 : Option D) (c : Addr) (W : List En), Γ' = G9 room rows (some (.ref c)) o3 o4 o5 o6 o7 o8 o9 o10 o11 ∧ WI room pre W ∧ G' c = some (.dT (W.map En.kd)) ∧ GSub G G' ∧ G c = none)
    ⟨_, _, _, _, _, _, _, _, _, c, [⟨[], 0, []⟩], rfl, ⟨by simp, fun e he => ?_, fun c p k h => ?_⟩, gup_same, GSub.gup hcn, hcn⟩ (fun _ _ _ _ => trivial) ?_ ?_
  · simp at he; subst he; exact .nil
  · generalize hp : ([] : List Ask) = q at h
    cases h with
    | nil => exact ⟨_, List.mem_singleton.mpr rfl, rfl, Nat.le_refl _⟩
    | snoc a _ _ => simp at hp
  · rintro pre a Γ' G' K hpre ⟨o3, o4, o5, o6, o7, o8, o9, o10, o11, c, W, rfl, hW, hc, sub, hcn⟩ hK
    have hpl : pre.length < 40 := by
      have := hpre.length_le
      rw [List.length_append, List.length_singleton] at this
      omega
    unfold t_fewest_L4
    simp only [Ask.d]
    walk_at "e"
    intro q hq
    have hcq : c ≠ q := fun e => by subst e; rw [hc] at hq; cases hq
    refine few_5 hr hpl (by rw [gup_ne hcq]; exact hc) hcq gup_same hW (fun b hb => ok b (hpre.subset hb)) fun o6 o7 o8 o9 o10 o11 L' h' => ?_
    rw [gup_gup]
    exact hK _ _ ⟨_, _, _, _, _, _, _, _, _, q, L', rfl, h', gup_same, sub.gup2 (sub.none hq), sub.none hq⟩
  · rintro Γ' G' ⟨o3, o4, o5, o6, o7, o8, o9, o10, o11, c, W, rfl, hW, hc, sub, hcn⟩
    have hlen : W.length ≤ 256 := by
      have := few_len (room := room) hW.nd fun k hk => by
        obtain ⟨e, he, rfl⟩ := List.mem_map.mp hk
        exact ((hW.so e he).rs ok).1
      rwa [List.length_map] at this
    unfold t_fewest_L17
    walk_at "e"
    simp only [hc]
    intro o us
    try walk_at "e"
    refine ⟨sizeLine_ge (by rw [List.length_map, List.length_map]; omega), ?_⟩
    have el : List.map (fun kv => D.tup (List.map keyD kv.1)) (List.map En.kd W) = W.map fun e => tI e.k := by
      rw [List.map_map]
      exact List.map_congr_left fun e _ => by show D.tup ((keyI e.k).map keyD) = _; rw [keyD_I]; rfl
    rw [el]
    refine dComp_map (fun e : En => tI e.k) En.v (fun _ => true) gup_same (fun e he K1 K2 g1 g2 => ?_) ?_
    · have look : lookD (gup G' c (.lkT o us (W.map En.kd))) c (tI e.k) = some (some e.v) := by
        rw [look_lk gup_same]
        obtain ⟨x, x1, x2, x3⟩ := find_E (W := W) (k := e.k) (List.mem_map.mpr ⟨e, he, rfl⟩)
        rw [x3, nd_uniq hW.nd x1 he x2]; rfl
      walk_at "e"
      simp only [look]
      exact g1 rfl
    · rw [List.nil_append, List.filter_eq_self.mpr fun _ _ => rfl]
      walk_at "e"
      refine ⟨?_, ?_, min_v, fun m hm hmin => ?_⟩
      · rw [plains_all, List.all_eq_true]
        intro x hx
        obtain ⟨e, _, rfl⟩ := List.mem_map.mp hx
        exact (dep_ok (dep_v (e := e))).1
      · intro z
        obtain ⟨c', p, k, hw⟩ := Way.some (room := room) rows
        obtain ⟨e, he, _⟩ := hW.co _ _ _ hw
        rw [List.map_eq_nil_iff.mp z] at he
        simp at he
      · obtain ⟨e, he, rfl⟩ := List.mem_map.mp hm
        simp only [En.v]
        walk_at "e"
        refine ⟨G, sub.gup2 hcn, hQ e.c e.p e.k (hW.so e he) fun c' L' k' hw => ?_⟩
        obtain ⟨e', he', _, hle⟩ := hW.co _ _ _ hw
        refine Nat.le_trans (Nat.le_of_not_lt fun hlt => ?_) hle
        have := hmin e'.v (List.mem_map.mpr ⟨e', he', rfl⟩)
        rw [lt_v hlt] at this
        cases this
end TK

namespace TK
open PySem PySem.Spec L2
/-! ## ways forward; lists that can be shown -/
inductive FW (room : Nat) : List Int → List Ask → Nat → Prop
  | nil {k : List Int} : FW room k [] 0
  | cons {k o : List Int} {a : Ask} {r : List Ask} {m c : Nat} : (m, o) ∈ cand room k a → FW room o r c → FW room k (a :: r) (m + c)
inductive SV (room : Nat) : List Int → List Ask → Nat → Prop
  | nil {k : List Int} : SV room k [] 0
  | cons {k b : List Int} {a : Ask} {r : List Ask} {c : Nat} : shOk room k a b = true → SV room b r c → SV room k (a :: r) (madeI k a + c)
theorem Way.fw {room : Nat} {pre : List Ask} {c : Nat} {p : List (List Int)} {k : List Int} (h : Way room pre c p k) : ∀ r c', FW room k r c' → FW room [] (pre ++ r) (c + c') := by
  induction h with
  | nil => intro r c' h; rw [Nat.zero_add]; exact h
  | snoc a h hm ih =>
    intro r c' h'
    have := ih (a :: r) _ (.cons hm h')
    rw [List.append_assoc, Nat.add_assoc]
    exact this
theorem FW.way {room : Nat} {k : List Int} {r : List Ask} {c' : Nat} (h : FW room k r c') : ∀ pre c p, Way room pre c p k → ∃ p' k', Way room (pre ++ r) (c + c') p' k' := by
  induction h with
  | nil => intro pre c p h; exact ⟨p, _, by rw [List.append_nil]; exact h⟩
  | @cons k o a r m c1 hm _ ih =>
    intro pre c p h
    obtain ⟨p', k', h'⟩ := ih _ _ _ (h.snoc a hm)
    exact ⟨p', k', by rw [List.append_assoc] at h'; rw [← Nat.add_assoc]; exact h'⟩
theorem way_fw {room : Nat} {rows : List Ask} {c : Nat} {p : List (List Int)} {k : List Int} (h : Way room rows c p k) : FW room [] rows c := by
  have := h.fw [] 0 .nil
  rwa [List.append_nil, Nat.add_zero] at this
theorem fw_way {room : Nat} {rows : List Ask} {c : Nat} (h : FW room [] rows c) : ∃ p k, Way room rows c p k := by
  obtain ⟨p, k, h⟩ := h.way [] 0 [] .nil
  rw [List.nil_append, Nat.zero_add] at h
  exact ⟨p, k, h⟩
theorem sh_iff {room : Nat} {k b : List Int} {a : Ask} : shOk room k a b = true ↔ b.Pairwise (· < ·) ∧ b.length ≤ room ∧ ∀ x ∈ b, x ∈ mayI k a := by
  unfold shOk
  simp only [Bool.and_eq_true, decide_eq_true_eq, List.all_eq_true]
  exact and_assoc
theorem may_ask {k : List Int} {n : Nat} {x : Int} : x ∈ mayI k (true, n) ↔ x ∈ k ∨ x = n := by
  unfold mayI
  by_cases h : (n : Int) ∈ k
  · simp [h]; intro e; subst e; exact h
  · simp [h]
theorem may_gone {k : List Int} {n : Nat} {x : Int} : x ∈ mayI k (false, n) ↔ x ∈ k ∧ x ≠ n := by
  unfold mayI; simp [dropI]
theorem made_ask {k : List Int} {n : Nat} : madeI k (true, n) = if (n : Int) ∈ k then 0 else 1 := by
  unfold madeI; by_cases h : (n : Int) ∈ k <;> simp [h]
theorem made_gone {k : List Int} {n : Nat} : madeI k (false, n) = 0 := by simp [madeI]
theorem one_mem {k o : List Int} {n : Int} {room : Nat} (h : o ∈ wOne k n room) : ∀ x ∈ o, x ∈ k ∨ x = n := by
  intro x hx
  unfold wOne at h
  split at h
  · simp at h
    rcases h with rfl | rfl
    · exact .inl hx
    · rcases List.mem_append.mp ((sortI_perm _).mem_iff.mp hx) with z | z
      · exact .inl z
      · simp at z; exact .inr z
  · rcases List.mem_cons.mp h with rfl | h
    · exact .inl hx
    · obtain ⟨y, _, rfl⟩ := List.mem_map.mp h
      rcases List.mem_append.mp ((sortI_perm _).mem_iff.mp hx) with z | z
      · exact .inl (drop_mem.mp z).1
      · simp at z; exact .inr z
theorem cand_sh {room m : Nat} {k o : List Int} {a : Ask} (h : Rs room k) (oka : a.ok) (hm : (m, o) ∈ cand room k a) : shOk room k a o = true ∧ m = madeI k a := by
  have hr := h.cand oka hm
  obtain ⟨w, n⟩ := a
  unfold cand at hm
  cases w with
  | true =>
    simp only [if_true] at hm
    by_cases hn : (n : Int) ∈ k
    · rw [if_pos hn] at hm
      simp at hm
      obtain ⟨rfl, rfl⟩ := hm
      exact ⟨sh_iff.mpr ⟨hr.up, hr.ln, fun x hx => may_ask.mpr (.inl hx)⟩, by rw [made_ask, if_pos hn]⟩
    · rw [if_neg hn] at hm
      obtain ⟨o', ho, e⟩ := List.mem_map.mp hm
      cases e
      exact ⟨sh_iff.mpr ⟨hr.up, hr.ln, fun x hx => may_ask.mpr (one_mem ho x hx)⟩, by rw [made_ask, if_neg hn]⟩
  | false =>
    simp at hm
    obtain ⟨rfl, rfl⟩ := hm
    exact ⟨sh_iff.mpr ⟨hr.up, hr.ln, fun x hx => may_gone.mpr (drop_mem.mp hx)⟩, by rw [made_gone]⟩
theorem FW.sv {room : Nat} {k : List Int} {r : List Ask} {c : Nat} (h : FW room k r c) : Rs room k → (∀ a ∈ r, a.ok) → SV room k r c := by
  induction h with
  | nil => intro _ _; exact .nil
  | cons hm _ ih =>
    intro hr ok
    obtain ⟨h1, h2⟩ := cand_sh hr (ok _ (by simp)) hm
    rw [h2]
    exact .cons h1 (ih (hr.cand (ok _ (by simp)) hm) fun a ha => ok a (by simp [ha]))
/-- more kept is no worse -/
theorem SV.dom {room : Nat} {b : List Int} {r : List Ask} {c : Nat} (h : SV room b r c) : ∀ k, (∀ x ∈ b, x ∈ k) → Rs room k → (∀ a ∈ r, a.ok) → ∃ c', c' ≤ c ∧ FW room k r c' := by
  induction h with
  | nil => intro k _ _ _; exact ⟨0, Nat.le_refl _, .nil⟩
  | @cons b b' a r c hs _ ih =>
    intro k hb hr ok
    obtain ⟨up, ln, mem⟩ := sh_iff.mp hs
    have oka := ok a (by simp)
    have okr : ∀ x ∈ r, x.ok := fun x hx => ok x (by simp [hx])
    have go : ∀ m o, (m, o) ∈ cand room k a → m ≤ madeI b a → (∀ x ∈ b', x ∈ o) → ∃ c', c' ≤ madeI b a + c ∧ FW room k (a :: r) c' := fun m o hm hle hsub => by
      obtain ⟨c', h1, h2⟩ := ih o hsub (hr.cand oka hm) okr
      exact ⟨m + c', by omega, .cons hm h2⟩
    obtain ⟨w, n⟩ := a
    cases w with
    | false =>
      refine go 0 (dropI n k) (by simp [cand]) (Nat.zero_le _) fun x hx => ?_
      obtain ⟨h1, h2⟩ := may_gone.mp (mem x hx)
      exact drop_mem.mpr ⟨hb x h1, h2⟩
    | true =>
      have mm : ∀ x ∈ b', x ∈ b ∨ x = n := fun x hx => may_ask.mp (mem x hx)
      by_cases hn : (n : Int) ∈ k
      · refine go 0 k (by simp [cand, hn]) (Nat.zero_le _) fun x hx => ?_
        rcases mm x hx with h | h
        · exact hb x h
        · rw [h]; exact hn
      · have hnb : (n : Int) ∉ b := fun z => hn (hb _ z)
        have m1 : 1 ≤ madeI b (true, n) := by rw [made_ask, if_neg hnb]; exact Nat.le_refl _
        have pick : ∀ o, o ∈ wOne k n room → (∀ x ∈ b', x ∈ o) → ∃ c', c' ≤ madeI b (true, n) + c ∧ FW room k ((true, n) :: r) c' := fun o ho => go 1 o (by
          unfold cand
          rw [if_pos rfl, if_neg hn]
          exact List.mem_map.mpr ⟨o, ho, rfl⟩) m1
        by_cases hnb' : (n : Int) ∈ b'
        · by_cases hl : k.length < room
          · refine pick (sortI (k ++ [(n : Int)])) (by unfold wOne; rw [if_pos hl]; simp) fun x hx => (sortI_perm _).mem_iff.mpr ?_
            rcases mm x hx with h | h
            · simp [hb x h]
            · simp [h]
          · have : ∃ x, x ∈ k ∧ x ∉ b' := Classical.byContradiction fun hno => by
              have hall : ∀ x ∈ k, x ∈ b' := fun x hx => Classical.byContradiction fun z => hno ⟨x, hx, z⟩
              have nd : (k ++ [(n : Int)]).Nodup := by
                rw [List.nodup_append]
                exact ⟨up_nd hr.up, by simp, fun x hx y hy => by simp at hy; subst hy; exact fun z => hn (z ▸ hx)⟩
              have := nodup_lenG nd (ns := b') fun x hx => by
                rcases List.mem_append.mp hx with z | z
                · exact hall x z
                · simp at z; subst z; exact hnb'
              rw [List.length_append] at this
              simp at this
              omega
            obtain ⟨x, hx, hxb⟩ := this
            refine pick (sortI (dropI x k ++ [(n : Int)])) (by unfold wOne; rw [if_neg hl]; exact List.mem_cons_of_mem _ (List.mem_map.mpr ⟨x, hx, rfl⟩)) fun y hy => (sortI_perm _).mem_iff.mpr ?_
            rcases mm y hy with h | h
            · exact List.mem_append.mpr (.inl (drop_mem.mpr ⟨hb y h, fun e => hxb (e ▸ hy)⟩))
            · simp [h]
        · refine pick k (by unfold wOne; split <;> simp) fun x hx => ?_
          rcases mm x hx with h | h
          · exact hb x h
          · subst h; exact absurd hx hnb'
theorem rs_nil {room : Nat} : Rs room [] := ⟨.nil, by simp, Nat.zero_le _⟩
/-- the least -/
def Least (room : Nat) (rows : List Ask) (c : Nat) : Prop := FW room [] rows c ∧ ∀ c', SV room [] rows c' → c ≤ c'
theorem least_of {room : Nat} {rows : List Ask} {c : Nat} {p : List (List Int)} {k : List Int} (ok : ∀ a ∈ rows, a.ok) (h : Way room rows c p k) (hm : ∀ c' L' k', Way room rows c' L' k' → c ≤ c') : Least room rows c := by
  refine ⟨way_fw h, fun c' hs => ?_⟩
  obtain ⟨c2, h1, h2⟩ := hs.dom [] (by simp) rs_nil ok
  obtain ⟨p', k', h3⟩ := fw_way h2
  exact Nat.le_trans (hm _ _ _ h3) h1
theorem least_eq {room : Nat} {rows : List Ask} {c c' : Nat} (ok : ∀ a ∈ rows, a.ok) (h : Least room rows c) (h' : Least room rows c') : c = c' :=
  Nat.le_antisymm (h.2 _ (h'.1.sv rs_nil ok)) (h'.2 _ (h.1.sv rs_nil ok))
theorem SV.more {room room' : Nat} {b : List Int} {r : List Ask} {c : Nat} (h : SV room b r c) (hle : room ≤ room') : SV room' b r c := by
  induction h with
  | nil => exact .nil
  | cons hs _ ih =>
    obtain ⟨h1, h2, h3⟩ := sh_iff.mp hs
    exact .cons (sh_iff.mpr ⟨h1, by omega, h3⟩) ih
theorem least_mono {room room' : Nat} {rows : List Ask} {c c' : Nat} (ok : ∀ a ∈ rows, a.ok) (hle : room ≤ room') (h : Least room rows c) (h' : Least room' rows c') : c' ≤ c := h'.2 _ ((h.1.sv rs_nil ok).more hle)
/-- the lists of a way are shown with its count -/
theorem way_shown {room : Nat} {rows : List Ask} {c : Nat} {p : List (List Int)} {k : List Int} (h : Way room rows c p k) (ok : ∀ a ∈ rows, a.ok) : shR room (rows.zip p) = Option.some (c, k) := by
  induction h with
  | nil => rfl
  | @snoc pre c m p k o a h hm ih =>
    have ok' : ∀ b ∈ pre, b.ok := fun b hb => ok b (List.mem_append.mpr (.inl hb))
    obtain ⟨rs, _, pl, _⟩ := h.rs ok'
    have e : (pre ++ [a]).zip (p ++ [o]) = pre.zip p ++ [(a, o)] := by rw [List.zip_append pl.symm]; rfl
    rw [e, shR_snoc, ih ok']
    obtain ⟨h1, h2⟩ := cand_sh rs (ok a (by simp)) hm
    simp only [shS, h1, if_true, h2]
/-! ## all tried -/
def trO (k : List Int) (n : Int) : Option Int → List Int
  | some x => sortI (dropI x k ++ [n])
  | none => sortI (k ++ [n])
def optsT (k : List Int) : List (Option Int) := k.map some ++ [none]
def foldT (room : Nat) (k : List Int) (n : Int) (f : List Int → Nat) (l : List (Option Int)) (b : Nat) : Nat := l.foldl (fun best o => if (trO k n o).length ≤ room then min best (f (trO k n o)) else best) b
def trM (room : Nat) : List Ask → List Int → Nat
  | [], _ => 0
  | a :: r, k => if a.1 then (if (a.2 : Int) ∈ k then trM room r k else foldT room k a.2 (trM room r) (optsT k) (trM room r k) + 1) else trM room r (dropI a.2 k)
theorem foldT_le {room : Nat} {k : List Int} {n : Int} {f : List Int → Nat} : ∀ (l : List (Option Int)) (b : Nat), foldT room k n f l b ≤ b ∧ ∀ o ∈ l, (trO k n o).length ≤ room → foldT room k n f l b ≤ f (trO k n o)
  | [], b => ⟨Nat.le_refl _, by simp⟩
  | x :: l, b => by
    have e : foldT room k n f (x :: l) b = foldT room k n f l (if (trO k n x).length ≤ room then min b (f (trO k n x)) else b) := rfl
    rw [e]
    obtain ⟨h1, h2⟩ := foldT_le l (if (trO k n x).length ≤ room then min b (f (trO k n x)) else b)
    refine ⟨Nat.le_trans h1 ?_, fun o ho hc => ?_⟩
    · split <;> omega
    · rcases List.mem_cons.mp ho with rfl | ho
      · refine Nat.le_trans h1 ?_
        rw [if_pos hc]; omega
      · exact h2 o ho hc
theorem foldT_is {room : Nat} {k : List Int} {n : Int} {f : List Int → Nat} : ∀ (l : List (Option Int)) (b : Nat), foldT room k n f l b = b ∨ ∃ o, o ∈ l ∧ (trO k n o).length ≤ room ∧ foldT room k n f l b = f (trO k n o)
  | [], b => .inl rfl
  | x :: l, b => by
    have e : foldT room k n f (x :: l) b = foldT room k n f l (if (trO k n x).length ≤ room then min b (f (trO k n x)) else b) := rfl
    rw [e]
    rcases foldT_is l (if (trO k n x).length ≤ room then min b (f (trO k n x)) else b) with h | ⟨o, h1, h2, h3⟩
    · rw [h]
      split
      · rename_i hc
        by_cases hb : b ≤ f (trO k n x)
        · exact .inl (by omega)
        · exact .inr ⟨x, by simp, hc, by omega⟩
      · exact .inl rfl
    · exact .inr ⟨o, by simp [h1], h2, h3⟩
theorem tr_le {room : Nat} {k : List Int} {r : List Ask} {c : Nat} (h : FW room k r c) : Rs room k → (∀ a ∈ r, a.ok) → trM room r k ≤ c := by
  induction h with
  | nil => intro _ _; exact Nat.zero_le _
  | @cons k o a r m c hm _ ih =>
    intro hr ok
    have oka := ok a (by simp)
    have ih := ih (hr.cand oka hm) fun x hx => ok x (by simp [hx])
    obtain ⟨w, n⟩ := a
    unfold cand at hm
    unfold trM
    cases w with
    | false =>
      simp at hm
      obtain ⟨rfl, rfl⟩ := hm
      simp only [Bool.false_eq_true, if_false]
      omega
    | true =>
      simp only [if_true] at hm ⊢
      by_cases hn : (n : Int) ∈ k
      · rw [if_pos hn] at hm ⊢
        simp at hm
        obtain ⟨rfl, rfl⟩ := hm
        omega
      · rw [if_neg hn] at hm ⊢
        obtain ⟨o', ho, e⟩ := List.mem_map.mp hm
        cases e
        obtain ⟨h1, h2⟩ := foldT_le (room := room) (k := k) (n := n) (f := trM room r) (optsT k) (trM room r k)
        have hle : foldT room k n (trM room r) (optsT k) (trM room r k) ≤ trM room r o := by
          unfold wOne at ho
          split at ho
          · rename_i hl
            simp at ho
            rcases ho with rfl | rfl
            · exact h1
            · exact h2 none (by simp [optsT]) (by show (sortI (k ++ [(n : Int)])).length ≤ room; rw [(sortI_perm _).length_eq, List.length_append]; simp; omega)
          · rcases List.mem_cons.mp ho with rfl | ho
            · exact h1
            · obtain ⟨x, hx, rfl⟩ := List.mem_map.mp ho
              refine h2 (some x) (by simp [optsT, hx]) ?_
              show (sortI (dropI x k ++ [(n : Int)])).length ≤ room
              rw [(sortI_perm _).length_eq, List.length_append]
              have := drop_lt hx
              have := hr.ln
              simp; omega
        omega
theorem trO_rs {room : Nat} {k : List Int} {n : Int} {o : Option Int} (hr : Rs room k) (hn : n ∉ k) (n0 : 0 ≤ n) (n8 : n < 8) (hl : (trO k n o).length ≤ room) : Rs room (trO k n o) ∧ ∀ x ∈ trO k n o, x ∈ k ∨ x = n := by
  cases o with
  | none =>
    have hl' : k.length < room := by
      have : (sortI (k ++ [n])).length ≤ room := hl
      rw [(sortI_perm _).length_eq, List.length_append] at this
      simp at this; omega
    exact ⟨sort_rs (up_nd hr.up) hn hr.bd n0 n8 hl', fun x hx => by
      rcases List.mem_append.mp ((sortI_perm _).mem_iff.mp hx) with z | z
      · exact .inl z
      · simp at z; exact .inr z⟩
  | some y =>
    have hl' : (dropI y k).length < room := by
      have : (sortI (dropI y k ++ [n])).length ≤ room := hl
      rw [(sortI_perm _).length_eq, List.length_append] at this
      simp at this; omega
    exact ⟨sort_rs ((up_nd hr.up).filter _) (fun z => hn (drop_mem.mp z).1) (fun x hx => hr.bd x (drop_mem.mp hx).1) n0 n8 hl', fun x hx => by
      rcases List.mem_append.mp ((sortI_perm _).mem_iff.mp hx) with z | z
      · exact .inl (drop_mem.mp z).1
      · simp at z; exact .inr z⟩
theorem tr_sv {room : Nat} : ∀ (r : List Ask) (k : List Int), Rs room k → (∀ a ∈ r, a.ok) → SV room k r (trM room r k)
  | [], _, _, _ => .nil
  | a :: r, k, hr, ok => by
    have oka : a.2 < 8 := ok a (by simp)
    have okr : ∀ x ∈ r, x.ok := fun x hx => ok x (by simp [hx])
    obtain ⟨w, n⟩ := a
    unfold trM
    cases w with
    | false =>
      simp only [Bool.false_eq_true, if_false]
      have h := tr_sv r (dropI n k) ⟨hr.up.filter _, fun x hx => hr.bd x (drop_mem.mp hx).1, Nat.le_trans drop_len hr.ln⟩ okr
      have := SV.cons (a := (false, n)) (k := k) (sh_iff.mpr ⟨hr.up.filter _, Nat.le_trans drop_len hr.ln, fun x hx => may_gone.mpr (drop_mem.mp hx)⟩) h
      rwa [made_gone, Nat.zero_add] at this
    | true =>
      simp only [if_true]
      have stay : shOk room k (true, n) k = true := sh_iff.mpr ⟨hr.up, hr.ln, fun x hx => may_ask.mpr (.inl hx)⟩
      by_cases hn : (n : Int) ∈ k
      · rw [if_pos hn]
        have := SV.cons (a := (true, n)) stay (tr_sv r k hr okr)
        rwa [made_ask, if_pos hn, Nat.zero_add] at this
      · rw [if_neg hn]
        rcases foldT_is (room := room) (k := k) (n := n) (f := trM room r) (optsT k) (trM room r k) with h | ⟨o, _, h2, h3⟩
        · rw [h]
          have := SV.cons (a := (true, n)) stay (tr_sv r k hr okr)
          rwa [made_ask, if_neg hn, Nat.add_comm] at this
        · rw [h3]
          obtain ⟨h4, h5⟩ := trO_rs hr hn (by omega) (by simp at oka; omega) h2
          have := SV.cons (a := (true, n)) (sh_iff.mpr ⟨h4.up, h4.ln, fun x hx => may_ask.mpr (h5 x hx)⟩) (tr_sv r _ h4 okr)
          rwa [made_ask, if_neg hn, Nat.add_comm] at this
theorem tr_least {room : Nat} {rows : List Ask} {c : Nat} (ok : ∀ a ∈ rows, a.ok) (h : Least room rows c) : trM room rows [] = c :=
  Nat.le_antisymm (tr_le h.1 rs_nil ok) (h.2 _ (tr_sv rows [] rs_nil ok))
/-! ## what is asked for latest goes -/
def nxt : List Ask → Int → Nat
  | [], _ => 99
  | a :: r, x => if (a.2 : Int) = x then (if a.1 then 0 else 99) else if nxt r x = 99 then 99 else nxt r x + 1
def Ev (r : List Ask) (k : List Int) (g : Int) : Prop := g ∈ k ∧ ∀ x ∈ k, nxt r x ≤ nxt r g
def soK (k : List Int) (a : Ask) : List Int := dropI a.2 k ++ if a.1 then [(a.2 : Int)] else []
inductive SO (room : Nat) : List Int → List Ask → Nat → Prop
  | nil {k : List Int} : SO room k [] 0
  | stay {k : List Int} {a : Ask} {r : List Ask} {c : Nat} : (soK k a).length ≤ room → SO room (soK k a) r c → SO room k (a :: r) (madeI k a + c)
  | go {k : List Int} {a : Ask} {r : List Ask} {c : Nat} {g : Int} : room < (soK k a).length → Ev r (soK k a) g → SO room (dropI g (soK k a)) r c → SO room k (a :: r) (madeI k a + c)
theorem drop_nd {n : Int} {k : List Int} (h : k.Nodup) : (dropI n k).Nodup := h.filter _
theorem so_nd {k : List Int} {a : Ask} (h : k.Nodup) : (soK k a).Nodup := by
  unfold soK
  rw [List.nodup_append]
  refine ⟨drop_nd h, by split <;> simp, fun x hx y hy => ?_⟩
  split at hy
  · simp at hy; subst hy; exact (drop_mem.mp hx).2
  · simp at hy
theorem so_mem {k : List Int} {a : Ask} {x : Int} (h : x ∈ soK k a) : x ∈ mayI k a := by
  obtain ⟨w, n⟩ := a
  unfold soK at h
  cases w with
  | true =>
    refine may_ask.mpr ?_
    simp at h
    rcases h with h | h
    · exact .inl (drop_mem.mp h).1
    · exact .inr h
  | false =>
    simp at h
    exact may_gone.mpr (drop_mem.mp h)
theorem so_len {k : List Int} {a : Ask} : (soK k a).length ≤ k.length + 1 := by
  unfold soK
  rw [List.length_append]
  have := drop_len (n := (a.2 : Int)) (k := k)
  split <;> simp <;> omega
theorem drop_eq {n : Int} : ∀ {k : List Int}, k.Nodup → n ∈ k → (dropI n k).length + 1 = k.length
  | [], _, h => by simp at h
  | x :: k, nd, h => by
    rw [List.nodup_cons] at nd
    unfold dropI
    by_cases e : x = n
    · rw [List.filter_cons_of_neg (by simp [e])]
      have : k.filter (fun y => !decide (y = n)) = k := List.filter_eq_self.mpr fun y hy => by
        have : y ≠ n := fun z => nd.1 (by rw [e, ← z]; exact hy)
        simp [this]
      rw [this, List.length_cons]
    · rw [List.filter_cons_of_pos (by simp [e])]
      have := drop_eq nd.2 (by rcases List.mem_cons.mp h with z | z; exact absurd z.symm e; exact z)
      unfold dropI at this
      rw [List.length_cons, List.length_cons, this]
/-- it can be shown -/
theorem SO.sv {room : Nat} {k : List Int} {r : List Ask} {c : Nat} (h : SO room k r c) : ∀ b, (∀ x, x ∈ b ↔ x ∈ k) → k.Nodup → k.length ≤ room → SV room b r c := by
  induction h with
  | nil => intro b _ _ _; exact .nil
  | @stay k a r c hl _ ih =>
    intro b hb nd hk
    have e : madeI k a = madeI b a := by unfold madeI; rw [decide_eq_decide.mpr (hb _)]
    rw [e]
    have nd2 := so_nd (a := a) nd
    refine .cons (sh_iff.mpr ⟨up_of ((sortI_perm _).nodup_iff.mpr nd2) (sortI_pw _), by rw [(sortI_perm _).length_eq]; exact hl, fun x hx => ?_⟩) (ih (sortI (soK k a)) (fun x => (sortI_perm _).mem_iff) nd2 hl)
    have := so_mem ((sortI_perm _).mem_iff.mp hx)
    obtain ⟨w, n⟩ := a
    cases w with
    | true => exact may_ask.mpr ((may_ask.mp this).imp_left (hb x).mpr)
    | false => exact may_gone.mpr ⟨(hb x).mpr (may_gone.mp this).1, (may_gone.mp this).2⟩
  | @go k a r c g hl ev _ ih =>
    intro b hb nd hk
    have e : madeI k a = madeI b a := by unfold madeI; rw [decide_eq_decide.mpr (hb _)]
    rw [e]
    have nd2 := drop_nd (n := g) (so_nd (a := a) nd)
    have ln : (dropI g (soK k a)).length ≤ room := by
      have := drop_lt ev.1
      have := so_len (k := k) (a := a)
      omega
    refine .cons (sh_iff.mpr ⟨up_of ((sortI_perm _).nodup_iff.mpr nd2) (sortI_pw _), by rw [(sortI_perm _).length_eq]; exact ln, fun x hx => ?_⟩) (ih (sortI (dropI g (soK k a))) (fun x => (sortI_perm _).mem_iff) nd2 ln)
    have := so_mem (drop_mem.mp ((sortI_perm _).mem_iff.mp hx)).1
    obtain ⟨w, n⟩ := a
    cases w with
    | true => exact may_ask.mpr ((may_ask.mp this).imp_left (hb x).mpr)
    | false => exact may_gone.mpr ⟨(hb x).mpr (may_gone.mp this).1, (may_gone.mp this).2⟩
def cnt (r : List Ask) (k : List Int) (t : Nat) : Nat := (k.filter fun x => decide (nxt r x < t)).length
theorem nxt_lt {r : List Ask} {x : Int} (h : nxt r x ≠ 99) : nxt r x < r.length := by
  induction r with
  | nil => exact absurd rfl h
  | cons a r ih =>
    unfold nxt at h ⊢
    split
    · rename_i e
      rw [if_pos e] at h
      split
      · simp
      · rename_i w; rw [if_neg w] at h; exact absurd rfl h
    · rename_i e
      rw [if_neg e] at h
      split
      · rename_i w; rw [if_pos w] at h; exact absurd rfl h
      · rename_i w
        have := ih w
        rw [List.length_cons]; omega
theorem cnt_cons {a : Ask} {r : List Ask} {t : Nat} (ht : t < 99) (hr : r.length ≤ 40) : ∀ {k : List Int}, k.Nodup → cnt (a :: r) k (t + 1) = (if a.1 && decide ((a.2 : Int) ∈ k) then 1 else 0) + cnt r (dropI a.2 k) t
  | [], _ => by simp [cnt, dropI]
  | x :: k, nd => by
    rw [List.nodup_cons] at nd
    have ih := cnt_cons (a := a) (r := r) ht hr nd.2
    unfold cnt at ih ⊢
    by_cases e : x = a.2
    · have hd : dropI a.2 (x :: k) = dropI a.2 k := by unfold dropI; rw [List.filter_cons_of_neg (by simp [e])]
      have hk : (a.2 : Int) ∉ k := fun z => nd.1 (e ▸ z)
      rw [hd]
      have hn : nxt (a :: r) x = if a.1 then 0 else 99 := by unfold nxt; rw [if_pos e.symm]
      cases hw : a.1 with
      | true =>
        rw [List.filter_cons_of_pos (by rw [hn, hw]; simp), List.length_cons, ih]
        simp [hw, hk, e]
        omega
      | false =>
        rw [List.filter_cons_of_neg (by rw [hn, hw]; simp; omega), ih]
        simp [hw]
    · have hd : dropI a.2 (x :: k) = x :: dropI a.2 k := by unfold dropI; rw [List.filter_cons_of_pos (by simp [e])]
      have hm : decide ((a.2 : Int) ∈ x :: k) = decide ((a.2 : Int) ∈ k) := decide_eq_decide.mpr (by simp; intro z; exact absurd z.symm e)
      rw [hd, hm]
      have hn : nxt (a :: r) x = if nxt r x = 99 then 99 else nxt r x + 1 := by
        show (if (a.2 : Int) = x then (if a.1 then 0 else 99) else if nxt r x = 99 then 99 else nxt r x + 1) = _
        rw [if_neg (fun z => e z.symm)]
      have hiff : nxt (a :: r) x < t + 1 ↔ nxt r x < t := by
        rw [hn]
        split
        · omega
        · omega
      by_cases hx : nxt r x < t
      · rw [List.filter_cons_of_pos (by simpa using hiff.mpr hx), List.filter_cons_of_pos (by simpa using hx), List.length_cons, List.length_cons, ih]
        omega
      · rw [List.filter_cons_of_neg (by simpa using fun z => hx (hiff.mp z)), List.filter_cons_of_neg (by simpa using hx), ih]
theorem cnt_app {r : List Ask} {k l : List Int} {t : Nat} : cnt r (k ++ l) t = cnt r k t + cnt r l t := by unfold cnt; rw [List.filter_append, List.length_append]
theorem cnt_sub {r : List Ask} {k l : List Int} {t : Nat} (nd : k.Nodup) (h : ∀ x ∈ k, x ∈ l) : cnt r k t ≤ cnt r l t := by
  unfold cnt
  refine nodup_lenG (nd.filter _) fun x hx => ?_
  rw [List.mem_filter] at hx ⊢
  exact ⟨h x hx.1, hx.2⟩
theorem cnt_le {r : List Ask} {k : List Int} {t : Nat} : cnt r k t ≤ k.length := List.length_filter_le _ _
/-- what goes latest is the best -/
theorem belady {room : Nat} {k : List Int} {r : List Ask} {cs : Nat} (h : SO room k r cs) : ∀ (b : List Int) (c d : Nat), SV room b r c → k.Nodup → b.Nodup → k.length ≤ room → b.length ≤ room → r.length ≤ 40 → (∀ t, t ≤ r.length → cnt r b t ≤ cnt r k t + d) → cs ≤ c + d := by
  have key : ∀ (k b b' k' : List Int) (a : Ask) (r : List Ask) (c c1 d : Nat), k.Nodup → b.Nodup → shOk room b a b' = true → r.length + 1 ≤ 40 → (∀ t, t ≤ r.length + 1 → cnt (a :: r) b t ≤ cnt (a :: r) k t + d) →
      (∀ t, t ≤ r.length → cnt r b' t ≤ room → (∀ e, cnt r b' t ≤ cnt r (soK k a) t + e → cnt r b' t ≤ cnt r k' t + e)) →
      (∀ d', (∀ t, t ≤ r.length → cnt r b' t ≤ cnt r k' t + d') → c1 ≤ c + d') → madeI k a + c1 ≤ madeI b a + c + d := by
    intro k b b' k' a r c c1 d nk nb hs hl hd hk' ih
    obtain ⟨up, ln, mem⟩ := sh_iff.mp hs
    have nb' := up_nd up
    have hcn : ∀ t, t ≤ r.length → (if a.1 && decide ((a.2 : Int) ∈ b) then 1 else 0) + cnt r (dropI a.2 b) t ≤ (if a.1 && decide ((a.2 : Int) ∈ k) then 1 else 0) + cnt r (dropI a.2 k) t + d := fun t ht => by
      have := hd (t + 1) (by omega)
      rwa [cnt_cons (by omega) (by omega) nb, cnt_cons (by omega) (by omega) nk] at this
    have hb' : ∀ t, cnt r b' t ≤ cnt r (dropI a.2 b) t + cnt r (if a.1 then [(a.2 : Int)] else []) t := fun t => by
      rw [← cnt_app]
      refine cnt_sub nb' fun x hx => ?_
      have hm := mem x hx
      obtain ⟨w, n⟩ := a
      cases w with
      | true =>
        rcases may_ask.mp hm with z | z
        · by_cases e : x = n
          · simp [e]
          · exact List.mem_append.mpr (.inl (drop_mem.mpr ⟨z, e⟩))
        · simp [z]
      | false => exact List.mem_append.mpr (.inl (drop_mem.mpr (may_gone.mp hm)))
    have hso : ∀ t, cnt r (soK k a) t = cnt r (dropI a.2 k) t + cnt r (if a.1 then [(a.2 : Int)] else []) t := fun t => by unfold soK; rw [cnt_app]
    have fin : ∀ d', (∀ t, t ≤ r.length → cnt r (dropI a.2 b) t ≤ cnt r (dropI a.2 k) t + d') → c1 ≤ c + d' := fun d' h => ih d' fun t ht => by
      refine hk' t ht (Nat.le_trans cnt_le ln) d' ?_
      have := hb' t
      have := hso t
      have := h t ht
      omega
    obtain ⟨w, n⟩ := a
    cases w with
    | false =>
      rw [made_gone, made_gone]
      have := fin d fun t ht => by have := hcn t ht; simpa using this
      omega
    | true =>
      rw [made_ask, made_ask]
      by_cases h1 : (n : Int) ∈ b <;> by_cases h2 : (n : Int) ∈ k
      · rw [if_pos h1, if_pos h2]
        have := fin d fun t ht => by
          have := hcn t ht
          simp only [h1, h2, decide_true, Bool.and_self, if_true] at this
          show cnt r (dropI n b) t ≤ cnt r (dropI n k) t + d
          omega
        omega
      · rw [if_pos h1, if_neg h2]
        have h0 := hcn 0 (Nat.zero_le _)
        have z0 : ∀ l : List Int, cnt r l 0 = 0 := fun l => by unfold cnt; simp
        simp [h1, h2, z0] at h0
        have := fin (d - 1) fun t ht => by
          have := hcn t ht
          simp only [h1, h2, decide_true, decide_false, Bool.and_self, Bool.and_false, if_true, Bool.false_eq_true, if_false] at this
          show cnt r (dropI n b) t ≤ cnt r (dropI n k) t + (d - 1)
          omega
        omega
      · rw [if_neg h1, if_pos h2]
        have := fin (d + 1) fun t ht => by
          have := hcn t ht
          simp only [h1, h2, decide_true, decide_false, Bool.and_self, Bool.and_false, if_true, Bool.false_eq_true, if_false] at this
          show cnt r (dropI n b) t ≤ cnt r (dropI n k) t + (d + 1)
          omega
        omega
      · rw [if_neg h1, if_neg h2]
        have := fin d fun t ht => by have := hcn t ht; simpa [h1, h2] using this
        omega
  induction h with
  | nil => intro b c d _ _ _ _ _ _ _; exact Nat.zero_le _
  | @stay k a r c1 hl _ ih =>
    intro b c d hs nk nb hk hb hr hd
    cases hs with
    | cons h1 h2 =>
      obtain ⟨up, ln, _⟩ := sh_iff.mp h1
      exact key k b _ (soK k a) a r _ c1 d nk nb h1 (by simpa using hr) (by simpa using hd) (fun t ht _ e h => h) fun d' h => ih _ _ d' h2 (so_nd nk) (up_nd up) hl ln (by simp at hr; omega) h
  | @go k a r c1 g hl ev _ ih =>
    intro b c d hs nk nb hk hb hr hd
    cases hs with
    | cons h1 h2 =>
      obtain ⟨up, ln, _⟩ := sh_iff.mp h1
      have e1 := drop_eq (so_nd (a := a) nk) ev.1
      have e2 := so_len (k := k) (a := a)
      refine key k b _ (dropI g (soK k a)) a r _ c1 d nk nb h1 (by simpa using hr) (by simpa using hd) (fun t ht hroom e h => ?_) fun d' h => ih _ _ d' h2 (drop_nd (so_nd nk)) (up_nd up) (by omega) ln (by simp at hr; omega) h
      by_cases hg : nxt r g < t
      · have : cnt r (dropI g (soK k a)) t = (dropI g (soK k a)).length := by
          unfold cnt
          rw [List.filter_eq_self.mpr fun x hx => by
            have := ev.2 x (drop_mem.mp hx).1
            simp; omega]
        omega
      · have : cnt r (soK k a) t ≤ cnt r (dropI g (soK k a)) t := by
          unfold cnt
          refine nodup_lenG ((so_nd nk).filter _) fun x hx => ?_
          rw [List.mem_filter] at hx ⊢
          refine ⟨drop_mem.mpr ⟨hx.1, fun z => hg ?_⟩, hx.2⟩
          rw [← z]; simpa using hx.2
        omega
theorem so_least {room : Nat} {rows : List Ask} {c cs : Nat} (ok : ∀ a ∈ rows, a.ok) (hl : rows.length ≤ 40) (h : Least room rows c) (hs : SO room [] rows cs) : cs = c :=
  Nat.le_antisymm (by
    have := belady hs [] c 0 (h.1.sv rs_nil ok) (by simp) (by simp) (Nat.zero_le _) (Nat.zero_le _) hl fun t _ => Nat.le_add_right _ _
    simpa using this) (h.2 _ (hs.sv [] (fun x => Iff.rfl) (by simp) (Nat.zero_le _)))
end TK

namespace TK
open PySem PySem.Spec L2
/-! ## by_last, plain -/
theorem blK_mem {room x : Nat} {ks : List Nat} {a : Ask} (h : x ∈ blK room ks a) : (x ∈ ks ∧ x ≠ a.2) ∨ (a.1 = true ∧ x = a.2) := by
  unfold blK cutK at h
  have h := List.mem_of_mem_drop h
  rcases List.mem_append.mp h with z | z
  · simp at z; exact .inl z
  · cases hw : a.1 with
    | true => rw [hw] at z; simp at z; exact .inr ⟨rfl, z⟩
    | false => rw [hw] at z; simp at z
theorem pre_nd {ks : List Nat} {a : Ask} (h : ks.Nodup) : (ks.filter (fun x => !decide (x = a.2)) ++ if a.1 then [a.2] else []).Nodup := by
  rw [List.nodup_append]
  refine ⟨h.filter _, by cases a.1 <;> simp, fun x hx y hy => ?_⟩
  simp at hx
  cases hw : a.1 with
  | true => rw [hw] at hy; simp at hy; subst hy; exact hx.2
  | false => rw [hw] at hy; simp at hy
theorem blK_nd {room : Nat} {ks : List Nat} {a : Ask} (h : ks.Nodup) : (blK room ks a).Nodup := (pre_nd h).sublist (List.drop_sublist _ _)
theorem pre_bd {ks : List Nat} {a : Ask} (h : ∀ x ∈ ks, x < 8) (ok : a.ok) : ∀ x ∈ ks.filter (fun x => !decide (x = a.2)) ++ (if a.1 then [a.2] else []), x < 8 := fun x hx => by
  rcases List.mem_append.mp hx with z | z
  · simp at z; exact h x z.1
  · cases hw : a.1 with
    | true => rw [hw] at z; simp at z; subst z; exact ok
    | false => rw [hw] at z; simp at z
theorem len8 {l : List Nat} (nd : l.Nodup) (h : ∀ x ∈ l, x < 8) : l.length ≤ 8 := by
  have := nodup_lenG nd (ns := List.range 8) fun x hx => List.mem_range.mpr (h x hx)
  simpa using this
theorem blK8 {ks : List Nat} {a : Ask} (nd : ks.Nodup) (bd : ∀ x ∈ ks, x < 8) (ok : a.ok) : blK 8 ks a = ks.filter (fun x => !decide (x = a.2)) ++ if a.1 then [a.2] else [] := by
  unfold blK cutK
  rw [show (ks.filter (fun x => !decide (x = a.2)) ++ if a.1 then [a.2] else []).length - 8 = 0 by have := len8 (pre_nd (a := a) nd) (pre_bd bd ok); omega]
  rfl
theorem blK8_mem {ks : List Nat} {a : Ask} {x : Nat} (nd : ks.Nodup) (bd : ∀ x ∈ ks, x < 8) (ok : a.ok) : x ∈ blK 8 ks a ↔ (x ∈ ks ∧ x ≠ a.2) ∨ (a.1 = true ∧ x = a.2) := by
  rw [blK8 nd bd ok, List.mem_append]
  cases hw : a.1 <;> simp
theorem blK8_bd {ks : List Nat} {a : Ask} (nd : ks.Nodup) (bd : ∀ x ∈ ks, x < 8) (ok : a.ok) : ∀ x ∈ blK 8 ks a, x < 8 := fun x hx => by rw [blK8 nd bd ok] at hx; exact pre_bd bd ok x hx
def nI (B : List Nat) : List Int := B.map fun n : Nat => (n : Int)
theorem nI_mem {B : List Nat} {n : Nat} : (n : Int) ∈ nI B ↔ n ∈ B := by
  unfold nI
  rw [List.mem_map]
  exact ⟨fun ⟨m, hm, e⟩ => by have : m = n := by omega
                              exact this ▸ hm, fun h => ⟨n, h, rfl⟩⟩
theorem nI_get {B : List Nat} {x : Int} (h : x ∈ nI B) : ∃ n : Nat, n ∈ B ∧ x = n := by
  obtain ⟨m, hm, e⟩ := List.mem_map.mp h
  exact ⟨m, hm, e.symm⟩
theorem nI_nd {B : List Nat} (h : B.Nodup) : (nI B).Nodup := List.Pairwise.map _ (fun a b h e => h (by omega)) h
theorem bl_sv {room : Nat} : ∀ (r : List Ask) (B : List Nat) (c : Nat), B.Nodup → ∃ m, (r.foldl (blS room) (c, B)).1 = c + m ∧ SV room (sortI (nI B)) r m
  | [], B, c, _ => ⟨0, rfl, .nil⟩
  | a :: r, B, c, nd => by
    obtain ⟨m, h1, h2⟩ := bl_sv r (blK room B a) (c + blC B a) (blK_nd nd)
    refine ⟨blC B a + m, by show (r.foldl (blS room) (blS room (c, B) a)).1 = _; rw [show blS room (c, B) a = (c + blC B a, blK room B a) from rfl, h1]; omega, ?_⟩
    have em : madeI (sortI (nI B)) a = blC B a := by
      obtain ⟨w, n⟩ := a
      have hmem : (n : Int) ∈ sortI (nI B) ↔ n ∈ B := (sortI_perm _).mem_iff.trans nI_mem
      cases w with
      | true => rw [made_ask]; unfold blC; by_cases h : n ∈ B <;> simp [hmem, h]
      | false => rw [made_gone]; simp [blC]
    rw [← em]
    refine .cons (sh_iff.mpr ⟨up_of ((sortI_perm _).nodup_iff.mpr (nI_nd (blK_nd nd))) (sortI_pw _), ?_, fun x hx => ?_⟩) h2
    · rw [(sortI_perm _).length_eq]; unfold nI; rw [List.length_map]; exact blK_len
    · obtain ⟨n, hn, rfl⟩ := nI_get ((sortI_perm _).mem_iff.mp hx)
      have hB := blK_mem hn
      obtain ⟨w, n'⟩ := a
      have hin : ∀ n ∈ B, (n : Int) ∈ sortI (nI B) := fun n hn => (sortI_perm _).mem_iff.mpr (nI_mem.mpr hn)
      cases w with
      | true =>
        rw [may_ask]
        rcases hB with ⟨h, _⟩ | ⟨_, h⟩
        · exact .inl (hin _ h)
        · exact .inr (by simp at h; rw [h])
      | false =>
        rw [may_gone]
        rcases hB with ⟨h, h'⟩ | ⟨h, _⟩
        · exact ⟨hin _ h, fun e => h' (by simp; omega)⟩
        · simp at h
theorem bl_least {room : Nat} {rows : List Ask} {c : Nat} (h : Least room rows c) : c ≤ (bl room rows).1 := by
  obtain ⟨m, h1, h2⟩ := bl_sv (room := room) rows [] 0 (by simp)
  have : (bl room rows).1 = m := by unfold bl; omega
  rw [this]
  have e0 : sortI (nI []) = [] := List.eq_nil_of_length_eq_zero ((sortI_perm _).length_eq)
  rw [e0] at h2
  exact h.2 _ h2
/-- nobody makes fewer than the one with room for all -/
theorem sv_low {room : Nat} {k : List Int} {r : List Ask} {c : Nat} (h : SV room k r c) : ∀ (B : List Nat) (c0 : Nat), (∀ x ∈ k, x ∈ nI B) → B.Nodup → (∀ x ∈ B, x < 8) → (∀ a ∈ r, a.ok) → (r.foldl (blS 8) (c0, B)).1 ≤ c0 + c := by
  induction h with
  | nil => intro B c0 _ _ _ _; exact Nat.le_refl _
  | @cons k b a r c hs _ ih =>
    intro B c0 hk nd bd ok
    have oka := ok a (by simp)
    obtain ⟨_, _, mem⟩ := sh_iff.mp hs
    have := ih (blK 8 B a) (c0 + blC B a) (fun x hx => ?_) (blK_nd nd) (blK8_bd nd bd oka) (fun x hx => ok x (by simp [hx]))
    · have hle : blC B a ≤ madeI k a := by
        obtain ⟨w, n⟩ := a
        cases w with
        | false => simp [blC]
        | true =>
          rw [made_ask]
          unfold blC
          by_cases hn : n ∈ B
          · simp [hn]
          · rw [if_neg fun z => hn (nI_mem.mp (hk _ z))]
            split <;> omega
      show (r.foldl (blS 8) (c0 + blC B a, blK 8 B a)).1 ≤ _
      omega
    · obtain ⟨w, n⟩ := a
      have hx := mem x hx
      cases w with
      | true =>
        rcases may_ask.mp hx with h | h
        · obtain ⟨y, hy, rfl⟩ := nI_get (hk x h)
          refine nI_mem.mpr ((blK8_mem nd bd oka).mpr ?_)
          by_cases e : y = n
          · exact .inr ⟨rfl, e⟩
          · exact .inl ⟨hy, e⟩
        · subst h
          exact nI_mem.mpr ((blK8_mem nd bd oka).mpr (.inr ⟨rfl, rfl⟩))
      | false =>
        obtain ⟨h1, h2⟩ := may_gone.mp hx
        obtain ⟨y, hy, rfl⟩ := nI_get (hk x h1)
        exact nI_mem.mpr ((blK8_mem nd bd oka).mpr (.inl ⟨hy, fun e => h2 (by simp at e; omega)⟩))
theorem bl8_least {rows : List Ask} {c : Nat} (ok : ∀ a ∈ rows, a.ok) (h : Least 8 rows c) : c = (bl 8 rows).1 := by
  refine Nat.le_antisymm (bl_least h) ?_
  have := sv_low (h.1.sv rs_nil ok) [] 0 (by simp) (by simp) (by simp) ok
  unfold bl; omega
theorem bl_zero {room : Nat} : ∀ (r : List Ask) (B B0 : List Nat) (c c0 : Nat), c ≤ c0 → B0 = [] → (r.foldl (blS room) (c, B)).1 ≤ (r.foldl (blS 0) (c0, B0)).1
  | [], _, _, c, c0, h, _ => h
  | a :: r, B, B0, c, c0, h, e => by
    subst e
    show (r.foldl (blS room) (c + blC B a, blK room B a)).1 ≤ (r.foldl (blS 0) (c0 + blC [] a, blK 0 [] a)).1
    refine bl_zero r _ _ _ _ ?_ ?_
    · have : blC B a ≤ blC [] a := by
        unfold blC
        cases a.1 <;> simp
        split <;> omega
      omega
    · unfold blK cutK; simp
/-! ## made once between its goings -/
def lastB (l : List Bool) : Bool := l.getD (l.length - 1) false
def frP (l : List Bool) (k : Nat) : Bool := l.getD k false && (k == 0 || !(l.getD (k - 1) false))
def fr (l : List Bool) : Nat := ((List.range l.length).filter (frP l)).length
def mine (n : Nat) (rows : List Ask) : List Bool := (rows.filter fun a => decide (a.2 = n)).map (·.1)
def fs : Nat → List Ask → Nat
  | 0, _ => 0
  | i + 1, rows => fs i rows + fr (mine i rows)
theorem getD_app {l : List Bool} {w : Bool} {k : Nat} (h : k < l.length) : (l ++ [w]).getD k false = l.getD k false := by
  rw [List.getD_eq_getElem?_getD, List.getD_eq_getElem?_getD, List.getElem?_append_left h]
theorem getD_end {l : List Bool} {w : Bool} : (l ++ [w]).getD l.length false = w := by simp [List.getD_eq_getElem?_getD]
theorem lastB_snoc {l : List Bool} {w : Bool} : lastB (l ++ [w]) = w := by
  unfold lastB; rw [show (l ++ [w]).length - 1 = l.length by simp]; exact getD_end
theorem fr_snoc {l : List Bool} {w : Bool} : fr (l ++ [w]) = fr l + if w && !lastB l then 1 else 0 := by
  unfold fr
  rw [List.length_append, List.length_singleton, List.range_succ, List.filter_append, List.length_append]
  congr 1
  · congr 1
    refine List.filter_congr fun k hk => ?_
    have hk := List.mem_range.mp hk
    unfold frP
    rw [getD_app hk, getD_app (by omega)]
  · have : frP (l ++ [w]) l.length = (w && !lastB l) := by
      unfold frP lastB
      rw [getD_end]
      cases hl : l.length with
      | zero =>
        have : l = [] := List.eq_nil_of_length_eq_zero hl
        subst this
        simp
      | succ n =>
        rw [getD_app (by omega)]
        simp
    rw [List.filter_cons, this]
    split <;> rfl
theorem mine_snoc {n : Nat} {pre : List Ask} {a : Ask} : mine n (pre ++ [a]) = if a.2 = n then mine n pre ++ [a.1] else mine n pre := by
  unfold mine
  rw [List.filter_append, List.map_append, List.filter_cons]
  by_cases h : a.2 = n <;> simp [h]
theorem fs_snoc {pre : List Ask} {a : Ask} : ∀ i, fs i (pre ++ [a]) = fs i pre + if a.2 < i then (if a.1 && !lastB (mine a.2 pre) then 1 else 0) else 0
  | 0 => by simp [fs]
  | i + 1 => by
    unfold fs
    rw [fs_snoc i, mine_snoc]
    by_cases h : a.2 = i
    · subst h
      rw [if_pos rfl, fr_snoc, if_neg (Nat.lt_irrefl _), if_pos (Nat.lt_succ_self _)]
      omega
    · rw [if_neg h]
      by_cases h2 : a.2 < i
      · rw [if_pos h2, if_pos (show a.2 < i + 1 by omega)]; omega
      · rw [if_neg h2, if_neg (show ¬ a.2 < i + 1 by omega)]
        omega
structure FI (pre : List Ask) : Prop where
  nd : (bl 8 pre).2.Nodup
  bd : ∀ x ∈ (bl 8 pre).2, x < 8
  at_ : ∀ n, n ∈ (bl 8 pre).2 ↔ lastB (mine n pre) = true
  ct : (bl 8 pre).1 = fs 8 pre
theorem fi_all : ∀ (r pre : List Ask), (∀ a ∈ r, a.ok) → FI pre → FI (pre ++ r)
  | [], pre, _, h => by rw [List.append_nil]; exact h
  | a :: r, pre, ok, h => by
    have oka := ok a (by simp)
    rw [show pre ++ a :: r = (pre ++ [a]) ++ r by simp]
    refine fi_all r _ (fun x hx => ok x (by simp [hx])) ?_
    have e : bl 8 (pre ++ [a]) = ((bl 8 pre).1 + blC (bl 8 pre).2 a, blK 8 (bl 8 pre).2 a) := bl_snoc
    refine ⟨by rw [e]; exact blK_nd h.nd, by rw [e]; exact blK8_bd h.nd h.bd oka, fun n => ?_, ?_⟩
    · rw [e, mine_snoc]
      show n ∈ blK 8 (bl 8 pre).2 a ↔ _
      rw [blK8_mem h.nd h.bd oka, h.at_ n]
      by_cases hn : a.2 = n
      · subst hn
        rw [if_pos rfl, lastB_snoc]
        simp
      · rw [if_neg hn]
        constructor
        · rintro (⟨z, _⟩ | ⟨_, z⟩)
          · exact z
          · exact absurd z.symm hn
        · exact fun z => .inl ⟨z, fun e => hn e.symm⟩
    · rw [e, fs_snoc, if_pos (show a.2 < 8 from oka)]
      show (bl 8 pre).1 + blC (bl 8 pre).2 a = _
      rw [h.ct]
      congr 1
      unfold blC
      have := h.at_ a.2
      by_cases hm : a.2 ∈ (bl 8 pre).2
      · rw [this.mp hm]; simp [hm]
      · have hf : lastB (mine a.2 pre) = false := by
          cases hb : lastB (mine a.2 pre) with
          | false => rfl
          | true => exact absurd (this.mpr hb) hm
        rw [hf]; simp [hm]
theorem bl_fs {rows : List Ask} (ok : ∀ a ∈ rows, a.ok) : (bl 8 rows).1 = fs 8 rows := by
  have := fi_all rows [] ok ⟨by simp [bl], by simp [bl], fun n => by simp [bl, mine, lastB], rfl⟩
  rw [List.nil_append] at this
  exact this.ct
/-! ## the law's own going -/
theorem valP {κ : Type} [DecidableEq κ] (kvs : List (κ × D)) (k j : κ) (v : D) : valD (putD kvs k v) j = if j = k then some v else valD kvs j := by
  unfold valD putD
  by_cases ha : (kvs.any fun kv => decide (kv.1 = k)) = true
  · rw [if_pos ha]
    induction kvs with
    | nil => simp at ha
    | cons p r ih =>
      rw [List.map_cons, List.find?_cons, List.find?_cons]
      by_cases hp : p.1 = k
      · rw [if_pos hp]
        by_cases hj : j = k
        · subst hj; simp [hp]
        · rw [if_neg hj, show decide (p.1 = j) = false from decide_eq_false fun e => hj (e.symm.trans hp)]
          by_cases hr : (r.any fun kv => decide (kv.1 = k)) = true
          · have := ih hr
            rw [if_neg hj] at this
            exact this
          · have : r.map (fun kv => if kv.1 = k then (kv.1, v) else kv) = r := by
              have hz : ∀ kv ∈ r, (if kv.1 = k then (kv.1, v) else kv) = kv := fun kv hkv => if_neg fun e => hr (List.any_eq_true.mpr ⟨kv, hkv, decide_eq_true e⟩)
              rw [List.map_congr_left hz, List.map_id']
            show Option.map _ ((r.map fun kv => if kv.1 = k then (kv.1, v) else kv).find? _) = _
            rw [this]
      · rw [if_neg hp]
        have hr : (r.any fun kv => decide (kv.1 = k)) = true := by
          rw [List.any_cons, decide_eq_false hp, Bool.false_or] at ha; exact ha
        have := ih hr
        by_cases hj : decide (p.1 = j) = true
        · simp only [hj]
          have hjk : j ≠ k := fun e => hp ((of_decide_eq_true hj).trans e)
          rw [if_neg hjk]
        · simp only [Bool.not_eq_true] at hj
          simp only [hj]
          exact this
  · rw [if_neg ha, List.find?_append]
    have hn : ∀ kv ∈ kvs, ¬ kv.1 = k := fun kv hkv e => ha (List.any_eq_true.mpr ⟨kv, hkv, decide_eq_true e⟩)
    by_cases hj : j = k
    · subst hj
      rw [if_pos rfl, List.find?_eq_none.mpr (fun kv hkv => by simpa using hn kv hkv)]
      simp
    · rw [if_neg hj]
      simp [List.find?_cons, show ¬ k = j from fun e => hj e.symm]
theorem lenP {κ : Type} [DecidableEq κ] (kvs : List (κ × D)) (k : κ) (v : D) : (putD kvs k v).length ≤ kvs.length + 1 := by
  unfold putD; split <;> simp
/-- the dict tells L of the names B, which rise by it -/
structure LT (kvs : List (Key × D)) (B : List Nat) (L : Nat → Nat) (n : Nat) : Prop where
  at_ : ∀ x ∈ B, valD kvs (.inl (x : Int)) = some (.int (L x))
  up : B.Pairwise fun x y => L x < L y
  lt : ∀ x ∈ B, L x < n
theorem LT.filter {kvs : List (Key × D)} {B : List Nat} {L : Nat → Nat} {n : Nat} (h : LT kvs B L n) (p : Nat → Bool) : LT kvs (B.filter p) L (n + 1) :=
  ⟨fun x hx => h.at_ x (List.mem_filter.mp hx).1, h.up.sublist List.filter_sublist, fun x hx => Nat.lt_succ_of_lt (h.lt x (List.mem_filter.mp hx).1)⟩
theorem LT.drop {kvs : List (Key × D)} {B : List Nat} {L : Nat → Nat} {n k : Nat} (h : LT kvs B L n) : LT kvs (B.drop k) L n :=
  ⟨fun x hx => h.at_ x (List.mem_of_mem_drop hx), h.up.sublist (List.drop_sublist _ _), fun x hx => h.lt x (List.mem_of_mem_drop hx)⟩
theorem LT.ask {kvs : List (Key × D)} {B : List Nat} {L : Nat → Nat} {n m : Nat} (h : LT kvs B L n) : LT (putD kvs (.inl (m : Int)) (.int (n : Nat))) (B.filter (fun x => !decide (x = m)) ++ [m]) (fun x => if x = m then n else L x) (n + 1) := by
  have hf : ∀ x ∈ B.filter (fun x => !decide (x = m)), x ∈ B ∧ x ≠ m := fun x hx => by simpa using hx
  refine ⟨fun x hx => ?_, ?_, fun x hx => ?_⟩
  · rw [valP]
    rcases List.mem_append.mp hx with z | z
    · obtain ⟨h1, h2⟩ := hf x z
      rw [if_neg (fun e => h2 (by have := Sum.inl.inj e; omega)), if_neg h2]
      exact h.at_ x h1
    · simp at z; subst z
      rw [if_pos rfl, if_pos rfl]
  · rw [List.pairwise_append]
    refine ⟨((h.up.sublist List.filter_sublist).imp_of_mem ?_), by simp, fun x hx y hy => ?_⟩
    · intro x y hx hy hl
      rw [if_neg (hf x hx).2, if_neg (hf y hy).2]; exact hl
    · simp at hy; subst hy
      rw [if_neg (hf x hx).2, if_pos rfl]; exact h.lt x (hf x hx).1
  · rcases List.mem_append.mp hx with z | z
    · obtain ⟨h1, h2⟩ := hf x z
      simp only [if_neg h2]; exact Nat.lt_succ_of_lt (h.lt x h1)
    · simp at z; subst z; simp
/-- the least by L is the first -/
theorem LT.least {kvs : List (Key × D)} {b : Nat} {B : List Nat} {L : Nat → Nat} {n m : Nat} (h : LT kvs (b :: B) L n) (hm : m ∈ b :: B) (hl : ∀ x ∈ b :: B, L m ≤ L x) : m = b := by
  rcases List.mem_cons.mp hm with e | e
  · exact e
  · have h1 := (List.pairwise_cons.mp h.up).1 m e
    have h2 := hl b (by simp)
    omega
end TK

namespace TK
open PySem PySem.Spec L2
local macro_rules | `(tactic| walk_at "d") => `(tactic| simp only [gsub_refl, isC, dCountB, dIndexB, blL, dCallX, dDropX, dRetX, dSetX, dRaise, dxOf, startD, dSeq, dNext, dRet, dRetN, dSet, dAsg, dPar, dIfS, dDrop, dFor, dTest, dAnd, dOr, dNot, dAndV, dOrV, dNotV, dIf, dVar, dC, dNil, dCons, dOp, dTup, dLst, dCB, dCall, dMt, dChain, dCmpI, dSubR, dAddR, dMulI, dFdivR, dModR, dPowR, dIxR, dLen, dIsi, dTuple, dList, dInt, dIsNR, dNotNR, dEqR, dNeR, dgName, dgTup, dgCons, dgNil, newL, tyD, dLc, diAny, diRng1, diRng2, dSlice, dSl, doSome, doNone, wipeD, dYes, dMax, dMin, dUn, dNegR, dBreak, dCont, dAppend, dExtend, dFrz, dSetItem, dSortSet, dInL, dCallV, dNever, dJoin, dSplit, dStr, dInS, diEnumerate, dDGet, dInD, dDPut, putC, lookD, keyOf, keysOf, dNewD, dDisp, dpNil, dpCons, dSorted, dKdIn, dKdGet, dDGet2, dKdGet2, dRev, dDictPT, dMulT, b2n_t, b2n_f, dUpdate, dFld, dSetFld, dMeth, dMake, dInT, dNo, dSortA, dDisp1T, dLockE, diKeys, diZip, dPar3, dPopAt, dRemove, dMinD, List.map_cons, List.map_nil, List.length_cons, List.length_nil, List.replicate, List.cons_append, List.nil_append, List.getElem?_cons_zero, List.getElem?_cons_succ, List.set_cons_zero, List.set_cons_succ, Nat.reduceAdd, Nat.reduceSub, Nat.zero_add, Nat.add_zero, ne_eq, String.reduceEq, not_false_eq_true, not_true_eq_false, true_and, and_true, Bool.not_false, Bool.not_true, cnd_t, cnd_f, cnd_not, Bool.true_or, Bool.or_true, Bool.false_or, Bool.or_false, reduceIte, gup_same, gup_gup, endsD, List.length_cons, List.length_nil, Nat.reduceAdd, vwq_non, isNonq_non, tyq_non, vwq_bl, isNonq_bl, tyq_bl, vwq_int, isNonq_int, tyq_int, vwq_str, isNonq_str, tyq_str, vwq_tup, isNonq_tup, tyq_tup, vwq_lst, isNonq_lst, tyq_lst, vwq_frz, isNonq_frz, tyq_frz, vwq_ty, isNonq_ty, isNonq_ref, vw_gup, not_dec, okTy_NoneType, okTy_bool, okTy_int, okTy_str, okTy_tuple, okTy_list, isaB_NoneType_bool, isaB_NoneType_int, isaB_NoneType_str, isaB_NoneType_tuple, isaB_NoneType_list, isaB_bool_bool, isaB_bool_int, isaB_bool_str, isaB_bool_tuple, isaB_bool_list, isaB_int_bool, isaB_int_int, isaB_int_str, isaB_int_tuple, isaB_int_list, isaB_str_bool, isaB_str_int, isaB_str_str, isaB_str_tuple, isaB_str_list, isaB_tuple_bool, isaB_tuple_int, isaB_tuple_str, isaB_tuple_tuple, isaB_tuple_list, isaB_list_bool, isaB_list_int, isaB_list_str, isaB_list_tuple, isaB_list_list, atI_0, atI_1, atI_2, atI_3, atI_4, atI_5, atI_6, atI_7, atI_8, atI_9, atI_10, atI_11, ixN_4_0, ixN_4_1, ixN_4_2, ixN_4_3, sl_0, sl_1, sl_2, sl_3, sl_4, sl_5, sl_6, sl_7, sl_8, sl_9, sl_10, sl_11, sl_12])
def t_law_L8 (pt : Addr) : DS :=
  dSet 7 (dLc true (diAny (dVar 7)) (dgName 11) (dTest (dOp dNeR (dVar 11) (dVar 10))) (dVar 11) [11])
def t_law_L14 (pt : Addr) : DS :=
  dDrop (dMt "list" dRemove (dVar 7) (dCons (dMinKL pt qLaw 6 (dVar 7)) (dNil)))
def t_law_L13 (pt : Addr) : DS :=
  dWhile (dTest (dOp dGt (dCB dLen (dCons (dVar 7) (dNil))) (dVar 4))) (t_law_L14 pt)
def t_law_L12 (pt : Addr) : DS :=
  dSeq (dSet 7 (dOp (dAddR true) (dVar 7) (dOp (dMulI false) (dLst false (dCons (dVar 10) (dNil))) (dCB dInt (dCons (dOp (dInL true) (dVar 10) (dVar 7)) (dNil))))))
  (t_law_L13 pt)
def t_law_L11 (pt : Addr) : DS :=
  dSeq (dDPut (dVar 6) (dVar 10) (dVar 8))
  (t_law_L12 pt)
def t_law_L10 (pt : Addr) : DS :=
  dSeq (dSet 5 (dOp (dAddR false) (dVar 5) (dCB dInt (dCons (dOp (dInL true) (dVar 10) (dVar 7)) (dNil)))))
  (t_law_L11 pt)
def t_law_L7 (pt : Addr) : DS :=
  dIfS (dTest (dOp dEqR (dVar 9) (dC (.str "gone")))) (t_law_L8 pt) (t_law_L10 pt)
def t_law_L6 (pt : Addr) : DS :=
  dSeq (dAsg (dOp dIxR (dVar 3) (dVar 8)) (dgTup 2 (dgCons (dgName 9) (dgCons (dgName 10) (dgNil)))))
  (t_law_L7 pt)
def t_law_L21 (pt : Addr) : DS :=
  dSet 13 (dOp (dAddR false) (dVar 13) (dCB dLen (dCons (dLc false (diRng1 (dCons (dCB dLen (dCons (dVar 14) (dNil))) (dNil))) (dgName 8) (dAnd (dTest (dOp dEqR (dOp dIxR (dVar 14) (dVar 8)) (dC (.str "ask")))) (dOr (dTest (dOp dEqR (dVar 8) (dC (.int 0)))) (dTest (dOp dEqR (dOp dIxR (dVar 14) (dOp (dSubR) (dVar 8) (dC (.int 1)))) (dC (.str "gone")))))) (dVar 8) [8]) (dNil))))
def t_law_L20 (pt : Addr) : DS :=
  dSeq (dSet 14 (dLc false (diAny (dVar 3)) (dgTup 2 (dgCons (dgName 9) (dgCons (dgName 11) (dgNil)))) (dTest (dOp dEqR (dVar 11) (dVar 10))) (dVar 9) [9, 11]))
  (t_law_L21 pt)
def t_law_L22 (pt : Addr) : DS :=
  dIfS (dOr (dTest (dOp dNeR (dCall sp_by_last (dCons (dC (.int 8)) (dCons (dVar 3) (dNil)))) (dVar 13))) (dOr (dTest (dOp dNeR (dOp dIxR (dCall sp_fewest (dCons (dC (.int 8)) (dCons (dVar 3) (dNil)))) (dC (.int 0))) (dVar 13))) (dTest (dOp dLt (dCall sp_by_last (dCons (dC (.int 0)) (dCons (dVar 3) (dNil)))) (dVar 5))))) (dRet (dC (.bl false))) (dNext)
def t_law_L19 (pt : Addr) : DS :=
  dSeq (dFor (diRng1 (dCons (dC (.int 8)) (dNil))) (dgName 10) (t_law_L20 pt))
  (t_law_L22 pt)
def t_law_L18 (pt : Addr) : DS :=
  dSeq (dSet 13 (dC (.int 0)))
  (t_law_L19 pt)
def t_law_L16 (pt : Addr) : DS :=
  dSeq (dIfS (dOr (dNot (dTest (dCall (sp_law_same 9) (dCons (dCall sp_by_last (dCons (dVar 4) (dCons (dVar 12) (dNil)))) (dCons (dVar 5) (dNil)))))) (dOr (dTest (dOp dNeR (dVar 12) (dVar 3))) (dTest (dOp dGt (dOp dIxR (dCall sp_fewest (dCons (dVar 4) (dCons (dVar 3) (dNil)))) (dC (.int 0))) (dVar 5))))) (dRet (dC (.bl false))) (dNext))
  (t_law_L18 pt)
def t_law_L15 (pt : Addr) : DS :=
  dSeq (dSet 12 (dCB (dList false) (dCons (dVar 3) (dNil))))
  (t_law_L16 pt)
def t_law_L5 (pt : Addr) : DS :=
  dSeq (dFor (diRng1 (dCons (dCB dLen (dCons (dVar 3) (dNil))) (dNil))) (dgName 8) (t_law_L6 pt))
  (t_law_L15 pt)
def t_law_L4 (pt : Addr) : DS :=
  dSeq (dAsg (dTup (dCons (dC (.int 0)) (dCons (dNewD false) (dCons (dLst true (dNil)) (dNil))))) (dgTup 3 (dgCons (dgName 5) (dgCons (dgName 6) (dgCons (dgName 7) (dgNil))))))
  (t_law_L5 pt)
def t_law_L3 (pt : Addr) : DS :=
  dSeq (dPar 3 4 (dCons (dCall sp_law_asks (dCons (dVar 1) (dCons (dC (.int 40)) (dNil)))) (dCons (dCall sp_law_drawn (dCons (dVar 1) (dCons (dC (.int 9)) (dNil)))) (dNil))))
  (t_law_L4 pt)
def t_law_L2 (pt : Addr) : DS :=
  dSeq (dFor (diRng1 (dCons (dC (.int 4)) (dNil))) (dgName 2) (t_law_L3 pt))
  (dRet (dC (.bl true)))
def t_law (pt : Addr) : DS :=
  dSeq (dSet 1 (dCall sp_law_start (dCons (dVar 0) (dNil))))
  (t_law_L2 pt)
theorem OneT.lst {G : GH} {pt c : Addr} {xs : List D} (h : OneT G pt) : OneT (gup G c (.lst xs)) pt := fun P' q' e => by
  by_cases hc : P' = c
  · subst hc; rw [gup_same] at e; cases e
  · rw [gup_ne hc] at e; exact h P' q' e
theorem OneT.dK {G : GH} {pt c : Addr} {xs : List (Key × D)} (h : OneT G pt) : OneT (gup G c (.dK xs)) pt := fun P' q' e => by
  by_cases hc : P' = c
  · subst hc; rw [gup_same] at e; cases e
  · rw [gup_ne hc] at e; exact h P' q' e
def sp_law (pt : Addr) : SpD := fun ds G Q _ => ∃ ns : List Int, ds = [.frz (intsD ns)] ∧ G pt = some (.tb qLaw) ∧ OneT G pt ∧ Q (.bl true) G
abbrev G10 (ns : List Int) (s : Addr) (o2 : Option D) (rows : List Ask) (room : Nat) (o5 o6 o7 o8 o9 o10 o11 o12 o13 o14 : Option D) : GEnv :=
  [some (.frz (intsD ns)), some (.ref s), o2, some (.lst (rows.map Ask.d)), some (.int room), o5, o6, o7, o8, o9, o10, o11, o12, o13, o14]
theorem ix_mem {g : Int} : ∀ {ks : List Int}, g ∈ ks → ∃ j, ixI g ks = some j
  | x :: r, h => by
    unfold ixI
    by_cases e : x = g
    · rw [if_pos e]; exact ⟨0, rfl⟩
    · rw [if_neg e]
      obtain ⟨j, hj⟩ := ix_mem (ks := r) (by rcases List.mem_cons.mp h with z | z; exact absurd z.symm e; exact z)
      exact ⟨j + 1, by rw [hj]; rfl⟩
theorem erase_map {α β : Type} (f : α → β) : ∀ (l : List α) (i : Nat), (l.map f).eraseIdx i = (l.eraseIdx i).map f
  | [], _ => rfl
  | _ :: _, 0 => rfl
  | _ :: r, i + 1 => by
    show _ :: (r.map f).eraseIdx i = _ :: (r.eraseIdx i).map f
    rw [erase_map f r i]
theorem erase_perm : ∀ (l : List Nat) (j y : Nat), l[j]? = some y → (y :: l.eraseIdx j).Perm l
  | [], _, _, h => by simp at h
  | x :: r, 0, y, h => by simp at h; subst h; exact .refl _
  | x :: r, j + 1, y, h => by
    rw [List.getElem?_cons_succ] at h
    show (y :: x :: r.eraseIdx j).Perm (x :: r)
    exact (List.Perm.swap x y _).trans ((erase_perm r j y h).cons x)
theorem filt_all {B : List Nat} {n : Nat} (h : n ∉ B) : B.filter (fun x => !decide (x = n)) = B := List.filter_eq_self.mpr fun x hx => by
  have : x ≠ n := fun e => h (e ▸ hx)
  simp [this]
theorem filt_perm {n : Nat} : ∀ B : List Nat, B.Nodup → n ∈ B → (B.filter (fun x => !decide (x = n)) ++ [n]).Perm B
  | b :: r, nd, h => by
    obtain ⟨h1, h2⟩ := List.nodup_cons.mp nd
    by_cases e : b = n
    · subst e
      rw [List.filter_cons, if_neg (by simp), filt_all h1]
      exact List.perm_append_singleton _ _
    · rw [List.filter_cons, if_pos (by simp [e])]
      exact (filt_perm r h2 (by rcases List.mem_cons.mp h with z | z; exact absurd z.symm e; exact z)).cons b
theorem nats_nI {ks : List Nat} : natsD ks = (nI ks).map D.int := by unfold natsD nI; rw [List.map_map]; rfl
abbrev cW : DT := dTest (dOp dGt (dCB dLen (dCons (dVar 7) (dNil))) (dVar 4))
/-- L13: the one asked for longest ago goes, while there are too many -/
theorem k10_w {D0 : DEnds} {pt s p q : Addr} {ns : List Int} {rows : List Ask} {room m : Nat} {o2 o5 o8 o9 o10 o11 o12 o13 o14 : Option D} {kvs : List (Key × D)} {L : Nat → Nat} (hpq : p ≠ q) (hpp : p ≠ pt) : ∀ (n : Nat) (B ks : List Nat) (G : GH), B.length < n → B.length ≤ 40 → ks.Perm B → LT kvs B L m →
    G p = some (.lst (natsD ks)) → G q = some (.dK kvs) → G pt = some (.tb qLaw) → OneT G pt →
    (∀ (ks' : List Nat), ks'.Perm (cutK room B) → D0.nx (G10 ns s o2 rows room o5 (some (.ref q)) (some (.ref p)) o8 o9 o10 o11 o12 o13 o14) (gup G p (.lst (natsD ks')))) →
    dWhileN cW (t_law_L14 pt) D0 n (G10 ns s o2 rows room o5 (some (.ref q)) (some (.ref p)) o8 o9 o10 o11 o12 o13 o14) G := by
  intro n
  induction n with
  | zero => intro B _ _ h; exact absurd h (Nat.not_lt_zero _)
  | succ n ih =>
    intro B ks G hn h40 pm lt gp gq gt h1 hx
    have lk : (natsD ks).length = B.length := by rw [← pm.length_eq]; exact List.length_map _
    unfold dWhileN
    walk_at "d"
    simp only [vw_at gp]
    by_cases hr : room < B.length
    · rw [cnd_p (by rw [lk]; omega)]
      obtain ⟨b, B', rfl⟩ : ∃ b B', B = b :: B' := by
        cases B with
        | nil => simp at hr
        | cons b B' => exact ⟨b, B', rfl⟩
      unfold t_law_L14
      walk_at "d"
      simp only [vw_at gp]
      unfold dMinKL
      walk_at "d"
      refine ⟨gt, h1, q, nI ks, fun x => (L x.toNat : Int), kvs, by rw [vw_at gp, nats_nI], rfl, gq, ?_, fun x hx => ?_, fun x hxm hl => ?_⟩
      · intro e
        have := congrArg List.length e
        rw [nI, List.length_map, pm.length_eq] at this
        simp at this
      · obtain ⟨y, hy, rfl⟩ := nI_get hx
        simp only [Int.toNat_natCast]
        exact lt.at_ y (pm.mem_iff.mp hy)
      · obtain ⟨y, hy, rfl⟩ := nI_get hxm
        have hyb : y = b := lt.least (pm.mem_iff.mp hy) fun z hz => by
          have := hl z (nI_mem.mpr (pm.mem_iff.mpr hz))
          simp only [Int.toNat_natCast] at this
          omega
        subst hyb
        simp only [gp]
        obtain ⟨j, hj⟩ := ix_mem hxm
        refine ⟨nI ks, j, nats_nI, hj, ?_⟩
        have e1 : ((nI ks).eraseIdx j).map D.int = natsD (ks.eraseIdx j) := by rw [nats_nI]; unfold nI; rw [erase_map]
        rw [e1]
        have hjk : ks[j]? = some y := by
          have := (ixI_ok hj).1
          unfold nI at this
          rw [List.getElem?_map, Option.map_eq_some_iff] at this
          obtain ⟨z, h1, h2⟩ := this
          have : z = y := by omega
          rw [← this]; exact h1
        obtain ⟨hjl, hje⟩ := List.getElem?_eq_some_iff.mp hjk
        have pm2 : (ks.eraseIdx j).Perm B' := by
          exact (List.perm_cons y).mp ((erase_perm ks j y hjk).trans pm)
        refine ih B' (ks.eraseIdx j) _ (by simp at hn; omega) (by simp at h40; omega) pm2 ⟨fun x hx => lt.at_ x (by simp [hx]), (List.pairwise_cons.mp lt.up).2, fun x hx => lt.lt x (by simp [hx])⟩ gup_same (by rw [gup_ne hpq.symm]; exact gq) (by rw [gup_ne hpp.symm]; exact gt) h1.lst fun ks' h => ?_
        rw [gup_gup]
        refine hx ks' ?_
        have : cutK room (y :: B') = cutK room B' := by
          unfold cutK
          simp at hr
          rw [List.length_cons, show B'.length + 1 - room = (B'.length - room) + 1 by omega, List.drop_succ_cons]
        rw [this]; exact h
    · rw [cnd_n (by rw [lk]; omega)]
      have := hx ks (by unfold cutK; rw [show B.length - room = 0 by omega]; exact pm)
      rw [gup_self gp] at this
      exact this
/-- L6: a row -/
theorem k10_6 {D0 : DEnds} {pt s p q : Addr} {ns : List Int} {rows : List Ask} {room i c : Nat} {a : Ask} {G : GH} {o2 o9 o10 o11 o12 o13 o14 : Option D} {B ks : List Nat} {kvs : List (Key × D)} {L : Nat → Nat} (ha : rows[i]? = some a) (hroom : room ≤ 8) (hi : i < 40) (nd : B.Nodup) (hB : B.length ≤ room)
    (pm : ks.Perm B) (lt : LT kvs B L i) (kl : kvs.length ≤ i) (gp : G p = some (.lst (natsD ks))) (gq : G q = some (.dK kvs)) (gt : G pt = some (.tb qLaw)) (h1 : OneT G pt)
    (hn : ∀ (o9 o10 o11 : Option D) (p' : Addr) (ks' : List Nat) (kvs' : List (Key × D)) (L' : Nat → Nat) (G' : GH), ks'.Perm (blK room B a) → LT kvs' (blK room B a) L' (i + 1) → kvs'.length ≤ i + 1 → G' p' = some (.lst (natsD ks')) → G' q = some (.dK kvs') → OneT G' pt → G p' = none → (∀ x, x ≠ q → G x ≠ none → G' x = G x) →
      D0.nx (G10 ns s o2 rows room (some (.int ((c + blC B a : Nat) : Int))) (some (.ref q)) (some (.ref p')) (some (.int i)) o9 o10 o11 o12 o13 o14) G') :
    t_law_L6 pt D0 (G10 ns s o2 rows room (some (.int c)) (some (.ref q)) (some (.ref p)) (some (.int i)) o9 o10 o11 o12 o13 o14) G := by
  obtain ⟨w, n⟩ := a
  have hkl : ks.length ≤ 8 := by rw [pm.length_eq]; omega
  have lk : (natsD ks).length = ks.length := List.length_map _
  have hat : atI (rows.map Ask.d) (i : Int) = some (Ask.d (w, n)) := atI_nat (by rw [List.getElem?_map, ha]; rfl)
  unfold t_law_L6
  walk_at "d"
  simp only [hat, Ask.d]
  walk_at "d"
  unfold t_law_L7
  walk_at "d"
  refine ⟨okE_word, okE_lit_gone, ?_⟩
  rw [eqD_gone]
  cases w with
  | false =>
    rw [Bool.not_false, cnd_t]
    unfold t_law_L8
    walk_at "d"
    simp only [gp]
    refine ⟨sizeLine_ge (by omega), dComp_map (fun n : Nat => D.int n) (fun n : Nat => D.int n) (fun x => !decide (x = n)) gp (fun x hx K1 K2 g1 g2 => ?_) fun p' hp' => ?_⟩
    · walk_at "d"
      refine ⟨okE_int, okE_int, ?_⟩
      rw [eqD_nat]
      exact cndP (fun e => g2 (by simp [e])) fun e => g1 (by simp [e])
    · have eb : blK room B (false, n) = B.filter fun x => !decide (x = n) := by
        unfold blK cutK
        have := List.length_filter_le (fun x => !decide (x = n)) B
        simp only [Bool.false_eq_true, if_false, List.append_nil]
        rw [show (B.filter fun x => !decide (x = n)).length - room = 0 by omega]; rfl
      have hx := hn (some (.str (wordS false))) (some (.int n)) o11 p' (ks.filter fun x => !decide (x = n)) kvs L (gup G p' (.lst (natsD (ks.filter fun x => !decide (x = n))))) (by rw [eb]; exact pm.filter _) (by rw [eb]; exact lt.filter _) (by omega) gup_same (by rw [gup_ne (fun e => by subst e; rw [gq] at hp'; cases hp')]; exact gq) h1.lst hp' fun x _ hg => gup_ne fun e => by subst e; exact hg hp'
      rw [show blC B (false, n) = 0 by simp [blC]] at hx
      exact hx
  | true =>
    rw [Bool.not_true, cnd_f]
    unfold t_law_L10
    walk_at "d"
    simp only [vw_at gp]
    refine ⟨okE_int, okE_of dep_nats (by decide), ?_⟩
    rw [any_nats]
    unfold t_law_L11
    walk_at "d"
    simp only [gq]
    refine ⟨sizeLine_gt (by omega), ?_⟩
    have hqp : p ≠ q := fun e => by subst e; rw [gp] at gq; cases gq
    have hqt : q ≠ pt := fun e => by subst e; rw [gt] at gq; cases gq
    unfold t_law_L12
    walk_at "d"
    simp only [vw_at (show gup G q (.dK (putD kvs (.inl (n : Int)) (.int (i : Int)))) p = some (.lst (natsD ks)) by rw [gup_ne hqp]; exact gp)]
    refine ⟨okE_int, okE_of dep_nats (by decide), ?_⟩
    rw [any_nats]
    have em : n ∈ ks ↔ n ∈ B := pm.mem_iff
    have kb : b2n (true != decide (n ∈ ks)) = ((blC B (true, n) : Nat) : Int) := by
      unfold blC
      by_cases h : n ∈ ks
      · simp [h, em.mp h, b2n]
      · have hB : n ∉ B := fun z => h (em.mpr z)
        simp [h, hB, b2n]
    have kr : (List.replicate (b2n (true != decide (n ∈ ks))).toNat [D.int n]).flatten = natsD (if n ∈ ks then [] else [n]) := by
      by_cases h : n ∈ ks <;> simp [h, b2n, natsD]
    have kl2 : (if n ∈ ks then [] else [n] : List Nat).length ≤ 1 := by split <;> simp
    have hc1 : blC B (true, n) ≤ 1 := by unfold blC; split <;> omega
    rw [kr, kb, ← show natsD (ks ++ if n ∈ ks then [] else [n]) = natsD ks ++ natsD (if n ∈ ks then [] else [n]) from List.map_append]
    refine ⟨by omega, by omega, ?_, ?_, fun p' hp' => ?_⟩
    · exact sizeLine_ge (by omega)
    · exact sizeLine_ge (by rw [lk]; unfold natsD; rw [List.length_map]; omega)
    have hpq' : p' ≠ q := fun e => by subst e; rw [gup_same] at hp'; cases hp'
    rw [gup_ne hpq'] at hp'
    have hpt' : p' ≠ pt := fun e => by subst e; rw [gt] at hp'; cases hp'
    have pm2 : (ks ++ if n ∈ ks then [] else [n]).Perm (B.filter (fun x => !decide (x = n)) ++ [n]) := by
      by_cases h : n ∈ ks
      · rw [if_pos h, List.append_nil]
        exact pm.trans (filt_perm B nd (em.mp h)).symm
      · rw [if_neg h, filt_all fun z => h (em.mpr z)]
        exact pm.append_right _
    have hfl := List.length_filter_le (fun x => !decide (x = n)) B
    unfold t_law_L13
    refine ⟨50, k10_w (m := i + 1) hpq' hpt' 50 _ _ _ ?_ ?_ pm2 lt.ask gup_same (by rw [gup_ne hpq'.symm, gup_same]) (by rw [gup_ne hpt'.symm, gup_ne hqt.symm]; exact gt) h1.dK.lst fun ks' h => ?_⟩
    · rw [List.length_append, List.length_singleton]; omega
    · rw [List.length_append, List.length_singleton]; omega
    · rw [gup_gup]
      have hk : blK room B (true, n) = cutK room (B.filter (fun x => !decide (x = n)) ++ [n]) := rfl
      have hx := hn (some (.str (wordS true))) (some (.int n)) o11 p' ks' (putD kvs (.inl (n : Int)) (.int (i : Int))) (fun x => if x = n then i else L x) (gup (gup G q (.dK (putD kvs (.inl (n : Int)) (.int (i : Int))))) p' (.lst (natsD ks'))) (by rw [hk]; exact h) (by rw [hk]; exact lt.ask.drop) (by have := lenP kvs (.inl (n : Int)) (.int (i : Int)); omega) gup_same (by rw [gup_ne hpq'.symm, gup_same]) h1.dK.lst hp' fun x hxq hg => by
        rw [gup_ne (fun e => by subst e; exact hg hp'), gup_ne hxq]
      rw [Int.natCast_add] at hx
      exact hx
/-- L20, L21: how often a name is made -/
theorem k10_20 {D0 : DEnds} {pt s : Addr} {ns : List Int} {rows : List Ask} {room n f : Nat} {G : GH} {o2 o5 o6 o7 o8 o9 o11 o12 o14 : Option D} (hl : rows.length ≤ 40)
    (hn : ∀ o8 o9 o11 o14, D0.nx (G10 ns s o2 rows room o5 o6 o7 o8 o9 (some (.int n)) o11 o12 (some (.int ((f + fr (mine n rows) : Nat) : Int))) o14) G) :
    t_law_L20 pt D0 (G10 ns s o2 rows room o5 o6 o7 o8 o9 (some (.int n)) o11 o12 (some (.int f)) o14) G := by
  unfold t_law_L20
  walk_at "d"
  have ln : ((rows.filter fun a => decide (a.2 = n)).map fun a : Ask => D.str (wordS a.1)).length ≤ 40 := by
    rw [List.length_map]; have := List.length_filter_le (fun a : Ask => decide (a.2 = n)) rows; omega
  refine ⟨sizeLine_ge (by rw [List.length_map]; omega), dComp_map Ask.d (fun a => D.str (wordS a.1)) (fun a => decide (a.2 = n)) trivial (fun a ha K1 K2 g1 g2 => ?_) ?_⟩
  · simp only [Ask.d]
    walk_at "d"
    refine ⟨okE_int, okE_int, ?_⟩
    rw [eqD_nat]
    exact cndP (fun e => g1 (by simpa using e)) fun e => g2 (by simpa using e)
  unfold t_law_L21
  walk_at "d"
  have ed : (rows.filter fun a => decide (a.2 = n)).map (fun a : Ask => D.str (wordS a.1)) = (mine n rows).map fun b => D.str (wordS b) := by unfold mine; rw [List.map_map]; rfl
  rw [ed] at ln ⊢
  rw [List.length_map] at ln ⊢
  generalize hm : mine n rows = l at ln ⊢
  rw [hm] at hn
  refine ⟨⟨by omega, by omega⟩, sizeLine_ge (by rw [rngD_len]; omega), ?_⟩
  rw [Int.toNat_natCast]
  unfold rngD
  refine dComp_map (fun k : Nat => D.int ((0 : Int) + k)) (fun k : Nat => D.int ((0 : Int) + k)) (frP l) trivial (fun k hk K1 K2 g1 g2 => ?_) ?_
  · have hk := List.mem_range.mp hk
    have e1 : ∀ j : Nat, j < l.length → atI (l.map fun b => D.str (wordS b)) (j : Int) = some (.str (wordS (l.getD j false))) := fun j hj => atI_nat (by rw [List.getElem?_map, List.getD_eq_getElem?_getD, List.getElem?_eq_getElem hj]; rfl)
    simp only [Int.zero_add] at g1 g2 ⊢
    walk_at "d"
    simp only [e1 k hk, vwq_str]
    refine ⟨okE_word, okE_lit_ask, ?_⟩
    rw [eqD_word]
    cases h1 : l.getD k false with
    | false => exact g2 (by unfold frP; rw [h1]; rfl)
    | true =>
      simp only [cnd_t]
      refine ⟨okE_int, okE_int, ?_⟩
      rw [eqD_int]
      by_cases h0 : k = 0
      · subst h0
        exact g1 (by unfold frP; rw [h1]; rfl)
      · rw [show ((k : Int) == 0) = false by rw [beq_eq_false_iff_ne]; omega]
        simp only [cnd_f, show ((k : Int) - 1) = ((k - 1 : Nat) : Int) by omega, e1 (k - 1) (by omega), vwq_str]
        refine ⟨okE_word, okE_lit_gone, ?_⟩
        rw [eqD_gone]
        have hp : frP l k = !(l.getD (k - 1) false) := by unfold frP; rw [h1]; simp [h0]
        cases h2 : l.getD (k - 1) false with
        | false => exact g1 (by rw [hp, h2]; rfl)
        | true => exact g2 (by rw [hp, h2]; rfl)
  · rw [List.nil_append, List.length_map]
    have := hn o8 o9 o11 (some (.lst (l.map fun b => D.str (wordS b))))
    rw [Int.natCast_add] at this
    exact this
theorem dep_ask {a : Ask} : depD 1 a.d := fun x hx => by
  simp at hx
  rcases hx with rfl | rfl
  · show PyData.strOk _ = true; cases a.1 <;> decide +kernel
  · trivial
theorem dep_asks {rows : List Ask} : depD 2 (.lst (rows.map Ask.d)) := fun x hx => by
  obtain ⟨a, _, rfl⟩ := List.mem_map.mp hx
  exact dep_ask
/-- L15 ..: what is compared -/
theorem k10_15 {D0 : DEnds} {pt s : Addr} {ns : List Int} {rows : List Ask} {room : Nat} {G : GH} {o2 o6 o7 o8 o9 o10 o11 o12 o13 o14 : Option D} (hroom : room ≤ 8) (hl : rows.length ≤ 40) (ok : ∀ a ∈ rows, a.ok)
    (hn : ∀ o8 o9 o10 o11 o12 o13 o14, D0.nx (G10 ns s o2 rows room (some (.int (bl room rows).1)) o6 o7 o8 o9 o10 o11 o12 o13 o14) G) :
    t_law_L15 pt D0 (G10 ns s o2 rows room (some (.int (bl room rows).1)) o6 o7 o8 o9 o10 o11 o12 o13 o14) G := by
  have l22 : ∀ o8 o9 o10 o11 o12 o14, t_law_L22 pt D0 (G10 ns s o2 rows room (some (.int (bl room rows).1)) o6 o7 o8 o9 o10 o11 o12 (some (.int (fs 8 rows))) o14) G := by
    intro o8 o9 o10 o11 o12 o14
    unfold t_law_L22
    walk_at "d"
    refine ⟨8, rows, rfl, by decide, hl, ok, ?_⟩
    try walk_at "d"
    refine ⟨okE_int, okE_int, ?_⟩
    rw [bl_fs ok, eqD_int, beq_self_eq_true]
    try walk_at "d"
    refine ⟨8, rows, rfl, by decide, hl, ok, fun c L k hw hm => ?_⟩
    have hc := bl8_least ok (least_of ok hw hm)
    rw [bl_fs ok] at hc
    subst hc
    try walk_at "d"
    refine ⟨okE_int, okE_int, ?_⟩
    rw [eqD_int, beq_self_eq_true]
    try walk_at "d"
    refine ⟨0, rows, rfl, by decide, hl, ok, ?_⟩
    try walk_at "d"
    have hz : (bl room rows).1 ≤ (bl 0 rows).1 := bl_zero rows [] [] 0 0 (Nat.le_refl _) rfl
    rw [cnd_n (by omega)]
    exact hn _ _ _ _ _ _ _
  have l18 : ∀ o12, t_law_L18 pt D0 (G10 ns s o2 rows room (some (.int (bl room rows).1)) o6 o7 o8 o9 o10 o11 o12 o13 o14) G := by
    intro o12
    unfold t_law_L18
    walk_at "d"
    unfold t_law_L19
    walk_at "d"
    refine ⟨⟨by decide, by decide⟩, ?_⟩
    refine dLoop_inv (fun n Γ' G' => ∃ (o8 o9 o10 o11 o14 : Option D), Γ' = G10 ns s o2 rows room (some (.int (bl room rows).1)) o6 o7 o8 o9 o10 o11 o12 (some (.int (fs n rows))) o14 ∧ G' = G) ⟨_, _, _, _, _, rfl, rfl⟩ (fun _ _ _ _ => trivial) ?_ ?_
    · rintro n x Γ' G' K hx ⟨o8, o9, o10, o11, o14, rfl, rfl⟩ hK
      obtain ⟨hi, rfl⟩ := rngD_get hx
      rw [Int.zero_add]
      walk_at "d"
      exact k10_20 hl fun o8 o9 o11 o14 => hK _ _ ⟨_, _, _, _, _, rfl, rfl⟩
    · rintro Γ' G' ⟨o8, o9, o10, o11, o14, rfl, rfl⟩
      rw [rngD_len]
      exact l22 _ _ _ _ _ _
  unfold t_law_L15
  walk_at "d"
  unfold t_law_L16
  walk_at "d"
  refine ⟨room, rows, rfl, hroom, hl, ok, ?_⟩
  try walk_at "d"
  refine ⟨.int (bl room rows).1, rfl, by decide, trivial, ?_⟩
  try walk_at "d"
  refine ⟨okE_of dep_asks (by decide), okE_of dep_asks (by decide), ?_⟩
  rw [eqD_refl dep_asks]
  try walk_at "d"
  refine ⟨room, rows, rfl, hroom, hl, ok, fun c L k hw hm => ?_⟩
  have hc := bl_least (least_of ok hw hm)
  try walk_at "d"
  rw [cnd_n (by omega)]
  exact l18 _
theorem law_law (pt : Addr) : ∀ ds G Q E, sp_law pt ds G Q E → ds.length = 1 ∧ t_law pt (endsD Q) (startD 15 ds) G := by
  rintro ds G Q E ⟨ns, rfl, hp, h1, hQ⟩
  refine ⟨rfl, ?_⟩
  unfold t_law
  walk_at "d"
  refine ⟨ns, rfl, fun s z hs hz => ?_⟩
  have hspt : s ≠ pt := fun e => by subst e; rw [hp] at hs; cases hs
  unfold t_law_L2
  walk_at "d"
  refine ⟨⟨by decide, by decide⟩, ?_⟩
  refine dLoop_inv (fun n Γ' G' => ∃ (z' : DrawSt) (o2 o3 o4 o5 o6 o7 o8 o9 o10 o11 o12 o13 o14 : Option D), Γ' = [some (.frz (intsD ns)), some (.ref s), o2, o3, o4, o5, o6, o7, o8, o9, o10, o11, o12, o13, o14] ∧ z'.ok ∧ G' s = some z'.o ∧ GSub G G' ∧ OneT G' pt)
    ⟨z, _, _, _, _, _, _, _, _, _, _, _, _, _, rfl, hz, gup_same, GSub.gup hs, h1.lst⟩ (fun _ _ _ _ => trivial) ?_ ?_
  · rintro i x Γ' G' K hx ⟨z1, o2, o3, o4, o5, o6, o7, o8, o9, o10, o11, o12, o13, o14, rfl, hz1, gs, sub, one⟩ hK
    unfold t_law_L3
    walk_at "d"
    refine ⟨s, z1, 40, rfl, by decide, hz1, gs, fun rows z2 hl ok hz2 => ?_⟩
    refine draw (by decide) (by decide) hz2 fun rm z3 r0 r1 hz3 => ?_
    obtain ⟨room, rfl⟩ := Int.eq_ofNat_of_zero_le r0
    try walk_at "d"
    unfold t_law_L4
    walk_at "d"
    intro q hq p hpn
    unfold t_law_L5
    walk_at "d"
    have hqs : q ≠ s := fun e => by subst e; rw [gup_same] at hq; cases hq
    have hpq : p ≠ q := fun e => by subst e; rw [gup_same] at hpn; cases hpn
    rw [gup_ne hqs] at hq
    rw [gup_ne hpq] at hpn
    have hps : p ≠ s := fun e => by subst e; rw [gup_same] at hpn; cases hpn
    have g3s : gup G' s z3.o s = some z3.o := gup_same
    have g3t : gup G' s z3.o pt = some (.tb qLaw) := by rw [gup_ne hspt.symm]; exact sub _ _ hp
    have g3q : gup G' s z3.o q = none := by rw [gup_ne hqs]; exact hq
    have one3 : OneT (gup G' s z3.o) pt := one.lst
    have sub3 : GSub G (gup G' s z3.o) := sub.gup2 hs
    generalize gup G' s z3.o = G3 at *
    refine ⟨⟨by rw [List.length_map]; omega, by rw [List.length_map]; omega⟩, ?_⟩
    have e0 : bl room (rows.take 0) = (0, []) := by rw [List.take_zero]; rfl
    refine dLoop_inv (fun n Γ2 G2 => ∃ (o8 o9 o10 o11 o12 o13 o14 : Option D) (p2 : Addr) (ks : List Nat) (kvs : List (Key × D)) (L : Nat → Nat), Γ2 = G10 ns s (some x) rows room (some (.int (bl room (rows.take n)).1)) (some (.ref q)) (some (.ref p2)) o8 o9 o10 o11 o12 o13 o14 ∧
        (bl room (rows.take n)).2.Nodup ∧ ks.Perm (bl room (rows.take n)).2 ∧ LT kvs (bl room (rows.take n)).2 L n ∧ kvs.length ≤ n ∧ G2 p2 = some (.lst (natsD ks)) ∧ G2 q = some (.dK kvs) ∧ OneT G2 pt ∧ ∀ a, a ≠ q → G3 a ≠ none → G2 a = G3 a)
      ⟨_, _, _, _, _, _, _, p, [], [], fun _ => 0, by rw [e0]; rfl, by rw [e0]; simp, by rw [e0], by rw [e0]; exact ⟨by simp, by simp, by simp⟩, Nat.le_refl _, gup_same, by rw [gup_ne hpq.symm, gup_same]; rfl, one3.dK.lst, fun a ha hg => by rw [gup_ne (fun e => by subst e; exact hg hpn), gup_ne ha]⟩ (fun _ _ _ _ => trivial) ?_ ?_
    · rintro n y Γ2 G2 K2 hy ⟨o8, o9, o10, o11, o12, o13, o14, p2, ks, kvs, L, rfl, nd, pm, lt, kl, gp, gq, one2, keep⟩ hK2
      obtain ⟨hi, rfl⟩ := rngD_get hy
      rw [Int.zero_add]
      walk_at "d"
      rw [Int.toNat_natCast, List.length_map] at hi
      have ha : rows[n]? = some rows[n] := List.getElem?_eq_getElem hi
      have et : rows.take (n + 1) = rows.take n ++ [rows[n]] := by rw [List.take_succ, ha]; rfl
      refine k10_6 ha (by omega) (by omega) nd bl_len pm lt kl gp gq (by rw [keep pt (fun e => by subst e; rw [g3t] at g3q; cases g3q) (by rw [g3t]; simp)]; exact g3t) one2 fun o9 o10 o11 p' ks' kvs' L' G4 a1 a2 a3 a4 a5 a6 a7 a8 => hK2 _ _ ⟨some (.int n), o9, o10, o11, o12, o13, o14, p', ks', kvs', L', ?_, ?_, ?_, ?_, a3, a4, a5, a6, fun a ha hg => ?_⟩
      · rw [et, bl_snoc]; rfl
      · rw [et, bl_snoc]; exact blK_nd nd
      · rw [et, bl_snoc]; exact a1
      · rw [et, bl_snoc]; exact a2
      · rw [a8 a ha (by rw [keep a ha hg]; exact hg), keep a ha hg]
    · rintro Γ2 G2 ⟨o8, o9, o10, o11, o12, o13, o14, p2, ks, kvs, L, rfl, nd, pm, lt, kl, gp, gq, one2, keep⟩
      rw [rngD_len, Int.toNat_natCast, List.length_map, List.take_length]
      refine k10_15 (by omega) hl ok fun o8 o9 o10 o11 o12 o13 o14 => hK _ _ ⟨z3, _, _, _, _, _, _, _, _, _, _, _, _, _, rfl, hz3, ?_, fun a o e => ?_, one2⟩
      · rw [keep s hqs.symm (by rw [g3s]; simp)]; exact g3s
      · have e3 := sub3 a o e
        rw [keep a (fun e4 => by subst e4; rw [g3q] at e3; cases e3) (by rw [e3]; simp)]; exact e3
  · rintro Γ' G' ⟨z1, o2, o3, o4, o5, o6, o7, o8, o9, o10, o11, o12, o13, o14, rfl, hz1, gs, sub, one⟩
    walk_at "d"
    exact ⟨G, sub, hQ⟩
/-- the promise at the law's call -/
theorem law_end {pt : Addr} {ns : List Int} (hl : ns.length ≤ 63) : sp_law pt [.frz (ns.map D.int)] (gup g0 pt (.tb qLaw)) (fun d _ => d = .bl true) XD0 := ⟨ns, rfl, gup_same, one_one, rfl⟩
end TK

namespace TK
open PySem PySem.Spec L2
def topS (i : Nat) : Stmt := PySem.Challenge.pw_tilekeep_k10_by_the_last.main.body.getD i (.Pass ⟨0, 0, 0, 0⟩)
abbrev s_law_start : Stmt := topS 16
theorem sc_law_start : FnScope ["_law_script", "_law_mixed", "_law_cell"] ["_law_script"] (defScope s_law_start) := ⟨rfl, rfl, rfl, by decide +kernel, rfl, by decide +kernel, by decide +kernel⟩
abbrev s_law_drawn : Stmt := topS 17
theorem sc_law_drawn : FnScope ["_law_state", "_law_many", "_law_found", "_law_cell"] ["_law_state", "_law_many"] (defScope s_law_drawn) := ⟨rfl, rfl, rfl, by decide +kernel, rfl, by decide +kernel, by decide +kernel⟩
abbrev s_law_asks : Stmt := topS 19
theorem sc_law_asks : FnScope ["_law_state", "_law_most", "_law_few", "_law_found", "_law_k"] ["_law_state", "_law_most"] (defScope s_law_asks) := ⟨rfl, rfl, rfl, by decide +kernel, rfl, by decide +kernel, by decide +kernel⟩
abbrev s_law_same : Stmt := topS 18
theorem sc_law_same : FnScope ["_law_found", "_law_due", "_law_k"] ["_law_found", "_law_due"] (defScope s_law_same) := ⟨rfl, rfl, rfl, by decide +kernel, rfl, by decide +kernel, by decide +kernel⟩
abbrev s_is_number : Stmt := topS 5
theorem sc_is_number : FnScope ["thing", "low", "high"] ["thing", "low", "high"] (defScope s_is_number) := ⟨rfl, rfl, rfl, by decide +kernel, rfl, by decide +kernel, by decide +kernel⟩
abbrev s_need_asks : Stmt := topS 11
theorem sc_need_asks : FnScope ["room", "rows", "number", "row"] ["room", "rows"] (defScope s_need_asks) := ⟨rfl, rfl, rfl, by decide +kernel, rfl, by decide +kernel, by decide +kernel⟩
abbrev s_by_last : Stmt := topS 14
theorem sc_by_last : FnScope ["room", "rows", "kept", "count", "word", "name", "one"] ["room", "rows"] (defScope s_by_last) := ⟨rfl, rfl, rfl, by decide +kernel, rfl, by decide +kernel, by decide +kernel⟩
abbrev s_with_one : Stmt := topS 12
theorem sc_with_one : FnScope ["kept", "name", "room", "found", "other", "one"] ["kept", "name", "room"] (defScope s_with_one) := ⟨rfl, rfl, rfl, by decide +kernel, rfl, by decide +kernel, by decide +kernel⟩
abbrev s_fewest : Stmt := topS 13
theorem sc_fewest : FnScope ["room", "rows", "ways", "word", "name", "later", "kept", "count", "past", "some", "one", "many", "best"] ["room", "rows"] (defScope s_fewest) := ⟨rfl, rfl, rfl, by decide +kernel, rfl, by decide +kernel, by decide +kernel⟩
abbrev s_law : Stmt := topS 20
theorem sc_law : FnScope ["_law_script", "_law_state", "_law_turn", "_law_rows", "_law_room", "_law_count", "_law_last", "_law_kept", "_law_k", "_law_word", "_law_name", "_law_one", "_law_handed", "_law_fresh", "_law_mine"] ["_law_script"] (defScope s_law) := ⟨rfl, rfl, rfl, by decide +kernel, rfl, by decide +kernel, by decide +kernel⟩
structure Ad where
  mk ::
  (law_start law_drawn law_asks law_same is_number need_asks by_last with_one fewest law : Addr)
structure Fd where
  mk ::
  (law_start law_drawn law_asks law_same is_number need_asks by_last with_one fewest law : FuncData)
structure Md (w : World) (K : PySem.W.Frag) (mg : Str → Option Value) (a : Ad) (d : Fd) : Prop where
  f_law_start : Fun K "_law_start" "_law_start" s_law_start a.law_start d.law_start
  g_law_start : mg "_law_start" = some (.ref a.law_start)
  n_law_start : Binds K d.law_start ["_law_script"] []
  f_law_drawn : Fun K "_law_drawn" "_law_drawn" s_law_drawn a.law_drawn d.law_drawn
  g_law_drawn : mg "_law_drawn" = some (.ref a.law_drawn)
  n_law_drawn : Binds K d.law_drawn ["_law_state", "_law_many"] []
  f_law_asks : Fun K "_law_asks" "_law_asks" s_law_asks a.law_asks d.law_asks
  g_law_asks : mg "_law_asks" = some (.ref a.law_asks)
  n_law_asks : Binds K d.law_asks ["_law_state", "_law_most"] []
  f_law_same : Fun K "_law_same" "_law_same" s_law_same a.law_same d.law_same
  g_law_same : mg "_law_same" = some (.ref a.law_same)
  n_law_same : Binds K d.law_same ["_law_found", "_law_due"] []
  f_is_number : Fun K "is_number" "is_number" s_is_number a.is_number d.is_number
  g_is_number : mg "is_number" = some (.ref a.is_number)
  n_is_number : Binds K d.is_number ["thing", "low", "high"] []
  f_need_asks : Fun K "need_asks" "need_asks" s_need_asks a.need_asks d.need_asks
  g_need_asks : mg "need_asks" = some (.ref a.need_asks)
  n_need_asks : Binds K d.need_asks ["room", "rows"] []
  f_by_last : Fun K "by_last" "by_last" s_by_last a.by_last d.by_last
  g_by_last : mg "by_last" = some (.ref a.by_last)
  n_by_last : Binds K d.by_last ["room", "rows"] []
  f_with_one : Fun K "with_one" "with_one" s_with_one a.with_one d.with_one
  g_with_one : mg "with_one" = some (.ref a.with_one)
  n_with_one : Binds K d.with_one ["kept", "name", "room"] []
  f_fewest : Fun K "fewest" "fewest" s_fewest a.fewest d.fewest
  g_fewest : mg "fewest" = some (.ref a.fewest)
  n_fewest : Binds K d.fewest ["room", "rows"] []
  f_law : Fun K "law" "law" s_law a.law d.law
  g_law : mg "law" = some (.ref a.law)
  n_law : Binds K d.law ["_law_script"] []
  b_bool : mg "bool" = none
  b_enumerate : mg "enumerate" = none
  b_int : mg "int" = none
  b_isinstance : mg "isinstance" = none
  b_len : mg "len" = none
  b_list : mg "list" = none
  b_max : mg "max" = none
  b_min : mg "min" = none
  b_range : mg "range" = none
  b_sorted : mg "sorted" = none
  b_str : mg "str" = none
  b_tuple : mg "tuple" = none
  c_ASK : ∃ t, mg "ASK" = some (.str "ask" t)
  c_GONE : ∃ t, mg "GONE" = some (.str "gone" t)
  c_MOST_NAMES : ∃ t, mg "MOST_NAMES" = some (.int 8 t)
  c_MOST_ROWS : ∃ t, mg "MOST_ROWS" = some (.int 40 t)
section
variable {P : Program} {w : World} {K : PySem.W.Frag} {mg : Str → Option Value} {base : Heap} {a : Ad} {d : Fd}
set_option maxHeartbeats 4000000 in
theorem der_law_start (M : Md w K mg a d) {cdv : Value} {A : Around} {outer : List Env} {s : Shared} {H : Hp} {E : XK} (hr : Room 0 (A.deeper (PyProof.Rows.envOfC "_law_start" (defScope s_law_start) s.heap.objs.size a.law_start cdv))) :
    PDSs (cxOf CX0 P w K mg base ["_law_script", "_law_mixed", "_law_cell"] "_law_start" (defScope s_law_start) a.law_start cdv A outer s H E).nox (defBody s_law_start) t_law_start :=
  pdss_cons (pds_set (i := 1) sc_law_start.nd rfl (by first | exact Or.inl rfl | exact Or.inr rfl) (pd_int))
  (pdss_cons (pds_for PassesOwn.never rfl (pdi_any (pdv 0)) (pdg_name (vs := [2]) (i := 2) sc_law_start.nd rfl (by first | exact Or.inl rfl | exact Or.inr rfl)) (pdss_one (pds_set (i := 1) sc_law_start.nd rfl (by first | exact Or.inl rfl | exact Or.inr rfl) (pd_mod (pd_add false (pd_add false (pd_mul false (pdv 1) (pd_int)) (pdv 2)) (pd_int)) (pd_int)))))
  (pdss_one (pds_ret (pd_lst true (pda_cons (pdv 0) (pda_cons (pd_int) (pda_cons (pdv 1) (pda_cons (pd_int) (pda_nil)))))))))
theorem ok_law_start (M : Md w K mg a d) : FnOk P w K mg base CX0 1 a.law_start d.law_start ["_law_script"] (liftF K sp_law_start) :=
  okD M.f_law_start sc_law_start (fun cdv A outer s H E hr => der_law_start M hr) law_law_start
set_option maxHeartbeats 4000000 in
theorem der_law_drawn (M : Md w K mg a d) {cdv : Value} {A : Around} {outer : List Env} {s : Shared} {H : Hp} {E : XK} (hr : Room 0 (A.deeper (PyProof.Rows.envOfC "_law_drawn" (defScope s_law_drawn) s.heap.objs.size a.law_drawn cdv))) :
    PDSs (cxOf CX0 P w K mg base ["_law_state", "_law_many", "_law_found", "_law_cell"] "_law_drawn" (defScope s_law_drawn) a.law_drawn cdv A outer s H E).nox (defBody s_law_drawn) t_law_drawn :=
  pdss_cons (pds_if (pdt_gt (pd_ix ix_seq (r2_ix _) (pdv 0) (pd_int)) (pd_int)) (pdss_cons (pds_set (i := 2) sc_law_drawn.nd rfl (by first | exact Or.inl rfl | exact Or.inr rfl) (pd_mod (pd_ix ix_seq (r2_ix _) (pdv 0) (pd_int)) (pdv 1)))
  (pdss_cons (pds_setItem (pd_fdiv (pd_ix ix_seq (r2_ix _) (pdv 0) (pd_int)) (pdv 1)) (pdv 0) (pd_int) (pg_sub (pdv 0) (pd_int) set_list))
  (pdss_one (pds_ret (pdv 2))))) (pdss_nil))
  (pdss_cons (pds_setItem (pd_add false (pd_ix ix_seq (r2_ix _) (pdv 0) (pd_int)) (pd_int)) (pdv 0) (pd_int) (pg_sub (pdv 0) (pd_int) set_list))
  (pdss_cons (pds_if (pdt_le (pd_ix ix_seq (r2_ix _) (pdv 0) (pd_int)) (pd_callB call_len (cd_len _) rfl M.b_len (by decide +kernel) (pda_cons (pd_ix ix_seq (r2_ix _) (pdv 0) (pd_int)) (pda_nil)))) (pdss_cons (pds_set (i := 3) sc_law_drawn.nd rfl (by first | exact Or.inl rfl | exact Or.inr rfl) (pd_ix ix_seq (r2_ix _) (pd_ix ix_seq (r2_ix _) (pdv 0) (pd_int)) (pd_sub (pd_ix ix_seq (r2_ix _) (pdv 0) (pd_int)) (pd_int))))
  (pdss_cons (pds_setItem (pd_if (pdt_ge (pdv 3) (pd_pow (pd_int) (pd_int))) (pd_fdiv (pdv 3) (pdv 1)) (pd_int)) (pdv 0) (pd_int) (pg_sub (pdv 0) (pd_int) set_list))
  (pdss_one (pds_ret (pd_mod (pdv 3) (pdv 1)))))) (pdss_nil))
  (pdss_cons (pds_setItem (pd_mod (pd_add false (pd_mul false (pd_ix ix_seq (r2_ix _) (pdv 0) (pd_int)) (pd_int)) (pd_int)) (pd_int)) (pdv 0) (pd_int) (pg_sub (pdv 0) (pd_int) set_list))
  (pdss_one (pds_ret (pd_mod (pd_fdiv (pd_ix ix_seq (r2_ix _) (pdv 0) (pd_int)) (pd_int)) (pdv 1)))))))
theorem ok_law_drawn (M : Md w K mg a d) : FnOk P w K mg base CX0 1 a.law_drawn d.law_drawn ["_law_state", "_law_many"] (liftF K sp_law_drawn) :=
  okD M.f_law_drawn sc_law_drawn (fun cdv A outer s H E hr => der_law_drawn M hr) law_law_drawn
set_option maxHeartbeats 4000000 in
theorem der_law_asks (M : Md w K mg a d) (ok_law_drawn : FnOk P w K mg base CX0 1 a.law_drawn d.law_drawn ["_law_state", "_law_many"] (liftF K sp_law_drawn)) {cdv : Value} {A : Around} {outer : List Env} {s : Shared} {H : Hp} {E : XK} (hr : Room 1 (A.deeper (PyProof.Rows.envOfC "_law_asks" (defScope s_law_asks) s.heap.objs.size a.law_asks cdv))) :
    PDSs (cxOf CX0 P w K mg base ["_law_state", "_law_most", "_law_few", "_law_found", "_law_k"] "_law_asks" (defScope s_law_asks) a.law_asks cdv A outer s H E).nox (defBody s_law_asks) t_law_asks :=
  pdss_cons (pds_set (i := 2) sc_law_asks.nd rfl (by first | exact Or.inl rfl | exact Or.inr rfl) (pd_ix ix_seq (r2_ix _) (pd_lst false (pda_cons (pd_int) (pda_cons (pd_int) (pda_cons (pd_int) (pda_nil))))) (pd_call ok_law_drawn (hr.mono (by decide)) rfl M.g_law_drawn M.f_law_drawn.kp M.n_law_drawn (pda_cons (pdv 0) (pda_cons (pd_int) (pda_nil))))))
  (pdss_cons (pds_set (i := 3) sc_law_asks.nd rfl (by first | exact Or.inl rfl | exact Or.inr rfl) (pd_lst true (pda_nil)))
  (pdss_cons (pds_for PassesOwn.never rfl (pdi_rng1 rfl M.b_range (pda_cons (pd_call ok_law_drawn (hr.mono (by decide)) rfl M.g_law_drawn M.f_law_drawn.kp M.n_law_drawn (pda_cons (pdv 0) (pda_cons (pd_add false (pdv 1) (pd_int)) (pda_nil)))) (pda_nil))) (pdg_name (vs := [4]) (i := 4) sc_law_asks.nd rfl (by first | exact Or.inl rfl | exact Or.inr rfl)) (pdss_one (pds_expr (pd_mt PySem.F.plainAttrs_list PySem.F.slot_list_append PySem.F.type_list_append mt_append md_append (pdv 3) (pda_cons (pd_tup (pda_cons (pd_ix ix_seq (r2_ix _) (pd_lst false (pda_cons (pd_str) (pda_cons (pd_str) (pda_nil)))) (pd_callTy call_intD cd_int rfl M.b_int (by decide +kernel) (pda_cons (pd_eq hr.units (pd_call ok_law_drawn (hr.mono (by decide)) rfl M.g_law_drawn M.f_law_drawn.kp M.n_law_drawn (pda_cons (pdv 0) (pda_cons (pd_int) (pda_nil)))) (pd_int)) (pda_nil)))) (pda_cons (pd_call ok_law_drawn (hr.mono (by decide)) rfl M.g_law_drawn M.f_law_drawn.kp M.n_law_drawn (pda_cons (pdv 0) (pda_cons (pdv 2) (pda_nil)))) (pda_nil)))) (pda_nil))))))
  (pdss_one (pds_ret (pd_frz (pdv 3))))))
theorem ok_law_asks (M : Md w K mg a d) : FnOk P w K mg base CX0 2 a.law_asks d.law_asks ["_law_state", "_law_most"] (liftF K sp_law_asks) :=
  okD M.f_law_asks sc_law_asks (fun cdv A outer s H E hr => der_law_asks M (ok_law_drawn M) hr) law_law_asks
set_option maxHeartbeats 4000000 in
theorem der_law_same (n : Nat) (M : Md w K mg a d) (ok_law_same : FnOk P w K mg base CX0 n a.law_same d.law_same ["_law_found", "_law_due"] (liftF K (sp_law_same n))) {cdv : Value} {A : Around} {outer : List Env} {s : Shared} {H : Hp} {E : XK} (hr : Room n (A.deeper (PyProof.Rows.envOfC "_law_same" (defScope s_law_same) s.heap.objs.size a.law_same cdv))) :
    PDSs (cxOf CX0 P w K mg base ["_law_found", "_law_due", "_law_k"] "_law_same" (defScope s_law_same) a.law_same cdv A outer s H E).nox (defBody s_law_same) (t_law_same n) :=
  pdss_cons (pds_if (pdt_val (pd_callB call_isiD (cd_isi _) rfl M.b_isinstance (by decide +kernel) (pda_cons (pdv 1) (pda_cons (pd_tup (pda_cons (pd_ty rfl M.b_tuple (by decide +kernel)) (pda_cons (pd_ty rfl M.b_list (by decide +kernel)) (pda_nil)))) (pda_nil))))) (pdss_cons (pds_if (PW.pt (pdw_or (pdt_not (pdt_val (pd_callB call_isiD (cd_isi _) rfl M.b_isinstance (by decide +kernel) (pda_cons (pdv 0) (pda_cons (pd_tup (pda_cons (pd_ty rfl M.b_tuple (by decide +kernel)) (pda_cons (pd_ty rfl M.b_list (by decide +kernel)) (pda_nil)))) (pda_nil)))))) (pdw_or1 (pdt_ne hr.units (pd_callB call_isiD (cd_isi _) rfl M.b_isinstance (by decide +kernel) (pda_cons (pdv 0) (pda_cons (pd_ty rfl M.b_list (by decide +kernel)) (pda_nil)))) (pd_callB call_isiD (cd_isi _) rfl M.b_isinstance (by decide +kernel) (pda_cons (pdv 1) (pda_cons (pd_ty rfl M.b_list (by decide +kernel)) (pda_nil)))))))) (pdss_one (pds_ret (pd_bl))) (pdss_nil))
  (pdss_cons (pds_if (pdt_ne hr.units (pd_callB call_len (cd_len _) rfl M.b_len (by decide +kernel) (pda_cons (pdv 0) (pda_nil))) (pd_callB call_len (cd_len _) rfl M.b_len (by decide +kernel) (pda_cons (pdv 1) (pda_nil)))) (pdss_one (pds_ret (pd_bl))) (pdss_nil))
  (pdss_one (pds_ret (pd_eq hr.units (pd_lc false (own := [("_law_k", 2)]) rfl sc_law_same.nd (pdi_rng1 rfl M.b_range (pda_cons (pd_callB call_len (cd_len _) rfl M.b_len (by decide +kernel) (pda_cons (pdv 1) (pda_nil))) (pda_nil))) (blkOk_by (own := [("_law_k", 2)]) (by kernel_rfl)) (fun _ _ _ _ _ => pdg_name (vs := [2]) (i := 2) sc_law_same.nd rfl (by first | exact Or.inl rfl | exact Or.inr rfl)) (fun _ _ _ _ _ => pdts_one (pdt_not (pdt_val (pd_call ok_law_same hr rfl M.g_law_same M.f_law_same.kp M.n_law_same (pda_cons (pd_ix ix_seq (r2_ix _) (pdv 0) (pdv 2)) (pda_cons (pd_ix ix_seq (r2_ix _) (pdv 1) (pdv 2)) (pda_nil))))))) (fun _ _ _ _ _ => pdv 2)) (pd_lst false (pda_nil))))))) (pdss_nil))
  (pdss_cons (pds_if (pdt_is (pdv 1) (pd_non)) (pdss_one (pds_ret (pd_is (pdv 0) (pd_non)))) (pdss_nil))
  (pdss_cons (pds_if (pdt_val (pd_callB call_isiD (cd_isi _) rfl M.b_isinstance (by decide +kernel) (pda_cons (pdv 1) (pda_cons (pd_ty rfl M.b_str (by decide +kernel)) (pda_nil))))) (pdss_one (pds_ret (pd_and (pd_callB call_isiD (cd_isi _) rfl M.b_isinstance (by decide +kernel) (pda_cons (pdv 0) (pda_cons (pd_ty rfl M.b_str (by decide +kernel)) (pda_nil)))) (pd_one (pd_eq hr.units (pdv 0) (pdv 1)))))) (pdss_nil))
  (pdss_cons (pds_if (PW.pt (pdw_or (pdt_val (pd_callB call_isiD (cd_isi _) rfl M.b_isinstance (by decide +kernel) (pda_cons (pdv 1) (pda_cons (pd_ty rfl M.b_bool (by decide +kernel)) (pda_nil))))) (pdw_or1 (pdt_val (pd_callB call_isiD (cd_isi _) rfl M.b_isinstance (by decide +kernel) (pda_cons (pdv 0) (pda_cons (pd_ty rfl M.b_bool (by decide +kernel)) (pda_nil)))))))) (pdss_one (pds_ret (pd_and (pd_callB call_isiD (cd_isi _) rfl M.b_isinstance (by decide +kernel) (pda_cons (pdv 1) (pda_cons (pd_ty rfl M.b_bool (by decide +kernel)) (pda_nil)))) (pd_and (pd_callB call_isiD (cd_isi _) rfl M.b_isinstance (by decide +kernel) (pda_cons (pdv 0) (pda_cons (pd_ty rfl M.b_bool (by decide +kernel)) (pda_nil)))) (pd_one (pd_eq hr.units (pdv 0) (pdv 1))))))) (pdss_nil))
  (pdss_one (pds_ret (pd_and (pd_callB call_isiD (cd_isi _) rfl M.b_isinstance (by decide +kernel) (pda_cons (pdv 0) (pda_cons (pd_ty rfl M.b_int (by decide +kernel)) (pda_nil)))) (pd_one (pd_eq hr.units (pdv 0) (pdv 1)))))))))
theorem ok_law_same (M : Md w K mg a d) : ∀ n, FnOk P w K mg base CX0 n a.law_same d.law_same ["_law_found", "_law_due"] (liftF K (sp_law_same n))
  | 0 => ⟨fun vs H Q E z => by obtain ⟨_, _, _, _, _, _, _, z, _⟩ := z; exact z.elim, fun A outer s H args us vs Q E _ _ _ _ z => by obtain ⟨_, _, _, _, _, _, _, z, _⟩ := z; exact z.elim⟩
  | n + 1 => okD M.f_law_same sc_law_same (fun cdv A outer s H E hr => der_law_same n M (ok_law_same M n) hr) (law_law_same n)
set_option maxHeartbeats 4000000 in
theorem der_is_number (M : Md w K mg a d) {cdv : Value} {A : Around} {outer : List Env} {s : Shared} {H : Hp} {E : XK} (hr : Room 0 (A.deeper (PyProof.Rows.envOfC "is_number" (defScope s_is_number) s.heap.objs.size a.is_number cdv))) :
    PDSs (cxOf CX0 P w K mg base ["thing", "low", "high"] "is_number" (defScope s_is_number) a.is_number cdv A outer s H E).nox (defBody s_is_number) t_is_number :=
  pdss_one (pds_ret (pd_and (pd_callB call_isiD (cd_isi _) rfl M.b_isinstance (by decide +kernel) (pda_cons (pdv 0) (pda_cons (pd_ty rfl M.b_int (by decide +kernel)) (pda_nil)))) (pd_and (pd_not (pd_callB call_isiD (cd_isi _) rfl M.b_isinstance (by decide +kernel) (pda_cons (pdv 0) (pda_cons (pd_ty rfl M.b_bool (by decide +kernel)) (pda_nil))))) (pd_one (pd_le_le (pdv 1) (pdv 0) (pdv 2))))))
theorem ok_is_number (M : Md w K mg a d) : FnOk P w K mg base CX0 1 a.is_number d.is_number ["thing", "low", "high"] (liftF K sp_is_number) :=
  okD M.f_is_number sc_is_number (fun cdv A outer s H E hr => der_is_number M hr) law_is_number
set_option maxHeartbeats 4000000 in
theorem der_need_asks (M : Md w K mg a d) (ok_is_number : FnOk P w K mg base CX0 1 a.is_number d.is_number ["thing", "low", "high"] (liftF K sp_is_number)) {cdv : Value} {A : Around} {outer : List Env} {s : Shared} {H : Hp} {E : XK} (hr : Room 1 (A.deeper (PyProof.Rows.envOfC "need_asks" (defScope s_need_asks) s.heap.objs.size a.need_asks cdv))) :
    PDSs (cxOf CX0 P w K mg base ["room", "rows", "number", "row"] "need_asks" (defScope s_need_asks) a.need_asks cdv A outer s H E).nox (defBody s_need_asks) t_need_asks :=
  pdss_cons (pds_if (pdt_not (pdt_val (pd_call ok_is_number (hr.mono (by decide)) rfl M.g_is_number M.f_is_number.kp M.n_is_number (pda_cons (pdv 0) (pda_cons (pd_int) (pda_cons (pd_gi rfl M.c_MOST_NAMES) (pda_nil))))))) (pdss_one (pds_never)) (pdss_nil))
  (pdss_one (pds_for PassesOwn.never rfl (pdi_enumerate rfl M.b_enumerate (pda_cons (pdv 1) (pda_nil))) (pdg_tup rfl (pdgs_cons (pdg_name (vs := [2, 3]) (i := 2) sc_need_asks.nd rfl (by first | exact Or.inl rfl | exact Or.inr rfl)) (pdgs_cons (pdg_name (vs := [2, 3]) (i := 3) sc_need_asks.nd rfl (by first | exact Or.inl rfl | exact Or.inr rfl)) (pdgs_nil)))) (pdss_cons (pds_if (PW.pt (pdw_or (pdt_eq hr.units (pdv 2) (pd_gi rfl M.c_MOST_ROWS)) (pdw_or (pdt_not (pdt_val (pd_callB call_isiD (cd_isi _) rfl M.b_isinstance (by decide +kernel) (pda_cons (pdv 3) (pda_cons (pd_ty rfl M.b_tuple (by decide +kernel)) (pda_nil)))))) (pdw_or (pdt_ne hr.units (pd_callB call_len (cd_len _) rfl M.b_len (by decide +kernel) (pda_cons (pdv 3) (pda_nil))) (pd_int)) (pdw_or1 (pdt_notinT (pd_ix ix_seq (r2_ix _) (pdv 3) (pd_int)) (pd_tup (pda_cons (pd_gs rfl M.c_ASK) (pda_cons (pd_gs rfl M.c_GONE) (pda_nil)))))))))) (pdss_one (pds_never)) (pdss_nil))
  (pdss_one (pds_if (pdt_not (pdt_val (pd_call ok_is_number (hr.mono (by decide)) rfl M.g_is_number M.f_is_number.kp M.n_is_number (pda_cons (pd_ix ix_seq (r2_ix _) (pdv 3) (pd_int)) (pda_cons (pd_int) (pda_cons (pd_sub (pd_gi rfl M.c_MOST_NAMES) (pd_int)) (pda_nil))))))) (pdss_one (pds_never)) (pdss_nil))))))
theorem ok_need_asks (M : Md w K mg a d) : FnOk P w K mg base CX0 2 a.need_asks d.need_asks ["room", "rows"] (liftF K sp_need_asks) :=
  okD M.f_need_asks sc_need_asks (fun cdv A outer s H E hr => der_need_asks M (ok_is_number M) hr) law_need_asks
set_option maxHeartbeats 4000000 in
theorem der_by_last (M : Md w K mg a d) (ok_need_asks : FnOk P w K mg base CX0 2 a.need_asks d.need_asks ["room", "rows"] (liftF K sp_need_asks)) {cdv : Value} {A : Around} {outer : List Env} {s : Shared} {H : Hp} {E : XK} (hr : Room 2 (A.deeper (PyProof.Rows.envOfC "by_last" (defScope s_by_last) s.heap.objs.size a.by_last cdv))) :
    PDSs (cxOf CX0 P w K mg base ["room", "rows", "kept", "count", "word", "name", "one"] "by_last" (defScope s_by_last) a.by_last cdv A outer s H E).nox (defBody s_by_last) t_by_last :=
  pdss_cons (pds_expr (pd_call ok_need_asks (hr.mono (by decide)) rfl M.g_need_asks M.f_need_asks.kp M.n_need_asks (pda_cons (pdv 0) (pda_cons (pdv 1) (pda_nil)))))
  (pdss_cons (pds_par (i := 2) (j := 3) rfl sc_by_last.nd rfl rfl (by decide) rfl rfl (pda_cons (pd_lst false (pda_nil)) (pda_cons (pd_int) (pda_nil))) (by rfl))
  (pdss_cons (pds_for PassesOwn.never rfl (pdi_any (pdv 1)) (pdg_tup rfl (pdgs_cons (pdg_name (vs := [4, 5]) (i := 4) sc_by_last.nd rfl (by first | exact Or.inl rfl | exact Or.inr rfl)) (pdgs_cons (pdg_name (vs := [4, 5]) (i := 5) sc_by_last.nd rfl (by first | exact Or.inl rfl | exact Or.inr rfl)) (pdgs_nil)))) (pdss_cons (pds_set (i := 3) sc_by_last.nd rfl (by first | exact Or.inl rfl | exact Or.inr rfl) (pd_add false (pdv 3) (pd_callTy call_intD cd_int rfl M.b_int (by decide +kernel) (pda_cons (pd_and (pd_eq hr.units (pdv 4) (pd_gs rfl M.c_ASK)) (pd_one (pd_notinL (u65 hr) (pdv 5) (pdv 2)))) (pda_nil)))))
  (pdss_cons (pds_set (i := 2) sc_by_last.nd rfl (by first | exact Or.inl rfl | exact Or.inr rfl) (pd_add false (pd_lc false (own := [("one", 6)]) rfl sc_by_last.nd (pdi_any (pdv 2)) (blkOk_by (own := [("one", 6)]) (by kernel_rfl)) (fun _ _ _ _ _ => pdg_name (vs := [6]) (i := 6) sc_by_last.nd rfl (by first | exact Or.inl rfl | exact Or.inr rfl)) (fun _ _ _ _ _ => pdts_one (pdt_ne hr.units (pdv 6) (pdv 5))) (fun _ _ _ _ _ => pdv 6)) (pd_mul false (pd_lst false (pda_cons (pdv 5) (pda_nil))) (pd_callTy call_intD cd_int rfl M.b_int (by decide +kernel) (pda_cons (pd_eq hr.units (pdv 4) (pd_gs rfl M.c_ASK)) (pda_nil))))))
  (pdss_one (pds_set (i := 2) sc_by_last.nd rfl (by first | exact Or.inl rfl | exact Or.inr rfl) (pd_slice false (pdv 2) (pdo_some (pd_callB (call_max rfl) (cd_max _) rfl M.b_max (by decide +kernel) (pda_cons (pd_int) (pda_cons (pd_sub (pd_callB call_len (cd_len _) rfl M.b_len (by decide +kernel) (pda_cons (pdv 2) (pda_nil))) (pdv 0)) (pda_nil))))) (pdo_none)))))))
  (pdss_one (pds_ret (pdv 3)))))
theorem ok_by_last (M : Md w K mg a d) : FnOk P w K mg base CX0 3 a.by_last d.by_last ["room", "rows"] (liftF K sp_by_last) :=
  okD M.f_by_last sc_by_last (fun cdv A outer s H E hr => der_by_last M (ok_need_asks M) hr) law_by_last
set_option maxHeartbeats 4000000 in
theorem der_with_one (M : Md w K mg a d) {cdv : Value} {A : Around} {outer : List Env} {s : Shared} {H : Hp} {E : XK} (hr : Room 0 (A.deeper (PyProof.Rows.envOfC "with_one" (defScope s_with_one) s.heap.objs.size a.with_one cdv))) :
    PDSs (cxOf CX0 P w K mg base ["kept", "name", "room", "found", "other", "one"] "with_one" (defScope s_with_one) a.with_one cdv A outer s H E).nox (defBody s_with_one) t_with_one :=
  pdss_cons (pds_set (i := 3) sc_with_one.nd rfl (by first | exact Or.inl rfl | exact Or.inr rfl) (pd_lst true (pda_cons (pdv 0) (pda_nil))))
  (pdss_cons (pds_if (pdt_lt (pd_callB call_len (cd_len _) rfl M.b_len (by decide +kernel) (pda_cons (pdv 0) (pda_nil))) (pdv 2)) (pdss_one (pds_expr (pd_mt PySem.F.plainAttrs_list PySem.F.slot_list_append PySem.F.type_list_append mt_append md_append (pdv 3) (pda_cons (pd_callTy call_tuple_of (cd_tuple _) rfl M.b_tuple (by decide +kernel) (pda_cons (pd_callB (call_sortA rfl hr.units) (cd_sortA _ false) rfl M.b_sorted (by decide +kernel) (pda_cons (pd_add false (pdv 0) (pd_tup (pda_cons (pdv 1) (pda_nil)))) (pda_nil))) (pda_nil))) (pda_nil))))) (pdss_one (pds_for PassesOwn.never rfl (pdi_any (pdv 0)) (pdg_name (vs := [4]) (i := 4) sc_with_one.nd rfl (by first | exact Or.inl rfl | exact Or.inr rfl)) (pdss_one (pds_expr (pd_mt PySem.F.plainAttrs_list PySem.F.slot_list_append PySem.F.type_list_append mt_append md_append (pdv 3) (pda_cons (pd_callTy call_tuple_of (cd_tuple _) rfl M.b_tuple (by decide +kernel) (pda_cons (pd_callB (call_sortA rfl hr.units) (cd_sortA _ false) rfl M.b_sorted (by decide +kernel) (pda_cons (pd_add false (pd_lc false (own := [("one", 5)]) rfl sc_with_one.nd (pdi_any (pdv 0)) (blkOk_by (own := [("one", 5)]) (by kernel_rfl)) (fun _ _ _ _ _ => pdg_name (vs := [5]) (i := 5) sc_with_one.nd rfl (by first | exact Or.inl rfl | exact Or.inr rfl)) (fun _ _ _ _ _ => pdts_one (pdt_ne hr.units (pdv 5) (pdv 4))) (fun _ _ _ _ _ => pdv 5)) (pd_lst false (pda_cons (pdv 1) (pda_nil)))) (pda_nil))) (pda_nil))) (pda_nil))))))))
  (pdss_one (pds_ret (pd_frz (pdv 3)))))
theorem ok_with_one (M : Md w K mg a d) : FnOk P w K mg base CX0 1 a.with_one d.with_one ["kept", "name", "room"] (liftF K sp_with_one) :=
  okD M.f_with_one sc_with_one (fun cdv A outer s H E hr => der_with_one M hr) law_with_one
set_option maxHeartbeats 4000000 in
theorem der_fewest (M : Md w K mg a d) (ok_need_asks : FnOk P w K mg base CX0 2 a.need_asks d.need_asks ["room", "rows"] (liftF K sp_need_asks)) (ok_with_one : FnOk P w K mg base CX0 1 a.with_one d.with_one ["kept", "name", "room"] (liftF K sp_with_one)) {cdv : Value} {A : Around} {outer : List Env} {s : Shared} {H : Hp} {E : XK} (hr : Room 2 (A.deeper (PyProof.Rows.envOfC "fewest" (defScope s_fewest) s.heap.objs.size a.fewest cdv))) :
    PDSs (cxOf CX0 P w K mg base ["room", "rows", "ways", "word", "name", "later", "kept", "count", "past", "some", "one", "many", "best"] "fewest" (defScope s_fewest) a.fewest cdv A outer s H E).nox (defBody s_fewest) t_fewest :=
  pdss_cons (pds_expr (pd_call ok_need_asks (hr.mono (by decide)) rfl M.g_need_asks M.f_need_asks.kp M.n_need_asks (pda_cons (pdv 0) (pda_cons (pdv 1) (pda_nil)))))
  (pdss_cons (pds_set (i := 2) sc_fewest.nd rfl (by first | exact Or.inl rfl | exact Or.inr rfl) (pd_disp1T (u1 hr) (pd_tup (pda_nil)) (pd_tup (pda_cons (pd_int) (pda_cons (pd_tup (pda_nil)) (pda_nil))))))
  (pdss_cons (pds_for PassesOwn.never rfl (pdi_any (pdv 1)) (pdg_tup rfl (pdgs_cons (pdg_name (vs := [3, 4]) (i := 3) sc_fewest.nd rfl (by first | exact Or.inl rfl | exact Or.inr rfl)) (pdgs_cons (pdg_name (vs := [3, 4]) (i := 4) sc_fewest.nd rfl (by first | exact Or.inl rfl | exact Or.inr rfl)) (pdgs_nil)))) (pdss_cons (pds_set (i := 5) sc_fewest.nd rfl (by first | exact Or.inl rfl | exact Or.inr rfl) (pd_newD true))
  (pdss_cons (pds_for PassesOwn.never rfl (pdi_any (pd_callB (call_sortA rfl hr.units) (cd_sortA _ false) rfl M.b_sorted (by decide +kernel) (pda_cons (pdv 2) (pda_nil)))) (pdg_name (vs := [6]) (i := 6) sc_fewest.nd rfl (by first | exact Or.inl rfl | exact Or.inr rfl)) (pdss_cons (pds_asg (pd_dget (u1 hr) (pdv 2) (pdv 6)) (pdg_tup rfl (pdgs_cons (pdg_name (vs := [7, 8]) (i := 7) sc_fewest.nd rfl (by first | exact Or.inl rfl | exact Or.inr rfl)) (pdgs_cons (pdg_name (vs := [7, 8]) (i := 8) sc_fewest.nd rfl (by first | exact Or.inl rfl | exact Or.inr rfl)) (pdgs_nil)))))
  (pdss_cons (pds_if (pdt_eq hr.units (pdv 3) (pd_gs rfl M.c_GONE)) (pdss_one (pds_set (i := 9) sc_fewest.nd rfl (by first | exact Or.inl rfl | exact Or.inr rfl) (pd_lst false (pda_cons (pd_tup (pda_cons (pdv 7) (pda_cons (pd_callTy call_tuple_of (cd_tuple _) rfl M.b_tuple (by decide +kernel) (pda_cons (pd_lc false (own := [("one", 10)]) rfl sc_fewest.nd (pdi_any (pdv 6)) (blkOk_by (own := [("one", 10)]) (by kernel_rfl)) (fun _ _ _ _ _ => pdg_name (vs := [10]) (i := 10) sc_fewest.nd rfl (by first | exact Or.inl rfl | exact Or.inr rfl)) (fun _ _ _ _ _ => pdts_one (pdt_ne hr.units (pdv 10) (pdv 4))) (fun _ _ _ _ _ => pdv 10)) (pda_nil))) (pda_nil)))) (pda_nil))))) (pdss_one (pds_if (pdt_inT (pdv 4) (pdv 6)) (pdss_one (pds_set (i := 9) sc_fewest.nd rfl (by first | exact Or.inl rfl | exact Or.inr rfl) (pd_lst false (pda_cons (pd_tup (pda_cons (pdv 7) (pda_cons (pdv 6) (pda_nil)))) (pda_nil))))) (pdss_one (pds_setLc false (i := 9) (own := [("one", 10)]) rfl sc_fewest.nd rfl rfl (sw_true rfl rfl rfl (by decide +kernel)) (pdi_any (pd_call ok_with_one (hr.mono (by decide)) rfl M.g_with_one M.f_with_one.kp M.n_with_one (pda_cons (pdv 6) (pda_cons (pdv 4) (pda_cons (pdv 0) (pda_nil)))))) (blkOk_by (own := [("one", 10)]) (by kernel_rfl)) (fun _ _ _ _ _ => pdg_name (vs := [10]) (i := 10) sc_fewest.nd rfl (by first | exact Or.inl rfl | exact Or.inr rfl)) (fun _ _ _ _ _ => pdts_nil) (fun _ _ _ _ _ => pd_tup (pda_cons (pd_add false (pdv 7) (pd_int)) (pda_cons (pdv 10) (pda_nil)))))))))
  (pdss_one (pds_for PassesOwn.never rfl (pdi_any (pdv 9)) (pdg_tup rfl (pdgs_cons (pdg_name (vs := [11, 10]) (i := 11) sc_fewest.nd rfl (by first | exact Or.inl rfl | exact Or.inr rfl)) (pdgs_cons (pdg_name (vs := [11, 10]) (i := 10) sc_fewest.nd rfl (by first | exact Or.inl rfl | exact Or.inr rfl)) (pdgs_nil)))) (pdss_one (pds_if (PW.pt (pdw_or (pdt_notinD (u1 hr) (pdv 10) (pdv 5)) (pdw_or1 (pdt_lt (pdv 11) (pd_ix ix_seq (r2_ix _) (pd_dget (u1 hr) (pdv 5) (pdv 10)) (pd_int)))))) (pdss_one (pds_dput (u1 hr) (pd_tup (pda_cons (pdv 11) (pda_cons (pd_add false (pdv 8) (pd_tup (pda_cons (pdv 10) (pda_nil)))) (pda_nil)))) (pdv 5) (pdv 10))) (pdss_nil))))))))
  (pdss_one (pds_set (i := 2) sc_fewest.nd rfl (by first | exact Or.inl rfl | exact Or.inr rfl) (pdv 5))))))
  (pdss_cons (pds_set (i := 12) sc_fewest.nd rfl (by first | exact Or.inl rfl | exact Or.inr rfl) (pd_callB (cr_minV rfl hr.units) (cd_minD _) rfl M.b_min (by decide +kernel) (pda_cons (pd_lock 2 (pd_lc false (own := [("kept", 6)]) rfl sc_fewest.nd (pdi_keys (pdv 2)) (blkOk_by (own := [("kept", 6)]) (by kernel_rfl)) (fun _ _ _ _ _ => pdg_name (vs := [6]) (i := 6) sc_fewest.nd rfl (by first | exact Or.inl rfl | exact Or.inr rfl)) (fun _ _ _ _ _ => pdts_nil) (fun _ _ _ _ _ => pd_dget (u1 hr) (pdv 2) (pdv 6)))) (pda_nil))))
  (pdss_one (pds_ret (pd_tup (pda_cons (pd_ix ix_seq (r2_ix _) (pdv 12) (pd_int)) (pda_cons (pd_callTy call_list_of (cd_list _ false) rfl M.b_list (by decide +kernel) (pda_cons (pd_ix ix_seq (r2_ix _) (pdv 12) (pd_int)) (pda_nil))) (pda_nil)))))))))
theorem ok_fewest (M : Md w K mg a d) : FnOk P w K mg base CX0 3 a.fewest d.fewest ["room", "rows"] (liftF K sp_fewest) :=
  okD M.f_fewest sc_fewest (fun cdv A outer s H E hr => der_fewest M (ok_need_asks M) (ok_with_one M) hr) law_fewest
set_option maxHeartbeats 4000000 in
theorem der_law {pt c : Addr} (TB : LamX.TabB base mg c pt) (M : Md w K mg a d) (ok_law_start : FnOk P w K mg base CX0 1 a.law_start d.law_start ["_law_script"] (liftF K sp_law_start)) (ok_law_asks : FnOk P w K mg base CX0 2 a.law_asks d.law_asks ["_law_state", "_law_most"] (liftF K sp_law_asks)) (ok_law_drawn : FnOk P w K mg base CX0 1 a.law_drawn d.law_drawn ["_law_state", "_law_many"] (liftF K sp_law_drawn)) (ok_law_same : FnOk P w K mg base CX0 9 a.law_same d.law_same ["_law_found", "_law_due"] (liftF K (sp_law_same 9))) (ok_by_last : FnOk P w K mg base CX0 3 a.by_last d.by_last ["room", "rows"] (liftF K sp_by_last)) (ok_fewest : FnOk P w K mg base CX0 3 a.fewest d.fewest ["room", "rows"] (liftF K sp_fewest)) {A : Around} {outer : List Env} {s : Shared} {H : Hp} {E : XK} (hr : Room 9 (A.deeper (PyProof.Rows.envOfC "law" (defScope s_law) s.heap.objs.size a.law (.ref c)))) :
    PDSs (cxOf CX0 P w K mg base ["_law_script", "_law_state", "_law_turn", "_law_rows", "_law_room", "_law_count", "_law_last", "_law_kept", "_law_k", "_law_word", "_law_name", "_law_one", "_law_handed", "_law_fresh", "_law_mine"] "law" (defScope s_law) a.law (.ref c) A outer s H E).nox (defBody s_law) (t_law pt) :=
  pdss_cons (pds_set (i := 1) sc_law.nd rfl (by first | exact Or.inl rfl | exact Or.inr rfl) (pd_call ok_law_start (hr.mono (by decide)) rfl M.g_law_start M.f_law_start.kp M.n_law_start (pda_cons (pdv 0) (pda_nil))))
  (pdss_cons (pds_for PassesOwn.never rfl (pdi_rng1 rfl M.b_range (pda_cons (pd_int) (pda_nil))) (pdg_name (vs := [2]) (i := 2) sc_law.nd rfl (by first | exact Or.inl rfl | exact Or.inr rfl)) (pdss_cons (pds_par (i := 3) (j := 4) rfl sc_law.nd rfl rfl (by decide) rfl rfl (pda_cons (pd_call ok_law_asks (hr.mono (by decide)) rfl M.g_law_asks M.f_law_asks.kp M.n_law_asks (pda_cons (pdv 1) (pda_cons (pd_int) (pda_nil)))) (pda_cons (pd_call ok_law_drawn (hr.mono (by decide)) rfl M.g_law_drawn M.f_law_drawn.kp M.n_law_drawn (pda_cons (pdv 1) (pda_cons (pd_int) (pda_nil)))) (pda_nil))) (by rfl))
  (pdss_cons (pds_asg (pd_tup (pda_cons (pd_int) (pda_cons (pd_newD false) (pda_cons (pd_lst true (pda_nil)) (pda_nil))))) (pdg_tup rfl (pdgs_cons (pdg_name (vs := [5, 6, 7]) (i := 5) sc_law.nd rfl (by first | exact Or.inl rfl | exact Or.inr rfl)) (pdgs_cons (pdg_name (vs := [5, 6, 7]) (i := 6) sc_law.nd rfl (by first | exact Or.inl rfl | exact Or.inr rfl)) (pdgs_cons (pdg_name (vs := [5, 6, 7]) (i := 7) sc_law.nd rfl (by first | exact Or.inl rfl | exact Or.inr rfl)) (pdgs_nil))))))
  (pdss_cons (pds_for PassesOwn.never rfl (pdi_rng1 rfl M.b_range (pda_cons (pd_callB call_len (cd_len _) rfl M.b_len (by decide +kernel) (pda_cons (pdv 3) (pda_nil))) (pda_nil))) (pdg_name (vs := [8]) (i := 8) sc_law.nd rfl (by first | exact Or.inl rfl | exact Or.inr rfl)) (pdss_cons (pds_asg (pd_ix ix_seq (r2_ix _) (pdv 3) (pdv 8)) (pdg_tup rfl (pdgs_cons (pdg_name (vs := [9, 10]) (i := 9) sc_law.nd rfl (by first | exact Or.inl rfl | exact Or.inr rfl)) (pdgs_cons (pdg_name (vs := [9, 10]) (i := 10) sc_law.nd rfl (by first | exact Or.inl rfl | exact Or.inr rfl)) (pdgs_nil)))))
  (pdss_one (pds_if (pdt_eq hr.units (pdv 9) (pd_str)) (pdss_one (pds_setLc true (i := 7) (own := [("_law_one", 11)]) rfl sc_law.nd rfl rfl (sw_true rfl rfl rfl (by decide +kernel)) (pdi_any (pdv 7)) (blkOk_by (own := [("_law_one", 11)]) (by kernel_rfl)) (fun _ _ _ _ _ => pdg_name (vs := [11]) (i := 11) sc_law.nd rfl (by first | exact Or.inl rfl | exact Or.inr rfl)) (fun _ _ _ _ _ => pdts_one (pdt_ne hr.units (pdv 11) (pdv 10))) (fun _ _ _ _ _ => pdv 11))) (pdss_cons (pds_set (i := 5) sc_law.nd rfl (by first | exact Or.inl rfl | exact Or.inr rfl) (pd_add false (pdv 5) (pd_callTy call_intD cd_int rfl M.b_int (by decide +kernel) (pda_cons (pd_notinL (u65 hr) (pdv 10) (pdv 7)) (pda_nil)))))
  (pdss_cons (pds_dput (u1 hr) (pdv 8) (pdv 6) (pdv 10))
  (pdss_cons (pds_set (i := 7) sc_law.nd rfl (by first | exact Or.inl rfl | exact Or.inr rfl) (pd_add true (pdv 7) (pd_mul false (pd_lst false (pda_cons (pdv 10) (pda_nil))) (pd_callTy call_intD cd_int rfl M.b_int (by decide +kernel) (pda_cons (pd_notinL (u65 hr) (pdv 10) (pdv 7)) (pda_nil))))))
  (pdss_one (pds_while PassesOwn.never (pdt_gt (pd_callB call_len (cd_len _) rfl M.b_len (by decide +kernel) (pda_cons (pdv 7) (pda_nil))) (pdv 4)) (pdss_one (pds_expr (pd_mt PySem.F.plainAttrs_list PySem.F.slot_list_remove PySem.F.type_list_remove mt_remove md_remove (pdv 7) (pda_cons (pd_minKL rfl rfl M.b_min (pdv 7) TB rfl (k := 7) (hr.mono (by decide)) (show Lam1 (defScope s_law) _ _ _ from lam1_by (by decide +kernel)) rfl (fun _ _ _ _ _ _ => rfl) rfl) (pda_nil))))))))))))))
  (pdss_cons (pds_set (i := 12) sc_law.nd rfl (by first | exact Or.inl rfl | exact Or.inr rfl) (pd_callTy call_list_of (cd_list _ false) rfl M.b_list (by decide +kernel) (pda_cons (pdv 3) (pda_nil))))
  (pdss_cons (pds_if (PW.pt (pdw_or (pdt_not (pdt_val (pd_call ok_law_same (hr.mono (by decide)) rfl M.g_law_same M.f_law_same.kp M.n_law_same (pda_cons (pd_call ok_by_last (hr.mono (by decide)) rfl M.g_by_last M.f_by_last.kp M.n_by_last (pda_cons (pdv 4) (pda_cons (pdv 12) (pda_nil)))) (pda_cons (pdv 5) (pda_nil)))))) (pdw_or (pdt_ne hr.units (pdv 12) (pdv 3)) (pdw_or1 (pdt_gt (pd_ix ix_seq (r2_ix _) (pd_call ok_fewest (hr.mono (by decide)) rfl M.g_fewest M.f_fewest.kp M.n_fewest (pda_cons (pdv 4) (pda_cons (pdv 3) (pda_nil)))) (pd_int)) (pdv 5)))))) (pdss_one (pds_ret (pd_bl))) (pdss_nil))
  (pdss_cons (pds_set (i := 13) sc_law.nd rfl (by first | exact Or.inl rfl | exact Or.inr rfl) (pd_int))
  (pdss_cons (pds_for PassesOwn.never rfl (pdi_rng1 rfl M.b_range (pda_cons (pd_int) (pda_nil))) (pdg_name (vs := [10]) (i := 10) sc_law.nd rfl (by first | exact Or.inl rfl | exact Or.inr rfl)) (pdss_cons (pds_set (i := 14) sc_law.nd rfl (by first | exact Or.inl rfl | exact Or.inr rfl) (pd_lc false (own := [("_law_word", 9), ("_law_one", 11)]) rfl sc_law.nd (pdi_any (pdv 3)) (blkOk_by (own := [("_law_word", 9), ("_law_one", 11)]) (by kernel_rfl)) (fun _ _ _ _ _ => pdg_tup rfl (pdgs_cons (pdg_name (vs := [9, 11]) (i := 9) sc_law.nd rfl (by first | exact Or.inl rfl | exact Or.inr rfl)) (pdgs_cons (pdg_name (vs := [9, 11]) (i := 11) sc_law.nd rfl (by first | exact Or.inl rfl | exact Or.inr rfl)) (pdgs_nil)))) (fun _ _ _ _ _ => pdts_one (pdt_eq hr.units (pdv 11) (pdv 10))) (fun _ _ _ _ _ => pdv 9)))
  (pdss_one (pds_set (i := 13) sc_law.nd rfl (by first | exact Or.inl rfl | exact Or.inr rfl) (pd_add false (pdv 13) (pd_callB call_len (cd_len _) rfl M.b_len (by decide +kernel) (pda_cons (pd_lc false (own := [("_law_k", 8)]) rfl sc_law.nd (pdi_rng1 rfl M.b_range (pda_cons (pd_callB call_len (cd_len _) rfl M.b_len (by decide +kernel) (pda_cons (pdv 14) (pda_nil))) (pda_nil))) (blkOk_by (own := [("_law_k", 8)]) (by kernel_rfl)) (fun _ _ _ _ _ => pdg_name (vs := [8]) (i := 8) sc_law.nd rfl (by first | exact Or.inl rfl | exact Or.inr rfl)) (fun _ _ _ _ _ => pdts_one (PW.pt (pdw_and (pdt_eq hr.units (pd_ix ix_seq (r2_ix _) (pdv 14) (pdv 8)) (pd_str)) (pdw_and1 (PW.pt (pdw_or (pdt_eq hr.units (pdv 8) (pd_int)) (pdw_or1 (pdt_eq hr.units (pd_ix ix_seq (r2_ix _) (pdv 14) (pd_sub (pdv 8) (pd_int))) (pd_str))))))))) (fun _ _ _ _ _ => pdv 8)) (pda_nil))))))))
  (pdss_one (pds_if (PW.pt (pdw_or (pdt_ne hr.units (pd_call ok_by_last (hr.mono (by decide)) rfl M.g_by_last M.f_by_last.kp M.n_by_last (pda_cons (pd_int) (pda_cons (pdv 3) (pda_nil)))) (pdv 13)) (pdw_or (pdt_ne hr.units (pd_ix ix_seq (r2_ix _) (pd_call ok_fewest (hr.mono (by decide)) rfl M.g_fewest M.f_fewest.kp M.n_fewest (pda_cons (pd_int) (pda_cons (pdv 3) (pda_nil)))) (pd_int)) (pdv 13)) (pdw_or1 (pdt_lt (pd_call ok_by_last (hr.mono (by decide)) rfl M.g_by_last M.f_by_last.kp M.n_by_last (pda_cons (pd_int) (pda_cons (pdv 3) (pda_nil)))) (pdv 5)))))) (pdss_one (pds_ret (pd_bl))) (pdss_nil)))))))))))
  (pdss_one (pds_ret (pd_bl))))
theorem ok_law {pt c : Addr} (TB : LamX.TabB base mg c pt) (M : Md w K mg a d) (hcd : d.law.code = .ref c) : FnOk P w K mg base CX0 10 a.law d.law ["_law_script"] (liftF K (sp_law pt)) :=
  okDc M.f_law hcd sc_law (fun A outer s H E hr => der_law TB M (ok_law_start M) (ok_law_asks M) (ok_law_drawn M) (ok_law_same M 9) (ok_by_last M) (ok_fewest M) hr) (law_law pt)
end
set_option maxHeartbeats 4000000 in
theorem all_mk {l : PySem.W.OpenLaw} {w : World} {K : PySem.W.Frag} {hp : Heap} {mg : Str → Option Value} {fa : Addr} (X : K.In hp) (G : hp.Ns mainGlobals mg) (hfa : mg "law" = some (.ref fa))
    {x_law_start : Addr} {od_law_start an_law_start : Option Addr} {sl_law_start : Array (Option Value)} {oc_law_start kV_law_start dc_law_start pm_law_start cd_law_start ct_law_start : Value}
    (a_law_start : PySem.W.nsIn K mainGlobals "_law_start" = some (some (.ref x_law_start))) (l_law_start : K.lookup x_law_start = some ⟨oc_law_start, od_law_start, .func (PySem.W.fnOf "_law_start" "_law_start" (defArgs s_law_start) (defBody s_law_start) (defScope s_law_start) .none kV_law_start dc_law_start pm_law_start an_law_start cd_law_start ct_law_start), sl_law_start⟩) (c_law_start : PySem.W.codeIn K cd_law_start "_law_start" = true) (k_law_start : PySem.W.keepIn K (.ref x_law_start) = true)
    {x_law_drawn : Addr} {od_law_drawn an_law_drawn : Option Addr} {sl_law_drawn : Array (Option Value)} {oc_law_drawn kV_law_drawn dc_law_drawn pm_law_drawn cd_law_drawn ct_law_drawn : Value}
    (a_law_drawn : PySem.W.nsIn K mainGlobals "_law_drawn" = some (some (.ref x_law_drawn))) (l_law_drawn : K.lookup x_law_drawn = some ⟨oc_law_drawn, od_law_drawn, .func (PySem.W.fnOf "_law_drawn" "_law_drawn" (defArgs s_law_drawn) (defBody s_law_drawn) (defScope s_law_drawn) .none kV_law_drawn dc_law_drawn pm_law_drawn an_law_drawn cd_law_drawn ct_law_drawn), sl_law_drawn⟩) (c_law_drawn : PySem.W.codeIn K cd_law_drawn "_law_drawn" = true) (k_law_drawn : PySem.W.keepIn K (.ref x_law_drawn) = true)
    {x_law_asks : Addr} {od_law_asks an_law_asks : Option Addr} {sl_law_asks : Array (Option Value)} {oc_law_asks kV_law_asks dc_law_asks pm_law_asks cd_law_asks ct_law_asks : Value}
    (a_law_asks : PySem.W.nsIn K mainGlobals "_law_asks" = some (some (.ref x_law_asks))) (l_law_asks : K.lookup x_law_asks = some ⟨oc_law_asks, od_law_asks, .func (PySem.W.fnOf "_law_asks" "_law_asks" (defArgs s_law_asks) (defBody s_law_asks) (defScope s_law_asks) .none kV_law_asks dc_law_asks pm_law_asks an_law_asks cd_law_asks ct_law_asks), sl_law_asks⟩) (c_law_asks : PySem.W.codeIn K cd_law_asks "_law_asks" = true) (k_law_asks : PySem.W.keepIn K (.ref x_law_asks) = true)
    {x_law_same : Addr} {od_law_same an_law_same : Option Addr} {sl_law_same : Array (Option Value)} {oc_law_same kV_law_same dc_law_same pm_law_same cd_law_same ct_law_same : Value}
    (a_law_same : PySem.W.nsIn K mainGlobals "_law_same" = some (some (.ref x_law_same))) (l_law_same : K.lookup x_law_same = some ⟨oc_law_same, od_law_same, .func (PySem.W.fnOf "_law_same" "_law_same" (defArgs s_law_same) (defBody s_law_same) (defScope s_law_same) .none kV_law_same dc_law_same pm_law_same an_law_same cd_law_same ct_law_same), sl_law_same⟩) (c_law_same : PySem.W.codeIn K cd_law_same "_law_same" = true) (k_law_same : PySem.W.keepIn K (.ref x_law_same) = true)
    {x_is_number : Addr} {od_is_number an_is_number : Option Addr} {sl_is_number : Array (Option Value)} {oc_is_number kV_is_number dc_is_number pm_is_number cd_is_number ct_is_number : Value}
    (a_is_number : PySem.W.nsIn K mainGlobals "is_number" = some (some (.ref x_is_number))) (l_is_number : K.lookup x_is_number = some ⟨oc_is_number, od_is_number, .func (PySem.W.fnOf "is_number" "is_number" (defArgs s_is_number) (defBody s_is_number) (defScope s_is_number) .none kV_is_number dc_is_number pm_is_number an_is_number cd_is_number ct_is_number), sl_is_number⟩) (c_is_number : PySem.W.codeIn K cd_is_number "is_number" = true) (k_is_number : PySem.W.keepIn K (.ref x_is_number) = true)
    {x_need_asks : Addr} {od_need_asks an_need_asks : Option Addr} {sl_need_asks : Array (Option Value)} {oc_need_asks kV_need_asks dc_need_asks pm_need_asks cd_need_asks ct_need_asks : Value}
    (a_need_asks : PySem.W.nsIn K mainGlobals "need_asks" = some (some (.ref x_need_asks))) (l_need_asks : K.lookup x_need_asks = some ⟨oc_need_asks, od_need_asks, .func (PySem.W.fnOf "need_asks" "need_asks" (defArgs s_need_asks) (defBody s_need_asks) (defScope s_need_asks) .none kV_need_asks dc_need_asks pm_need_asks an_need_asks cd_need_asks ct_need_asks), sl_need_asks⟩) (c_need_asks : PySem.W.codeIn K cd_need_asks "need_asks" = true) (k_need_asks : PySem.W.keepIn K (.ref x_need_asks) = true)
    {x_by_last : Addr} {od_by_last an_by_last : Option Addr} {sl_by_last : Array (Option Value)} {oc_by_last kV_by_last dc_by_last pm_by_last cd_by_last ct_by_last : Value}
    (a_by_last : PySem.W.nsIn K mainGlobals "by_last" = some (some (.ref x_by_last))) (l_by_last : K.lookup x_by_last = some ⟨oc_by_last, od_by_last, .func (PySem.W.fnOf "by_last" "by_last" (defArgs s_by_last) (defBody s_by_last) (defScope s_by_last) .none kV_by_last dc_by_last pm_by_last an_by_last cd_by_last ct_by_last), sl_by_last⟩) (c_by_last : PySem.W.codeIn K cd_by_last "by_last" = true) (k_by_last : PySem.W.keepIn K (.ref x_by_last) = true)
    {x_with_one : Addr} {od_with_one an_with_one : Option Addr} {sl_with_one : Array (Option Value)} {oc_with_one kV_with_one dc_with_one pm_with_one cd_with_one ct_with_one : Value}
    (a_with_one : PySem.W.nsIn K mainGlobals "with_one" = some (some (.ref x_with_one))) (l_with_one : K.lookup x_with_one = some ⟨oc_with_one, od_with_one, .func (PySem.W.fnOf "with_one" "with_one" (defArgs s_with_one) (defBody s_with_one) (defScope s_with_one) .none kV_with_one dc_with_one pm_with_one an_with_one cd_with_one ct_with_one), sl_with_one⟩) (c_with_one : PySem.W.codeIn K cd_with_one "with_one" = true) (k_with_one : PySem.W.keepIn K (.ref x_with_one) = true)
    {x_fewest : Addr} {od_fewest an_fewest : Option Addr} {sl_fewest : Array (Option Value)} {oc_fewest kV_fewest dc_fewest pm_fewest cd_fewest ct_fewest : Value}
    (a_fewest : PySem.W.nsIn K mainGlobals "fewest" = some (some (.ref x_fewest))) (l_fewest : K.lookup x_fewest = some ⟨oc_fewest, od_fewest, .func (PySem.W.fnOf "fewest" "fewest" (defArgs s_fewest) (defBody s_fewest) (defScope s_fewest) .none kV_fewest dc_fewest pm_fewest an_fewest cd_fewest ct_fewest), sl_fewest⟩) (c_fewest : PySem.W.codeIn K cd_fewest "fewest" = true) (k_fewest : PySem.W.keepIn K (.ref x_fewest) = true)
    {cc_law pt : Addr} {od_code : Option Addr} {sl_code : Array (Option Value)} {oc_code : Value} {vs_code : Array Value}
    {x_law : Addr} {od_law an_law : Option Addr} {sl_law : Array (Option Value)} {oc_law kV_law dc_law pm_law ct_law : Value}
    (a_law : PySem.W.nsIn K mainGlobals "law" = some (some (.ref x_law))) (l_law : K.lookup x_law = some ⟨oc_law, od_law, .func (PySem.W.fnOf "law" "law" (defArgs s_law) (defBody s_law) (defScope s_law) .none kV_law dc_law pm_law an_law (.ref cc_law) ct_law), sl_law⟩) (c_law : PySem.W.codeIn K (.ref cc_law) "law" = true) (k_law : PySem.W.keepIn K (.ref x_law) = true)
    (z_bool : PySem.W.nsIn K mainGlobals "bool" = some none)
    (z_enumerate : PySem.W.nsIn K mainGlobals "enumerate" = some none)
    (z_int : PySem.W.nsIn K mainGlobals "int" = some none)
    (z_isinstance : PySem.W.nsIn K mainGlobals "isinstance" = some none)
    (z_len : PySem.W.nsIn K mainGlobals "len" = some none)
    (z_list : PySem.W.nsIn K mainGlobals "list" = some none)
    (z_max : PySem.W.nsIn K mainGlobals "max" = some none)
    (z_min : PySem.W.nsIn K mainGlobals "min" = some none)
    (z_range : PySem.W.nsIn K mainGlobals "range" = some none)
    (z_sorted : PySem.W.nsIn K mainGlobals "sorted" = some none)
    (z_str : PySem.W.nsIn K mainGlobals "str" = some none)
    (z_tuple : PySem.W.nsIn K mainGlobals "tuple" = some none)
    {tk_ASK : Tok} (g_ASK : PySem.W.nsIn K mainGlobals "ASK" = some (some (.str "ask" tk_ASK)))
    {tk_GONE : Tok} (g_GONE : PySem.W.nsIn K mainGlobals "GONE" = some (some (.str "gone" tk_GONE)))
    {tk_MOST_NAMES : Tok} (g_MOST_NAMES : PySem.W.nsIn K mainGlobals "MOST_NAMES" = some (some (.int 8 tk_MOST_NAMES)))
    {tk_MOST_ROWS : Tok} (g_MOST_ROWS : PySem.W.nsIn K mainGlobals "MOST_ROWS" = some (some (.int 40 tk_MOST_ROWS)))
    (lc_law : K.lookup cc_law = some ⟨oc_code, od_code, .fields vs_code, sl_code⟩) (v11 : vs_code[11]? = some (.ref pt)) (hh : PySem.W.codeHdIn K cc_law pt = true) (hP : K.lookup pt = none) (own : LamX.OwnTab K fa hp)
    : LamX.LawAtS l w K CX0 10 63 "_law_script" mg fa hp := by
  have e := hfa.symm.trans (PySem.W.mg_of X G a_law)
  cases e
  have F_law_start := fun_mk (st := s_law_start) l_law_start c_law_start k_law_start
  have F_law_drawn := fun_mk (st := s_law_drawn) l_law_drawn c_law_drawn k_law_drawn
  have F_law_asks := fun_mk (st := s_law_asks) l_law_asks c_law_asks k_law_asks
  have F_law_same := fun_mk (st := s_law_same) l_law_same c_law_same k_law_same
  have F_is_number := fun_mk (st := s_is_number) l_is_number c_is_number k_is_number
  have F_need_asks := fun_mk (st := s_need_asks) l_need_asks c_need_asks k_need_asks
  have F_by_last := fun_mk (st := s_by_last) l_by_last c_by_last k_by_last
  have F_with_one := fun_mk (st := s_with_one) l_with_one c_with_one k_with_one
  have F_fewest := fun_mk (st := s_fewest) l_fewest c_fewest k_fewest
  have F_law := fun_mk (st := s_law) l_law c_law k_law
  have M : Md w K mg ⟨x_law_start, x_law_drawn, x_law_asks, x_law_same, x_is_number, x_need_asks, x_by_last, x_with_one, x_fewest, fa⟩ ⟨_, _, _, _, _, _, _, _, _, _⟩ := {
    f_law_start := F_law_start,
    g_law_start := PySem.W.mg_of X G a_law_start,
    n_law_start := F_law_start.binds (ps := ["_law_script"]) fun _ _ _ _ _ _ us hl => match us, hl with | [_], _ => rfl,
    f_law_drawn := F_law_drawn,
    g_law_drawn := PySem.W.mg_of X G a_law_drawn,
    n_law_drawn := F_law_drawn.binds (ps := ["_law_state", "_law_many"]) fun _ _ _ _ _ _ us hl => match us, hl with | [_, _], _ => rfl,
    f_law_asks := F_law_asks,
    g_law_asks := PySem.W.mg_of X G a_law_asks,
    n_law_asks := F_law_asks.binds (ps := ["_law_state", "_law_most"]) fun _ _ _ _ _ _ us hl => match us, hl with | [_, _], _ => rfl,
    f_law_same := F_law_same,
    g_law_same := PySem.W.mg_of X G a_law_same,
    n_law_same := F_law_same.binds (ps := ["_law_found", "_law_due"]) fun _ _ _ _ _ _ us hl => match us, hl with | [_, _], _ => rfl,
    f_is_number := F_is_number,
    g_is_number := PySem.W.mg_of X G a_is_number,
    n_is_number := F_is_number.binds (ps := ["thing", "low", "high"]) fun _ _ _ _ _ _ us hl => match us, hl with | [_, _, _], _ => rfl,
    f_need_asks := F_need_asks,
    g_need_asks := PySem.W.mg_of X G a_need_asks,
    n_need_asks := F_need_asks.binds (ps := ["room", "rows"]) fun _ _ _ _ _ _ us hl => match us, hl with | [_, _], _ => rfl,
    f_by_last := F_by_last,
    g_by_last := PySem.W.mg_of X G a_by_last,
    n_by_last := F_by_last.binds (ps := ["room", "rows"]) fun _ _ _ _ _ _ us hl => match us, hl with | [_, _], _ => rfl,
    f_with_one := F_with_one,
    g_with_one := PySem.W.mg_of X G a_with_one,
    n_with_one := F_with_one.binds (ps := ["kept", "name", "room"]) fun _ _ _ _ _ _ us hl => match us, hl with | [_, _, _], _ => rfl,
    f_fewest := F_fewest,
    g_fewest := PySem.W.mg_of X G a_fewest,
    n_fewest := F_fewest.binds (ps := ["room", "rows"]) fun _ _ _ _ _ _ us hl => match us, hl with | [_, _], _ => rfl,
    f_law := F_law,
    g_law := PySem.W.mg_of X G a_law,
    n_law := F_law.binds (ps := ["_law_script"]) fun _ _ _ _ _ _ us hl => match us, hl with | [_], _ => rfl,
    b_bool := PySem.W.mg_none_of X G z_bool,
    b_enumerate := PySem.W.mg_none_of X G z_enumerate,
    b_int := PySem.W.mg_none_of X G z_int,
    b_isinstance := PySem.W.mg_none_of X G z_isinstance,
    b_len := PySem.W.mg_none_of X G z_len,
    b_list := PySem.W.mg_none_of X G z_list,
    b_max := PySem.W.mg_none_of X G z_max,
    b_min := PySem.W.mg_none_of X G z_min,
    b_range := PySem.W.mg_none_of X G z_range,
    b_sorted := PySem.W.mg_none_of X G z_sorted,
    b_str := PySem.W.mg_none_of X G z_str,
    b_tuple := PySem.W.mg_none_of X G z_tuple,
    c_ASK := ⟨_, PySem.W.mg_of X G g_ASK⟩,
    c_GONE := ⟨_, PySem.W.mg_of X G g_GONE⟩,
    c_MOST_NAMES := ⟨_, PySem.W.mg_of X G g_MOST_NAMES⟩,
    c_MOST_ROWS := ⟨_, PySem.W.mg_of X G g_MOST_ROWS⟩ }
  exact lawAt (S := sp_law pt) (q := qLaw) X own l_law rfl rfl hh hP (fun s v => .of_eq rfl) (fun ns hl => law_end hl) fun base _ _ TB => ok_law TB M rfl
end TK
open PySem PySem.W PyProof.Rows
set_option maxHeartbeats 0 in
theorem PySem.Challenge.cw_tilekeep_k10_by_the_last_holds : PySem.Challenge.rw_tilekeep_k10_by_the_last.Holds := by
  w_on; o_law; k_head; (case hw => w_witness2)
  k_fill
  refine LamX.walk_ofOwn (l := PySem.Challenge.rw_tilekeep_k10_by_the_last) (n := 63) (k := 10) (x := "_law_script") (CX := fun _ => L2.CX0) rfl (by decide) rfl ⟨rfl, by decide, by decide⟩ (by decide +kernel) (fun w h Y => by first | exact PySem.W.kIn_of Y | exact PySem.W.km_in_of Y) ?F (fun _ _ _ _ _ z => z)
  case F =>
    intro w mg fa h _ KX G hmg own
    refine' TK.all_mk KX G hmg ?a_law_start ?l_law_start ?c_law_start ?k_law_start ?a_law_drawn ?l_law_drawn ?c_law_drawn ?k_law_drawn ?a_law_asks ?l_law_asks ?c_law_asks ?k_law_asks ?a_law_same ?l_law_same ?c_law_same ?k_law_same ?a_is_number ?l_is_number ?c_is_number ?k_is_number ?a_need_asks ?l_need_asks ?c_need_asks ?k_need_asks ?a_by_last ?l_by_last ?c_by_last ?k_by_last ?a_with_one ?l_with_one ?c_with_one ?k_with_one ?a_fewest ?l_fewest ?c_fewest ?k_fewest ?a_law ?l_law ?c_law ?k_law ?z_bool ?z_enumerate ?z_int ?z_isinstance ?z_len ?z_list ?z_max ?z_min ?z_range ?z_sorted ?z_str ?z_tuple ?g_ASK ?g_GONE ?g_MOST_NAMES ?g_MOST_ROWS ?lc_law ?v11 ?hh ?hP ?own
    case a_law_start => k_is
    case l_law_start => k_is
    case c_law_start => k_is
    case k_law_start => k_is
    case a_law_drawn => k_is
    case l_law_drawn => k_is
    case c_law_drawn => k_is
    case k_law_drawn => k_is
    case a_law_asks => k_is
    case l_law_asks => k_is
    case c_law_asks => k_is
    case k_law_asks => k_is
    case a_law_same => k_is
    case l_law_same => k_is
    case c_law_same => k_is
    case k_law_same => k_is
    case a_is_number => k_is
    case l_is_number => k_is
    case c_is_number => k_is
    case k_is_number => k_is
    case a_need_asks => k_is
    case l_need_asks => k_is
    case c_need_asks => k_is
    case k_need_asks => k_is
    case a_by_last => k_is
    case l_by_last => k_is
    case c_by_last => k_is
    case k_by_last => k_is
    case a_with_one => k_is
    case l_with_one => k_is
    case c_with_one => k_is
    case k_with_one => k_is
    case a_fewest => k_is
    case l_fewest => k_is
    case c_fewest => k_is
    case k_fewest => k_is
    case a_law => k_is
    case l_law => k_is
    case c_law => k_is
    case k_law => k_is
    case z_bool => k_is
    case z_enumerate => k_is
    case z_int => k_is
    case z_isinstance => k_is
    case z_len => k_is
    case z_list => k_is
    case z_max => k_is
    case z_min => k_is
    case z_range => k_is
    case z_sorted => k_is
    case z_str => k_is
    case z_tuple => k_is
    case g_ASK => k_is
    case g_GONE => k_is
    case g_MOST_NAMES => k_is
    case g_MOST_ROWS => k_is
    case lc_law => k_is
    case v11 => rfl
    case hh => kernel_rfl
    case hP => kernel_rfl
    case own => exact own

