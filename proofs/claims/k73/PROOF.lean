import PyProof.Rows.All
import Wide.All
import OpenK.AllK
import Wide.FinOn
import HandS.ForMost
import HandS.Exc
import HandS.Star
import HandS.IsInst
import HandS.Property
import HandS.Flow
import HandS.Wide
import HandS.Deep
import HandS.Style
import HandS.TupAny
import HandS.SortInts
import HandS.Zip
import HandS.Defaults
import HandS.Words
import HandS.WordsExc
import KE.GoesMore
import HandS.Strs
import HandS.SetFor
import HandS.NoneIn
import HandS.Head0
import HandS.Head1
import HandS.Head2
import HandS.HeadEnd
import HandS.HeadHook1
import HandS.HeadHook2
import PySem.Challenge.RW_chainpacks_k73_whole_open_stores
set_option Elab.async false
set_option linter.all false
set_option maxRecDepth 100000
set_option maxHeartbeats 4000000
namespace Cp
open PySem PySem.Spec PyProof.Rows L2

/-- data: what is never changed stands by value, what is changed by its place in a list of cells -/
inductive D where
  | non | bl (b : Bool) | int (i : Int) | str (x : Str)
  | tup (xs : List D) | lst (xs : List D) | dct (kvs : List (D × D)) | obj (c : Str) (fs : List (Str × D))
  | set (xs : List Int) | scr (xs : List Int) | ref (l : Nat) | glo (x : Str)
  deriving Inhabited

inductive Cell where
  | lst (xs : List D) | dct (kvs : List (D × D)) | ins (c : Str) (fs : List (Str × D))
abbrev DH := List Cell
/-- the cells' addresses; all addresses that may still be changed -/
structure Lc where
  ad : List Addr
  mt : List Addr
  sub : ∀ a, a ∈ ad → a ∈ mt
structure Ex where
  cls : Str
  fs : List (Str × D)

/-- the module's facts -/
structure G where
  K : PySem.W.Frag
  mg : Str → Option Value

mutual
inductive IsD (g : G) (ρ : Lc) (H : Hp) : D → V → Prop
  | non : IsD g ρ H .non .non
  | bl (b : Bool) : IsD g ρ H (.bl b) (.bl b)
  | int (i : Int) : IsD g ρ H (.int i) (.int i)
  | str (x : Str) : IsD g ρ H (.str x) (.str x)
  | tup {a : Addr} {vs : List V} {xs : List D} (h : SqT g.K H a vs) (r : IsDs g ρ H xs vs) : IsD g ρ H (.tup xs) (.ref a)
  | lst {a : Addr} {vs : List V} {xs : List D} (h : H a = some (.lst vs)) (n : a ∉ ρ.mt) (r : IsDs g ρ H xs vs) : IsD g ρ H (.lst xs) (.ref a)
  | scr {a : Addr} {xs : List Int} (h : (Rd H a (.lst (xs.map V.int)) ∧ a ∉ ρ.mt) ∨ ∃ (o : Obj) (its : Array Value) (n : Nat), g.K.lookup a = some o ∧ o.cls = .type "list" ∧ o.dict = none ∧ o.data = .seq its n ∧ its.size ≤ sizeLine ∧ Vals (xs.map V.int) its.toList) : IsD g ρ H (.scr xs) (.ref a)
  | dK {a : Addr} {kvs : List (Key × V)} {ds : List (D × D)} (h : Rd H a (.dK kvs)) (n : a ∉ ρ.mt) (r : IsKs g ρ H ds kvs) : IsD g ρ H (.dct ds) (.ref a)
  | dT {a : Addr} {kvs : List (List Key × V)} {ds : List (D × D)} (h : Rd H a (.dT kvs)) (n : a ∉ ρ.mt) (r : IsTs g ρ H ds kvs) : IsD g ρ H (.dct ds) (.ref a)
  | obj {a C dx : Addr} {fvs : List (Str × V)} {c : Str} {fs : List (Str × D)} (m : g.mg c = some (.ref C)) (h : H a = some (.ins C dx fvs)) (n : a ∉ ρ.mt) (r : IsFs g ρ H fs fvs) : IsD g ρ H (.obj c fs) (.ref a)
  | set {a : Addr} {S : Int → Bool} {n : Nat} {xs : List Int} (h : H a = some (.set S n)) (n : a ∉ ρ.mt) (r : ∀ i, S i = xs.contains i) : IsD g ρ H (.set xs) (.ref a)
  | ref {l : Nat} {a : Addr} (h : ρ.ad[l]? = some a) : IsD g ρ H (.ref l) (.ref a)
  | glo {x : Str} {a : Addr} (m : g.mg x = some (.ref a)) : IsD g ρ H (.glo x) (.ref a)
inductive IsDs (g : G) (ρ : Lc) (H : Hp) : List D → List V → Prop
  | nil : IsDs g ρ H [] []
  | cons {d : D} {v : V} {ds : List D} {vs : List V} (h : IsD g ρ H d v) (t : IsDs g ρ H ds vs) : IsDs g ρ H (d :: ds) (v :: vs)
inductive IsFs (g : G) (ρ : Lc) (H : Hp) : List (Str × D) → List (Str × V) → Prop
  | nil : IsFs g ρ H [] []
  | cons {n : Str} {d : D} {v : V} {ds : List (Str × D)} {vs : List (Str × V)} (h : IsD g ρ H d v) (t : IsFs g ρ H ds vs) : IsFs g ρ H ((n, d) :: ds) ((n, v) :: vs)
inductive IsKs (g : G) (ρ : Lc) (H : Hp) : List (D × D) → List (Key × V) → Prop
  | nil : IsKs g ρ H [] []
  | int {i : Int} {d : D} {v : V} {ds : List (D × D)} {vs : List (Key × V)} (h : IsD g ρ H d v) (t : IsKs g ρ H ds vs) : IsKs g ρ H ((.int i, d) :: ds) ((.inl i, v) :: vs)
  | str {x : Str} {d : D} {v : V} {ds : List (D × D)} {vs : List (Key × V)} (h : IsD g ρ H d v) (t : IsKs g ρ H ds vs) : IsKs g ρ H ((.str x, d) :: ds) ((.inr x, v) :: vs)
inductive IsTs (g : G) (ρ : Lc) (H : Hp) : List (D × D) → List (List Key × V) → Prop
  | nil : IsTs g ρ H [] []
  | cons {ks : List Key} {d : D} {v : V} {ds : List (D × D)} {vs : List (List Key × V)} (h : IsD g ρ H d v) (t : IsTs g ρ H ds vs) :
      IsTs g ρ H ((.tup (ks.map fun k => match k with | .inl i => .int i | .inr x => .str x), d) :: ds) ((ks, v) :: vs)
end

inductive Le : HO → HO → Prop
  | refl (o : HO) : Le o o
  | lockK (ob : Obj) (kvs : List (Key × V)) : Le (.dK kvs) (.frz ob (.dK kvs))
  | lockT (ob : Obj) (kvs : List (List Key × V)) : Le (.dT kvs) (.frz ob (.dT kvs))
  | tbl (ps more : Array Value) : Le (.tbl ps) (.tbl (ps ++ more))
theorem Le.trans {a b c : HO} (h : Le a b) (k : Le b c) : Le a c := by
  cases h with
  | refl => exact k
  | lockK ob kvs => cases k; exact .lockK ob kvs
  | lockT ob kvs => cases k; exact .lockT ob kvs
  | tbl ps more =>
    generalize e : HO.tbl (ps ++ more) = z at k
    cases k with
    | refl => rw [← e]; exact .tbl _ _
    | lockK => cases e
    | lockT => cases e
    | tbl qs m2 =>
      cases e
      rw [Array.append_assoc]; exact .tbl _ _
structure Ext (ρ : Lc) (H : Hp) (ρ' : Lc) (H' : Hp) : Prop where
  pre : ∃ l, ρ'.ad = ρ.ad ++ l
  keep : ∀ a o, H a = some o → a ∉ ρ.ad → ∃ o', H' a = some o' ∧ Le o o'
  newC : ∀ a, a ∈ ρ'.ad → a ∉ ρ.ad → H a = none
  new : ∀ a, a ∈ ρ'.mt → a ∉ ρ.mt → H a = none
  mono : ∀ a, a ∈ ρ.mt → a ∈ ρ'.mt
/-- a new cell's address -/
def Lc.more (ρ : Lc) (p : Addr) : Lc := ⟨ρ.ad ++ [p], ρ.mt ++ [p], fun a h => (List.mem_append.mp h).elim (fun z => List.mem_append_left _ (ρ.sub a z)) fun z => List.mem_append_right _ z⟩
/-- an address that is kept for a list in the making -/
def Lc.hold (ρ : Lc) (p : Addr) : Lc := ⟨ρ.ad, ρ.mt ++ [p], fun a h => List.mem_append_left _ (ρ.sub a h)⟩
/-- .. given free -/
def Lc.drop (ρ : Lc) (p : Addr) : Lc := ⟨ρ.ad, ρ.mt.filter fun b => decide (b ≠ p ∨ b ∈ ρ.ad), fun a h => List.mem_filter.mpr ⟨ρ.sub a h, decide_eq_true (.inr h)⟩⟩
theorem Lc.not_drop {ρ : Lc} {p : Addr} (h : p ∉ ρ.ad) : p ∉ (ρ.drop p).mt := fun m => by
  have := of_decide_eq_true (List.mem_filter.mp m).2
  rcases this with z | z
  · exact z rfl
  · exact h z
section
variable {g : G} {ρ ρ' ρ1 ρ2 : Lc} {H H' H1 H2 : Hp} {a p : Addr} {o : HO}
theorem Ext.refl (ρ : Lc) (H : Hp) : Ext ρ H ρ H := ⟨⟨[], by simp⟩, fun a o e _ => ⟨o, e, .refl o⟩, fun a h n => absurd h n, fun a h n => absurd h n, fun _ h => h⟩
theorem Ext.trans (x : Ext ρ H ρ1 H1) (y : Ext ρ1 H1 ρ2 H2) : Ext ρ H ρ2 H2 := by
  have n1 : ∀ a o, H a = some o → a ∉ ρ.ad → a ∉ ρ1.ad := fun a o e n z => by
    rw [x.newC a z n] at e; cases e
  have go : ∀ a, a ∉ ρ.ad → H1 a = none → H a = none := fun a n e1 => by
    cases q : H a with
    | none => rfl
    | some o =>
      obtain ⟨o1, e, _⟩ := x.keep a o q n
      rw [e1] at e; cases e
  refine ⟨?_, fun a o e n => ?_, fun a h n => ?_, fun a h n => ?_, fun a h => y.mono a (x.mono a h)⟩
  · obtain ⟨l, e⟩ := x.pre
    obtain ⟨m, e'⟩ := y.pre
    exact ⟨l ++ m, by rw [e', e]; simp⟩
  · obtain ⟨o1, e1, l1⟩ := x.keep a o e n
    obtain ⟨o2, e2, l2⟩ := y.keep a o1 e1 (n1 a o e n)
    exact ⟨o2, e2, l1.trans l2⟩
  · by_cases h1 : a ∈ ρ1.ad
    · exact x.newC a h1 n
    · exact go a n (y.newC a h h1)
  · by_cases h1 : a ∈ ρ1.mt
    · exact x.new a h1 n
    · have e1 := y.new a h h1
      by_cases h2 : a ∈ ρ.ad
      · exact absurd (ρ.sub a h2) n
      · exact go a h2 e1
theorem Ext.notin (x : Ext ρ H ρ' H') {o : HO} (e : H a = some o) (n : a ∉ ρ.mt) : a ∉ ρ'.mt := fun z => by
  rw [x.new a z n] at e; cases e
/-- something new, not a cell -/
theorem Ext.laid (h : H p = none) (o : HO) : Ext ρ H ρ (upd H p o) :=
  ⟨⟨[], by simp⟩, fun a u e _ => ⟨u, by rw [upd_ne (ne_of_none e h)]; exact e, .refl u⟩, fun a z n => absurd z n, fun a z n => absurd z n, fun _ h => h⟩
/-- a new cell -/
theorem Ext.cell (h : H p = none) (o : HO) : Ext ρ H (ρ.more p) (upd H p o) := by
  have one : ∀ (l : List Addr) a, a ∈ l ++ [p] → a ∉ l → H a = none := fun l a z n => by
    rcases List.mem_append.mp z with z | z
    · exact absurd z n
    · have e : a = p := by simpa using z
      rw [e]; exact h
  exact ⟨⟨[p], rfl⟩, fun a u e _ => ⟨u, by rw [upd_ne (ne_of_none e h)]; exact e, .refl u⟩, one _, one _, fun a z => List.mem_append_left _ z⟩
/-- a cell changed -/
theorem Ext.put (h : p ∈ ρ.ad) (o : HO) : Ext ρ H ρ (upd H p o) :=
  ⟨⟨[], by simp⟩, fun a u e n => ⟨u, by rw [upd_ne (fun z => n (by rw [z]; exact h))]; exact e, .refl u⟩, fun a z n => absurd z n, fun a z n => absurd z n, fun _ h => h⟩
theorem Ext.same {H' : Hp} (h : ∀ a o, H a = some o → H' a = some o) : Ext ρ H ρ H' :=
  ⟨⟨[], by simp⟩, fun a u e _ => ⟨u, h a u e, .refl u⟩, fun a z n => absurd z n, fun a z n => absurd z n, fun _ h => h⟩
theorem Ext.get (x : Ext ρ H ρ' H') {l : Nat} (h : ρ.ad[l]? = some a) : ρ'.ad[l]? = some a := by
  obtain ⟨m, e⟩ := x.pre
  rw [e, List.getElem?_append_left (List.getElem?_eq_some_iff.mp h).1]; exact h

theorem Le.tup {xs : List V} {o : HO} (h : Le (.tup xs) o) : o = .tup xs := by cases h; rfl
theorem Le.frz {ob : Obj} {u o : HO} (h : Le (.frz ob u) o) : o = .frz ob u := by cases h; rfl
theorem Le.ins {C dx : Addr} {fs : List (Str × V)} {o : HO} (h : Le (.ins C dx fs) o) : o = .ins C dx fs := by cases h; rfl
theorem Le.lst {xs : List V} {o : HO} (h : Le (.lst xs) o) : o = .lst xs := by cases h; rfl
theorem Le.set {S : Int → Bool} {n : Nat} {o : HO} (h : Le (.set S n) o) : o = .set S n := by cases h; rfl
/-- what is read stays to be read -/
theorem Ext.rd (x : Ext ρ H ρ' H') {u : HO} (h : Rd H a u) (n : a ∉ ρ.ad) (hu : (∃ xs, u = .lst xs) ∨ (∃ kvs, u = .dK kvs) ∨ (∃ kvs, u = .dT kvs) ∨ ∃ xs, u = .tup xs) : Rd H' a u := by
  rcases h with h | ⟨o, h⟩
  · obtain ⟨o', e, l⟩ := x.keep a _ h n
    rcases hu with ⟨_, rfl⟩ | ⟨_, rfl⟩ | ⟨_, rfl⟩ | ⟨_, rfl⟩
    · rw [l.lst] at e; exact .inl e
    · cases l with
      | refl => exact .inl e
      | lockK ob => exact .inr ⟨ob, e⟩
    · cases l with
      | refl => exact .inl e
      | lockT ob => exact .inr ⟨ob, e⟩
    · rw [l.tup] at e; exact .inl e
  · obtain ⟨o', e, l⟩ := x.keep a _ h n
    rw [l.frz] at e; exact .inr ⟨o, e⟩
end

inductive CellOk (g : G) (ρ : Lc) (H : Hp) : Cell → HO → Prop
  | lst {xs : List D} {vs : List V} (r : IsDs g ρ H xs vs) : CellOk g ρ H (.lst xs) (.lst vs)
  | dK {ds : List (D × D)} {kvs : List (Key × V)} (r : IsKs g ρ H ds kvs) : CellOk g ρ H (.dct ds) (.dK kvs)
  | dT {ds : List (D × D)} {kvs : List (List Key × V)} (r : IsTs g ρ H ds kvs) : CellOk g ρ H (.dct ds) (.dT kvs)
  | ins {c : Str} {C dx : Addr} {fs : List (Str × D)} {fvs : List (Str × V)} (m : g.mg c = some (.ref C)) (r : IsFs g ρ H fs fvs) : CellOk g ρ H (.ins c fs) (.ins C dx fvs)
structure HRel (g : G) (ρ : Lc) (h : DH) (H : Hp) : Prop where
  len : ρ.ad.length = h.length
  nd : ρ.ad.Nodup
  trk : ∀ a, a ∈ ρ.mt → ∃ o, H a = some o
  cell : ∀ (l : Nat) (c : Cell), h[l]? = some c → ∃ a o, ρ.ad[l]? = some a ∧ H a = some o ∧ CellOk g ρ H c o
/-- no tuple is a cell: tuples in ρ are impossible by the relation -/
theorem HRel.mem {g : G} {ρ : Lc} {h : DH} {H : Hp} (r : HRel g ρ h H) {a : Addr} (m : a ∈ ρ.ad) : ∃ (l : Nat) (c : Cell) (o : HO), ρ.ad[l]? = some a ∧ h[l]? = some c ∧ H a = some o ∧ CellOk g ρ H c o := by
  obtain ⟨l, hl, e⟩ := List.getElem_of_mem m
  have hl' : l < h.length := by rw [← r.len]; exact hl
  obtain ⟨b, o, e1, e2, e3⟩ := r.cell l h[l] (by simp [hl'])
  have e4 : ρ.ad[l]? = some a := by rw [List.getElem?_eq_getElem hl, e]
  rw [e4] at e1; cases e1
  exact ⟨l, _, o, e4, by simp [hl'], e2, e3⟩
theorem HRel.notup {g : G} {ρ : Lc} {h : DH} {H : Hp} (r : HRel g ρ h H) {a : Addr} {u : HO} (e : H a = some u) (hu : (∃ xs, u = .tup xs) ∨ ∃ ob w, u = .frz ob w) : a ∉ ρ.ad := fun m => by
  obtain ⟨l, c, o, _, _, e2, k⟩ := r.mem m
  rw [e] at e2; cases e2
  rcases hu with ⟨xs, rfl⟩ | ⟨ob, w, rfl⟩ <;> cases k

section
variable {g : G} {ρ ρ' ρ1 ρ2 : Lc} {h : DH} {H H' H1 H2 : Hp} {a p : Addr} {o : HO}
theorem sqT_ext (rel : HRel g ρ h H) (x : Ext ρ H ρ' H') {vs : List V} (q : SqT g.K H a vs) : SqT g.K H' a vs := by
  rcases q with q | q
  · have n : a ∉ ρ.ad := by
      rcases q with q | ⟨ob, q⟩
      · exact rel.notup q (.inl ⟨_, rfl⟩)
      · exact rel.notup q (.inr ⟨_, _, rfl⟩)
    exact .inl (x.rd q n (.inr (.inr (.inr ⟨_, rfl⟩))))
  · exact .inr q
mutual
theorem IsD.ext (rel : HRel g ρ h H) (x : Ext ρ H ρ' H') : ∀ {d : D} {v : V}, IsD g ρ H d v → IsD g ρ' H' d v
  | _, _, .non => .non
  | _, _, .bl b => .bl b
  | _, _, .int i => .int i
  | _, _, .str x => .str x
  | _, _, .tup q r => .tup (sqT_ext rel x q) (IsDs.ext rel x r)
  | _, _, .lst q n r => .lst (by
      obtain ⟨o', e, l⟩ := x.keep _ _ q (fun z => n (ρ.sub _ z))
      rw [l.lst] at e; exact e) (x.notin q n) (IsDs.ext rel x r)
  | _, _, .scr q => .scr (by
      rcases q with ⟨q, n⟩ | q
      · refine .inl ⟨x.rd q (fun z => n (ρ.sub _ z)) (.inl ⟨_, rfl⟩), ?_⟩
        rcases q with q | ⟨ob, q⟩
        · exact x.notin q n
        · exact x.notin q n
      · exact .inr q)
  | _, _, .dK q n r => .dK (x.rd q (fun z => n (ρ.sub _ z)) (.inr (.inl ⟨_, rfl⟩))) (by
      rcases q with q | ⟨ob, q⟩
      · exact x.notin q n
      · exact x.notin q n) (IsKs.ext rel x r)
  | _, _, .dT q n r => .dT (x.rd q (fun z => n (ρ.sub _ z)) (.inr (.inr (.inl ⟨_, rfl⟩)))) (by
      rcases q with q | ⟨ob, q⟩
      · exact x.notin q n
      · exact x.notin q n) (IsTs.ext rel x r)
  | _, _, .obj m q n r => .obj m (by
      obtain ⟨o', e, l⟩ := x.keep _ _ q (fun z => n (ρ.sub _ z))
      rw [l.ins] at e; exact e) (x.notin q n) (IsFs.ext rel x r)
  | _, _, .set q n r => .set (by
      obtain ⟨o', e, l⟩ := x.keep _ _ q (fun z => n (ρ.sub _ z))
      rw [l.set] at e; exact e) (x.notin q n) r
  | _, _, .ref e => .ref (x.get e)
  | _, _, .glo m => .glo m
theorem IsDs.ext (rel : HRel g ρ h H) (x : Ext ρ H ρ' H') : ∀ {ds : List D} {vs : List V}, IsDs g ρ H ds vs → IsDs g ρ' H' ds vs
  | _, _, .nil => .nil
  | _, _, .cons a t => .cons (IsD.ext rel x a) (IsDs.ext rel x t)
theorem IsFs.ext (rel : HRel g ρ h H) (x : Ext ρ H ρ' H') : ∀ {ds : List (Str × D)} {vs : List (Str × V)}, IsFs g ρ H ds vs → IsFs g ρ' H' ds vs
  | _, _, .nil => .nil
  | _, _, .cons a t => .cons (IsD.ext rel x a) (IsFs.ext rel x t)
theorem IsKs.ext (rel : HRel g ρ h H) (x : Ext ρ H ρ' H') : ∀ {ds : List (D × D)} {vs : List (Key × V)}, IsKs g ρ H ds vs → IsKs g ρ' H' ds vs
  | _, _, .nil => .nil
  | _, _, .int a t => .int (IsD.ext rel x a) (IsKs.ext rel x t)
  | _, _, .str a t => .str (IsD.ext rel x a) (IsKs.ext rel x t)
theorem IsTs.ext (rel : HRel g ρ h H) (x : Ext ρ H ρ' H') : ∀ {ds : List (D × D)} {vs : List (List Key × V)}, IsTs g ρ H ds vs → IsTs g ρ' H' ds vs
  | _, _, .nil => .nil
  | _, _, .cons a t => .cons (IsD.ext rel x a) (IsTs.ext rel x t)
end
theorem CellOk.ext (rel : HRel g ρ h H) (x : Ext ρ H ρ' H') {c : Cell} {o : HO} : CellOk g ρ H c o → CellOk g ρ' H' c o
  | .lst r => .lst (r.ext rel x)
  | .dK r => .dK (r.ext rel x)
  | .dT r => .dT (r.ext rel x)
  | .ins m r => .ins m (r.ext rel x)
/-- something new, not a cell -/
theorem HRel.laid (rel : HRel g ρ h H) (n : H p = none) (o : HO) : HRel g ρ h (upd H p o) :=
  ⟨rel.len, rel.nd, fun a ha => by
    obtain ⟨u, e⟩ := rel.trk a ha
    exact ⟨u, by rw [upd_ne (ne_of_none e n)]; exact e⟩, fun l c e => by
    obtain ⟨a, u, e1, e2, e3⟩ := rel.cell l c e
    exact ⟨a, u, e1, by rw [upd_ne (ne_of_none e2 n)]; exact e2, e3.ext rel (Ext.laid n o)⟩⟩
theorem HRel.fresh (rel : HRel g ρ h H) (n : H p = none) : p ∉ ρ.mt := fun m => by
  obtain ⟨_, e⟩ := rel.trk p m
  rw [n] at e; cases e
theorem HRel.freshC (rel : HRel g ρ h H) (n : H p = none) : p ∉ ρ.ad := fun m => rel.fresh n (ρ.sub p m)
/-- a new cell -/
theorem HRel.more (rel : HRel g ρ h H) (n : H p = none) {c : Cell} {o : HO} (k : CellOk g (ρ.more p) (upd H p o) c o) : HRel g (ρ.more p) (h ++ [c]) (upd H p o) := by
  refine ⟨by simp [Lc.more, rel.len], ?_, fun a ha => ?_, fun l d e => ?_⟩
  · refine List.nodup_append.mpr ⟨rel.nd, by simp, fun a ha b hb z => ?_⟩
    have e : b = p := by simpa using hb
    rw [z, e] at ha
    exact rel.freshC n ha
  · by_cases hp : a = p
    · exact ⟨o, by rw [hp, upd_same]⟩
    · rcases List.mem_append.mp ha with z | z
      · obtain ⟨u, e⟩ := rel.trk a z
        exact ⟨u, by rw [upd_ne hp]; exact e⟩
      · exact absurd (by simpa using z) hp
  · by_cases hl : l < h.length
    · rw [List.getElem?_append_left hl] at e
      obtain ⟨a, u, e1, e2, e3⟩ := rel.cell l d e
      exact ⟨a, u, (Ext.cell n o).get e1, by rw [upd_ne (ne_of_none e2 n)]; exact e2, e3.ext rel (Ext.cell n o)⟩
    · rw [List.getElem?_append_right (by omega)] at e
      have z : l - h.length = 0 := by
        rcases Nat.lt_or_ge (l - h.length) 1 with q | q
        · omega
        · rw [List.getElem?_eq_none (by simpa using q)] at e; cases e
      rw [z] at e
      have e' : c = d := by simpa using e
      subst e'
      refine ⟨p, o, ?_, upd_same, k⟩
      show (ρ.ad ++ [p])[l]? = some p
      rw [List.getElem?_append_right (by rw [rel.len]; omega), rel.len, z]; rfl
/-- a cell changed -/
theorem HRel.put (rel : HRel g ρ h H) {l : Nat} {c : Cell} {o : HO} (e : ρ.ad[l]? = some a) (k : CellOk g ρ (upd H a o) c o) : HRel g ρ (h.set l c) (upd H a o) := by
  have hm : a ∈ ρ.ad := List.mem_of_getElem? e
  refine ⟨by simp [rel.len], rel.nd, fun b hb => ?_, fun j d q => ?_⟩
  · by_cases hp : b = a
    · exact ⟨o, by rw [hp, upd_same]⟩
    · obtain ⟨u, e⟩ := rel.trk b hb
      exact ⟨u, by rw [upd_ne hp]; exact e⟩
  · by_cases hj : j = l
    · subst hj
      have hl : j < h.length := by rw [← rel.len]; exact (List.getElem?_eq_some_iff.mp e).1
      rw [List.getElem?_set_self hl] at q
      cases q
      exact ⟨a, o, e, upd_same, k⟩
    · rw [List.getElem?_set_ne (Ne.symm hj)] at q
      obtain ⟨b, u, e1, e2, e3⟩ := rel.cell j d q
      refine ⟨b, u, e1, ?_, e3.ext rel (Ext.put hm o)⟩
      rw [upd_ne]
      · exact e2
      · rintro rfl
        obtain ⟨h1, q1⟩ := List.getElem?_eq_some_iff.mp e1
        obtain ⟨h2, q2⟩ := List.getElem?_eq_some_iff.mp e
        exact hj ((List.getElem_inj rel.nd).mp (q1.trans q2.symm))

/-- heaps that are alike but at a held address -/
structure But (ρ : Lc) (a : Addr) (ρ' : Lc) (H H' : Hp) : Prop where
  ad : ∃ l, ρ'.ad = ρ.ad ++ l
  mt : ∀ b, b ∉ ρ.mt → b ∉ ρ'.mt
  eq : ∀ b, b ≠ a → H' b = H b
theorem But.at {a c : Addr} (b : But ρ a ρ' H H') (hm : a ∈ ρ.mt) (n : c ∉ ρ.mt) : H' c = H c := b.eq c fun z => n (by rw [z]; exact hm)
mutual
theorem IsD.but {a : Addr} (rel : HRel g ρ h H) (hm : a ∈ ρ.mt) (hnt : ∀ xs, H a ≠ some (.tup xs) ∧ ∀ ob u, H a ≠ some (.frz ob u)) (b : But ρ a ρ' H H') : ∀ {d : D} {v : V}, IsD g ρ H d v → IsD g ρ' H' d v
  | _, _, .non => .non
  | _, _, .bl b => .bl b
  | _, _, .int i => .int i
  | _, _, .str x => .str x
  | _, _, .tup q r => .tup (by
      rcases q with (q | ⟨ob, q⟩) | q
      · exact .inl (.inl (by rw [b.eq _ (fun z => (hnt _).1 (by rw [← z]; exact q))]; exact q))
      · exact .inl (.inr ⟨ob, by rw [b.eq _ (fun z => (hnt []).2 _ _ (by rw [← z]; exact q))]; exact q⟩)
      · exact .inr q) (IsDs.but rel hm hnt b r)
  | _, _, .lst q n r => .lst (by rw [b.at hm n]; exact q) (b.mt _ n) (IsDs.but rel hm hnt b r)
  | _, _, .scr q => .scr (by
      rcases q with ⟨q, n⟩ | q
      · have e := b.at hm n
        refine .inl ⟨?_, b.mt _ n⟩
        rcases q with q | ⟨ob, q⟩
        · exact .inl (by rw [e]; exact q)
        · exact .inr ⟨ob, by rw [e]; exact q⟩
      · exact .inr q)
  | _, _, .dK q n r => .dK (by
      have e := b.at hm n
      rcases q with q | ⟨ob, q⟩
      · exact .inl (by rw [e]; exact q)
      · exact .inr ⟨ob, by rw [e]; exact q⟩) (b.mt _ n) (IsKs.but rel hm hnt b r)
  | _, _, .dT q n r => .dT (by
      have e := b.at hm n
      rcases q with q | ⟨ob, q⟩
      · exact .inl (by rw [e]; exact q)
      · exact .inr ⟨ob, by rw [e]; exact q⟩) (b.mt _ n) (IsTs.but rel hm hnt b r)
  | _, _, .obj m q n r => .obj m (by rw [b.at hm n]; exact q) (b.mt _ n) (IsFs.but rel hm hnt b r)
  | _, _, .set q n r => .set (by rw [b.at hm n]; exact q) (b.mt _ n) r
  | _, _, .ref e => .ref (by
      obtain ⟨l, z⟩ := b.ad
      rw [z, List.getElem?_append_left (List.getElem?_eq_some_iff.mp e).1]; exact e)
  | _, _, .glo m => .glo m
theorem IsDs.but {a : Addr} (rel : HRel g ρ h H) (hm : a ∈ ρ.mt) (hnt : ∀ xs, H a ≠ some (.tup xs) ∧ ∀ ob u, H a ≠ some (.frz ob u)) (b : But ρ a ρ' H H') : ∀ {ds : List D} {vs : List V}, IsDs g ρ H ds vs → IsDs g ρ' H' ds vs
  | _, _, .nil => .nil
  | _, _, .cons x t => .cons (IsD.but rel hm hnt b x) (IsDs.but rel hm hnt b t)
theorem IsFs.but {a : Addr} (rel : HRel g ρ h H) (hm : a ∈ ρ.mt) (hnt : ∀ xs, H a ≠ some (.tup xs) ∧ ∀ ob u, H a ≠ some (.frz ob u)) (b : But ρ a ρ' H H') : ∀ {ds : List (Str × D)} {vs : List (Str × V)}, IsFs g ρ H ds vs → IsFs g ρ' H' ds vs
  | _, _, .nil => .nil
  | _, _, .cons x t => .cons (IsD.but rel hm hnt b x) (IsFs.but rel hm hnt b t)
theorem IsKs.but {a : Addr} (rel : HRel g ρ h H) (hm : a ∈ ρ.mt) (hnt : ∀ xs, H a ≠ some (.tup xs) ∧ ∀ ob u, H a ≠ some (.frz ob u)) (b : But ρ a ρ' H H') : ∀ {ds : List (D × D)} {vs : List (Key × V)}, IsKs g ρ H ds vs → IsKs g ρ' H' ds vs
  | _, _, .nil => .nil
  | _, _, .int x t => .int (IsD.but rel hm hnt b x) (IsKs.but rel hm hnt b t)
  | _, _, .str x t => .str (IsD.but rel hm hnt b x) (IsKs.but rel hm hnt b t)
theorem IsTs.but {a : Addr} (rel : HRel g ρ h H) (hm : a ∈ ρ.mt) (hnt : ∀ xs, H a ≠ some (.tup xs) ∧ ∀ ob u, H a ≠ some (.frz ob u)) (b : But ρ a ρ' H H') : ∀ {ds : List (D × D)} {vs : List (List Key × V)}, IsTs g ρ H ds vs → IsTs g ρ' H' ds vs
  | _, _, .nil => .nil
  | _, _, .cons x t => .cons (IsD.but rel hm hnt b x) (IsTs.but rel hm hnt b t)
end
theorem CellOk.but {a : Addr} (rel : HRel g ρ h H) (hm : a ∈ ρ.mt) (hnt : ∀ xs, H a ≠ some (.tup xs) ∧ ∀ ob u, H a ≠ some (.frz ob u)) (b : But ρ a ρ' H H') {c : Cell} {o : HO} : CellOk g ρ H c o → CellOk g ρ' H' c o
  | .lst r => .lst (r.but rel hm hnt b)
  | .dK r => .dK (r.but rel hm hnt b)
  | .dT r => .dT (r.but rel hm hnt b)
  | .ins m r => .ins m (r.but rel hm hnt b)
theorem HRel.but {a : Addr} (rel : HRel g ρ h H) (had : ρ'.ad = ρ.ad) (hm : a ∈ ρ.mt) (ha : a ∉ ρ.ad) (hnt : ∀ xs, H a ≠ some (.tup xs) ∧ ∀ ob u, H a ≠ some (.frz ob u)) (b : But ρ a ρ' H H') (hs : ∀ c, c ∈ ρ'.mt → ∃ o, H' c = some o) : HRel g ρ' h H' :=
  ⟨by rw [had]; exact rel.len, by rw [had]; exact rel.nd, hs, fun l c e => by
    obtain ⟨p, o, e1, e2, e3⟩ := rel.cell l c e
    refine ⟨p, o, by rw [had]; exact e1, ?_, e3.but rel hm hnt b⟩
    rw [b.eq]
    · exact e2
    · rintro rfl
      exact ha (List.mem_of_getElem? e1)⟩
end

abbrev Sl := List (Option D)
def Slots (g : G) (ρ : Lc) (H : Hp) (sd : Sl) (σ : L2.St) : Prop := sd.length = σ.length ∧ ∀ (i : Nat) (d : D), sd[i]? = some (some d) → ∃ v, σ[i]? = some (some v) ∧ IsD g ρ H d v
theorem Slots.ext {g : G} {ρ ρ' : Lc} {h : DH} {H H' : Hp} {sd : Sl} {σ : L2.St} (rel : HRel g ρ h H) (s : Slots g ρ H sd σ) (x : Ext ρ H ρ' H') : Slots g ρ' H' sd σ :=
  ⟨s.1, fun i d e => let ⟨v, e1, r⟩ := s.2 i d e; ⟨v, e1, r.ext rel x⟩⟩
theorem Slots.set {g : G} {ρ : Lc} {H : Hp} {sd : Sl} {σ : L2.St} (s : Slots g ρ H sd σ) (i : Nat) {d : D} {v : V} (r : IsD g ρ H d v) : Slots g ρ H (sd.set i (some d)) (σ.set i (some v)) := by
  refine ⟨by simp [s.1], fun j e q => ?_⟩
  by_cases hj : j = i
  · subst hj
    obtain ⟨hl, q'⟩ := List.getElem?_eq_some_iff.mp q
    have hl' : j < sd.length := by simpa using hl
    rw [List.getElem?_set_self hl'] at q
    cases q
    exact ⟨v, by rw [List.getElem?_set_self (by rw [← s.1]; exact hl')], r⟩
  · rw [List.getElem?_set_ne (Ne.symm hj)] at q
    obtain ⟨w, e1, r1⟩ := s.2 j e q
    exact ⟨w, by rw [List.getElem?_set_ne (Ne.symm hj)]; exact e1, r1⟩

inductive R (α : Type) where
  | ok (a : α) (h : DH)
  | exc (e : Ex) (h : DH)
  | no
def R.bind {α β : Type} (r : R α) (k : α → DH → R β) : R β := match r with
  | .ok a h => k a h
  | .exc e h => .exc e h
  | .no => .no
@[simp] theorem R.bind_ok {α β : Type} (a : α) (h : DH) (k : α → DH → R β) : (R.ok a h).bind k = k a h := rfl
@[simp] theorem R.bind_exc {α β : Type} (e : Ex) (h : DH) (k : α → DH → R β) : (R.exc e h).bind k = R.exc e h := rfl
@[simp] theorem R.bind_no {α β : Type} (k : α → DH → R β) : (R.no : R α).bind k = R.no := rfl
inductive IsEx (g : G) (ρ : Lc) (H : Hp) : Ex → Value → Option Addr → Prop
  | bare {c : Str} {C : Addr} (m : g.mg c = some (.ref C)) : IsEx g ρ H ⟨c, []⟩ (.ref C) none
  | full {c : Str} {C d : Addr} {fs : List (Str × D)} {fvs : List (Str × V)} (m : g.mg c = some (.ref C)) (h : H d = some (.xd fvs)) (n : d ∉ ρ.mt) (r : IsFs g ρ H fs fvs) : IsEx g ρ H ⟨c, fs⟩ (.ref C) (some d)
abbrev WE := Value → Option Addr → Hp → Prop
/-- what is wanted of a result -/
def Post (g : G) (ρ : Lc) (H : Hp) {α β : Type} (Is : Lc → Hp → α → β → Prop) (r : R α) (Q : β → Hp → Prop) (W : WE) : Prop := match r with
  | .ok a h => ∀ (v : β) (ρ' : Lc) (H' : Hp), HRel g ρ' h H' → Ext ρ H ρ' H' → Is ρ' H' a v → Q v H'
  | .exc e h => ∀ (c : Value) (d : Option Addr) (ρ' : Lc) (H' : Hp), HRel g ρ' h H' → Ext ρ H ρ' H' → IsEx g ρ' H' e c d → W c d H'
  | .no => False
theorem Post.ext {g : G} {ρ ρ1 : Lc} {H H1 : Hp} {α β : Type} {Is : Lc → Hp → α → β → Prop} {r : R α} {Q : β → Hp → Prop} {W : WE} (p : Post g ρ H Is r Q W) (x : Ext ρ H ρ1 H1) : Post g ρ1 H1 Is r Q W := by
  cases r with
  | ok a h => exact fun v ρ' H' rel y i => p v ρ' H' rel (x.trans y) i
  | exc e h => exact fun c d ρ' H' rel y i => p c d ρ' H' rel (x.trans y) i
  | no => exact p
theorem Post.imp {g : G} {ρ : Lc} {H : Hp} {α β : Type} {Is : Lc → Hp → α → β → Prop} {r : R α} {Q Q' : β → Hp → Prop} {W W' : WE} (p : Post g ρ H Is r Q W) (hq : ∀ v H, Q v H → Q' v H) (hw : ∀ c d H, W c d H → W' c d H) : Post g ρ H Is r Q' W' := by
  cases r with
  | ok a h => exact fun v ρ' H' rel y i => hq _ _ (p v ρ' H' rel y i)
  | exc e h => exact fun c d ρ' H' rel y i => hw _ _ _ (p c d ρ' H' rel y i)
  | no => exact p
/-- step by step -/
theorem Post.seq {g : G} {ρ : Lc} {H : Hp} {α β γ δ : Type} {Is : Lc → Hp → α → β → Prop} {Js : Lc → Hp → γ → δ → Prop} {r : R α} {k : α → DH → R γ} {Q : δ → Hp → Prop} {Q' : β → Hp → Prop} {W : WE} (p : Post g ρ H Js (r.bind k) Q W)
    (hq : ∀ a h v ρ1 H1, HRel g ρ1 h H1 → Ext ρ H ρ1 H1 → Is ρ1 H1 a v → Post g ρ1 H1 Js (k a h) Q W → Q' v H1) : Post g ρ H Is r Q' W := by
  cases r with
  | ok a h => exact fun v ρ' H' rel y i => hq a h v ρ' H' rel y i (Post.ext p y)
  | exc e h => exact p
  | no => exact p

abbrev DM (α : Type) := Sl → DH → R α
abbrev DE := DM D
abbrev isB : Lc → Hp → Bool → Bool → Prop := fun _ _ a b => a = b
/-- readings -/
def tE (g : G) (W : WX) (m : DE) : TE := fun σ H Q => ∃ ρ sd h, HRel g ρ h H ∧ Slots g ρ H sd σ ∧ Post g ρ H (IsD g) (m sd h) Q fun c d H' => W c d σ H'
def tB (g : G) (W : WX) (m : DM Bool) : TT := fun σ H Q => ∃ ρ sd h, HRel g ρ h H ∧ Slots g ρ H sd σ ∧ Post g ρ H isB (m sd h) Q fun c d H' => W c d σ H'
def tAs (g : G) (W : WX) (m : DM (List D)) : TA := fun σ H Q => ∃ ρ sd h, HRel g ρ h H ∧ Slots g ρ H sd σ ∧ Post g ρ H (IsDs g) (m sd h) Q fun c d H' => W c d σ H'

theorem _root_.L2.PE.imp {X : Cx} {e : Expr} {t t' : TE} (h : PE X e t) (k : ∀ σ H Q, t' σ H Q → t σ H Q) : PE X e t' := ⟨fun pins s σ H Q I q => h.run pins s σ H Q I (k _ _ _ q)⟩
theorem _root_.L2.PT.imp {X : Cx} {e : Expr} {t t' : TT} (h : PT X e t) (k : ∀ σ H Q, t' σ H Q → t σ H Q) : PT X e t' := ⟨fun pins s σ H Q I q => h.run pins s σ H Q I (k _ _ _ q)⟩
theorem _root_.L2.PA.imp {X : Cx} {e : List Expr} {t t' : TA} (h : PA X e t) (k : ∀ σ H Q, t' σ H Q → t σ H Q) : PA X e t' := ⟨fun pos pins s σ H Q I q => h.run pos pins s σ H Q I (k _ _ _ q)⟩
theorem _root_.L2.PS.imp {X : Cx} {e : Stmt} {t t' : TS} (h : PS X e t) (k : ∀ D σ H, t' D σ H → t D σ H) : PS X e t' := ⟨fun pins s σ H D I q => h.run pins s σ H D I (k _ _ _ q)⟩
theorem _root_.L2.PSs.imp {X : Cx} {e : List Stmt} {t t' : TS} (h : PSs X e t) (k : ∀ D σ H, t' D σ H → t D σ H) : PSs X e t' := ⟨fun pins s σ H D I q => h.run pins s σ H D I (k _ _ _ q)⟩
/-- the judgements -/
abbrev JE (X : Cx) (g : G) (W : WX) (e : Expr) (m : DE) : Prop := PE X e (tE g W m)
abbrev JT (X : Cx) (g : G) (W : WX) (e : Expr) (m : DM Bool) : Prop := PT X e (tB g W m)
abbrev JA (X : Cx) (g : G) (W : WX) (es : List Expr) (m : DM (List D)) : Prop := PA X es (tAs g W m)
end Cp

set_option maxHeartbeats 4000000
namespace Cp
open PySem PySem.Spec PyProof.Rows L2

def ofO {α : Type} (o : Option α) (h : DH) : R α := match o with
  | some a => .ok a h
  | none => .no
@[simp] theorem ofO_some {α : Type} (a : α) (h : DH) : ofO (some a) h = .ok a h := rfl
@[simp] theorem ofO_none {α : Type} (h : DH) : ofO (none : Option α) h = .no := rfl
def eV (i : Nat) : DE := fun sd h => match sd[i]? with
  | some (some d) => .ok d h
  | _ => .no
def eK (d : D) : DE := fun _ h => .ok d h
def eO1 (f : D → DH → Option D) (a : DE) : DE := fun sd h => (a sd h).bind fun x h1 => ofO (f x h1) h1
def eO2 (f : D → D → DH → Option D) (a b : DE) : DE := fun sd h => (a sd h).bind fun x h1 => (b sd h1).bind fun y h2 => ofO (f x y h2) h2
/-- a comparison's value -/
def cmpD (f : D → D → DH → Option Bool) (x y : D) (h : DH) : Option D := (f x y h).map D.bl
def bO2 (f : D → D → DH → Option Bool) (a b : DE) : DM Bool := fun sd h => (a sd h).bind fun x h1 => (b sd h1).bind fun y h2 => ofO (f x y h2) h2
def bVal (a : DE) : DM Bool := fun sd h => (a sd h).bind fun x h1 => match x with
  | .bl b => .ok b h1
  | _ => .no
def bAnd (a b : DM Bool) : DM Bool := fun sd h => (a sd h).bind fun x h1 => if x = true then b sd h1 else .ok false h1
def bOr (a b : DM Bool) : DM Bool := fun sd h => (a sd h).bind fun x h1 => if x = true then .ok true h1 else b sd h1
def bNot (a : DM Bool) : DM Bool := fun sd h => (a sd h).bind fun x h1 => .ok (!x) h1
def eAnd (a b : DE) : DE := fun sd h => (bVal a sd h).bind fun x h1 => if x = true then b sd h1 else .ok (.bl false) h1
def eOr (a b : DE) : DE := fun sd h => (bVal a sd h).bind fun x h1 => if x = true then .ok (.bl true) h1 else b sd h1
def eNot (a : DE) : DE := fun sd h => (bVal a sd h).bind fun x h1 => .ok (.bl (!x)) h1
def eIf (t : DM Bool) (a b : DE) : DE := fun sd h => (t sd h).bind fun x h1 => if x = true then a sd h1 else b sd h1
def asNil : DM (List D) := fun _ h => .ok [] h
def asCons (a : DE) (r : DM (List D)) : DM (List D) := fun sd h => (a sd h).bind fun x h1 => (r sd h1).bind fun xs h2 => .ok (x :: xs) h2
/-- the items of what is read in order -/
def seqD (d : D) (h : DH) : Option (List D) := match d with
  | .tup xs => some xs
  | .lst xs => some xs
  | .ref l => (match h[l]? with
    | some (.lst xs) => some xs
    | _ => none)
  | _ => none
def listD (d : D) (h : DH) : Option (List D) := match d with
  | .lst xs => some xs
  | .ref l => (match h[l]? with
    | some (.lst xs) => some xs
    | _ => none)
  | _ => none
def asStar (a : DE) (r : DM (List D)) : DM (List D) := fun sd h => (a sd h).bind fun x h1 => match seqD x h1 with
  | some xs => (r sd h1).bind fun ys h2 => .ok (xs ++ ys) h2
  | none => .no
def fine (n : Nat) : Bool := Nat.ble n 100000
theorem fine_ok {n : Nat} (h : fine n = true) : n ≤ sizeLine := Nat.le_trans (Nat.le_of_ble_eq_true h) (by rw [sizeLine_eq]; decide)
theorem fine_lt {n : Nat} (h : fine n = true) : n < sizeLine := Nat.lt_of_le_of_lt (Nat.le_of_ble_eq_true h) (by rw [sizeLine_eq]; decide)
def eTup (m : DM (List D)) : DE := fun sd h => (m sd h).bind fun xs h1 => if fine xs.length = true then .ok (.tup xs) h1 else .no
def eLst (m : DM (List D)) : DE := fun sd h => (m sd h).bind fun xs h1 => if fine xs.length = true then .ok (.lst xs) h1 else .no
/-- a list that will be changed -/
def eLstM (m : DM (List D)) : DE := fun sd h => (m sd h).bind fun xs h1 => if fine xs.length = true then .ok (.ref h1.length) (h1 ++ [.lst xs]) else .no
def eNoExc {α : Type} (r : R α) : R α := match r with
  | .exc _ _ => .no
  | r => r

section
variable {X : Cx} {g : G} {W : WX} {σ : L2.St} {H : Hp} {ρ : Lc} {sd : Sl} {h : DH}
/-- a first part, then what follows -/
theorem inE {ma : DE} {γ δ : Type} {Js : Lc → Hp → γ → δ → Prop} {k : D → DH → R γ} {Q : δ → Hp → Prop} {Q' : VK} (rel : HRel g ρ h H) (sl : Slots g ρ H sd σ) (p : Post g ρ H Js ((ma sd h).bind k) Q fun c d H' => W c d σ H')
    (hq : ∀ a h1 v ρ1 H1, HRel g ρ1 h1 H1 → Ext ρ H ρ1 H1 → Slots g ρ1 H1 sd σ → IsD g ρ1 H1 a v → Post g ρ1 H1 Js (k a h1) Q (fun c d H' => W c d σ H') → Q' v H1) : tE g W ma σ H Q' :=
  ⟨ρ, sd, h, rel, sl, Post.seq p fun a h1 v ρ1 H1 rel1 x1 i1 p1 => hq a h1 v ρ1 H1 rel1 x1 (sl.ext rel x1) i1 p1⟩
theorem inB {ma : DM Bool} {γ δ : Type} {Js : Lc → Hp → γ → δ → Prop} {k : Bool → DH → R γ} {Q : δ → Hp → Prop} {Q' : Bool → Hp → Prop} (rel : HRel g ρ h H) (sl : Slots g ρ H sd σ) (p : Post g ρ H Js ((ma sd h).bind k) Q fun c d H' => W c d σ H')
    (hq : ∀ a h1 ρ1 H1, HRel g ρ1 h1 H1 → Ext ρ H ρ1 H1 → Slots g ρ1 H1 sd σ → Post g ρ1 H1 Js (k a h1) Q (fun c d H' => W c d σ H') → Q' a H1) : tB g W ma σ H Q' :=
  ⟨ρ, sd, h, rel, sl, Post.seq p fun a h1 v ρ1 H1 rel1 x1 i1 p1 => by
    have e : a = v := i1
    subst e
    exact hq a h1 ρ1 H1 rel1 x1 (sl.ext rel x1) p1⟩
theorem inA {ma : DM (List D)} {γ δ : Type} {Js : Lc → Hp → γ → δ → Prop} {k : List D → DH → R γ} {Q : δ → Hp → Prop} {Q' : List V → Hp → Prop} (rel : HRel g ρ h H) (sl : Slots g ρ H sd σ) (p : Post g ρ H Js ((ma sd h).bind k) Q fun c d H' => W c d σ H')
    (hq : ∀ a h1 v ρ1 H1, HRel g ρ1 h1 H1 → Ext ρ H ρ1 H1 → Slots g ρ1 H1 sd σ → IsDs g ρ1 H1 a v → Post g ρ1 H1 Js (k a h1) Q (fun c d H' => W c d σ H') → Q' v H1) : tAs g W ma σ H Q' :=
  ⟨ρ, sd, h, rel, sl, Post.seq p fun a h1 v ρ1 H1 rel1 x1 i1 p1 => hq a h1 v ρ1 H1 rel1 x1 (sl.ext rel x1) i1 p1⟩
/-- the end -/
theorem Post.fin {α β : Type} {Is : Lc → Hp → α → β → Prop} {a : α} {Q : β → Hp → Prop} {w : WE} {v : β} (p : Post g ρ H Is (.ok a h) Q w) (rel : HRel g ρ h H) (i : Is ρ H a v) : Q v H := p v ρ H rel (Ext.refl ρ H) i
theorem tE.mk (rel : HRel g ρ h H) (sl : Slots g ρ H sd σ) {ma : DE} {Q : VK} (p : Post g ρ H (IsD g) (ma sd h) Q fun c d H' => W c d σ H') : tE g W ma σ H Q := ⟨ρ, sd, h, rel, sl, p⟩

theorem j_var {i : Nat} {x : Str} {pos : Pos} (hN : X.N[i]? = some x := by rfl) (hv : Vis X.env.scope x := by first | exact Or.inl rfl | exact Or.inr (Or.inl rfl) | exact Or.inr (Or.inr rfl)) (hd : (x == ("__debug__" : Str)) = false := by decide)
    (hcd : (x == ("__classdict__" : Str)) = false := by decide) : JE X g W (.Name x pos) (eV i) := by
  refine (pe_var hN hv hd hcd).imp fun σ H Q hq => ?_
  obtain ⟨ρ, sd, h, rel, sl, p⟩ := hq
  unfold eV at p
  cases e : sd[i]? with
  | none => rw [e] at p; exact p.elim
  | some o =>
    cases o with
    | none => rw [e] at p; exact p.elim
    | some d =>
      rw [e] at p
      obtain ⟨v, e1, r⟩ := sl.2 i d e
      exact ⟨v, e1, p.fin rel r⟩
theorem j_const {e : Expr} {v : V} {d : D} (he : PE X e (tC v)) (hd : ∀ ρ H, IsD g ρ H d v) : JE X g W e (eK d) := by
  refine he.imp fun σ H Q hq => ?_
  obtain ⟨ρ, sd, h, rel, sl, p⟩ := hq
  exact p.fin rel (hd ρ H)
theorem j_int {i : Int} {j pos} : JE X g W (.Constant (.int i) j pos) (eK (.int i)) := j_const pe_int fun _ _ => .int i
theorem j_bl {b : Bool} {j pos} : JE X g W (.Constant (.bool b) j pos) (eK (.bl b)) := j_const pe_bl fun _ _ => .bl b
theorem j_non {j pos} : JE X g W (.Constant .none j pos) (eK .non) := j_const pe_non fun _ _ => .non
theorem j_str {x j pos} : JE X g W (.Constant (.str x) j pos) (eK (.str x)) := j_const pe_str fun _ _ => .str x
/-- a module's constant -/
theorem j_gint {x : Str} {i : Int} {pos : Pos} (hg : Gl X x) (hm : ∃ t, X.mg x = some (.int i t)) (hd : (x == ("__debug__" : Str)) = false := by decide) : JE X g W (.Name x pos) (eK (.int i)) := by
  obtain ⟨t, hm⟩ := hm
  exact j_const (pe_glob (v := .int i) hg hm ⟨t, rfl⟩ hd) fun _ _ => .int i
theorem j_gstr {x z : Str} {pos : Pos} (hg : Gl X x) (hm : ∃ t, X.mg x = some (.str z t)) (hd : (x == ("__debug__" : Str)) = false := by decide) : JE X g W (.Name x pos) (eK (.str z)) := by
  obtain ⟨t, hm⟩ := hm
  exact j_const (pe_glob (v := .str z) hg hm ⟨t, rfl⟩ hd) fun _ _ => .str z
theorem j_glo {x : Str} {a : Addr} {pos : Pos} (hg : Gl X x) (hm : X.mg x = some (.ref a)) (hgm : g.mg = X.mg) (hd : (x == ("__debug__" : Str)) = false := by decide) : JE X g W (.Name x pos) (eK (.glo x)) :=
  j_const (pe_glob (v := .ref a) hg hm rfl hd) fun _ _ => .glo (by rw [hgm]; exact hm)

/-- two values in, one out, nothing changed -/
def r2 (g : G) (f : D → D → DH → Option D) : R2 := fun x y H Q => ∃ ρ h d1 d2 d, HRel g ρ h H ∧ IsD g ρ H d1 x ∧ IsD g ρ H d2 y ∧ f d1 d2 h = some d ∧ ∀ v H', HRel g ρ h H' → Ext ρ H ρ H' → IsD g ρ H' d v → Q v H'
theorem r2_of {f : D → D → DH → Option D} {ρ1 : Lc} {h1 : DH} {H1 : Hp} {d1 d2 : D} {x y : V} {Q : VK} {w : WE} (rel : HRel g ρ1 h1 H1) (i1 : IsD g ρ1 H1 d1 x) (i2 : IsD g ρ1 H1 d2 y) (p : Post g ρ1 H1 (IsD g) (ofO (f d1 d2 h1) h1) Q w) : r2 g f x y H1 Q := by
  cases e : f d1 d2 h1 with
  | none => rw [e] at p; exact p.elim
  | some d =>
    rw [e] at p
    exact ⟨ρ1, h1, d1, d2, d, rel, i1, i2, e, fun v H' rel' x' i' => p v ρ1 H' rel' x' i'⟩
theorem j_op {op : Operator} {f : D → D → DH → Option D} {a b : Expr} {ma mb : DE} {pos : Pos} (ho : OpR X (binaryOp op) (r2 g f)) (ha : JE X g W a ma) (hb : JE X g W b mb) : JE X g W (.BinOp a op b pos) (eO2 f ma mb) := by
  refine (pe_op ho ha hb).imp fun σ H Q hq => ?_
  obtain ⟨ρ, sd, h, rel, sl, p⟩ := hq
  refine inE rel sl p fun d1 h1 v1 ρ1 H1 rel1 x1 sl1 i1 p1 => ?_
  refine inE rel1 sl1 p1 fun d2 h2 v2 ρ2 H2 rel2 x2 sl2 i2 p2 => ?_
  exact r2_of rel2 (i1.ext rel1 x2) i2 p2
/-- two values in, a bool out -/
theorem r2b_of {f : D → D → DH → Option Bool} {ρ1 : Lc} {h1 : DH} {H1 : Hp} {d1 d2 : D} {x y : V} {Q : Bool → Hp → Prop} {w : WE} (rel : HRel g ρ1 h1 H1) (i1 : IsD g ρ1 H1 d1 x) (i2 : IsD g ρ1 H1 d2 y) (p : Post g ρ1 H1 isB (ofO (f d1 d2 h1) h1) Q w) : r2 g (cmpD f) x y H1 fun z H' => ∃ k, z = .bl k ∧ Q k H' := by
  cases e : f d1 d2 h1 with
  | none => rw [e] at p; exact p.elim
  | some b =>
    rw [e] at p
    refine ⟨ρ1, h1, d1, d2, .bl b, rel, i1, i2, by unfold cmpD; rw [e]; rfl, fun v H' rel' x' i' => ?_⟩
    cases i'
    exact ⟨b, rfl, p b ρ1 H' rel' x' rfl⟩
theorem j_cmp {op : CmpOp} {f : D → D → DH → Option Bool} {a b : Expr} {ma mb : DE} {pos : Pos} (ho : OpR X (compareOp op) (r2 g (cmpD f))) (ha : JE X g W a ma) (hb : JE X g W b mb) (hm : behindInMarks op b = false := by first | exact nomark _ | rfl) : JE X g W (.Compare a [op] [b] pos) (eO2 (cmpD f) ma mb) := by
  refine (pe_cmpR ho ha hb hm).imp fun σ H Q hq => ?_
  obtain ⟨ρ, sd, h, rel, sl, p⟩ := hq
  refine inE rel sl p fun d1 h1 v1 ρ1 H1 rel1 x1 sl1 i1 p1 => ?_
  refine inE rel1 sl1 p1 fun d2 h2 v2 ρ2 H2 rel2 x2 sl2 i2 p2 => ?_
  exact r2_of rel2 (i1.ext rel1 x2) i2 p2
theorem jt_cmp {op : CmpOp} {f : D → D → DH → Option Bool} {a b : Expr} {ma mb : DE} {pos : Pos} (ho : OpR X (compareOp op) (r2 g (cmpD f))) (ha : JE X g W a ma) (hb : JE X g W b mb) (hm : behindInMarks op b = false := by first | exact nomark _ | rfl) : JT X g W (.Compare a [op] [b] pos) (bO2 f ma mb) := by
  refine (pt_cmpR ho ha hb hm).imp fun σ H Q hq => ?_
  obtain ⟨ρ, sd, h, rel, sl, p⟩ := hq
  refine inE rel sl p fun d1 h1 v1 ρ1 H1 rel1 x1 sl1 i1 p1 => ?_
  refine inE rel1 sl1 p1 fun d2 h2 v2 ρ2 H2 rel2 x2 sl2 i2 p2 => ?_
  exact r2b_of rel2 (i1.ext rel1 x2) i2 p2
/-- a < b < c -/
def bChain (f f' : D → D → DH → Option Bool) (a b c : DE) : DM Bool := fun sd h => (a sd h).bind fun x h1 => (b sd h1).bind fun y h2 => (ofO (f x y h2) h2).bind fun k h3 => if k = true then (c sd h3).bind fun z h4 => ofO (f' y z h4) h4 else .ok false h3
def eB (m : DM Bool) : DE := fun sd h => (m sd h).bind fun b h1 => .ok (.bl b) h1
theorem chain_core {f f' : D → D → DH → Option Bool} {ma mb mc : DE} {σ : L2.St} {H : Hp} {Q : Bool → Hp → Prop} (hq : tB g W (bChain f f' ma mb mc) σ H Q) :
    tE g W ma σ H fun x H1 => tE g W mb σ H1 fun y H2 => r2 g (cmpD f) x y H2 fun z H3 => ∃ k, z = .bl k ∧ if k = true then tE g W mc σ H3 (fun u H4 => r2 g (cmpD f') y u H4 fun z H5 => ∃ k, z = .bl k ∧ Q k H5) else Q false H3 := by
  obtain ⟨ρ, sd, h, rel, sl, p⟩ := hq
  refine inE rel sl p fun d1 h1 v1 ρ1 H1 rel1 x1 sl1 i1 p1 => ?_
  refine inE rel1 sl1 p1 fun d2 h2 v2 ρ2 H2 rel2 x2 sl2 i2 p2 => ?_
  cases e : f d1 d2 h2 with
  | none => rw [e] at p2; exact p2.elim
  | some b =>
    rw [e] at p2
    refine ⟨ρ2, h2, d1, d2, .bl b, rel2, i1.ext rel1 x2, i2, by unfold cmpD; rw [e]; rfl, fun v H' rel' x' i' => ?_⟩
    cases i'
    refine ⟨b, rfl, ?_⟩
    have p3 := Post.ext p2 x'
    cases b with
    | true =>
      refine inE rel' (sl2.ext rel2 x') p3 fun d3 h3 v3 ρ3 H3 rel3 x3 sl3 i3 p4 => ?_
      exact r2b_of rel3 ((i2.ext rel2 x').ext rel' x3) i3 p4
    | false => exact p3.fin rel' rfl
theorem tE.mono {m : DE} {σ : L2.St} {H : Hp} {Q Q' : VK} (hq : tE g W m σ H Q) (k : ∀ v H, Q v H → Q' v H) : tE g W m σ H Q' := by
  obtain ⟨ρ, sd, h, rel, sl, p⟩ := hq
  exact ⟨ρ, sd, h, rel, sl, p.imp k fun _ _ _ z => z⟩
theorem r2.mono {f : D → D → DH → Option D} {x y : V} {H : Hp} {Q Q' : VK} (hq : r2 g f x y H Q) (k : ∀ v H, Q v H → Q' v H) : r2 g f x y H Q' := by
  obtain ⟨ρ, h, d1, d2, d, rel, i1, i2, e, q⟩ := hq
  exact ⟨ρ, h, d1, d2, d, rel, i1, i2, e, fun v H' a b c => k _ _ (q v H' a b c)⟩
/-- as a value, from the test -/
theorem eB_tB {m : DM Bool} {σ : L2.St} {H : Hp} {Q : VK} (hq : tE g W (eB m) σ H Q) : tB g W m σ H fun k H' => Q (.bl k) H' := by
  obtain ⟨ρ, sd, h, rel, sl, p⟩ := hq
  refine ⟨ρ, sd, h, rel, sl, Post.seq p fun a h1 v ρ1 H1 rel1 x1 i1 p1 => ?_⟩
  have e : a = v := i1
  subst e
  exact p1.fin rel1 (.bl a)
theorem jt_chain {op op' : CmpOp} {f f' : D → D → DH → Option Bool} {a b c : Expr} {ma mb mc : DE} {pos : Pos} (ho : OpR X (compareOp op) (r2 g (cmpD f))) (ho' : OpR X (compareOp op') (r2 g (cmpD f'))) (ha : JE X g W a ma) (hb : JE X g W b mb) (hc : JE X g W c mc)
    (hm : lastMarks [op, op'] [b, c] = false := by with_unfolding_all rfl) : JT X g W (.Compare a [op, op'] [b, c] pos) (bChain f f' ma mb mc) := by
  refine (pt_chain ho ho' ha hb hc hm).imp fun σ H Q hq => ?_
  refine tE.mono (chain_core hq) fun x H1 q1 => tE.mono q1 fun y H2 q2 => r2.mono q2 fun z H3 q3 => ?_
  obtain ⟨k, e, q3⟩ := q3
  refine ⟨k, e, ?_⟩
  cases k with
  | true => exact q3
  | false => exact ⟨false, rfl, q3⟩
theorem j_chain {op op' : CmpOp} {f f' : D → D → DH → Option Bool} {a b c : Expr} {ma mb mc : DE} {pos : Pos} (ho : OpR X (compareOp op) (r2 g (cmpD f))) (ho' : OpR X (compareOp op') (r2 g (cmpD f'))) (ha : JE X g W a ma) (hb : JE X g W b mb) (hc : JE X g W c mc)
    (hm : lastMarks [op, op'] [b, c] = false := by with_unfolding_all rfl) : JE X g W (.Compare a [op, op'] [b, c] pos) (eB (bChain f f' ma mb mc)) := by
  refine (pe_chain ho ho' ha hb hc hm).imp fun σ H Q hq => ?_
  refine tE.mono (chain_core (eB_tB hq)) fun x H1 q1 => tE.mono q1 fun y H2 q2 => r2.mono q2 fun z H3 q3 => ?_
  obtain ⟨k, e, q3⟩ := q3
  refine ⟨k, e, ?_⟩
  cases k with
  | true => exact tE.mono q3 fun u H4 q4 => r2.mono q4 fun z H5 ⟨k, e, q5⟩ => by rw [e]; exact q5
  | false => exact q3

theorem bVal_tE {m : DE} {γ δ : Type} {Js : Lc → Hp → γ → δ → Prop} {k : Bool → DH → R γ} {Q : δ → Hp → Prop} {Q' : VK} {σ : L2.St} {H : Hp} {ρ : Lc} {sd : Sl} {h : DH} (rel : HRel g ρ h H) (sl : Slots g ρ H sd σ) (p : Post g ρ H Js ((bVal m sd h).bind k) Q fun c d H' => W c d σ H')
    (hq : ∀ a h1 ρ1 H1, HRel g ρ1 h1 H1 → Ext ρ H ρ1 H1 → Slots g ρ1 H1 sd σ → Post g ρ1 H1 Js (k a h1) Q (fun c d H' => W c d σ H') → Q' (.bl a) H1) : tE g W m σ H Q' := by
  unfold bVal at p
  cases e : m sd h with
  | no => rw [e] at p; exact p.elim
  | exc x h1 => rw [e] at p; exact ⟨ρ, sd, h, rel, sl, by rw [e]; exact p⟩
  | ok d h1 =>
    rw [e] at p
    refine ⟨ρ, sd, h, rel, sl, ?_⟩
    rw [e]
    intro v ρ1 H1 rel1 x1 i1
    cases i1 with
    | bl b => exact hq b h1 ρ1 H1 rel1 x1 (sl.ext rel x1) (Post.ext p x1)
    | _ => exact p.elim
theorem jt_val {e : Expr} {m : DE} (h : JE X g W e m) (he : ∀ whole, isTrue e X.env whole = (do let v ← whole; standAt e.pos; holding [v] (truthy v)) := by intro _; rfl) : JT X g W e (bVal m) := by
  refine (pt_val h he).imp fun σ H Q hq => ?_
  obtain ⟨ρ, sd, h, rel, sl, p⟩ := hq
  refine bVal_tE (k := fun a h => .ok a h) (Js := isB) (Q := Q) rel sl (by
    cases e : bVal m sd h <;> rw [e] at p <;> exact p) fun a h1 ρ1 H1 rel1 x1 sl1 p1 => ⟨a, rfl, p1.fin rel1 rfl⟩
abbrev JW (X : Cx) (g : G) (W : WX) (e : Expr) (m : DM Bool) : Prop := PW X e (tB g W m)
theorem _root_.L2.PW.imp {X : Cx} {e : Expr} {t t' : TT} (h : PW X e t) (k : ∀ σ H Q, t' σ H Q → t σ H Q) : PW X e t' := ⟨fun w pins s σ H Q I q => h.run w pins s σ H Q I (k _ _ _ q)⟩
theorem jw_and1 {a : Expr} {m : DM Bool} {pos : Pos} (ha : JT X g W a m) : JW X g W (.BoolOp .And [a] pos) m := pw_and1 ha
theorem jw_or1 {a : Expr} {m : DM Bool} {pos : Pos} (ha : JT X g W a m) : JW X g W (.BoolOp .Or [a] pos) m := pw_or1 ha
theorem jw_and {a b : Expr} {rest : List Expr} {m n : DM Bool} {pos : Pos} (ha : JT X g W a m) (hb : JW X g W (.BoolOp .And (b :: rest) pos) n) : JW X g W (.BoolOp .And (a :: b :: rest) pos) (bAnd m n) := by
  refine (pw_and ha hb).imp fun σ H Q hq => ?_
  obtain ⟨ρ, sd, h, rel, sl, p⟩ := hq
  refine inB rel sl p fun c h1 ρ1 H1 rel1 x1 sl1 p1 => ?_
  cases c with
  | true => exact ⟨ρ1, sd, h1, rel1, sl1, p1⟩
  | false => exact p1.fin rel1 rfl
theorem jw_or {a b : Expr} {rest : List Expr} {m n : DM Bool} {pos : Pos} (ha : JT X g W a m) (hb : JW X g W (.BoolOp .Or (b :: rest) pos) n) : JW X g W (.BoolOp .Or (a :: b :: rest) pos) (bOr m n) := by
  refine (pw_or ha hb).imp fun σ H Q hq => ?_
  obtain ⟨ρ, sd, h, rel, sl, p⟩ := hq
  refine inB rel sl p fun c h1 ρ1 H1 rel1 x1 sl1 p1 => ?_
  cases c with
  | true => exact p1.fin rel1 rfl
  | false => exact ⟨ρ1, sd, h1, rel1, sl1, p1⟩
theorem jt_w {e : Expr} {m : DM Bool} (h : JW X g W e m) : JT X g W e m := h.pt
theorem jt_not {a : Expr} {m : DM Bool} {pos : Pos} (ha : JT X g W a m) : JT X g W (.UnaryOp .Not a pos) (bNot m) := by
  refine (pt_not ha).imp fun σ H Q hq => ?_
  obtain ⟨ρ, sd, h, rel, sl, p⟩ := hq
  exact inB rel sl p fun c h1 ρ1 H1 rel1 x1 sl1 p1 => p1.fin rel1 rfl
theorem j_one {op : BoolOp} {a : Expr} {m : DE} {pos : Pos} (ha : JE X g W a m) : JE X g W (.BoolOp op [a] pos) m := pe_one ha
theorem j_and {a b : Expr} {rest : List Expr} {m n : DE} {pos : Pos} (ha : JE X g W a m) (hb : JE X g W (.BoolOp .And (b :: rest) pos) n) : JE X g W (.BoolOp .And (a :: b :: rest) pos) (eAnd m n) := by
  refine (pe_and ha hb).imp fun σ H Q hq => ?_
  obtain ⟨ρ, sd, h, rel, sl, p⟩ := hq
  refine bVal_tE rel sl p fun c h1 ρ1 H1 rel1 x1 sl1 p1 => ⟨c, rfl, ?_⟩
  cases c with
  | true => exact ⟨ρ1, sd, h1, rel1, sl1, p1⟩
  | false => exact p1.fin rel1 (.bl false)
theorem j_or {a b : Expr} {rest : List Expr} {m n : DE} {pos : Pos} (ha : JE X g W a m) (hb : JE X g W (.BoolOp .Or (b :: rest) pos) n) : JE X g W (.BoolOp .Or (a :: b :: rest) pos) (eOr m n) := by
  refine (pe_or ha hb).imp fun σ H Q hq => ?_
  obtain ⟨ρ, sd, h, rel, sl, p⟩ := hq
  refine bVal_tE rel sl p fun c h1 ρ1 H1 rel1 x1 sl1 p1 => ⟨c, rfl, ?_⟩
  cases c with
  | true => exact p1.fin rel1 (.bl true)
  | false => exact ⟨ρ1, sd, h1, rel1, sl1, p1⟩
theorem j_not {a : Expr} {m : DE} {pos : Pos} (ha : JE X g W a m) : JE X g W (.UnaryOp .Not a pos) (eNot m) := by
  refine (pe_not ha).imp fun σ H Q hq => ?_
  obtain ⟨ρ, sd, h, rel, sl, p⟩ := hq
  exact bVal_tE rel sl p fun c h1 ρ1 H1 rel1 x1 sl1 p1 => ⟨c, rfl, p1.fin rel1 (.bl _)⟩
theorem j_if {c a b : Expr} {t : DM Bool} {m n : DE} {pos : Pos} (hc : JT X g W c t) (ha : JE X g W a m) (hb : JE X g W b n) : JE X g W (.IfExp c a b pos) (eIf t m n) := by
  refine (pe_ifExp hc ha hb).imp fun σ H Q hq => ?_
  obtain ⟨ρ, sd, h, rel, sl, p⟩ := hq
  refine inB rel sl p fun c h1 ρ1 H1 rel1 x1 sl1 p1 => ?_
  cases c with
  | true => exact ⟨ρ1, sd, h1, rel1, sl1, p1⟩
  | false => exact ⟨ρ1, sd, h1, rel1, sl1, p1⟩

theorem ja_nil : JA X g W [] asNil := by
  refine pa_nil.imp fun σ H Q hq => ?_
  obtain ⟨ρ, sd, h, rel, sl, p⟩ := hq
  exact p.fin rel .nil
theorem ja_cons {e : Expr} {es : List Expr} {m : DE} {r : DM (List D)} (ha : JE X g W e m) (hr : JA X g W es r) (hs : starEach (e :: es) X.env = (false, eval e X.env) :: starEach es X.env := by rfl) : JA X g W (e :: es) (asCons m r) := by
  refine (pa_cons ha hr hs).imp fun σ H Q hq => ?_
  obtain ⟨ρ, sd, h, rel, sl, p⟩ := hq
  refine inE rel sl p fun d1 h1 v1 ρ1 H1 rel1 x1 sl1 i1 p1 => ?_
  refine inA rel1 sl1 p1 fun d2 h2 v2 ρ2 H2 rel2 x2 sl2 i2 p2 => ?_
  exact p2.fin rel2 (.cons (i1.ext rel1 x2) i2)
/-- what is read in order -/
theorem seqD_ok {ρ : Lc} {h : DH} {H : Hp} {d : D} {v : V} {xs : List D} (rel : HRel g ρ h H) (i : IsD g ρ H d v) (e : seqD d h = some xs) : ∃ a vs, v = .ref a ∧ IsDs g ρ H xs vs ∧ ((SqT g.K H a vs ∧ d = .tup xs) ∨ (H a = some (.lst vs) ∧ listD d h = some xs)) := by
  cases i with
  | tup q r => cases e; exact ⟨_, _, rfl, r, .inl ⟨q, rfl⟩⟩
  | lst q n r => cases e; exact ⟨_, _, rfl, r, .inr ⟨q, rfl⟩⟩
  | @ref l a q =>
    unfold seqD at e
    cases c : h[l]? with
    | none => simp only [c] at e; cases e
    | some c' =>
      cases c' with
      | lst ys =>
        simp only [c] at e; cases e
        obtain ⟨a', o, e1, e2, k⟩ := rel.cell l _ c
        rw [q] at e1; cases e1
        cases k with
        | lst r => exact ⟨a, _, rfl, r, .inr ⟨e2, by unfold listD; simp only [c]⟩⟩
      | _ => simp only [c] at e; cases e
  | _ => cases e
theorem listD_seq {d : D} {h : DH} {xs : List D} (e : listD d h = some xs) : seqD d h = some xs := by
  cases d <;> first | exact e | cases e
theorem listD_ok {ρ : Lc} {h : DH} {H : Hp} {d : D} {v : V} {xs : List D} (rel : HRel g ρ h H) (i : IsD g ρ H d v) (e : listD d h = some xs) : ∃ a vs, v = .ref a ∧ IsDs g ρ H xs vs ∧ H a = some (.lst vs) := by
  obtain ⟨a, vs, e1, r, q⟩ := seqD_ok rel i (listD_seq e)
  rcases q with ⟨_, rfl⟩ | ⟨q, _⟩
  · cases e
  · exact ⟨a, vs, e1, r, q⟩
theorem IsDs.append {ρ : Lc} {H : Hp} {es : List D} {ws : List V} (b : IsDs g ρ H es ws) : ∀ {ds : List D} {vs : List V}, IsDs g ρ H ds vs → IsDs g ρ H (ds ++ es) (vs ++ ws)
  | _, _, .nil => b
  | _, _, .cons a t => .cons a (IsDs.append b t)
theorem ja_star {e : Expr} {es : List Expr} {p : Pos} {m : DE} {r : DM (List D)} (hK : g.K = X.K) (ha : JE X g W e m) (hr : JA X g W es r) (hs : starEach (.Starred e p :: es) X.env = (true, eval e X.env) :: starEach es X.env := by rfl) : JA X g W (.Starred e p :: es) (asStar m r) := by
  refine (StX.pa_star ha hr hs).imp fun σ H Q hq => ?_
  obtain ⟨ρ, sd, h, rel, sl, p⟩ := hq
  refine inE rel sl p fun d1 h1 v1 ρ1 H1 rel1 x1 sl1 i1 p1 => ?_
  cases e : seqD d1 h1 with
  | none => simp only [e] at p1; exact p1.elim
  | some xs =>
    simp only [e] at p1
    obtain ⟨a, vs, rfl, r, q⟩ := seqD_ok rel1 i1 e
    refine ⟨a, vs, rfl, ?_, inA rel1 sl1 p1 fun d2 h2 v2 ρ2 H2 rel2 x2 sl2 i2 p2 => p2.fin rel2 ?_⟩
    · rcases q with ⟨q, _⟩ | ⟨q, _⟩
      · rw [hK] at q; exact .inl q
      · exact .inr (SqL.of q)
    · exact IsDs.append i2 (r.ext rel1 x2)
theorem IsDs.length {ρ : Lc} {H : Hp} : ∀ {ds : List D} {vs : List V}, IsDs g ρ H ds vs → ds.length = vs.length
  | _, _, .nil => rfl
  | _, _, .cons _ t => by simp [IsDs.length t]
theorem j_tup {es : List Expr} {m : DM (List D)} {k : Nat} {pos : Pos} (ha : JA X g W es m) : JE X g W (.Tuple es k pos) (eTup m) := by
  refine (pe_tup ha).imp fun σ H Q hq => ?_
  obtain ⟨ρ, sd, h, rel, sl, p⟩ := hq
  refine inA rel sl p fun ds h1 vs ρ1 H1 rel1 x1 sl1 i1 p1 => ?_
  by_cases hf : fine ds.length = true
  · rw [if_pos hf] at p1
    refine ⟨by rw [← i1.length]; exact fine_ok hf, fun q hq => ?_⟩
    exact p1 _ ρ1 _ (rel1.laid hq _) (Ext.laid hq _) (.tup (SqT.of upd_same) (i1.ext rel1 (Ext.laid hq _)))
  · rw [if_neg hf] at p1; exact p1.elim
theorem j_lst {es : List Expr} {m : DM (List D)} {pos : Pos} (ha : JA X g W es m) : JE X g W (.List es pos) (eLst m) := by
  refine (pe_lst ha).imp fun σ H Q hq => ?_
  obtain ⟨ρ, sd, h, rel, sl, p⟩ := hq
  refine inA rel sl p fun ds h1 vs ρ1 H1 rel1 x1 sl1 i1 p1 => ?_
  by_cases hf : fine ds.length = true
  · rw [if_pos hf] at p1
    refine ⟨by rw [← i1.length]; exact fine_ok hf, fun q hq => ?_⟩
    exact p1 _ ρ1 _ (rel1.laid hq _) (Ext.laid hq _) (.lst upd_same (rel1.fresh hq) (i1.ext rel1 (Ext.laid hq _)))
  · rw [if_neg hf] at p1; exact p1.elim
theorem j_lstM {es : List Expr} {m : DM (List D)} {pos : Pos} (ha : JA X g W es m) : JE X g W (.List es pos) (eLstM m) := by
  refine (pe_lst ha).imp fun σ H Q hq => ?_
  obtain ⟨ρ, sd, h, rel, sl, p⟩ := hq
  refine inA rel sl p fun ds h1 vs ρ1 H1 rel1 x1 sl1 i1 p1 => ?_
  by_cases hf : fine ds.length = true
  · rw [if_pos hf] at p1
    refine ⟨by rw [← i1.length]; exact fine_ok hf, fun q hq => ?_⟩
    refine p1 _ (ρ1.more q) _ (rel1.more hq (.lst (i1.ext rel1 (Ext.cell hq _)))) (Ext.cell hq _) (.ref ?_)
    show (ρ1.ad ++ [q])[h1.length]? = some q
    rw [List.getElem?_append_right (by rw [rel1.len]; omega), rel1.len]
    simp
  · rw [if_neg hf] at p1; exact p1.elim
end
end Cp

set_option maxHeartbeats 4000000
namespace Cp
open PySem PySem.Spec PyProof.Rows L2

def small (n : Nat) (i : Int) : Bool := decide (i.natAbs < 2 ^ n)
def dAdd (x y : D) (h : DH) : Option D := match x, y with
  | .int i, .int j => some (.int (i + j))
  | .str a, .str b => if fine (a.length + b.length) = true then some (.str (a ++ b)) else none
  | .tup a, .tup b => if fine (a.length + b.length) = true then some (.tup (a ++ b)) else none
  | x, y => match listD x h, listD y h with
    | some a, some b => if fine (a.length + b.length) = true then some (.lst (a ++ b)) else none
    | _, _ => none
def dSub (x y : D) (_ : DH) : Option D := match x, y with
  | .int i, .int j => some (.int (i - j))
  | _, _ => none
def mulOk (i j : Int) : Bool := small 64 i || (small 64 j || (small 8000 i && small 8000 j))
def dMul (x y : D) (h : DH) : Option D := match x, y with
  | .int i, .int j => if mulOk i j = true then some (.int (i * j)) else none
  | x, .int k => match listD x h with
    | some a => if decide (0 ≤ k) && decide (k ≤ 100000) && fine (a.length * k.toNat) then some (.lst (List.replicate k.toNat a).flatten) else none
    | none => none
  | _, _ => none
def dDiv (x y : D) (_ : DH) : Option D := match x, y with
  | .int i, .int j => if decide (0 < j) && small 8000 j then some (.int (i / j)) else none
  | _, _ => none
def dMod (x y : D) (_ : DH) : Option D := match x, y with
  | .int i, .int j => if 0 < j then some (.int (i % j)) else none
  | _, _ => none
def dPow (x y : D) (_ : DH) : Option D := match x, y with
  | .int i, .int j => if decide (0 ≤ j) && decide (j ≤ 1000) && small 60 i then some (.int (i ^ j.toNat)) else none
  | _, _ => none
def dLt (x y : D) (_ : DH) : Option Bool := match x, y with
  | .int i, .int j => some (decide (i < j))
  | _, _ => none
def dLe (x y : D) (_ : DH) : Option Bool := match x, y with
  | .int i, .int j => some (decide (i ≤ j))
  | _, _ => none
def dGt (x y : D) (_ : DH) : Option Bool := match x, y with
  | .int i, .int j => some (decide (j < i))
  | _, _ => none
def dGe (x y : D) (_ : DH) : Option Bool := match x, y with
  | .int i, .int j => some (decide (j ≤ i))
  | _, _ => none

mutual
def toPy (h : DH) : Nat → D → Option PyData
  | 0, _ => none
  | _ + 1, .non => some .none
  | _ + 1, .bl b => some (.bool b)
  | _ + 1, .int i => some (.int i)
  | _ + 1, .str x => if PyData.canLay0 (.str x) = true then some (.str x) else none
  | n + 1, .tup xs => (toPys h n xs).map PyData.tuple
  | n + 1, .lst xs => (toPys h n xs).map PyData.list
  | n + 1, .ref l => (match h[l]? with
    | some (.lst xs) => (toPys h n xs).map PyData.list
    | _ => none)
  | _ + 1, _ => none
def toPys (h : DH) : Nat → List D → Option (List PyData)
  | _, [] => some []
  | n, x :: xs => match toPy h n x, toPys h n xs with
    | some a, some b => some (a :: b)
    | _, _ => none
end
def eqDepth : Nat := 30
def dEq (x y : D) (h : DH) : Option Bool := match toPy h eqDepth x, toPy h eqDepth y with
  | some a, some b => some (PyData.eqv a b)
  | _, _ => none
def dNe (x y : D) (h : DH) : Option Bool := (dEq x y h).map not
def dIn (x y : D) (h : DH) : Option Bool := match seqD y h with
  | some ys => (match toPy h eqDepth x, toPys h eqDepth ys with
    | some a, some bs => some (bs.any fun z => PyData.eqv z a)
    | _, _ => none)
  | none => none
def flatD : D → Bool
  | .non => true | .bl _ => true | .int _ => true | .str _ => true | _ => false
/-- .. in a tuple of plain things -/
def dInT (x y : D) (h : DH) : Option Bool := match y with
  | .tup ys => if flatD x && ys.all flatD then dIn x y h else none
  | y => dIn x y h
def dNotIn (x y : D) (h : DH) : Option Bool := (dInT x y h).map not
def isNon : D → Bool
  | .non => true
  | _ => false
def dIs (x y : D) (_ : DH) : Option Bool := match x, y with
  | x, .non => some (isNon x)
  | .bl a, .bl b => some (decide (a = b))
  | _, _ => none
def dIsNot (x y : D) (h : DH) : Option Bool := (dIs x y h).map not

section
variable {X : Cx} {g : G}
theorem _root_.L2.OpR.imp {X : Cx} {f : Value → Value → Sem Value} {r r' : R2} (h : OpR X f r) (k : ∀ x y H Q, r' x y H Q → r x y H Q) : OpR X f r' := fun pins s σ H x y v u Q I rx ry q => h pins s σ H x y v u Q I rx ry (k _ _ _ _ q)
theorem small_ok {n : Nat} {i : Int} (h : small n i = true) : i.natAbs < 2 ^ n := of_decide_eq_true h
theorem log_of {i : Int} {n : Nat} (h : i.natAbs < 2 ^ n) (hn : 0 < n) : i.natAbs.log2 < n := by
  by_cases e : i.natAbs = 0
  · rw [e]; simpa using hn
  · exact (Nat.log2_lt e).mpr h
/-- the end of a plain result -/
theorem r2_fin {ρ : Lc} {h : DH} {H : Hp} {d : D} {v : V} {Q : VK} (rel : HRel g ρ h H) (q : ∀ v H', HRel g ρ h H' → Ext ρ H ρ H' → IsD g ρ H' d v → Q v H') (i : IsD g ρ H d v) : Q v H := q v H rel (Ext.refl ρ H) i
theorem r2_new {ρ : Lc} {h : DH} {H : Hp} {d : D} {p : Addr} {o : HO} {Q : VK} (rel : HRel g ρ h H) (q : ∀ v H', HRel g ρ h H' → Ext ρ H ρ H' → IsD g ρ H' d v → Q v H') (hp : H p = none) (i : IsD g ρ (upd H p o) d (.ref p)) : Q (.ref p) (upd H p o) :=
  q _ _ (rel.laid hp o) (Ext.laid hp o) i
theorem op_dAdd (hK : g.K = X.K) : OpR X (binaryOp .Add) (r2 g dAdd) := by
  refine (op_add.or (op_add_str.or (op_catA.or op_cat))).imp fun x y H Q hq => ?_
  obtain ⟨ρ, h, d1, d2, d, rel, i1, i2, e, q⟩ := hq
  have lists : ∀ {a b : List D}, listD d1 h = some a → listD d2 h = some b → fine (a.length + b.length) = true → d = .lst (a ++ b) → rCat x y H Q := fun {a b} e1 e2 hf ed => by
    obtain ⟨p, vs, rfl, r1, q1⟩ := listD_ok rel i1 e1
    obtain ⟨p', vs', rfl, r2', q2⟩ := listD_ok rel i2 e2
    refine ⟨p, p', vs, vs', rfl, rfl, q1, q2, by rw [← r1.length, ← r2'.length]; exact fine_ok hf, fun z hz => ?_⟩
    refine r2_new rel q hz ?_
    rw [ed]
    exact .lst upd_same (rel.fresh hz) (IsDs.append (r2'.ext rel (Ext.laid hz _)) (r1.ext rel (Ext.laid hz _)))
  unfold dAdd at e
  split at e
  · cases i1; cases i2; cases e
    exact .inl ⟨_, _, rfl, rfl, r2_fin rel q (.int _)⟩
  · split at e
    · rename_i hf
      cases i1; cases i2; cases e
      exact .inr (.inl ⟨_, _, rfl, rfl, fine_ok hf, r2_fin rel q (.str _)⟩)
    · cases e
  · split at e
    · rename_i hf
      cases e
      refine .inr (.inr (.inl ?_))
      cases i1 with
      | tup q1 r1 =>
        cases i2 with
        | tup q2 r2' =>
          rw [hK] at q1 q2
          refine ⟨_, _, _, _, rfl, rfl, q1, q2, by rw [← r1.length, ← r2'.length]; exact fine_ok hf, fun z => ?_, fun z z' => ?_, fun z z' p hp => ?_⟩
          · subst z; cases r1
            exact r2_fin rel q (.tup (by rw [hK]; exact q2) r2')
          · subst z'; cases r2'
            rw [List.append_nil] at q
            exact r2_fin rel q (.tup (by rw [hK]; exact q1) r1)
          · exact r2_new rel q hp (.tup (SqT.of upd_same) (IsDs.append (r2'.ext rel (Ext.laid hp _)) (r1.ext rel (Ext.laid hp _))))
    · cases e
  · split at e
    · rename_i a b e1 e2
      split at e
      · rename_i hf
        cases e
        exact .inr (.inr (.inr (lists e1 e2 hf rfl)))
      · cases e
    · cases e
theorem op_dSub : OpR X (binaryOp .Sub) (r2 g dSub) := by
  refine op_sub.imp fun x y H Q hq => ?_
  obtain ⟨ρ, h, d1, d2, d, rel, i1, i2, e, q⟩ := hq
  unfold dSub at e
  split at e
  · cases i1; cases i2; cases e
    exact ⟨_, _, rfl, rfl, r2_fin rel q (.int _)⟩
  · cases e
theorem op_dMul : OpR X (binaryOp .Mult) (r2 g dMul) := by
  refine ((op_mul.or op_mulW).or op_rep).imp fun x y H Q hq => ?_
  obtain ⟨ρ, h, d1, d2, d, rel, i1, i2, e, q⟩ := hq
  unfold dMul at e
  have sm : ∀ {i : Int}, i.natAbs < 2 ^ 64 → -(2 ^ 64) < i ∧ i < 2 ^ 64 := fun {i} h => by omega
  split at e
  · split at e
    · rename_i hs
      cases i1; cases i2; cases e
      unfold mulOk at hs
      rcases Bool.or_eq_true_iff.mp hs with h1 | hs
      · exact .inl (.inl ⟨_, _, rfl, rfl, .inl (sm (small_ok h1)), r2_fin rel q (.int _)⟩)
      · rcases Bool.or_eq_true_iff.mp hs with h1 | hs
        · exact .inl (.inl ⟨_, _, rfl, rfl, .inr (sm (small_ok h1)), r2_fin rel q (.int _)⟩)
        · obtain ⟨h1, h2⟩ := Bool.and_eq_true_iff.mp hs
          exact .inl (.inr ⟨_, _, rfl, rfl, wide_mul (small_ok h1) (small_ok h2) (by decide) (by decide) (by decide), r2_fin rel q (.int _)⟩)
    · cases e
  · rename_i _ _ k _
    split at e
    · rename_i a e1
      split at e
      · rename_i hs
        obtain ⟨h1, h3⟩ := Bool.and_eq_true_iff.mp hs
        obtain ⟨h1, h2⟩ := Bool.and_eq_true_iff.mp h1
        have h1 := of_decide_eq_true h1
        have h2 := of_decide_eq_true h2
        cases i2; cases e
        obtain ⟨p, vs, rfl, r1, q1⟩ := listD_ok rel i1 e1
        refine .inr ⟨p, _, vs, rfl, rfl, q1, by omega, by omega, by rw [← r1.length]; exact fine_ok h3, fun z hz => ?_⟩
        refine r2_new rel q hz (.lst upd_same (rel.fresh hz) ?_)
        have r2' := r1.ext rel (Ext.laid hz (.lst (List.replicate k.toNat vs).flatten))
        generalize k.toNat = n at *
        have go : ∀ m : Nat, IsDs g ρ (upd H z (.lst (List.replicate n vs).flatten)) (List.replicate m a).flatten (List.replicate m vs).flatten := fun m => by
          induction m with
          | zero => exact .nil
          | succ m ih =>
            rw [List.replicate_succ, List.replicate_succ, List.flatten_cons, List.flatten_cons]
            exact IsDs.append ih r2'
        exact go n
      · cases e
    · cases e
  · cases e
theorem op_dDiv : OpR X (binaryOp .FloorDiv) (r2 g dDiv) := by
  refine op_fdivW.imp fun x y H Q hq => ?_
  obtain ⟨ρ, h, d1, d2, d, rel, i1, i2, e, q⟩ := hq
  unfold dDiv at e
  split at e
  · split at e
    · rename_i hs
      obtain ⟨h1, h2⟩ := Bool.and_eq_true_iff.mp hs
      cases i1; cases i2; cases e
      exact ⟨_, _, rfl, rfl, wide_div (of_decide_eq_true h1) (small_ok h2) (by decide) (by decide), r2_fin rel q (.int _)⟩
    · cases e
  · cases e
theorem op_dMod : OpR X (binaryOp .Mod) (r2 g dMod) := by
  refine op_mod.imp fun x y H Q hq => ?_
  obtain ⟨ρ, h, d1, d2, d, rel, i1, i2, e, q⟩ := hq
  unfold dMod at e
  split at e
  · split at e
    · rename_i hs
      cases i1; cases i2; cases e
      exact ⟨_, _, rfl, rfl, hs, r2_fin rel q (.int _)⟩
    · cases e
  · cases e
theorem op_dPow : OpR X (binaryOp .Pow) (r2 g dPow) := by
  refine op_pow.imp fun x y H Q hq => ?_
  obtain ⟨ρ, h, d1, d2, d, rel, i1, i2, e, q⟩ := hq
  unfold dPow at e
  split at e
  · split at e
    · rename_i hs
      obtain ⟨h1, h3⟩ := Bool.and_eq_true_iff.mp hs
      obtain ⟨h1, h2⟩ := Bool.and_eq_true_iff.mp h1
      have h1 := of_decide_eq_true h1
      have h2 := of_decide_eq_true h2
      cases i1; cases i2; cases e
      refine ⟨_, _, rfl, rfl, ⟨h1, by omega, Nat.lt_of_lt_of_le (small_ok h3) (by decide)⟩, r2_fin rel q (.int _)⟩
    · cases e
  · cases e
theorem op_dcmp {op : CmpOp} {f : D → D → DH → Option Bool} {p : Int → Int → Bool} (ho : OpR X (compareOp op) (rI0 fun i j => .bl (p i j))) (hf : ∀ x y h b, f x y h = some b → ∃ i j, x = .int i ∧ y = .int j ∧ b = p i j) : OpR X (compareOp op) (r2 g (cmpD f)) := by
  refine ho.imp fun x y H Q hq => ?_
  obtain ⟨ρ, h, d1, d2, d, rel, i1, i2, e, q⟩ := hq
  unfold cmpD at e
  cases eb : f d1 d2 h with
  | none => rw [eb] at e; cases e
  | some b =>
    rw [eb] at e
    cases e
    obtain ⟨i, j, rfl, rfl, rfl⟩ := hf _ _ _ _ eb
    cases i1; cases i2
    exact ⟨_, _, rfl, rfl, r2_fin rel q (.bl _)⟩
theorem op_dLt : OpR X (compareOp .Lt) (r2 g (cmpD dLt)) := op_dcmp op_lt fun x y h b e => by
  unfold dLt at e
  split at e
  · cases e; exact ⟨_, _, rfl, rfl, rfl⟩
  · cases e
theorem op_dLe : OpR X (compareOp .LtE) (r2 g (cmpD dLe)) := op_dcmp op_le fun x y h b e => by
  unfold dLe at e
  split at e
  · cases e; exact ⟨_, _, rfl, rfl, rfl⟩
  · cases e
theorem op_dGt : OpR X (compareOp .Gt) (r2 g (cmpD dGt)) := op_dcmp op_gt fun x y h b e => by
  unfold dGt at e
  split at e
  · cases e; exact ⟨_, _, rfl, rfl, rfl⟩
  · cases e
theorem op_dGe : OpR X (compareOp .GtE) (r2 g (cmpD dGe)) := op_dcmp op_ge fun x y h b e => by
  unfold dGe at e
  split at e
  · cases e; exact ⟨_, _, rfl, rfl, rfl⟩
  · cases e

mutual
theorem toPy_dp (hK : g.K = X.K) {ρ : Lc} {h : DH} {H : Hp} (rel : HRel g ρ h H) : ∀ (n : Nat) {d : D} {v : V} {a : PyData}, IsD g ρ H d v → toPy h n d = some a → Dp X.K H v a ∧ a.canLay0 = true ∧ a.depth ≤ n
  | 0, _, _, _, _, e => by rw [toPy] at e; cases e
  | n + 1, .non, _, _, .non, e => by rw [toPy] at e; cases e; exact ⟨.non, rfl, by simp [PyData.depth]⟩
  | n + 1, .bl b, _, _, .bl _, e => by rw [toPy] at e; cases e; exact ⟨.bl b, rfl, by simp [PyData.depth]⟩
  | n + 1, .int i, _, _, .int _, e => by rw [toPy] at e; cases e; exact ⟨.int i, rfl, by simp [PyData.depth]⟩
  | n + 1, .str x, _, _, .str _, e => by
    rw [toPy] at e
    split at e
    · rename_i hl; cases e; exact ⟨.str x, hl, by simp [PyData.depth]⟩
    · cases e
  | n + 1, .tup xs, _, _, .tup q r, e => by
    rw [toPy] at e
    cases c : toPys h n xs with
    | none => rw [c] at e; cases e
    | some bs =>
      rw [c] at e; cases e
      obtain ⟨k1, k2, k3⟩ := toPys_dp hK rel n r c
      rw [hK] at q
      exact ⟨.tup q k1, by simpa [PyData.canLay0] using k2, by simp [PyData.depth]; omega⟩
  | n + 1, .lst xs, _, _, .lst q _ r, e => by
    rw [toPy] at e
    cases c : toPys h n xs with
    | none => rw [c] at e; cases e
    | some bs =>
      rw [c] at e; cases e
      obtain ⟨k1, k2, k3⟩ := toPys_dp hK rel n r c
      exact ⟨.lst (SqL.of q) k1, by simpa [PyData.canLay0] using k2, by simp [PyData.depth]; omega⟩
  | n + 1, .ref l, _, _, .ref q, e => by
    rw [toPy] at e
    cases hc : h[l]? with
    | none => simp only [hc] at e; cases e
    | some c' =>
      cases c' with
      | lst ys =>
        simp only [hc] at e
        cases c : toPys h n ys with
        | none => rw [c] at e; cases e
        | some bs =>
          rw [c] at e; cases e
          obtain ⟨a', o, e1, e2, k⟩ := rel.cell l _ hc
          rw [q] at e1; cases e1
          cases k with
          | lst r =>
            obtain ⟨k1, k2, k3⟩ := toPys_dp hK rel n r c
            exact ⟨.lst (SqL.of e2) k1, by simpa [PyData.canLay0] using k2, by simp [PyData.depth]; omega⟩
      | _ => simp only [hc] at e; cases e
  | n + 1, .dct _, _, _, _, e => by simp [toPy] at e
  | n + 1, .obj _ _, _, _, _, e => by simp [toPy] at e
  | n + 1, .set _, _, _, _, e => by simp [toPy] at e
  | n + 1, .scr _, _, _, _, e => by simp [toPy] at e
  | n + 1, .glo _, _, _, _, e => by simp [toPy] at e
theorem toPys_dp (hK : g.K = X.K) {ρ : Lc} {h : DH} {H : Hp} (rel : HRel g ρ h H) : ∀ (n : Nat) {ds : List D} {vs : List V} {bs : List PyData}, IsDs g ρ H ds vs → toPys h n ds = some bs → DpAll X.K H vs bs ∧ PyData.canLayAll0 bs = true ∧ PyData.depthAll bs ≤ n
  | n, [], _, _, .nil, e => by rw [toPys] at e; cases e; exact ⟨.nil, rfl, by simp [PyData.depthAll]⟩
  | n, d :: ds, _, _, .cons a t, e => by
    rw [toPys] at e
    cases c1 : toPy h n d with
    | none => simp only [c1] at e; cases e
    | some x =>
      cases c2 : toPys h n ds with
      | none => simp only [c1, c2] at e; cases e
      | some xs =>
        simp only [c1, c2] at e; cases e
        obtain ⟨k1, k2, k3⟩ := toPy_dp hK rel n a c1
        obtain ⟨j1, j2, j3⟩ := toPys_dp hK rel n t c2
        exact ⟨.cons k1 j1, by simp [PyData.canLayAll0, k2, j2], by simp [PyData.depthAll]; omega⟩
end
theorem shaped_of {a : PyData} (h1 : a.canLay0 = true) (h2 : a.depth ≤ 40) : SeqAt.shaped a = true := by
  unfold SeqAt.shaped
  rw [h1, Bool.true_and]
  exact decide_eq_true (by omega)
theorem op_dEq (hK : g.K = X.K) (hu : X.A.units + 64 < cLine) : OpR X (compareOp .Eq) (r2 g (cmpD dEq)) := by
  refine (op_eqD hu).imp fun x y H Q hq => ?_
  obtain ⟨ρ, h, d1, d2, d, rel, i1, i2, e, q⟩ := hq
  unfold cmpD dEq at e
  split at e
  · rename_i a b e1 e2
    cases e
    obtain ⟨k1, k2, k3⟩ := toPy_dp hK rel _ i1 e1
    obtain ⟨j1, j2, j3⟩ := toPy_dp hK rel _ i2 e2
    exact ⟨a, b, k1, j1, shaped_of k2 (Nat.le_trans k3 (by decide)), shaped_of j2 (Nat.le_trans j3 (by decide)), r2_fin rel q (.bl _)⟩
  · cases e
theorem op_dNe (hK : g.K = X.K) (hu : X.A.units + 64 < cLine) : OpR X (compareOp .NotEq) (r2 g (cmpD dNe)) := by
  refine (op_neD hu).imp fun x y H Q hq => ?_
  obtain ⟨ρ, h, d1, d2, d, rel, i1, i2, e, q⟩ := hq
  unfold cmpD dNe dEq at e
  split at e
  · rename_i a b e1 e2
    cases e
    obtain ⟨k1, k2, k3⟩ := toPy_dp hK rel _ i1 e1
    obtain ⟨j1, j2, j3⟩ := toPy_dp hK rel _ i2 e2
    exact ⟨a, b, k1, j1, shaped_of k2 (Nat.le_trans k3 (by decide)), shaped_of j2 (Nat.le_trans j3 (by decide)), r2_fin rel q (.bl _)⟩
  · cases e
theorem flat_eqv {ρ : Lc} {H : Hp} {d e : D} {x y : V} {a b : PyData} {h : DH} {n : Nat} (i : IsD g ρ H d x) (j : IsD g ρ H e y) (fd : flatD d = true) (fe : flatD e = true) (ed : toPy h (n + 1) d = some a) (ee : toPy h (n + 1) e = some b) : flatV x = true ∧ flatV y = true ∧ eqV x y = PyData.eqv a b := by
  cases i <;> simp [flatD] at fd <;> cases j <;> simp [flatD] at fe <;> simp [toPy] at ed ee <;> (first | subst ed | (obtain ⟨_, rfl⟩ := ed)) <;> (first | subst ee | (obtain ⟨_, rfl⟩ := ee)) <;> simp [flatV, eqV, PyData.eqv]
theorem flat_any {ρ : Lc} {H : Hp} {d : D} {x : V} {a : PyData} {h : DH} {n : Nat} (i : IsD g ρ H d x) (fd : flatD d = true) (ed : toPy h (n + 1) d = some a) : ∀ {ys : List D} {vs : List V} {bs : List PyData}, IsDs g ρ H ys vs → ys.all flatD = true → toPys h (n + 1) ys = some bs → vs.all flatV = true ∧ (inV x vs = bs.any fun z => PyData.eqv z a)
  | [], _, _, .nil, _, e => by rw [toPys] at e; cases e; exact ⟨rfl, rfl⟩
  | y :: ys, _, _, .cons r t, f, e => by
    rw [List.all_cons, Bool.and_eq_true] at f
    rw [toPys] at e
    cases c1 : toPy h (n + 1) y with
    | none => simp only [c1] at e; cases e
    | some b =>
      cases c2 : toPys h (n + 1) ys with
      | none => simp only [c1, c2] at e; cases e
      | some bs =>
        simp only [c1, c2] at e; cases e
        obtain ⟨k1, k2⟩ := flat_any i fd ed t f.2 c2
        obtain ⟨j1, j2, j3⟩ := flat_eqv r i f.1 fd c1 ed
        refine ⟨by rw [List.all_cons, j1, k1]; rfl, ?_⟩
        unfold inV at k2 ⊢
        rw [List.any_cons, List.any_cons, k2, j3]
theorem in_core (hK : g.K = X.K) {neg : Bool} {x y : V} {H : Hp} {Q : VK} {f : D → D → DH → Option Bool} (hf : ∀ a b h, f a b h = (dInT a b h).map fun k => if neg then !k else k) (hq : r2 g (cmpD f) x y H Q) :
    (∃ d ds, Dp X.K H x d ∧ Dp X.K H y (.list ds) ∧ SeqAt.shaped d = true ∧ SeqAt.shaped (.list ds) = true ∧ Q (.bl (if neg then !(ds.any fun z => PyData.eqv z d) else ds.any fun z => PyData.eqv z d)) H) ∨ rIn X.K neg x y H Q := by
  obtain ⟨ρ, h, d1, d2, d, rel, i1, i2, e, q⟩ := hq
  unfold cmpD at e
  rw [hf] at e
  have lists : ∀ {ys : List D}, listD d2 h = some ys → dInT d1 d2 h = dIn d1 d2 h → (∃ d ds, Dp X.K H x d ∧ Dp X.K H y (.list ds) ∧ SeqAt.shaped d = true ∧ SeqAt.shaped (.list ds) = true ∧ Q (.bl (if neg then !(ds.any fun z => PyData.eqv z d) else ds.any fun z => PyData.eqv z d)) H) := fun {ys} el ein => by
    rw [ein] at e
    obtain ⟨p, vs, rfl, r, hl⟩ := listD_ok rel i2 el
    unfold dIn at e
    rw [listD_seq el] at e
    dsimp only at e
    cases c1 : toPy h eqDepth d1 with
    | none => simp only [c1] at e; cases e
    | some a =>
      cases c2 : toPys h eqDepth ys with
      | none => simp only [c1, c2] at e; cases e
      | some bs =>
        simp only [c1, c2] at e; cases e
        obtain ⟨k1, k2, k3⟩ := toPy_dp hK rel _ i1 c1
        obtain ⟨j1, j2, j3⟩ := toPys_dp hK rel _ r c2
        refine ⟨a, bs, k1, .lst (SqL.of hl) j1, shaped_of k2 (Nat.le_trans k3 (by decide)), shaped_of (by simpa [PyData.canLay0] using j2) ?_, r2_fin rel q (.bl _)⟩
        simp only [PyData.depth]
        have : eqDepth = 30 := rfl
        omega
  cases d2 with
  | tup ys =>
    refine .inr ?_
    simp only [dInT] at e
    by_cases hfl : (flatD d1 && ys.all flatD) = true
    · rw [if_pos hfl] at e
      obtain ⟨f1, f2⟩ := Bool.and_eq_true_iff.mp hfl
      cases i2 with
      | tup q2 r2' =>
        unfold dIn at e
        simp only [seqD] at e
        cases c1 : toPy h eqDepth d1 with
        | none => simp only [c1] at e; cases e
        | some a =>
          cases c2 : toPys h eqDepth ys with
          | none => simp only [c1, c2] at e; cases e
          | some bs =>
            simp only [c1, c2] at e; cases e
            obtain ⟨k1, k2⟩ := flat_any (n := 29) i1 f1 c1 r2' f2 c2
            obtain ⟨_, fx, _⟩ := flat_eqv (n := 29) i1 i1 f1 f1 c1 c1
            rw [hK] at q2
            refine ⟨_, _, rfl, .inr q2, fx, k1, ?_⟩
            rw [k2]
            exact r2_fin rel q (.bl _)
    · rw [if_neg hfl] at e; cases e
  | lst ys => exact .inl (lists rfl rfl)
  | ref l =>
    cases c : listD (.ref l) h with
    | none =>
      have : dInT d1 (.ref l) h = none := by
        show dIn d1 (.ref l) h = none
        unfold dIn
        have : seqD (.ref l) h = none := c
        rw [this]
      rw [this] at e; cases e
    | some ys => exact .inl (lists c rfl)
  | _ => simp [dInT, dIn, seqD] at e
theorem op_dIn (hK : g.K = X.K) (hu : X.A.units + 65 < cLine) : OpR X (compareOp .In) (r2 g (cmpD dInT)) :=
  ((op_inD hu).or op_in_seq).imp fun x y H Q hq => in_core (neg := false) hK (fun a b h => by cases dInT a b h <;> rfl) hq
theorem op_dNotIn (hK : g.K = X.K) (hu : X.A.units + 65 < cLine) : OpR X (compareOp .NotIn) (r2 g (cmpD dNotIn)) :=
  ((op_notInD hu).or op_notIn_seq).imp fun x y H Q hq => in_core (neg := true) hK (fun a b h => rfl) hq
theorem is_core {d1 d2 : D} {ρ : Lc} {H : Hp} {x y : V} {h : DH} {b : Bool} (i1 : IsD g ρ H d1 x) (i2 : IsD g ρ H d2 y) (e : dIs d1 d2 h = some b) : (y = .non ∧ b = decide (x = .non)) ∨ ∃ k l : Bool, x = .bl k ∧ y = .bl l ∧ b = decide (k = l) := by
  unfold dIs at e
  split at e
  · cases i2; cases e
    refine .inl ⟨rfl, ?_⟩
    cases i1 <;> simp [isNon]
  · cases i1; cases i2; cases e
    exact .inr ⟨_, _, rfl, rfl, rfl⟩
  · cases e
theorem op_dIs : OpR X (compareOp .Is) (r2 g (cmpD dIs)) := by
  refine (op_isN.or op_isBl).imp fun x y H Q hq => ?_
  obtain ⟨ρ, h, d1, d2, d, rel, i1, i2, e, q⟩ := hq
  unfold cmpD at e
  cases c : dIs d1 d2 h with
  | none => rw [c] at e; cases e
  | some b =>
    rw [c] at e; cases e
    have fin := r2_fin rel q (.bl _)
    rcases is_core i1 i2 c with ⟨e1, e2⟩ | ⟨k, l, e1, e2, e3⟩
    · exact .inl ⟨e1, by rw [← e2]; exact fin⟩
    · exact .inr ⟨k, l, e1, e2, by rw [← e3]; exact fin⟩
theorem op_dIsNot : OpR X (compareOp .IsNot) (r2 g (cmpD dIsNot)) := by
  refine (op_notN.or op_notBl).imp fun x y H Q hq => ?_
  obtain ⟨ρ, h, d1, d2, d, rel, i1, i2, e, q⟩ := hq
  unfold cmpD dIsNot at e
  cases c : dIs d1 d2 h with
  | none => rw [c] at e; cases e
  | some b =>
    rw [c] at e; cases e
    have fin := r2_fin rel q (.bl _)
    rcases is_core i1 i2 c with ⟨e1, e2⟩ | ⟨k, l, e1, e2, e3⟩
    · exact .inl ⟨e1, by rw [← e2]; exact fin⟩
    · exact .inr ⟨k, l, e1, e2, by rw [← e3]; exact fin⟩
end
end Cp

set_option maxHeartbeats 4000000
namespace Cp
open PySem PySem.Spec PyProof.Rows L2
theorem _root_.L2.IxR.imp {X : Cx} {r r' : R2} (h : IxR X r) (k : ∀ x y H Q, r' x y H Q → r x y H Q) : IxR X r' := fun a b pins s σ H x y v u Q I rx ry q e => h a b pins s σ H x y v u Q I rx ry (k _ _ _ _ q) e
theorem _root_.L2.SlR.imp {X : Cx} {r r' : V → Option Int → Option Int → Hp → VK → Prop} (h : SlR X r) (k : ∀ x l u H Q, r' x l u H Q → r x l u H Q) : SlR X r' := fun pins s σ H x v vl vu lo hi sl Q I rx is pl pu q => h pins s σ H x v vl vu lo hi sl Q I rx is pl pu (k _ _ _ _ _ q)
theorem _root_.L2.CallR.imp {X : Cx} {f : Value} {r r' : List V → Hp → VK → Prop} (h : CallR X f r) (k : ∀ xs H Q, r' xs H Q → r xs H Q) : CallR X f r' := fun pins s σ H xs us Q I rs q => h pins s σ H xs us Q I rs (k _ _ _ q)
/-- the items of what a subscript reads -/
def itemsD (x : D) (h : DH) : Option (List D) := match x with
  | .scr ns => some (ns.map D.int)
  | x => seqD x h
def dIx (x i : D) (h : DH) : Option D := match i with
  | .int k => (match itemsD x h with
    | some xs => atI xs k
    | none => none)
  | _ => none
def cutD (xs : List D) (lo hi : Option Int) : List D := (xs.drop (HT.sIx xs.length 0 lo)).take (HT.sIx xs.length xs.length hi - HT.sIx xs.length 0 lo)
def dSl (x : D) (lo hi : Option Int) (h : DH) : Option D := match x with
  | .tup xs => some (.tup (cutD xs lo hi))
  | x => (listD x h).map fun xs => .lst (cutD xs lo hi)
abbrev DO := DM (Option Int)
def oNone : DO := fun _ h => .ok none h
def oSome (m : DE) : DO := fun sd h => (m sd h).bind fun x h1 => match x with
  | .int i => .ok (some i) h1
  | _ => .no
def eSl (m : DE) (lo hi : DO) : DE := fun sd h => (m sd h).bind fun x h1 => (lo sd h1).bind fun a h2 => (hi sd h2).bind fun b h3 => ofO (dSl x a b h3) h3

section
variable {X : Cx} {g : G} {W : WX}
theorem IsDs.get {ρ : Lc} {H : Hp} : ∀ {ds : List D} {vs : List V} {i : Nat} {d : D}, IsDs g ρ H ds vs → ds[i]? = some d → ∃ v, vs[i]? = some v ∧ IsD g ρ H d v
  | _, _, _, _, .nil, e => by simp at e
  | _, _, 0, _, .cons a _, e => by simp at e; subst e; exact ⟨_, rfl, a⟩
  | _, _, i + 1, _, .cons _ t, e => by
    obtain ⟨v, h1, h2⟩ := IsDs.get (i := i) t (by simpa using e)
    exact ⟨v, by simpa using h1, h2⟩
theorem IsDs.take {ρ : Lc} {H : Hp} : ∀ {ds : List D} {vs : List V} (n : Nat), IsDs g ρ H ds vs → IsDs g ρ H (ds.take n) (vs.take n)
  | _, _, 0, _ => by simpa using IsDs.nil
  | _, _, _ + 1, .nil => .nil
  | _, _, n + 1, .cons a t => .cons a (IsDs.take n t)
theorem IsDs.drop {ρ : Lc} {H : Hp} : ∀ {ds : List D} {vs : List V} (n : Nat), IsDs g ρ H ds vs → IsDs g ρ H (ds.drop n) (vs.drop n)
  | _, _, 0, r => r
  | _, _, _ + 1, .nil => .nil
  | _, _, n + 1, .cons _ t => IsDs.drop n t
theorem IsDs.set {ρ : Lc} {H : Hp} {d : D} {v : V} (r : IsD g ρ H d v) : ∀ {ds : List D} {vs : List V} (i : Nat), IsDs g ρ H ds vs → IsDs g ρ H (ds.set i d) (vs.set i v)
  | _, _, _, .nil => .nil
  | _, _, 0, .cons _ t => .cons r t
  | _, _, i + 1, .cons a t => .cons a (IsDs.set r i t)
theorem IsDs.cut {ρ : Lc} {H : Hp} {ds : List D} {vs : List V} (r : IsDs g ρ H ds vs) (lo hi : Option Int) : IsDs g ρ H (cutD ds lo hi) (cutV vs lo hi) := by
  unfold cutD cutV
  rw [r.length]
  exact (r.drop _).take _
theorem IsDs.at {ρ : Lc} {H : Hp} {ds : List D} {vs : List V} {k : Int} {d : D} (r : IsDs g ρ H ds vs) (e : atI ds k = some d) : ∃ v, atI vs k = some v ∧ IsD g ρ H d v := by
  unfold atI at e ⊢
  rw [r.length] at e
  cases c : ixN vs.length k with
  | none => rw [c] at e; cases e
  | some j =>
    rw [c] at e
    exact r.get e
theorem IsDs.ints {ρ : Lc} {H : Hp} : ∀ ns : List Int, IsDs g ρ H (ns.map D.int) (ns.map V.int)
  | [] => .nil
  | n :: ns => .cons (.int n) (IsDs.ints ns)
theorem scr_ok (hK : g.K = X.K) {ρ : Lc} {H : Hp} {ns : List Int} {v : V} (i : IsD g ρ H (.scr ns) v) : ∃ a, v = .ref a ∧ SqL X.K H a (ns.map V.int) := by
  cases i with
  | scr h =>
    rw [hK] at h
    exact ⟨_, rfl, h.elim (fun z => .inl z.1) .inr⟩
theorem ix_dIx (hK : g.K = X.K) : IxR X (r2 g dIx) := by
  refine (ix_list.or ix_tup).imp fun x y H Q hq => ?_
  obtain ⟨ρ, h, d1, d2, d, rel, i1, i2, e, q⟩ := hq
  unfold dIx at e
  split at e
  · rename_i k
    cases i2
    split at e
    · rename_i xs ex
      have go : ∀ {ds : List D} {vs : List V}, IsDs g ρ H ds vs → atI ds k = some d → ∃ v, atI vs k = some v ∧ Q v H := fun r e => by
        obtain ⟨v, e1, r1⟩ := r.at e
        exact ⟨v, e1, r2_fin rel q r1⟩
      unfold itemsD at ex
      split at ex
      · cases ex
        obtain ⟨a, rfl, s⟩ := scr_ok hK i1
        obtain ⟨v, e1, qv⟩ := go (IsDs.ints _) e
        exact .inl ⟨a, _, _, v, rfl, rfl, s, e1, qv⟩
      · obtain ⟨a, vs, rfl, r, s⟩ := seqD_ok rel i1 ex
        obtain ⟨v, e1, qv⟩ := go r e
        rcases s with ⟨s, _⟩ | ⟨s, _⟩
        · rw [hK] at s
          exact .inr ⟨a, _, _, v, rfl, rfl, s, e1, qv⟩
        · exact .inl ⟨a, _, _, v, rfl, rfl, SqL.of s, e1, qv⟩
    · cases e
  · cases e
theorem j_ix {a b : Expr} {ma mb : DE} {pos : Pos} (hK : g.K = X.K) (ha : JE X g W a ma) (hb : JE X g W b mb) (hs : PlainIx b := by exact fun _ _ => rfl) : JE X g W (.Subscript a b pos) (eO2 dIx ma mb) := by
  refine (pe_ix (ix_dIx hK) ha hb hs).imp fun σ H Q hq => ?_
  obtain ⟨ρ, sd, h, rel, sl, p⟩ := hq
  refine inE rel sl p fun d1 h1 v1 ρ1 H1 rel1 x1 sl1 i1 p1 => ?_
  refine inE rel1 sl1 p1 fun d2 h2 v2 ρ2 H2 rel2 x2 sl2 i2 p2 => ?_
  exact r2_of rel2 (i1.ext rel1 x2) i2 p2
def rs (g : G) : V → Option Int → Option Int → Hp → VK → Prop := fun x lo hi H Q => ∃ ρ h d d', HRel g ρ h H ∧ IsD g ρ H d x ∧ dSl d lo hi h = some d' ∧ ∀ v H', HRel g ρ h H' → Ext ρ H ρ H' → IsD g ρ H' d' v → Q v H'
theorem cut_whole {xs : List D} {lo hi : Option Int} (e : HT.sIx xs.length 0 lo = 0 ∧ HT.sIx xs.length xs.length hi = xs.length) : cutD xs lo hi = xs := by
  unfold cutD
  rw [e.1, e.2]
  simp
theorem sl_rs (hK : g.K = X.K) : SlR X (rs g) := by
  refine (sl_tupA.or sl_list).imp fun x lo hi H Q hq => ?_
  obtain ⟨ρ, h, d, d', rel, i1, e, q⟩ := hq
  unfold dSl at e
  split at e
  · cases e
    cases i1 with
    | tup s r =>
      have s' := s
      rw [hK] at s'
      refine .inl ⟨_, _, rfl, s', fun w => ?_, fun w p hp => ?_⟩
      · rw [← r.length] at w
        rw [cut_whole w] at q
        exact r2_fin rel q (.tup s r)
      · exact r2_new rel q hp (.tup (SqT.of upd_same) ((r.cut lo hi).ext rel (Ext.laid hp _)))
  · cases c : listD d h with
    | none => rw [c] at e; cases e
    | some xs =>
      rw [c] at e; cases e
      obtain ⟨a, vs, rfl, r, s⟩ := listD_ok rel i1 c
      exact .inr ⟨a, vs, rfl, SqL.of s, fun p hp => r2_new rel q hp (.lst upd_same (rel.fresh hp) ((r.cut lo hi).ext rel (Ext.laid hp _)))⟩
def tO (g : G) (W : WX) (m : DO) : TO := fun σ H Q => ∃ ρ sd h, HRel g ρ h H ∧ Slots g ρ H sd σ ∧ Post g ρ H (fun _ _ a b => a = b) (m sd h) Q fun c d H' => W c d σ H'
theorem _root_.L2.PO.imp {X : Cx} {e : Option Expr} {t t' : TO} (h : PO X e t) (k : ∀ σ H Q, t' σ H Q → t σ H Q) : PO X e t' := ⟨fun pins s σ H Q I q => h.run pins s σ H Q I (k _ _ _ q)⟩
theorem jo_none : PO X none (tO g W oNone) := by
  refine po_none.imp fun σ H Q hq => ?_
  obtain ⟨ρ, sd, h, rel, sl, p⟩ := hq
  exact p none ρ H rel (Ext.refl ρ H) rfl
theorem jo_some {e : Expr} {m : DE} (ha : JE X g W e m) : PO X (some e) (tO g W (oSome m)) := by
  refine (po_some ha).imp fun σ H Q hq => ?_
  obtain ⟨ρ, sd, h, rel, sl, p⟩ := hq
  refine inE rel sl p fun d h1 v ρ1 H1 rel1 x1 sl1 i1 p1 => ?_
  cases i1 with
  | int i => exact ⟨i, rfl, p1 _ ρ1 H1 rel1 (Ext.refl _ _) rfl⟩
  | _ => exact p1.elim
theorem j_slice {e : Expr} {lo hi : Option Expr} {p2 pos : Pos} {m : DE} {l u : DO} (hK : g.K = X.K) (he : JE X g W e m) (hl : PO X lo (tO g W l)) (hu : PO X hi (tO g W u)) : JE X g W (.Subscript e (.Slice lo hi none p2) pos) (eSl m l u) := by
  refine (pe_slice (sl_rs (g := g) hK) he hl hu).imp fun σ H Q hq => ?_
  obtain ⟨ρ, sd, h, rel, sl, p⟩ := hq
  refine inE rel sl p fun d h1 v ρ1 H1 rel1 x1 sl1 i1 p1 => ?_
  refine ⟨ρ1, sd, h1, rel1, sl1, Post.seq p1 fun a h2 a' ρ2 H2 rel2 x2 ia p2 => ?_⟩
  have ea : a = a' := ia
  subst ea
  refine ⟨ρ2, sd, h2, rel2, sl1.ext rel1 x2, Post.seq p2 fun b h3 b' ρ3 H3 rel3 x3 ib p3 => ?_⟩
  have eb : b = b' := ib
  subst eb
  cases c : dSl d a b h3 with
  | none => rw [c] at p3; exact p3.elim
  | some d' =>
    rw [c] at p3
    exact ⟨ρ3, h3, d, d', rel3, (i1.ext rel1 x2).ext rel2 x3, c, fun v' H' rel' x' i' => p3 v' ρ3 H' rel' x' i'⟩

def rc (g : G) (F : List D → DH → Option D) : List V → Hp → VK → Prop := fun vs H Q => ∃ ρ h ds d, HRel g ρ h H ∧ IsDs g ρ H ds vs ∧ F ds h = some d ∧ ∀ v H', HRel g ρ h H' → Ext ρ H ρ H' → IsD g ρ H' d v → Q v H'
def eCB (F : List D → DH → Option D) (m : DM (List D)) : DE := fun sd h => (m sd h).bind fun ds h1 => ofO (F ds h1) h1
theorem cb_core {F : List D → DH → Option D} {m : DM (List D)} {σ : L2.St} {H : Hp} {Q : VK} (hq : tE g W (eCB F m) σ H Q) : tAs g W m σ H fun vs H1 => rc g F vs H1 Q := by
  obtain ⟨ρ, sd, h, rel, sl, p⟩ := hq
  refine inA rel sl p fun ds h1 vs ρ1 H1 rel1 x1 sl1 i1 p1 => ?_
  cases c : F ds h1 with
  | none => rw [c] at p1; exact p1.elim
  | some d =>
    rw [c] at p1
    exact ⟨ρ1, h1, ds, d, rel1, i1, c, fun v' H' rel' x' i' => p1 v' ρ1 H' rel' x' i'⟩
theorem j_callB {id : String} {x : Str} {F : List D → DH → Option D} {e : Expr} {es : List Expr} {m : DM (List D)} {p pos : Pos} (hc : CallR X (.builtin id) (rc g F)) (hg : Gl X x) (hm : X.mg x = none) (hv : bootBuiltins x = some (.builtin id)) (ha : JA X g W (e :: es) m) (hn : x ≠ "__name__" := by decide) (hdb : (x == ("__debug__" : Str)) = false := by decide)
    (he : starEach (e :: es) X.env = (false, eval e X.env) :: starEach es X.env := by rfl) (hpl : (backTo pos (starEach es X.env)).any (·.1) = false := by rfl) :
    JE X g W (.Call (.Name x p) (e :: es) [] pos) (eCB F m) := (pe_callB hc hg hm hv ha hn hdb he hpl).imp fun σ H Q hq => cb_core hq
theorem j_callTy {T : String} {x : Str} {F : List D → DH → Option D} {e : Expr} {es : List Expr} {m : DM (List D)} {p pos : Pos} (hc : CallR X (.type T) (rc g F)) (hg : Gl X x) (hm : X.mg x = none) (hv : bootBuiltins x = some (.type T)) (ha : JA X g W (e :: es) m) (hn : x ≠ "__name__" := by decide) (hdb : (x == ("__debug__" : Str)) = false := by decide)
    (he : starEach (e :: es) X.env = (false, eval e X.env) :: starEach es X.env := by rfl) (hpl : (backTo pos (starEach es X.env)).any (·.1) = false := by rfl) :
    JE X g W (.Call (.Name x p) (e :: es) [] pos) (eCB F m) := (pe_callTy hc hg hm hv ha hn hdb he hpl).imp fun σ H Q hq => cb_core hq
theorem one_of {ρ : Lc} {H : Hp} {d : D} {vs : List V} (r : IsDs g ρ H [d] vs) : ∃ v, vs = [v] ∧ IsD g ρ H d v := by
  cases r with
  | cons a t => cases t; exact ⟨_, rfl, a⟩
theorem two_of {ρ : Lc} {H : Hp} {d e : D} {vs : List V} (r : IsDs g ρ H [d, e] vs) : ∃ v u, vs = [v, u] ∧ IsD g ρ H d v ∧ IsD g ρ H e u := by
  cases r with
  | cons a t =>
    obtain ⟨u, rfl, b⟩ := one_of t
    exact ⟨_, u, rfl, a, b⟩
def cLen (ds : List D) (h : DH) : Option D := match ds with
  | [.str x] => if fine x.length = true then some (.int x.length) else none
  | [x] => (itemsD x h).map fun xs => .int xs.length
  | _ => none
theorem call_cLen (hK : g.K = X.K) : CallR X (.builtin "len") (rc g cLen) := by
  refine call_len.imp fun xs H Q hq => ?_
  obtain ⟨ρ, h, ds, d, rel, i, e, q⟩ := hq
  unfold cLen at e
  split at e
  · split at e
    · rename_i hf
      obtain ⟨v, rfl, i1⟩ := one_of i
      cases i1; cases e
      exact ⟨_, _, rfl, ⟨fine_ok hf, rfl⟩, r2_fin rel q (.int _)⟩
    · cases e
  · rename_i x _
    obtain ⟨v, rfl, i1⟩ := one_of i
    cases c : itemsD x h with
    | none => rw [c] at e; cases e
    | some ys =>
      rw [c] at e; cases e
      unfold itemsD at c
      split at c
      · cases c
        obtain ⟨a, rfl, s⟩ := scr_ok hK i1
        exact ⟨_, _, rfl, .inl ⟨_, s, rfl⟩, by simpa using r2_fin rel q (.int _)⟩
      · obtain ⟨a, vs, rfl, r, s⟩ := seqD_ok rel i1 c
        have q : ∀ v H', HRel g ρ h H' → Ext ρ H ρ H' → IsD g ρ H' (.int vs.length) v → Q v H' := by rw [← r.length]; exact q
        rcases s with ⟨s, _⟩ | ⟨s, _⟩
        · rw [hK] at s
          exact ⟨_, _, rfl, .inr ⟨_, s, rfl⟩, r2_fin rel q (.int _)⟩
        · exact ⟨_, _, rfl, .inl ⟨_, SqL.of s, rfl⟩, r2_fin rel q (.int _)⟩
  · cases e
def cList (ds : List D) (h : DH) : Option D := match ds with
  | [x] => (itemsD x h).map .lst
  | _ => none
theorem call_cList (hK : g.K = X.K) : CallR X (.type "list") (rc g cList) := by
  refine call_list_of.imp fun xs H Q hq => ?_
  obtain ⟨ρ, h, ds, d, rel, i, e, q⟩ := hq
  unfold cList at e
  split at e
  · rename_i x
    obtain ⟨v, rfl, i1⟩ := one_of i
    cases c : itemsD x h with
    | none => rw [c] at e; cases e
    | some ys =>
      rw [c] at e; cases e
      unfold itemsD at c
      split at c
      · cases c
        obtain ⟨a, rfl, s⟩ := scr_ok hK i1
        exact ⟨a, _, rfl, .inl s, fun p hp => r2_new rel q hp (.lst upd_same (rel.fresh hp) (IsDs.ints _))⟩
      · obtain ⟨a, vs, rfl, r, s⟩ := seqD_ok rel i1 c
        refine ⟨a, vs, rfl, ?_, fun p hp => r2_new rel q hp (.lst upd_same (rel.fresh hp) (r.ext rel (Ext.laid hp _)))⟩
        rcases s with ⟨s, _⟩ | ⟨s, _⟩
        · rw [hK] at s; exact .inr s
        · exact .inl (SqL.of s)
  · cases e
def cTuple (ds : List D) (h : DH) : Option D := match ds with
  | [x] => (seqD x h).map .tup
  | _ => none
theorem call_cTuple (hK : g.K = X.K) : CallR X (.type "tuple") (rc g cTuple) := by
  refine call_tuple_of.imp fun xs H Q hq => ?_
  obtain ⟨ρ, h, ds, d, rel, i, e, q⟩ := hq
  unfold cTuple at e
  split at e
  · rename_i x
    obtain ⟨v, rfl, i1⟩ := one_of i
    cases c : seqD x h with
    | none => rw [c] at e; cases e
    | some ys =>
      rw [c] at e; cases e
      obtain ⟨a, vs, rfl, r, s⟩ := seqD_ok rel i1 c
      refine ⟨a, vs, rfl, ?_⟩
      rcases s with ⟨s, e1⟩ | ⟨s, _⟩
      · have s' := s
        rw [hK] at s'
        exact .inr ⟨s', r2_fin rel q (.tup s r)⟩
      · exact .inl ⟨SqL.of s, fun p hp => r2_new rel q hp (.tup (SqT.of upd_same) (r.ext rel (Ext.laid hp _)))⟩
  · cases e
def intsD : List D → Option (List Int)
  | [] => some []
  | .int i :: r => (intsD r).map (i :: ·)
  | _ => none
def bools : List D → Option (List Bool)
  | [] => some []
  | .bl i :: r => (bools r).map (i :: ·)
  | _ => none
theorem intsD_ok {ρ : Lc} {H : Hp} : ∀ {ds : List D} {vs : List V} {ns : List Int}, IsDs g ρ H ds vs → intsD ds = some ns → vs = ns.map V.int
  | [], _, _, .nil, e => by cases e; rfl
  | .int i :: r, _, _, .cons a t, e => by
    unfold intsD at e
    cases c : intsD r with
    | none => rw [c] at e; cases e
    | some ms => rw [c] at e; cases e; cases a; rw [intsD_ok t c]; rfl
  | .non :: _, _, _, _, e | .bl _ :: _, _, _, _, e | .str _ :: _, _, _, _, e | .tup _ :: _, _, _, _, e | .lst _ :: _, _, _, _, e | .dct _ :: _, _, _, _, e | .obj _ _ :: _, _, _, _, e | .set _ :: _, _, _, _, e | .scr _ :: _, _, _, _, e | .ref _ :: _, _, _, _, e | .glo _ :: _, _, _, _, e => by cases e
theorem bools_ok {ρ : Lc} {H : Hp} : ∀ {ds : List D} {vs : List V} {ns : List Bool}, IsDs g ρ H ds vs → bools ds = some ns → vs = ns.map V.bl
  | [], _, _, .nil, e => by cases e; rfl
  | .bl i :: r, _, _, .cons a t, e => by
    unfold bools at e
    cases c : bools r with
    | none => rw [c] at e; cases e
    | some ms => rw [c] at e; cases e; cases a; rw [bools_ok t c]; rfl
  | .non :: _, _, _, _, e | .int _ :: _, _, _, _, e | .str _ :: _, _, _, _, e | .tup _ :: _, _, _, _, e | .lst _ :: _, _, _, _, e | .dct _ :: _, _, _, _, e | .obj _ _ :: _, _, _, _, e | .set _ :: _, _, _, _, e | .scr _ :: _, _, _, _, e | .ref _ :: _, _, _, _, e | .glo _ :: _, _, _, _, e => by cases e
def cSum (ds : List D) (h : DH) : Option D := match ds with
  | [x] => ((listD x h).bind intsD).map fun ns => .int ns.sum
  | _ => none
theorem call_cSum (hc : X.calm = true) : CallR X (.builtin "sum") (rc g cSum) := by
  refine (cr_sum hc).imp fun xs H Q hq => ?_
  obtain ⟨ρ, h, ds, d, rel, i, e, q⟩ := hq
  unfold cSum at e
  split at e
  · rename_i x
    obtain ⟨v, rfl, i1⟩ := one_of i
    cases c : listD x h with
    | none => rw [c] at e; cases e
    | some ys =>
      rw [c] at e
      cases c2 : intsD ys with
      | none => rw [Option.bind_some, c2] at e; cases e
      | some ns =>
        rw [Option.bind_some, c2] at e; cases e
        obtain ⟨a, vs, rfl, r, s⟩ := listD_ok rel i1 c
        rw [intsD_ok r c2] at s
        exact ⟨a, ns, rfl, SqL.of s, r2_fin rel q (.int _)⟩
  · cases e
def cAll (ds : List D) (h : DH) : Option D := match ds with
  | [x] => ((listD x h).bind bools).map fun ns => .bl (ns.all id)
  | _ => none
theorem call_cAll (hc : X.calm = true) : CallR X (.builtin "all") (rc g cAll) := by
  refine (cr_all hc).imp fun xs H Q hq => ?_
  obtain ⟨ρ, h, ds, d, rel, i, e, q⟩ := hq
  unfold cAll at e
  split at e
  · rename_i x
    obtain ⟨v, rfl, i1⟩ := one_of i
    cases c : listD x h with
    | none => rw [c] at e; cases e
    | some ys =>
      rw [c] at e
      cases c2 : bools ys with
      | none => rw [Option.bind_some, c2] at e; cases e
      | some ns =>
        rw [Option.bind_some, c2] at e; cases e
        obtain ⟨a, vs, rfl, r, s⟩ := listD_ok rel i1 c
        rw [bools_ok r c2] at s
        exact ⟨a, ns, rfl, SqL.of s, r2_fin rel q (.bl _)⟩
  · cases e
def cAbs (ds : List D) (_ : DH) : Option D := match ds with
  | [.int i] => some (.int (if i < 0 then -i else i))
  | _ => none
theorem call_cAbs : CallR X (.builtin "abs") (rc g cAbs) := by
  refine call_abs.imp fun xs H Q hq => ?_
  obtain ⟨ρ, h, ds, d, rel, i, e, q⟩ := hq
  unfold cAbs at e
  split at e
  · obtain ⟨v, rfl, i1⟩ := one_of i
    cases i1; cases e
    exact ⟨_, rfl, r2_fin rel q (.int _)⟩
  · cases e
def cMax2 (ds : List D) (_ : DH) : Option D := match ds with
  | [.int i, .int j] => some (.int (if j > i then j else i))
  | _ => none
theorem call_cMax2 (hc : X.calm = true) : CallR X (.builtin "max") (rc g cMax2) := by
  refine (call_max2 hc).imp fun xs H Q hq => ?_
  obtain ⟨ρ, h, ds, d, rel, i, e, q⟩ := hq
  unfold cMax2 at e
  split at e
  · obtain ⟨v, u, rfl, i1, i2⟩ := two_of i
    cases i1; cases i2; cases e
    exact ⟨_, _, rfl, r2_fin rel q (.int _)⟩
  · cases e
def cMin2 (ds : List D) (_ : DH) : Option D := match ds with
  | [.int i, .int j] => some (.int (if j < i then j else i))
  | _ => none
theorem call_cMin2 (hc : X.calm = true) : CallR X (.builtin "min") (rc g cMin2) := by
  refine (call_min2 hc).imp fun xs H Q hq => ?_
  obtain ⟨ρ, h, ds, d, rel, i, e, q⟩ := hq
  unfold cMin2 at e
  split at e
  · obtain ⟨v, u, rfl, i1, i2⟩ := two_of i
    cases i1; cases i2; cases e
    exact ⟨_, _, rfl, r2_fin rel q (.int _)⟩
  · cases e
def cInt (ds : List D) (_ : DH) : Option D := match ds with
  | [.int i] => some (.int i)
  | [.bl b] => some (.int (if b then 1 else 0))
  | _ => none
theorem call_cInt : CallR X (.type "int") (rc g cInt) := by
  refine call_int1.imp fun xs H Q hq => ?_
  obtain ⟨ρ, h, ds, d, rel, i, e, q⟩ := hq
  unfold cInt at e
  split at e
  · obtain ⟨v, rfl, i1⟩ := one_of i
    cases i1; cases e
    exact .inl ⟨_, rfl, r2_fin rel q (.int _)⟩
  · obtain ⟨v, rfl, i1⟩ := one_of i
    cases i1; cases e
    exact .inr ⟨_, rfl, r2_fin rel q (.int _)⟩
  · cases e
/-- repr of a truth value -/
def cReprB (ds : List D) (_ : DH) : Option D := match ds with
  | [.bl b] => some (.str (if b then "True" else "False"))
  | _ => none
theorem call_cReprB : CallR X (.builtin "repr") (rc g cReprB) := by
  intro pins s σ H xs us Q I rs hq
  obtain ⟨ρ, h, ds, d, rel, i, e, q⟩ := hq
  unfold cReprB at e
  split at e
  · rename_i b
    obtain ⟨v, rfl, i1⟩ := one_of i
    cases i1; cases e
    obtain ⟨u, rfl, ru⟩ := vals1 rs
    cases ru
    exact P.repr_of_bool ⟨.str (if b then "True" else "False"), H, I.tok _, ⟨_, rfl⟩, r2_fin rel q (.str _)⟩
  · cases e
end
end Cp

set_option maxHeartbeats 4000000
namespace Cp
open PySem PySem.Spec PyProof.Rows L2

inductive RS where
  | nx (sd : Sl) (h : DH) | rt (d : D) (h : DH) | bk (sd : Sl) (h : DH) | ct (sd : Sl) (h : DH) | exc (e : Ex) (h : DH) | no
abbrev DSt := Sl → DH → RS
def R.thn {α : Type} (r : R α) (k : α → DH → RS) : RS := match r with
  | .ok a h => k a h
  | .exc e h => .exc e h
  | .no => .no
@[simp] theorem R.thn_ok {α : Type} (a : α) (h : DH) (k : α → DH → RS) : (R.ok a h).thn k = k a h := rfl
@[simp] theorem R.thn_exc {α : Type} (e : Ex) (h : DH) (k : α → DH → RS) : (R.exc e h : R α).thn k = .exc e h := rfl
@[simp] theorem R.thn_no {α : Type} (k : α → DH → RS) : (R.no : R α).thn k = .no := rfl
def RS.seq (r : RS) (k : Sl → DH → RS) : RS := match r with
  | .nx sd h => k sd h
  | r => r
@[simp] theorem RS.seq_nx (sd : Sl) (h : DH) (k : Sl → DH → RS) : (RS.nx sd h).seq k = k sd h := rfl
@[simp] theorem RS.seq_rt (d : D) (h : DH) (k : Sl → DH → RS) : (RS.rt d h).seq k = .rt d h := rfl
@[simp] theorem RS.seq_bk (sd : Sl) (h : DH) (k : Sl → DH → RS) : (RS.bk sd h).seq k = .bk sd h := rfl
@[simp] theorem RS.seq_ct (sd : Sl) (h : DH) (k : Sl → DH → RS) : (RS.ct sd h).seq k = .ct sd h := rfl
@[simp] theorem RS.seq_exc (e : Ex) (h : DH) (k : Sl → DH → RS) : (RS.exc e h).seq k = .exc e h := rfl
@[simp] theorem RS.seq_no (k : Sl → DH → RS) : (RS.no).seq k = .no := rfl

/-- an exception's wish: the slots don't matter -/
abbrev wx (E : WE) : WX := fun c d _ H => E c d H
def PostS (g : G) (ρ : Lc) (H : Hp) (r : RS) (Dn : Ends) (E : WE) : Prop := match r with
  | .nx sd h => ∀ (σ' : L2.St) (ρ' : Lc) (H' : Hp), HRel g ρ' h H' → Ext ρ H ρ' H' → Slots g ρ' H' sd σ' → Dn.nx σ' H'
  | .bk sd h => ∀ (σ' : L2.St) (ρ' : Lc) (H' : Hp), HRel g ρ' h H' → Ext ρ H ρ' H' → Slots g ρ' H' sd σ' → Dn.bk σ' H'
  | .ct sd h => ∀ (σ' : L2.St) (ρ' : Lc) (H' : Hp), HRel g ρ' h H' → Ext ρ H ρ' H' → Slots g ρ' H' sd σ' → Dn.ct σ' H'
  | .rt d h => ∀ (v : V) (ρ' : Lc) (H' : Hp), HRel g ρ' h H' → Ext ρ H ρ' H' → IsD g ρ' H' d v → Dn.rt v H'
  | .exc e h => ∀ (c : Value) (d : Option Addr) (ρ' : Lc) (H' : Hp), HRel g ρ' h H' → Ext ρ H ρ' H' → IsEx g ρ' H' e c d → E c d H'
  | .no => False
theorem PostS.ext {g : G} {ρ ρ1 : Lc} {H H1 : Hp} {r : RS} {Dn : Ends} {E : WE} (p : PostS g ρ H r Dn E) (x : Ext ρ H ρ1 H1) : PostS g ρ1 H1 r Dn E := by
  cases r with
  | no => exact p
  | rt d h => exact fun v ρ' H' rel y i => p v ρ' H' rel (x.trans y) i
  | exc e h => exact fun c d ρ' H' rel y i => p c d ρ' H' rel (x.trans y) i
  | nx sd h => exact fun σ' ρ' H' rel y i => p σ' ρ' H' rel (x.trans y) i
  | bk sd h => exact fun σ' ρ' H' rel y i => p σ' ρ' H' rel (x.trans y) i
  | ct sd h => exact fun σ' ρ' H' rel y i => p σ' ρ' H' rel (x.trans y) i
def tS (g : G) (E : WE) (m : DSt) : TS := fun Dn σ H => ∃ ρ sd h, HRel g ρ h H ∧ Slots g ρ H sd σ ∧ PostS g ρ H (m sd h) Dn E
abbrev JS (X : Cx) (g : G) (E : WE) (st : Stmt) (m : DSt) : Prop := PS X st (tS g E m)
abbrev JSs (X : Cx) (g : G) (E : WE) (st : List Stmt) (m : DSt) : Prop := PSs X st (tS g E m)

def sNil : DSt := fun sd h => .nx sd h
def sSeq (a b : DSt) : DSt := fun sd h => (a sd h).seq b
def sBreak : DSt := fun sd h => .bk sd h
def sCont : DSt := fun sd h => .ct sd h
def sNo : DSt := fun _ _ => .no
def sExpr (m : DE) : DSt := fun sd h => (m sd h).thn fun _ h1 => .nx sd h1
def sRet (m : DE) : DSt := fun sd h => (m sd h).thn fun d h1 => .rt d h1
def sIf (t : DM Bool) (a b : DSt) : DSt := fun sd h => (t sd h).thn fun k h1 => if k = true then a sd h1 else b sd h1
def sSet (i : Nat) (m : DE) : DSt := fun sd h => (m sd h).thn fun d h1 => .nx (sd.set i (some d)) h1
def sPar (i j : Nat) (m : DM (List D)) : DSt := fun sd h => (m sd h).thn fun ds h1 => match ds with
  | [a, b] => .nx ((sd.set i (some a)).set j (some b)) h1
  | _ => .no
def sAug (i : Nat) (f : D → D → DH → Option D) (m : DE) : DSt := fun sd h => match sd[i]? with
  | some (some x) => (m sd h).thn fun y h1 => (ofO (f x y h1) h1).thn fun z h2 => .nx (sd.set i (some z)) h2
  | _ => .no
def dAddI (x y : D) (_ : DH) : Option D := match x, y with
  | .int i, .int j => some (.int (i + j))
  | _, _ => none
/-- a target -/
abbrev DG := D → Sl → DH → RS
def gdName (i : Nat) : DG := fun d sd h => .nx (sd.set i (some d)) h
def gdNil : List D → Sl → DH → RS := fun ds sd h => match ds with
  | [] => .nx sd h
  | _ => .no
def gdCons (a : DG) (r : List D → Sl → DH → RS) : List D → Sl → DH → RS := fun ds sd h => match ds with
  | d :: ds => (a d sd h).seq fun sd1 h1 => r ds sd1 h1
  | [] => .no
def gdTup (r : List D → Sl → DH → RS) : DG := fun d sd h => match d with
  | .tup xs => r xs sd h
  | _ => .no
def sAsg (m : DE) (g : DG) : DSt := fun sd h => (m sd h).thn fun d h1 => g d sd h1

section
variable {X : Cx} {g : G} {E : WE} {σ : L2.St} {H : Hp} {ρ : Lc} {sd : Sl} {h : DH} {Dn : Ends}
theorem seqS {α β : Type} {Is : Lc → Hp → α → β → Prop} {r : R α} {k : α → DH → RS} {Q' : β → Hp → Prop} (p : PostS g ρ H (r.thn k) Dn E)
    (hq : ∀ a h v ρ1 H1, HRel g ρ1 h H1 → Ext ρ H ρ1 H1 → Is ρ1 H1 a v → PostS g ρ1 H1 (k a h) Dn E → Q' v H1) : Post g ρ H Is r Q' E := by
  cases r with
  | ok a h => exact fun v ρ' H' rel y i => hq a h v ρ' H' rel y i (PostS.ext p y)
  | exc e h => exact p
  | no => exact p
theorem inES {ma : DE} {k : D → DH → RS} {Q' : VK} (rel : HRel g ρ h H) (sl : Slots g ρ H sd σ) (p : PostS g ρ H ((ma sd h).thn k) Dn E)
    (hq : ∀ a h1 v ρ1 H1, HRel g ρ1 h1 H1 → Ext ρ H ρ1 H1 → Slots g ρ1 H1 sd σ → IsD g ρ1 H1 a v → PostS g ρ1 H1 (k a h1) Dn E → Q' v H1) : tE g (wx E) ma σ H Q' :=
  ⟨ρ, sd, h, rel, sl, seqS p fun a h1 v ρ1 H1 rel1 x1 i1 p1 => hq a h1 v ρ1 H1 rel1 x1 (sl.ext rel x1) i1 p1⟩
theorem inBS {ma : DM Bool} {k : Bool → DH → RS} {Q' : Bool → Hp → Prop} (rel : HRel g ρ h H) (sl : Slots g ρ H sd σ) (p : PostS g ρ H ((ma sd h).thn k) Dn E)
    (hq : ∀ a h1 ρ1 H1, HRel g ρ1 h1 H1 → Ext ρ H ρ1 H1 → Slots g ρ1 H1 sd σ → PostS g ρ1 H1 (k a h1) Dn E → Q' a H1) : tB g (wx E) ma σ H Q' :=
  ⟨ρ, sd, h, rel, sl, seqS p fun a h1 v ρ1 H1 rel1 x1 i1 p1 => by
    have e : a = v := i1
    subst e
    exact hq a h1 ρ1 H1 rel1 x1 (sl.ext rel x1) p1⟩
theorem inAS {ma : DM (List D)} {k : List D → DH → RS} {Q' : List V → Hp → Prop} (rel : HRel g ρ h H) (sl : Slots g ρ H sd σ) (p : PostS g ρ H ((ma sd h).thn k) Dn E)
    (hq : ∀ a h1 v ρ1 H1, HRel g ρ1 h1 H1 → Ext ρ H ρ1 H1 → Slots g ρ1 H1 sd σ → IsDs g ρ1 H1 a v → PostS g ρ1 H1 (k a h1) Dn E → Q' v H1) : tAs g (wx E) ma σ H Q' :=
  ⟨ρ, sd, h, rel, sl, seqS p fun a h1 v ρ1 H1 rel1 x1 i1 p1 => hq a h1 v ρ1 H1 rel1 x1 (sl.ext rel x1) i1 p1⟩
theorem PostS.nxt (p : PostS g ρ H (.nx sd h) Dn E) (rel : HRel g ρ h H) (sl : Slots g ρ H sd σ) : Dn.nx σ H := p σ ρ H rel (Ext.refl ρ H) sl

theorem js_nil : JSs X g E [] sNil := by
  refine pss_nil.imp fun Dn σ H hq => ?_
  obtain ⟨ρ, sd, h, rel, sl, p⟩ := hq
  exact PostS.nxt (sd := sd) p rel sl
/-- the first statement, then the others -/
theorem thenS {m : DSt} {k : DSt} {Nx : L2.St → Hp → Prop} (rel : HRel g ρ h H) (sl : Slots g ρ H sd σ) (p : PostS g ρ H ((m sd h).seq k) Dn E)
    (hn : ∀ sd1 h1 σ1 ρ1 H1, HRel g ρ1 h1 H1 → Ext ρ H ρ1 H1 → Slots g ρ1 H1 sd1 σ1 → PostS g ρ1 H1 (k sd1 h1) Dn E → Nx σ1 H1) : tS g E m { Dn with nx := Nx } σ H := by
  refine ⟨ρ, sd, h, rel, sl, ?_⟩
  cases e : m sd h with
  | nx sd1 h1 => rw [e] at p; exact fun σ1 ρ1 H1 rel1 x1 sl1 => hn sd1 h1 σ1 ρ1 H1 rel1 x1 sl1 (PostS.ext p x1)
  | rt d h1 => rw [e] at p; exact p
  | bk sd1 h1 => rw [e] at p; exact p
  | ct sd1 h1 => rw [e] at p; exact p
  | exc x h1 => rw [e] at p; exact p
  | no => rw [e] at p; exact p
theorem js_cons {st : Stmt} {rest : List Stmt} {a b : DSt} (h1 : JS X g E st a) (h2 : JSs X g E rest b) : JSs X g E (st :: rest) (sSeq a b) := by
  refine (pss_cons h1 h2).imp fun Dn σ H hq => ?_
  obtain ⟨ρ, sd, h, rel, sl, p⟩ := hq
  exact thenS rel sl p fun sd1 h1 σ1 ρ1 H1 rel1 x1 sl1 p1 => ⟨ρ1, sd1, h1, rel1, sl1, p1⟩
theorem js_one {st : Stmt} {a : DSt} (h1 : JS X g E st a) : JSs X g E [st] a := pss_one h1
theorem j_pass {pos : Pos} : JS X g E (.Pass pos) sNil := by
  refine ps_pass.imp fun Dn σ H hq => ?_
  obtain ⟨ρ, sd, h, rel, sl, p⟩ := hq
  exact PostS.nxt (sd := sd) p rel sl
theorem j_break {pos : Pos} : JS X g E (.Break pos) sBreak := by
  refine ps_break.imp fun Dn σ H hq => ?_
  obtain ⟨ρ, sd, h, rel, sl, p⟩ := hq
  exact p σ ρ H rel (Ext.refl ρ H) sl
theorem j_cont {pos : Pos} : JS X g E (.Continue pos) sCont := by
  refine ps_continue.imp fun Dn σ H hq => ?_
  obtain ⟨ρ, sd, h, rel, sl, p⟩ := hq
  exact p σ ρ H rel (Ext.refl ρ H) sl
/-- what is never reached -/
theorem j_never {st : Stmt} : JS X g E st sNo := (ps_never (st := st)).imp fun Dn σ H hq => by
  obtain ⟨ρ, sd, h, rel, sl, p⟩ := hq
  exact p
theorem j_expr {e : Expr} {m : DE} {pos : Pos} (he : JE X g (wx E) e m) (hs : swapsWith e none pos.line X.env = pure false := by rfl) : JS X g E (.Expr e pos) (sExpr m) := by
  refine (ps_expr he hs).imp fun Dn σ H hq => ?_
  obtain ⟨ρ, sd, h, rel, sl, p⟩ := hq
  exact inES rel sl p fun d h1 v ρ1 H1 rel1 x1 sl1 i1 p1 => p1.nxt rel1 sl1
theorem j_ret {e : Expr} {m : DE} {pos : Pos} (he : JE X g (wx E) e m) : JS X g E (.Return (some e) pos) (sRet m) := by
  refine (ps_ret he).imp fun Dn σ H hq => ?_
  obtain ⟨ρ, sd, h, rel, sl, p⟩ := hq
  exact inES rel sl p fun d h1 v ρ1 H1 rel1 x1 sl1 i1 p1 => p1 v ρ1 H1 rel1 (Ext.refl _ _) i1
theorem j_retN {pos : Pos} : JS X g E (.Return none pos) (sRet (eK .non)) := by
  refine ps_retN.imp fun Dn σ H hq => ?_
  obtain ⟨ρ, sd, h, rel, sl, p⟩ := hq
  exact p .non ρ H rel (Ext.refl _ _) .non
theorem j_ifS {c : Expr} {a b : List Stmt} {t : DM Bool} {m n : DSt} {pos : Pos} (hc : JT X g (wx E) c t) (ha : JSs X g E a m) (hb : JSs X g E b n) : JS X g E (.If c a b pos) (sIf t m n) := by
  refine (ps_if hc ha hb).imp fun Dn σ H hq => ?_
  obtain ⟨ρ, sd, h, rel, sl, p⟩ := hq
  refine inBS rel sl p fun k h1 ρ1 H1 rel1 x1 sl1 p1 => ?_
  cases k with
  | true => exact ⟨ρ1, sd, h1, rel1, sl1, p1⟩
  | false => exact ⟨ρ1, sd, h1, rel1, sl1, p1⟩

def tG (g : G) (E : WE) (m : DG) : TG := fun v σ H Q => ∃ ρ sd h d, HRel g ρ h H ∧ Slots g ρ H sd σ ∧ IsD g ρ H d v ∧ PostS g ρ H (m d sd h) { nx := Q, rt := fun _ _ => False } E
def tGs (g : G) (E : WE) (m : List D → Sl → DH → RS) : TGs := fun vs σ H Q => ∃ ρ sd h ds, HRel g ρ h H ∧ Slots g ρ H sd σ ∧ IsDs g ρ H ds vs ∧ PostS g ρ H (m ds sd h) { nx := Q, rt := fun _ _ => False } E
theorem _root_.L2.PG.imp {X : Cx} {e : Expr} {t t' : TG} (h : PG X e t) (k : ∀ v σ H Q, t' v σ H Q → t v σ H Q) : PG X e t' := ⟨fun pins s σ H v u Q I r q => h.run pins s σ H v u Q I r (k _ _ _ _ q)⟩
theorem _root_.L2.PGs.imp {X : Cx} {e : List Expr} {t t' : TGs} (h : PGs X e t) (k : ∀ v σ H Q, t' v σ H Q → t v σ H Q) : PGs X e t' := ⟨fun pins s σ H v u Q I r q => h.run pins s σ H v u Q I r (k _ _ _ _ q)⟩
abbrev JG (X : Cx) (g : G) (E : WE) (e : Expr) (m : DG) : Prop := PG X e (tG g E m)
abbrev JGs (X : Cx) (g : G) (E : WE) (es : List Expr) (m : List D → Sl → DH → RS) : Prop := PGs X es (tGs g E m)
theorem jg_name {i : Nat} {x : Str} {pos : Pos} (hN : X.N.Nodup) (hi : X.N[i]? = some x := by rfl) (hx : Loc X.env.scope x := by first | exact Or.inl rfl | exact Or.inr rfl) (hf : X.fn x = true ∨ X.env.scope.names.lookup x = some .local := by first | exact .inl rfl | exact .inr rfl | assumption) : JG X g E (.Name x pos) (gdName i) := by
  refine (pg_name hN hi hx hf).imp fun v σ H Q hq => ?_
  obtain ⟨ρ, sd, h, d, rel, sl, i1, p⟩ := hq
  exact p _ ρ H rel (Ext.refl _ _) (sl.set i i1)
theorem jgs_nil : JGs X g E [] gdNil := by
  refine pgs_nil.imp fun v σ H Q hq => ?_
  obtain ⟨ρ, sd, h, d, rel, sl, i1, p⟩ := hq
  cases i1 with
  | nil => exact ⟨rfl, p σ ρ H rel (Ext.refl _ _) sl⟩
  | cons _ _ => exact p.elim
theorem jgs_cons {e : Expr} {es : List Expr} {a : DG} {r : List D → Sl → DH → RS} (h1 : JG X g E e a) (h2 : JGs X g E es r) (hs : (assignEach (e :: es) X.env).map (·.2) = assign e X.env :: (assignEach es X.env).map (·.2) := by rfl)
    (hno : ∀ d sd h, match a d sd h with | .nx _ _ => True | .exc _ _ => True | .no => True | _ => False) : JGs X g E (e :: es) (gdCons a r) := by
  refine (pgs_cons h1 h2 hs).imp fun v σ H Q hq => ?_
  obtain ⟨ρ, sd, h, d, rel, sl, i1, p⟩ := hq
  cases i1 with
  | nil => exact p.elim
  | @cons d1 v1 ds vs ia it =>
    refine ⟨v1, vs, rfl, ρ, sd, h, d1, rel, sl, ia, ?_⟩
    have hno := hno d1 sd h
    have p' : PostS g ρ H ((a d1 sd h).seq fun sd1 h1 => r ds sd1 h1) { nx := Q, rt := fun _ _ => False } E := p
    cases e : a d1 sd h with
    | nx sd1 h1 => rw [e] at p'; exact fun σ1 ρ1 H1 rel1 x1 sl1 => ⟨ρ1, sd1, h1, ds, rel1, sl1, it.ext rel x1, PostS.ext p' x1⟩
    | exc x h1 => rw [e] at p'; exact p'
    | no => rw [e] at p'; exact p'
    | rt d h1 => rw [e] at hno; exact hno.elim
    | bk d h1 => rw [e] at hno; exact hno.elim
    | ct d h1 => rw [e] at hno; exact hno.elim
theorem jg_tup {es : List Expr} {k : Nat} {r : List D → Sl → DH → RS} {n : Nat} {pos : Pos} (hK : g.K = X.K) (hc : X.calm = true) (h : JGs X g E es r) (hr : ∀ ds sd h, ds.length ≠ n → r ds sd h = .no)
    (hn : (assignEach es X.env).length = n := by rfl) (hst : (assignEach es X.env).findIdx? (·.1) = none := by rfl) : JG X g E (.Tuple es k pos) (gdTup r) := by
  refine (pg_tup (n := n) hc h hn hst).imp fun v σ H Q hq => ?_
  obtain ⟨ρ, sd, h, d, rel, sl, i1, p⟩ := hq
  unfold gdTup at p
  split at p
  · rename_i xs
    cases i1 with
    | tup s r' =>
      rw [hK] at s
      refine ⟨_, _, rfl, s, ?_, ρ, sd, h, xs, rel, sl, r', p⟩
      rw [← r'.length]
      by_cases hl : xs.length = n
      · exact hl
      · rw [hr xs sd h hl] at p; exact p.elim
  · exact p.elim
theorem gdCons_len {a : DG} {r : List D → Sl → DH → RS} {n : Nat} (hr : ∀ ds sd h, ds.length ≠ n → r ds sd h = .no) (ha : ∀ d sd h, match a d sd h with | .nx _ _ => True | .no => True | _ => False) : ∀ ds sd h, ds.length ≠ n + 1 → gdCons a r ds sd h = .no := fun ds sd h hl => by
  cases ds with
  | nil => rfl
  | cons d ds =>
    show (a d sd h).seq (fun sd1 h1 => r ds sd1 h1) = .no
    have := ha d sd h
    cases e : a d sd h with
    | nx sd1 h1 => exact hr ds sd1 h1 (by simpa using hl)
    | no => rfl
    | _ => rw [e] at this; exact this.elim
theorem gdNil_len : ∀ (ds : List D) (sd : Sl) (h : DH), ds.length ≠ 0 → gdNil ds sd h = .no := fun ds sd h hl => by
  cases ds with
  | nil => exact absurd rfl hl
  | cons _ _ => rfl
theorem gdName_plain {i : Nat} : ∀ d sd h, match gdName i d sd h with | .nx _ _ => True | .no => True | _ => False := fun _ _ _ => trivial
theorem j_asg {tg e : Expr} {m : DE} {a : DG} {pos : Pos} (he : JE X g (wx E) e m) (hg : JG X g E tg a) (hno : ∀ d sd h, match a d sd h with | .nx _ _ => True | .exc _ _ => True | .no => True | _ => False)
    (hs : swapsWithSole [tg] e pos.line X.env = pure false := by rfl) (hw : swappedStores [tg] e X.env = pure none := by rfl)
    (h1 : (assignEach [tg] X.env).map (·.2) = [assign tg X.env] := by rfl) : JS X g E (.Assign [tg] e pos) (sAsg m a) := by
  refine (ps_asg he hg hs hw h1).imp fun Dn σ H hq => ?_
  obtain ⟨ρ, sd, h, rel, sl, p⟩ := hq
  refine inES rel sl p fun d h1 v ρ1 H1 rel1 x1 sl1 i1 p1 => ⟨ρ1, sd, h1, d, rel1, sl1, i1, ?_⟩
  have hno := hno d sd h1
  cases e : a d sd h1 with
  | nx sd1 h1 => rw [e] at p1; exact p1
  | exc x h1 => rw [e] at p1; exact p1
  | no => rw [e] at p1; exact p1
  | rt d h1 => rw [e] at hno; exact hno.elim
  | bk d h1 => rw [e] at hno; exact hno.elim
  | ct d h1 => rw [e] at hno; exact hno.elim
theorem j_set {i : Nat} {x : Str} {e : Expr} {m : DE} {pos pos' : Pos} (hN : X.N.Nodup) (he : JE X g (wx E) e m) (hi : X.N[i]? = some x := by rfl) (hx : Loc X.env.scope x := by first | exact Or.inl rfl | exact Or.inr rfl) (hs : swapsWith e (some (.Name x pos')) pos.line X.env = pure false := by rfl) (hf : X.fn x = true ∨ X.env.scope.names.lookup x = some .local := by first | exact .inl rfl | exact .inr rfl | assumption) :
    JS X g E (.Assign [.Name x pos'] e pos) (sSet i m) := by
  refine (ps_set hN hi hx he hs hf).imp fun Dn σ H hq => ?_
  obtain ⟨ρ, sd, h, rel, sl, p⟩ := hq
  exact inES rel sl p fun d h1 v ρ1 H1 rel1 x1 sl1 i1 p1 => p1.nxt rel1 (sl1.set i i1)
theorem j_par {i j : Nat} {x y : Str} {a b : Expr} {m : DM (List D)} {px py pt pos : Pos} {kt k2 pt2} (hc : X.calm = true) (hN : X.N.Nodup) (ha : JA X g (wx E) [a, b] m) (hi : X.N[i]? = some x := by rfl) (hj : X.N[j]? = some y := by rfl) (hij : i ≠ j := by decide)
    (hx : X.env.scope.names.lookup x = some .local := by rfl) (hy : X.env.scope.names.lookup y = some .local := by rfl)
    (hw : swappedStores [.Tuple [.Name x px, .Name y py] kt pt] (.Tuple [a, b] k2 pt2) X.env = pure (some [x, y]) := by rfl)
    (hs : swapsWithSole [.Tuple [.Name x px, .Name y py] kt pt] (.Tuple [a, b] k2 pt2) pos.line X.env = pure false := by rfl) :
    JS X g E (.Assign [.Tuple [.Name x px, .Name y py] kt pt] (.Tuple [a, b] k2 pt2) pos) (sPar i j m) := by
  refine (ps_par hc hN hi hj hij hx hy ha hw hs).imp fun Dn σ H hq => ?_
  obtain ⟨ρ, sd, h, rel, sl, p⟩ := hq
  refine inAS rel sl p fun ds h1 vs ρ1 H1 rel1 x1 sl1 i1 p1 => ?_
  match ds, i1, p1 with
  | [d1, d2], i1, p1 =>
    obtain ⟨v, w, rfl, r1, r2⟩ := two_of i1
    exact ⟨v, w, rfl, p1.nxt rel1 ((sl1.set i r1).set j r2)⟩
  | [], _, p1 => exact p1.elim
  | [_], _, p1 => exact p1.elim
  | _ :: _ :: _ :: _, _, p1 => exact p1.elim
theorem j_aug {i : Nat} {x : Str} {e : Expr} {m : DE} {op : Operator} {f : D → D → DH → Option D} {pos pos' : Pos} (hN : X.N.Nodup) (ho : PIp X op (r2 g f)) (he : JE X g (wx E) e m) (hi : X.N[i]? = some x := by rfl) (hx : Loc X.env.scope x := by first | exact Or.inl rfl | exact Or.inr rfl) (hf : X.fn x = true ∨ X.env.scope.names.lookup x = some .local := by first | exact .inl rfl | exact .inr rfl | assumption) :
    JS X g E (.AugAssign (.Name x pos') op e pos) (sAug i f m) := by
  refine (ps_aug hN hi hx he ho hf).imp fun Dn σ H hq => ?_
  obtain ⟨ρ, sd, h, rel, sl, p⟩ := hq
  unfold sAug at p
  cases e : sd[i]? with
  | none => simp only [e] at p; exact p.elim
  | some o =>
    cases o with
    | none => simp only [e] at p; exact p.elim
    | some d =>
      simp only [e] at p
      obtain ⟨v, e1, r⟩ := sl.2 i d e
      refine ⟨v, e1, inES rel sl p fun d2 h2 v2 ρ2 H2 rel2 x2 sl2 i2 p2 => ?_⟩
      cases c : f d d2 h2 with
      | none => rw [c] at p2; exact p2.elim
      | some z =>
        rw [c] at p2
        exact ⟨ρ2, h2, d, d2, z, rel2, r.ext rel x2, i2, c, fun v' H' rel' x' i' => (PostS.ext p2 x').nxt rel' ((sl2.ext rel2 x').set i i')⟩
theorem ip_dAdd : PIp X .Add (r2 g dAddI) := by
  intro pins s σ H x y v u Q I rx ry hq
  obtain ⟨ρ, h, d1, d2, d, rel, i1, i2, e, q⟩ := hq
  unfold dAddI at e
  split at e
  · cases i1; cases i2; cases e
    exact ip_add pins s σ H _ _ v u Q I rx ry ⟨_, _, rfl, rfl, r2_fin rel q (.int _)⟩
  · cases e
theorem ip_dSub : PIp X .Sub (r2 g dSub) := by
  intro pins s σ H x y v u Q I rx ry hq
  obtain ⟨ρ, h, d1, d2, d, rel, i1, i2, e, q⟩ := hq
  unfold dSub at e
  split at e
  · cases i1; cases i2; cases e
    exact ip_sub pins s σ H _ _ v u Q I rx ry ⟨_, _, rfl, rfl, r2_fin rel q (.int _)⟩
  · cases e
end
end Cp

set_option maxHeartbeats 4000000
namespace Cp
open PySem PySem.Spec PyProof.Rows L2

/-- what is walked: the items, and what must stand at each turn -/
structure Itm where
  xs : List D
  ok : DH → Bool
abbrev DI := DM Itm
/-- an iterator that yields the items in order -/
structure Yl (g : G) (J : It) (ρ : Lc) (H : Hp) (t : Itm) : Prop where
  go : ∀ (i : Nat) (d : D) (ρ1 : Lc) (h1 : DH) (H1 : Hp), HRel g ρ1 h1 H1 → Ext ρ H ρ1 H1 → t.ok h1 = true → t.xs[i]? = some d → J.go i H1 ∧ ∀ x H2, J.yld i H1 x H2 → HRel g ρ1 h1 H2 ∧ Ext ρ1 H1 ρ1 H2 ∧ IsD g ρ1 H2 d x
  stop : ∀ (ρ1 : Lc) (h1 : DH) (H1 : Hp), HRel g ρ1 h1 H1 → Ext ρ H ρ1 H1 → t.ok h1 = true → J.stop t.xs.length H1
def tI (g : G) (E : WE) (m : DI) : TI := fun σ H R => ∃ ρ sd h, HRel g ρ h H ∧ Slots g ρ H sd σ ∧ match m sd h with
  | .ok t h' => ∀ J ρ' H', HRel g ρ' h' H' → Ext ρ H ρ' H' → Yl g J ρ' H' t → R J H'
  | .exc e h' => ∀ c d ρ' H', HRel g ρ' h' H' → Ext ρ H ρ' H' → IsEx g ρ' H' e c d → E c d H'
  | .no => False
theorem _root_.L2.PI.imp {X : Cx} {tg e : Expr} {t t' : TI} (h : PI X tg e t) (k : ∀ σ H R, t' σ H R → t σ H R) : PI X tg e t' := ⟨fun pins s σ H R I q => h.run pins s σ H R I (k _ _ _ q)⟩
abbrev JI (X : Cx) (g : G) (E : WE) (tg e : Expr) (m : DI) : Prop := PI X tg e (tI g E m)

def forD (g : DG) (b : DSt) (ok : DH → Bool) : List D → DSt
  | [], sd, h => if ok h = true then .nx sd h else .no
  | d :: ds, sd, h => if ok h = true then match g d sd h with
      | .nx sd1 h1 => (match b sd1 h1 with
        | .nx sd2 h2 => forD g b ok ds sd2 h2
        | .ct sd2 h2 => forD g b ok ds sd2 h2
        | .bk sd2 h2 => .nx sd2 h2
        | r => r)
      | .exc e h => .exc e h
      | _ => .no
    else .no
def sFor (m : DI) (g : DG) (b : DSt) : DSt := fun sd h => (m sd h).thn fun t h1 => forD g b t.ok t.xs sd h1
section
variable {X : Cx} {g : G} {E : WE}
theorem for_core {mi : DI} {gd : DG} {b : DSt} {Dn : Ends} {σ : L2.St} {H : Hp} (hq : tS g E (sFor mi gd b) Dn σ H) : tFor (tI g E mi) (tG g E gd) (tS g E b) Dn σ H := by
  obtain ⟨ρ, sd, h, rel, sl, p⟩ := hq
  refine ⟨ρ, sd, h, rel, sl, ?_⟩
  unfold sFor at p
  cases e : mi sd h with
  | no => rw [e] at p; exact p.elim
  | exc x h1 => rw [e] at p; exact p
  | ok t h1 =>
    rw [e] at p
    intro J ρ1 H1 rel1 x1 y
    have p1 : PostS g ρ1 H1 (forD gd b t.ok t.xs sd h1) Dn E := PostS.ext p x1
    refine ⟨fun i m σ' H' => m = t.xs.length - i ∧ i ≤ t.xs.length ∧ ∃ ρ' sd' h', HRel g ρ' h' H' ∧ Slots g ρ' H' sd' σ' ∧ Ext ρ1 H1 ρ' H' ∧ PostS g ρ' H' (forD gd b t.ok (t.xs.drop i) sd' h') Dn E,
      ⟨t.xs.length, by simp, Nat.zero_le _, ρ1, sd, h1, rel1, sl.ext rel x1, Ext.refl _ _, p1⟩, ?_⟩
    rintro i m σ' H' ⟨rfl, hi, ρ', sd', h', rel', sl', x', p'⟩
    by_cases hlt : i < t.xs.length
    · have hd : t.xs.drop i = t.xs[i] :: t.xs.drop (i + 1) := List.drop_eq_getElem_cons hlt
      rw [hd] at p'
      unfold forD at p'
      by_cases hok : t.ok h' = true
      · rw [if_pos hok] at p'
        obtain ⟨jg, jy⟩ := y.go i t.xs[i] ρ' h' H' rel' x' hok (by simp [hlt])
        refine .inr ⟨jg, fun σ2 H2 => ∃ ρ2 sd2 h2, HRel g ρ2 h2 H2 ∧ Slots g ρ2 H2 sd2 σ2 ∧ Ext ρ1 H1 ρ2 H2 ∧ PostS g ρ2 H2 (forD gd b t.ok (t.xs.drop (i + 1)) sd2 h2) Dn E, fun σ2 H2 ⟨ρ2, sd2, h2, a1, a2, a3, a4⟩ => ⟨t.xs.length - (i + 1), by omega, rfl, by omega, ρ2, sd2, h2, a1, a2, a3, a4⟩, fun v H2 yy => ?_⟩
        obtain ⟨rel2, x2, i2⟩ := jy v H2 yy
        have p2 := PostS.ext p' x2
        refine ⟨ρ', sd', h', t.xs[i], rel2, sl'.ext rel' x2, i2, ?_⟩
        cases eg : gd t.xs[i] sd' h' with
        | nx sd3 h3 =>
          rw [eg] at p2
          dsimp only at p2
          intro σ3 ρ3 H3 rel3 x3 sl3
          have p3 := PostS.ext p2 x3
          have x13 := x'.trans (x2.trans x3)
          refine ⟨ρ3, sd3, h3, rel3, sl3, ?_⟩
          cases eb : b sd3 h3 with
          | nx sd4 h4 => rw [eb] at p3; exact fun σ4 ρ4 H4 rel4 x4 sl4 => ⟨ρ4, sd4, h4, rel4, sl4, x13.trans x4, PostS.ext p3 x4⟩
          | ct sd4 h4 => rw [eb] at p3; exact fun σ4 ρ4 H4 rel4 x4 sl4 => ⟨ρ4, sd4, h4, rel4, sl4, x13.trans x4, PostS.ext p3 x4⟩
          | bk sd4 h4 => rw [eb] at p3; exact p3
          | rt d h4 => rw [eb] at p3; exact p3
          | exc x h4 => rw [eb] at p3; exact p3
          | no => rw [eb] at p3; exact p3
        | exc x h3 => rw [eg] at p2; exact p2
        | no => rw [eg] at p2; exact p2.elim
        | rt d h3 => rw [eg] at p2; exact p2.elim
        | bk d h3 => rw [eg] at p2; exact p2.elim
        | ct d h3 => rw [eg] at p2; exact p2.elim
      · rw [if_neg hok] at p'; exact p'.elim
    · have e : i = t.xs.length := by omega
      subst e
      rw [List.drop_length] at p'
      unfold forD at p'
      by_cases hok : t.ok h' = true
      · rw [if_pos hok] at p'
        exact .inl ⟨y.stop ρ' h' H' rel' x' hok, p'.nxt rel' sl'⟩
      · rw [if_neg hok] at p'; exact p'.elim
theorem j_for {tg iter : Expr} {body : List Stmt} {mi : DI} {gd : DG} {b : DSt} {pos : Pos} (hp : PassesOwn (model X.prog X.w) X.A X.env X.xe) (hc : X.calm = true) (hi : JI X g E tg iter mi) (hg : JG X g E tg gd) (hb : JSs X g E body b)
    (hs : ∀ x, foldedSetIterable iter X.env x = pure x := by intro _; rfl) : JS X g E (.For tg iter body [] pos) (sFor mi gd b) := (ps_for hp hc hi hg hb hs).imp fun Dn σ H hq => for_core hq

def whileD (t : DM Bool) (b : DSt) : Nat → DSt
  | 0, _, _ => .no
  | n + 1, sd, h => (t sd h).thn fun k h1 => if k = true then match b sd h1 with
      | .nx sd2 h2 => whileD t b n sd2 h2
      | .ct sd2 h2 => whileD t b n sd2 h2
      | .bk sd2 h2 => .nx sd2 h2
      | r => r
    else .nx sd h1
/-- n: how many tests are enough -/
def sWhile (n : Sl → DH → Nat) (t : DM Bool) (b : DSt) : DSt := fun sd h => whileD t b (n sd h) sd h
theorem while_core {n : Sl → DH → Nat} {t : DM Bool} {b : DSt} {Dn : Ends} {σ : L2.St} {H : Hp} (hq : tS g E (sWhile n t b) Dn σ H) : tWhile (tB g (wx E) t) (tS g E b) Dn σ H := by
  obtain ⟨ρ, sd, h, rel, sl, p⟩ := hq
  refine ⟨fun m σ' H' => ∃ ρ' sd' h', HRel g ρ' h' H' ∧ Slots g ρ' H' sd' σ' ∧ PostS g ρ' H' (whileD t b m sd' h') Dn E, ⟨n sd h, ρ, sd, h, rel, sl, p⟩, ?_⟩
  rintro m σ' H' ⟨ρ', sd', h', rel', sl', p'⟩
  cases m with
  | zero => exact p'.elim
  | succ m =>
    unfold whileD at p'
    refine inBS rel' sl' p' fun k h1 ρ1 H1 rel1 x1 sl1 p1 => ?_
    cases k with
    | false => exact p1.nxt rel1 sl1
    | true =>
      rw [if_pos rfl] at p1 ⊢
      refine ⟨fun σ2 H2 => ∃ ρ2 sd2 h2, HRel g ρ2 h2 H2 ∧ Slots g ρ2 H2 sd2 σ2 ∧ PostS g ρ2 H2 (whileD t b m sd2 h2) Dn E, fun σ2 H2 z => ⟨m, Nat.lt_succ_self m, z⟩, ρ1, sd', h1, rel1, sl1, ?_⟩
      cases eb : b sd' h1 with
      | nx sd4 h4 => rw [eb] at p1; exact fun σ4 ρ4 H4 rel4 x4 sl4 => ⟨ρ4, sd4, h4, rel4, sl4, PostS.ext p1 x4⟩
      | ct sd4 h4 => rw [eb] at p1; exact fun σ4 ρ4 H4 rel4 x4 sl4 => ⟨ρ4, sd4, h4, rel4, sl4, PostS.ext p1 x4⟩
      | bk sd4 h4 => rw [eb] at p1; exact p1
      | rt d h4 => rw [eb] at p1; exact p1
      | exc x h4 => rw [eb] at p1; exact p1
      | no => rw [eb] at p1; exact p1
theorem j_while (n : Sl → DH → Nat) {c : Expr} {body : List Stmt} {t : DM Bool} {b : DSt} {pos : Pos} (hp : PassesOwn (model X.prog X.w) X.A X.env X.xe) (hc : JT X g (wx E) c t) (hb : JSs X g E body b) : JS X g E (.While c body [] pos) (sWhile n t b) := (ps_while hp hc hb).imp fun Dn σ H hq => while_core hq

def always : DH → Bool := fun _ => true
/-- a tuple, a list -/
def iSeq (m : DE) : DI := fun sd h => (m sd h).bind fun x h1 => match x with
  | .tup xs => .ok ⟨xs, always⟩ h1
  | _ => .no
def iLst (m : DE) : DI := fun sd h => (m sd h).bind fun x h1 => match x with
  | .lst xs => .ok ⟨xs, always⟩ h1
  | _ => .no
theorem ji_tup {tg l : Expr} {m : DE} (hK : g.K = X.K) (hl : JE X g (wx E) l m) : JI X g E tg l (iSeq m) := by
  refine (pi_tup hl).imp fun σ H R hq => ?_
  obtain ⟨ρ, sd, h, rel, sl, p⟩ := hq
  refine ⟨ρ, sd, h, rel, sl, ?_⟩
  unfold iSeq at p
  cases e : m sd h with
  | no => rw [e] at p; exact p.elim
  | exc x h1 => rw [e] at p; exact p
  | ok d h1 =>
    rw [e] at p
    intro v ρ1 H1 rel1 x1 i1
    cases i1 with
    | @tup a vs xs s r =>
      have s' := s
      rw [hK] at s'
      refine ⟨a, rfl, ⟨vs, s'⟩, p (Itt X.K a) ρ1 H1 rel1 x1 ⟨fun i d ρ2 h2 H2 rel2 x2 _ hd => ?_, fun ρ2 h2 H2 rel2 x2 _ => ⟨vs, by rw [← hK]; exact sqT_ext rel1 x2 s, by rw [r.length]; exact Nat.le_refl _⟩⟩⟩
      obtain ⟨v, ev, rv⟩ := r.get hd
      have s2 : SqT X.K H2 a vs := by rw [← hK]; exact sqT_ext rel1 x2 s
      refine ⟨⟨vs, v, s2, ev⟩, fun x H3 yy => ?_⟩
      obtain ⟨e3, y3⟩ := yy
      subst e3
      have q := y3 vs s2
      rw [ev] at q
      cases q
      exact ⟨rel2, Ext.refl _ _, rv.ext rel1 x2⟩
    | _ => exact p.elim
/-- an iterator over what stands still -/
theorem ji_lst {tg l : Expr} {m : DE} (hl : JE X g (wx E) l m) : JI X g E tg l (iLst m) := by
  refine (pi_list hl).imp fun σ H R hq => ?_
  obtain ⟨ρ, sd, h, rel, sl, p⟩ := hq
  refine ⟨ρ, sd, h, rel, sl, ?_⟩
  unfold iLst at p
  cases e : m sd h with
  | no => rw [e] at p; exact p.elim
  | exc x h1 => rw [e] at p; exact p
  | ok d h1 =>
    rw [e] at p
    intro v ρ1 H1 rel1 x1 i1
    cases i1 with
    | @lst a vs xs s n r =>
      have st : ∀ {ρ2 H2}, Ext ρ1 H1 ρ2 H2 → H2 a = some (.lst vs) := fun {ρ2 H2} x2 => by
        obtain ⟨o', e, l⟩ := x2.keep a _ s fun z => n (ρ1.sub a z)
        rw [l.lst] at e; exact e
      refine ⟨a, rfl, ⟨vs, SqL.of s⟩, p (Itl X.K a) ρ1 H1 rel1 x1 ⟨fun i d ρ2 h2 H2 rel2 x2 _ hd => ?_, fun ρ2 h2 H2 rel2 x2 _ => ⟨vs, SqL.of (st x2), by rw [r.length]; exact Nat.le_refl _⟩⟩⟩
      obtain ⟨v, ev, rv⟩ := r.get hd
      refine ⟨⟨vs, v, SqL.of (st x2), ev⟩, fun x H3 yy => ?_⟩
      obtain ⟨e3, y3⟩ := yy
      subst e3
      have q := y3 vs (SqL.of (st x2))
      rw [ev] at q
      cases q
      exact ⟨rel2, Ext.refl _ _, rv.ext rel1 x2⟩
    | _ => exact p.elim
/-- range(n), range(a, b) -/
def rngD (lo : Int) (n : Nat) : List D := (List.range n).map fun i => .int (lo + (i : Nat))
def iRng1 (m : DM (List D)) : DI := fun sd h => (m sd h).bind fun ds h1 => match ds with
  | [.int j] => if decide (-(2 ^ 62) ≤ j) && decide (j < 2 ^ 62) then .ok ⟨rngD 0 j.toNat, always⟩ h1 else .no
  | _ => .no
def iRng2 (m : DM (List D)) : DI := fun sd h => (m sd h).bind fun ds h1 => match ds with
  | [.int i, .int j] => if decide (-(2 ^ 62) ≤ i) && decide (i < 2 ^ 62) && (decide (-(2 ^ 62) ≤ j) && decide (j < 2 ^ 62)) then .ok ⟨rngD i (j - i).toNat, always⟩ h1 else .no
  | _ => .no
theorem yl_rng {ρ : Lc} {H : Hp} {lo : Int} {n : Nat} : Yl g (Itr lo n) ρ H ⟨rngD lo n, always⟩ := by
  refine ⟨fun i d ρ1 h1 H1 rel1 x1 _ hd => ?_, fun ρ1 h1 H1 rel1 x1 _ => by show n ≤ (rngD lo n).length; simp [rngD]⟩
  unfold rngD at hd
  rw [List.getElem?_map] at hd
  by_cases hi : i < n
  · rw [List.getElem?_range hi] at hd
    cases hd
    refine ⟨hi, fun x H2 y => ?_⟩
    obtain ⟨e1, e2⟩ := y
    subst e1 e2
    exact ⟨rel1, Ext.refl _ _, .int _⟩
  · rw [List.getElem?_eq_none (by simp; omega)] at hd
    cases hd
theorem ints1 {ρ : Lc} {H : Hp} {ds : List D} {vs : List V} {i : Int} (r : IsDs g ρ H ds vs) (e : ds = [.int i]) : vs = [.int i] := by
  subst e
  obtain ⟨v, rfl, a⟩ := one_of r
  cases a; rfl
theorem ints2 {ρ : Lc} {H : Hp} {ds : List D} {vs : List V} {i j : Int} (r : IsDs g ρ H ds vs) (e : ds = [.int i, .int j]) : vs = [.int i, .int j] := by
  subst e
  obtain ⟨v, u, rfl, a, b⟩ := two_of r
  cases a; cases b; rfl
theorem ji_rng1 {tg a : Expr} {m : DM (List D)} {p pos : Pos} (hg : Gl X "range") (hm : X.mg "range" = none) (ha : JA X g (wx E) [a] m) (hs : starEach [a] X.env = [(false, eval a X.env)] := by rfl) : JI X g E tg (.Call (.Name "range" p) [a] [] pos) (iRng1 m) := by
  refine (pi_range1 hg hm ha hs).imp fun σ H R hq => ?_
  obtain ⟨ρ, sd, h, rel, sl, p⟩ := hq
  refine ⟨ρ, sd, h, rel, sl, ?_⟩
  unfold iRng1 at p
  cases e : m sd h with
  | no => rw [e] at p; exact p.elim
  | exc x h1 => rw [e] at p; exact p
  | ok ds h1 =>
    rw [e] at p
    intro vs ρ1 H1 rel1 x1 i1
    simp only [Cp.R.bind_ok] at p
    split at p
    · rename_i t h' hh
      split at hh
      · rename_i j
        split at hh
        · rename_i hb
          obtain ⟨b1, b2⟩ := Bool.and_eq_true_iff.mp hb
          cases hh
          exact ⟨j, ints1 i1 rfl, of_decide_eq_true b1, of_decide_eq_true b2, p _ ρ1 H1 rel1 x1 yl_rng⟩
        · cases hh
      · cases hh
    · rename_i x h' hh
      split at hh
      · split at hh <;> cases hh
      · cases hh
    · exact p.elim
theorem ji_rng2 {tg a b : Expr} {m : DM (List D)} {p pos : Pos} (hg : Gl X "range") (hm : X.mg "range" = none) (ha : JA X g (wx E) [a, b] m) (hs : starEach [a, b] X.env = [(false, eval a X.env), (false, eval b X.env)] := by rfl) (hs2 : starEach [b] X.env = [(false, eval b X.env)] := by rfl) : JI X g E tg (.Call (.Name "range" p) [a, b] [] pos) (iRng2 m) := by
  refine (pi_range2 hg hm ha hs hs2).imp fun σ H R hq => ?_
  obtain ⟨ρ, sd, h, rel, sl, p⟩ := hq
  refine ⟨ρ, sd, h, rel, sl, ?_⟩
  unfold iRng2 at p
  cases e : m sd h with
  | no => rw [e] at p; exact p.elim
  | exc x h1 => rw [e] at p; exact p
  | ok ds h1 =>
    rw [e] at p
    intro vs ρ1 H1 rel1 x1 i1
    simp only [Cp.R.bind_ok] at p
    split at p
    · rename_i t h' hh
      split at hh
      · rename_i i j
        split at hh
        · rename_i hb
          obtain ⟨b1, b2⟩ := Bool.and_eq_true_iff.mp hb
          obtain ⟨b3, b4⟩ := Bool.and_eq_true_iff.mp b1
          obtain ⟨b5, b6⟩ := Bool.and_eq_true_iff.mp b2
          cases hh
          exact ⟨i, j, ints2 i1 rfl, ⟨of_decide_eq_true b3, of_decide_eq_true b4, of_decide_eq_true b5, of_decide_eq_true b6⟩, p _ ρ1 H1 rel1 x1 yl_rng⟩
        · cases hh
      · cases hh
    · rename_i x h' hh
      split at hh
      · split at hh <;> cases hh
      · cases hh
    · exact p.elim
theorem tAs.mono {W : WX} {m : DM (List D)} {σ : L2.St} {H : Hp} {Q Q' : List V → Hp → Prop} (hq : tAs g W m σ H Q) (k : ∀ v H, Q v H → Q' v H) : tAs g W m σ H Q' := by
  obtain ⟨ρ, sd, h, rel, sl, p⟩ := hq
  exact ⟨ρ, sd, h, rel, sl, p.imp k fun _ _ _ z => z⟩
end
end Cp

set_option maxHeartbeats 4000000
namespace Cp
open PySem PySem.Spec PyProof.Rows L2
mutual
inductive Pat where
  | nm (i : Nat)
  | tup (ps : Pats)
inductive Pats where
  | nil
  | cons (p : Pat) (ps : Pats)
end
def Pats.len : Pats → Nat
  | .nil => 0
  | .cons _ ps => ps.len + 1
mutual
def Pat.d : Pat → D → Sl → Option Sl
  | .nm i, d, sd => some (sd.set i (some d))
  | .tup ps, .tup xs, sd => ps.d xs sd
  | .tup _, _, _ => none
def Pats.d : Pats → List D → Sl → Option Sl
  | .nil, [], sd => some sd
  | .cons p ps, x :: xs, sd => match p.d x sd with
    | some sd1 => ps.d xs sd1
    | none => none
  | _, _, _ => none
end
mutual
def Pat.g (K : PySem.W.Frag) : Pat → TG
  | .nm i => gName i
  | .tup ps => gTup K ps.len (ps.g K)
def Pats.g (K : PySem.W.Frag) : Pats → TGs
  | .nil => gNil
  | .cons p ps => gCons (p.g K) (ps.g K)
end
mutual
def Pat.ix : Pat → List Nat
  | .nm i => [i]
  | .tup ps => ps.ix
def Pats.ix : Pats → List Nat
  | .nil => []
  | .cons p ps => p.ix ++ ps.ix
end
def gdPat (p : Pat) : DG := fun d sd h => match p.d d sd with
  | some sd1 => .nx sd1 h
  | none => .no
section
variable {X : Cx} {g : G} {E : WE} {ρ : Lc} {H : Hp} {h : DH}
theorem Pats.d_len : ∀ {ps : Pats} {xs : List D} {sd sd1 : Sl}, ps.d xs sd = some sd1 → xs.length = ps.len
  | .nil, [], _, _, _ => rfl
  | .nil, _ :: _, _, _, e => by rw [Pats.d] at e <;> first | cases e | (intros; contradiction)
  | .cons p ps, [], _, _, e => by rw [Pats.d] at e <;> first | cases e | (intros; contradiction)
  | .cons p ps, x :: xs, sd, _, e => by
    rw [Pats.d] at e
    cases c : p.d x sd with
    | none => rw [c] at e; cases e
    | some s1 => rw [c] at e; simp [Pats.len, Pats.d_len e]
/-- off the pattern's slots nothing is changed -/
def Off (ix : List Nat) (σ σ1 : L2.St) : Prop := σ1.length = σ.length ∧ ∀ j, j ∉ ix → σ1[j]? = σ[j]?
mutual
theorem Pat.ok (hK : g.K = X.K) : ∀ (p : Pat) {d : D} {v : V} {sd sd1 : Sl} {σ : L2.St} {Q : L2.St → Hp → Prop}, Slots g ρ H sd σ → IsD g ρ H d v → p.d d sd = some sd1 →
    (∀ σ1, Slots g ρ H sd1 σ1 → Off p.ix σ σ1 → Q σ1 H) → p.g X.K v σ H Q
  | .nm i, d, v, sd, sd1, σ, Q, sl, r, e, k => by
    rw [Pat.d] at e; cases e
    rw [Pat.g]
    exact k _ (sl.set i r) ⟨by simp, fun j hj => List.getElem?_set_ne (fun z => hj (by simp [Pat.ix, z]))⟩
  | .tup ps, .tup xs, _, sd, sd1, σ, Q, sl, .tup s r, e, k => by
    rw [Pat.d] at e
    rw [Pat.g]
    rw [hK] at s
    exact ⟨_, _, rfl, s, by rw [← r.length]; exact Pats.d_len e, Pats.ok hK ps sl r e (by rw [Pat.ix] at k; exact k)⟩
  | .tup _, .non, _, _, _, _, _, _, _, e, _ | .tup _, .bl _, _, _, _, _, _, _, _, e, _ | .tup _, .int _, _, _, _, _, _, _, _, e, _ | .tup _, .str _, _, _, _, _, _, _, _, e, _ | .tup _, .lst _, _, _, _, _, _, _, _, e, _ | .tup _, .dct _, _, _, _, _, _, _, _, e, _
  | .tup _, .obj _ _, _, _, _, _, _, _, _, e, _ | .tup _, .set _, _, _, _, _, _, _, _, e, _ | .tup _, .scr _, _, _, _, _, _, _, _, e, _ | .tup _, .ref _, _, _, _, _, _, _, _, e, _ | .tup _, .glo _, _, _, _, _, _, _, _, e, _ => by simp [Pat.d] at e
theorem Pats.ok (hK : g.K = X.K) : ∀ (ps : Pats) {ds : List D} {vs : List V} {sd sd1 : Sl} {σ : L2.St} {Q : L2.St → Hp → Prop}, Slots g ρ H sd σ → IsDs g ρ H ds vs → ps.d ds sd = some sd1 →
    (∀ σ1, Slots g ρ H sd1 σ1 → Off ps.ix σ σ1 → Q σ1 H) → ps.g X.K vs σ H Q
  | .nil, [], _, sd, sd1, σ, Q, sl, .nil, e, k => by
    rw [Pats.d] at e; cases e
    rw [Pats.g]
    exact ⟨rfl, k σ sl ⟨rfl, fun _ _ => rfl⟩⟩
  | .nil, _ :: _, _, _, _, _, _, _, _, e, _ => by simp [Pats.d] at e
  | .cons _ _, [], _, _, _, _, _, _, _, e, _ => by simp [Pats.d] at e
  | .cons p ps, x :: xs, _, sd, sd1, σ, Q, sl, .cons a t, e, k => by
    rw [Pats.d] at e
    rw [Pats.g]
    cases c : p.d x sd with
    | none => rw [c] at e; cases e
    | some s1 =>
      rw [c] at e
      refine ⟨_, _, rfl, Pat.ok hK p sl a c fun σ1 sl1 o1 => ?_⟩
      refine Pats.ok hK ps sl1 t e fun σ2 sl2 o2 => k σ2 sl2 ⟨o2.1.trans o1.1, fun j hj => ?_⟩
      rw [Pats.ix, List.mem_append] at hj
      exact (o2.2 j fun z => hj (.inr z)).trans (o1.2 j fun z => hj (.inl z))
end
theorem jg_pat {tg : Expr} (hK : g.K = X.K) (p : Pat) (hg : PG X tg (p.g X.K)) : JG X g E tg (gdPat p) := by
  refine hg.imp fun v σ H Q hq => ?_
  obtain ⟨ρ, sd, h, d, rel, sl, i1, q⟩ := hq
  unfold gdPat at q
  cases c : p.d d sd with
  | none => rw [c] at q; exact q.elim
  | some sd1 => rw [c] at q; exact p.ok hK sl i1 c fun σ1 sl1 _ => q σ1 ρ H rel (Ext.refl _ _) sl1
theorem gdPat_plain {p : Pat} : ∀ d sd h, match gdPat p d sd h with | .nx _ _ => True | .exc _ _ => True | .no => True | _ => False := fun d sd h => by
  unfold gdPat
  cases p.d d sd <;> trivial
theorem pgt {es : List Expr} {k : Nat} {ps : Pats} {pos : Pos} (hc : X.calm = true) (h : PGs X es (ps.g X.K)) (hn : (assignEach es X.env).length = ps.len := by rfl) (hst : (assignEach es X.env).findIdx? (·.1) = none := by rfl) : PG X (.Tuple es k pos) ((Pat.tup ps).g X.K) := by
  rw [Pat.g]
  exact pg_tup hc h hn hst
theorem pgn {i : Nat} {x : Str} {pos : Pos} (hN : X.N.Nodup) (hi : X.N[i]? = some x := by rfl) (hx : Loc X.env.scope x := by first | exact Or.inl rfl | exact Or.inr rfl) (hf : X.fn x = true ∨ X.env.scope.names.lookup x = some .local := by first | exact .inl rfl | exact .inr rfl | assumption) : PG X (.Name x pos) ((Pat.nm i).g X.K) := by
  rw [Pat.g]
  exact pg_name hN hi hx hf
theorem pgc {e : Expr} {es : List Expr} {p : Pat} {ps : Pats} (h1 : PG X e (p.g X.K)) (h2 : PGs X es (ps.g X.K)) (hs : (assignEach (e :: es) X.env).map (·.2) = assign e X.env :: (assignEach es X.env).map (·.2) := by rfl) : PGs X (e :: es) ((Pats.cons p ps).g X.K) := by
  rw [Pats.g]
  exact pgs_cons h1 h2 hs
theorem pg0 : PGs X [] (Pats.nil.g X.K) := by
  rw [Pats.g]
  exact pgs_nil
/-- a, b = e -/
def sUnp (p : Pat) (m : DE) : DSt := fun sd h => (m sd h).thn fun d h1 => match p.d d sd with
  | some sd1 => .nx sd1 h1
  | none => .no
theorem j_unp {tg e : Expr} {m : DE} {p : Pat} {pos : Pos} (hK : g.K = X.K) (he : JE X g (wx E) e m) (hg : PG X tg (p.g X.K))
    (hs : swapsWithSole [tg] e pos.line X.env = pure false := by rfl) (hw : swappedStores [tg] e X.env = pure none := by rfl)
    (h1 : (assignEach [tg] X.env).map (·.2) = [assign tg X.env] := by rfl) : JS X g E (.Assign [tg] e pos) (sUnp p m) := by
  refine (ps_asg he hg hs hw h1).imp fun Dn σ H hq => ?_
  obtain ⟨ρ, sd, h, rel, sl, q⟩ := hq
  refine inES rel sl q fun d h1 v ρ1 H1 rel1 x1 sl1 i1 p1 => ?_
  cases c : p.d d sd with
  | none => simp only [c] at p1; exact p1.elim
  | some sd1 => simp only [c] at p1; exact p.ok hK sl1 i1 c fun σ1 sl2 _ => p1.nxt rel1 sl2

def wipeD (sd : Sl) : List Nat → Sl
  | [] => sd
  | v :: vs => (wipeD sd vs).set v none
theorem Slots.wipe {sd : Sl} {σ : L2.St} (sl : Slots g ρ H sd σ) : ∀ vs : List Nat, Slots g ρ H (wipeD sd vs) (wipe σ vs)
  | [] => sl
  | v :: vs => by
    have ih := Slots.wipe sl vs
    refine ⟨by simp [wipeD, L2.wipe, ih.1], fun i d e => ?_⟩
    unfold wipeD at e
    by_cases hi : i = v
    · subst hi
      obtain ⟨hl, q⟩ := List.getElem?_eq_some_iff.mp e
      rw [List.getElem_set_self] at q
      cases q
    · rw [List.getElem?_set_ne (Ne.symm hi)] at e
      obtain ⟨w, e1, r⟩ := ih.2 i d e
      exact ⟨w, by unfold L2.wipe; rw [List.getElem?_set_ne (Ne.symm hi)]; exact e1, r⟩
theorem wipe_get (σ : L2.St) : ∀ (vs : List Nat) (j : Nat), (wipe σ vs)[j]? = if j ∈ vs ∧ j < σ.length then some none else σ[j]?
  | [], j => by simp [L2.wipe]
  | v :: vs, j => by
    unfold L2.wipe
    by_cases hj : j = v
    · subst hj
      by_cases hl : j < σ.length
      · rw [List.getElem?_set_self (by rw [wipe_length]; exact hl)]
        simp [hl]
      · rw [List.getElem?_eq_none (by rw [List.length_set, wipe_length]; omega), List.getElem?_eq_none (by omega)]
        simp [hl]
    · rw [List.getElem?_set_ne (Ne.symm hj), wipe_get σ vs j]
      by_cases h2 : j ∈ vs ∧ j < σ.length
      · rw [if_pos h2, if_pos ⟨List.mem_cons_of_mem _ h2.1, h2.2⟩]
      · rw [if_neg h2, if_neg fun z => h2 ⟨(List.mem_cons.mp z.1).resolve_left hj, z.2⟩]
theorem wipe_off {σ σ1 : L2.St} {ix vs : List Nat} (hs : ∀ i ∈ ix, i ∈ vs) (o : Off ix (wipe σ vs) σ1) : wipe σ1 vs = wipe σ vs := by
  have hl : σ1.length = σ.length := by rw [o.1, wipe_length]
  apply List.ext_getElem?
  intro j
  rw [wipe_get, wipe_get, hl]
  by_cases hj : j ∈ vs ∧ j < σ.length
  · rw [if_pos hj, if_pos hj]
  · rw [if_neg hj, if_neg hj]
    by_cases hi : j ∈ ix
    · have : ¬ j < σ.length := fun z => hj ⟨hs j hi, z⟩
      rw [List.getElem?_eq_none (by omega), List.getElem?_eq_none (by omega)]
    · rw [o.2 j hi, wipe_get, if_neg hj]
def compD (p : Pat) (t : DM Bool) (e : DE) (ok : DH → Bool) (wd : Sl) : List D → List D → DH → R (List D)
  | [], acc, h => if ok h = true then .ok acc h else .no
  | d :: ds, acc, h => if ok h = true then match p.d d wd with
      | some sd1 => (t sd1 h).bind fun b h2 => if b = true then (e sd1 h2).bind fun x h3 => if fine acc.length = true then compD p t e ok wd ds (acc ++ [x]) h3 else .no
          else compD p t e ok wd ds acc h2
      | none => .no
    else .no
def bYes : DM Bool := fun _ h => .ok true h
def eLcs (vs : List Nat) (m : DI) (p : Pat) (t : DM Bool) (e : DE) : DM (List D) := fun sd h => (m sd h).bind fun it h1 => compD p t e it.ok (wipeD sd vs) it.xs [] h1
/-- a comprehension: a list that stays -/
def eLc (vs : List Nat) (m : DI) (p : Pat) (t : DM Bool) (e : DE) : DE := fun sd h => (eLcs vs m p t e sd h).bind fun xs h1 => .ok (.lst xs) h1
/-- a comprehension: a list that will be changed -/
def eLcM (vs : List Nat) (m : DI) (p : Pat) (t : DM Bool) (e : DE) : DE := fun sd h => (eLcs vs m p t e sd h).bind fun xs h1 => .ok (.ref h1.length) (h1 ++ [.lst xs])
abbrev w0 : WX := fun _ _ _ _ => False
abbrev E0 : WE := fun _ _ _ => False
theorem comp_core {vs : List Nat} {mi : DI} {p : Pat} {t : DM Bool} {e : DE} {σ : L2.St} {H : Hp} {Q : VK} (hK : g.K = X.K) (hix : ∀ i ∈ p.ix, i ∈ vs)
    (hq : ∃ ρ sd h, HRel g ρ h H ∧ Slots g ρ H sd σ ∧ match mi sd h with
      | .ok it h1 => ∀ ρ1 H1, HRel g ρ1 h1 H1 → Ext ρ H ρ1 H1 → match compD p t e it.ok (wipeD sd vs) it.xs [] h1 with
          | .ok xs h2 => ∀ a us ρ2 H2, HRel g ρ2 h2 H2 → a ∈ ρ2.mt → a ∉ ρ2.ad → Ext (ρ1.hold a) (upd H1 a (.lst [])) ρ2 (upd H2 a (.lst [])) → H2 a = some (.lst us) → H1 a = none → IsDs g ρ2 H2 xs us → Q (.ref a) H2
          | .exc x h2 => False
          | .no => False
      | .exc x h1 => ∀ c d ρ' H', HRel g ρ' h1 H' → Ext ρ H ρ' H' → IsEx g ρ' H' x c d → E c d H'
      | .no => False) :
    tLc (tI g E mi) (p.g X.K) (tB g w0 t) (tE g w0 e) vs σ H Q := by
  obtain ⟨ρ, sd, h, rel, sl, q⟩ := hq
  refine ⟨ρ, sd, h, rel, sl, ?_⟩
  cases em : mi sd h with
  | no => rw [em] at q; exact q.elim
  | exc x h1 => rw [em] at q; exact q
  | ok it h1 =>
    rw [em] at q
    intro J ρ1 H1 rel1 x1 y a ha
    have q1 := q ρ1 H1 rel1 x1
    have sl1 := sl.ext rel x1
    -- the list in the making is held
    have xh : ∀ o, Ext ρ1 H1 (ρ1.hold a) (upd H1 a o) := fun o => ⟨⟨[], by simp [Lc.hold]⟩, fun b u e n => ⟨u, by rw [upd_ne (ne_of_none e ha)]; exact e, .refl u⟩, fun b z n => absurd z n, fun b z n => by
      rcases List.mem_append.mp z with z | z
      · exact absurd z n
      · have e : b = a := by simpa using z
        rw [e]; exact ha, fun b z => List.mem_append_left _ z⟩
    have relh : HRel g (ρ1.hold a) h1 (upd H1 a (.lst [])) := by
      have z := rel1.laid ha (.lst [])
      refine ⟨z.len, z.nd, fun b hb => ?_, fun l c e => ?_⟩
      · rcases List.mem_append.mp hb with hb | hb
        · exact z.trk b hb
        · have e : b = a := by simpa using hb
          exact ⟨_, by rw [e]; exact upd_same⟩
      · obtain ⟨b, u, e1, e2, e3⟩ := rel1.cell l c e
        exact ⟨b, u, e1, by rw [upd_ne (ne_of_none e2 ha)]; exact e2, e3.ext rel1 (xh _)⟩
    have hm0 : a ∈ (ρ1.hold a).mt := List.mem_append_right _ (by simp)
    have hn0 : a ∉ (ρ1.hold a).ad := rel1.freshC ha
    have inv : ∀ {ρ' : Lc} {H' : Hp} {us : List V}, Ext (ρ1.hold a) (upd H1 a (.lst [])) ρ' (upd H' a (.lst [])) → H' a = some (.lst us) → a ∉ ρ'.ad → ∀ {ρ3 H3}, Ext ρ' H' ρ3 H3 → H3 a = some (.lst us) ∧ a ∉ ρ3.ad ∧ Ext (ρ1.hold a) (upd H1 a (.lst [])) ρ3 (upd H3 a (.lst [])) := fun {ρ' H' us} x' ea na {ρ3 H3} z => by
      obtain ⟨o', e3, l3⟩ := z.keep a _ ea na
      rw [l3.lst] at e3
      have na3 : a ∉ ρ3.ad := fun zz => by rw [z.newC a zz na] at ea; cases ea
      refine ⟨e3, na3, x'.trans ⟨z.pre, fun b o eb nb => ?_, fun b zb nb => ?_, fun b zb nb => ?_, z.mono⟩⟩
      · by_cases hb : b = a
        · rw [hb, upd_same] at eb ⊢
          exact ⟨_, rfl, by cases eb; exact .refl _⟩
        · rw [upd_ne hb] at eb ⊢
          exact z.keep b o eb nb
      · have hb : b ≠ a := fun q => by subst q; rw [z.newC b zb nb] at ea; cases ea
        rw [upd_ne hb]; exact z.newC b zb nb
      · have hb : b ≠ a := fun q => by subst q; exact nb (x'.mono b hm0)
        rw [upd_ne hb]; exact z.new b zb nb
    -- what holds between two turns: xs the rest, acc what was made
    refine ⟨fun i m H' => m = it.xs.length - i ∧ i ≤ it.xs.length ∧ ∃ ρ' h' acc us, HRel g ρ' h' H' ∧ Ext (ρ1.hold a) (upd H1 a (.lst [])) ρ' (upd H' a (.lst [])) ∧ H' a = some (.lst us) ∧ a ∉ ρ'.ad ∧ IsDs g ρ' H' acc us ∧
        (match compD p t e it.ok (wipeD sd vs) (it.xs.drop i) acc h' with
          | .ok xs h2 => ∀ us ρ2 H2, HRel g ρ2 h2 H2 → a ∈ ρ2.mt → a ∉ ρ2.ad → Ext (ρ1.hold a) (upd H1 a (.lst [])) ρ2 (upd H2 a (.lst [])) → H2 a = some (.lst us) → IsDs g ρ2 H2 xs us → Q (.ref a) H2
          | .exc x h2 => False
          | .no => False),
      ⟨it.xs.length, by simp, Nat.zero_le _, ρ1.hold a, h1, [], [], relh, by rw [upd_upd]; exact Ext.refl _ _, upd_same, hn0, .nil, ?_⟩, ?_⟩
    · rw [List.drop_zero]
      cases ec : compD p t e it.ok (wipeD sd vs) it.xs [] h1 with
      | no => rw [ec] at q1; exact q1
      | exc x h2 => rw [ec] at q1; exact q1
      | ok xs h2 => rw [ec] at q1; exact fun us ρ2 H2 r2 m2 n2 x2 e2 i2 => q1 a us ρ2 H2 r2 m2 n2 x2 e2 ha i2
    · rintro i m H' ⟨rfl, hi, ρ', h', acc, us, rel', x', ea, na, ia, q'⟩
      by_cases hlt : i < it.xs.length
      · have hd : it.xs.drop i = it.xs[i] :: it.xs.drop (i + 1) := List.drop_eq_getElem_cons hlt
        rw [hd] at q'
        unfold compD at q'
        by_cases hok : it.ok h' = true
        · rw [if_pos hok] at q'
          -- the iterator's own look at the heap
          have xy : Ext ρ1 H1 ρ' H' := by
            have z := (xh (.lst [])).trans x'
            refine ⟨z.pre, fun b o eb nb => ?_, z.newC, z.new, z.mono⟩
            obtain ⟨o', e6, l6⟩ := z.keep b o eb nb
            rw [upd_ne (fun zz => by subst zz; rw [ha] at eb; cases eb)] at e6
            exact ⟨o', e6, l6⟩
          obtain ⟨jg, jy⟩ := y.go i it.xs[i] ρ' h' H' rel' xy hok (by simp [hlt])
          refine .inr ⟨jg, fun H2 => ∃ ρ2 h2 acc2 us2, HRel g ρ2 h2 H2 ∧ Ext (ρ1.hold a) (upd H1 a (.lst [])) ρ2 (upd H2 a (.lst [])) ∧ H2 a = some (.lst us2) ∧ a ∉ ρ2.ad ∧ IsDs g ρ2 H2 acc2 us2 ∧
            (match compD p t e it.ok (wipeD sd vs) (it.xs.drop (i + 1)) acc2 h2 with
              | .ok xs h2 => ∀ us ρ2 H2, HRel g ρ2 h2 H2 → a ∈ ρ2.mt → a ∉ ρ2.ad → Ext (ρ1.hold a) (upd H1 a (.lst [])) ρ2 (upd H2 a (.lst [])) → H2 a = some (.lst us) → IsDs g ρ2 H2 xs us → Q (.ref a) H2
              | .exc x h2 => False
              | .no => False), fun H2 ⟨ρ2, h2, acc2, us2, b⟩ => ⟨it.xs.length - (i + 1), by omega, rfl, by omega, ρ2, h2, acc2, us2, b⟩, fun v H2 yy => ?_⟩
          obtain ⟨rel2, x2, i2⟩ := jy v H2 yy
          have slw : Slots g ρ' H2 (wipeD sd vs) (wipe σ vs) := ((sl1.ext rel1 xy).wipe vs).ext rel' x2
          cases ep : p.d it.xs[i] (wipeD sd vs) with
          | none => rw [ep] at q'; exact q'.elim
          | some sd1 =>
            rw [ep] at q'
            dsimp only at q'
            refine p.ok hK slw i2 ep fun σ2 sl2 o2 => ⟨wipe_off hix o2, ρ', sd1, h', rel2, sl2, ?_⟩
            cases et : t sd1 h' with
            | no => rw [et] at q'; exact q'.elim
            | exc x h3 => rw [et] at q'; exact q'.elim
            | ok b h3 =>
              rw [et] at q'
              simp only [Cp.R.bind_ok] at q'
              intro b' ρ3 H3 rel3 x3 eb
              have eb : b = b' := eb
              subst eb
              have x13 := x2.trans x3
              cases b with
              | false =>
                rw [if_neg Bool.false_ne_true] at q' ⊢
                obtain ⟨e4, n4, x4⟩ := inv x' ea na x13
                exact ⟨ρ3, h3, acc, us, rel3, x4, e4, n4, ia.ext rel' x13, q'⟩
              | true =>
                rw [if_pos rfl] at q' ⊢
                refine ⟨ρ3, sd1, h3, rel3, sl2.ext rel2 x3, ?_⟩
                cases ee : e sd1 h3 with
                | no => rw [ee] at q'; exact q'.elim
                | exc x h4 => rw [ee] at q'; exact q'.elim
                | ok z h4 =>
                  rw [ee] at q'
                  simp only [Cp.R.bind_ok] at q'
                  intro w ρ4 H4 rel4 x4 iz
                  have x14 := x13.trans x4
                  obtain ⟨e5, n5, x5⟩ := inv x' ea na x14
                  by_cases hf : fine acc.length = true
                  · rw [if_pos hf] at q'
                    have ia4 := ia.ext rel' x14
                    have hl : us.length ≤ 100000 := by
                      have := ia4.length
                      have h5 := Nat.le_of_ble_eq_true hf
                      omega
                    have m4 : a ∈ ρ4.mt := x5.mono a hm0
                    have nt : ∀ xs, H4 a ≠ some (.tup xs) ∧ ∀ ob u, H4 a ≠ some (.frz ob u) := fun xs => ⟨(fun z => by rw [e5] at z; cases z), (fun ob u z => by rw [e5] at z; cases z)⟩
                    have bt : But ρ4 a ρ4 H4 (upd H4 a (.lst (us ++ [w]))) := ⟨⟨[], by simp⟩, fun _ z => z, fun b hb => upd_ne hb⟩
                    refine ⟨us, e5, Nat.lt_of_le_of_lt hl (by rw [sizeLine_eq]; decide), ρ4, h4, acc ++ [z], us ++ [w], ?_, by rw [upd_upd]; exact x5, upd_same, n5, IsDs.append (.cons (iz.but rel4 m4 nt bt) .nil) (ia4.but rel4 m4 nt bt), q'⟩
                    refine rel4.but rfl m4 n5 nt bt fun c hc => ?_
                    by_cases hb : c = a
                    · exact ⟨_, by rw [hb]; exact upd_same⟩
                    · rw [upd_ne hb]; exact rel4.trk c hc
                  · rw [if_neg hf] at q'; exact q'.elim
        · rw [if_neg hok] at q'; exact q'.elim
      · have ei : i = it.xs.length := by omega
        subst ei
        rw [List.drop_length] at q'
        unfold compD at q'
        by_cases hok : it.ok h' = true
        · rw [if_pos hok] at q'
          have xy : Ext ρ1 H1 ρ' H' := by
            have z := (xh (.lst [])).trans x'
            refine ⟨z.pre, fun b o eb nb => ?_, z.newC, z.new, z.mono⟩
            obtain ⟨o', e6, l6⟩ := z.keep b o eb nb
            rw [upd_ne (fun zz => by subst zz; rw [ha] at eb; cases eb)] at e6
            exact ⟨o', e6, l6⟩
          exact .inl ⟨y.stop ρ' h' H' rel' xy hok, q' us ρ' H' rel' (x'.mono a hm0) na x' ea ia⟩
        · rw [if_neg hok] at q'; exact q'.elim
theorem lst_nt {a : Addr} {us : List V} (e5 : H a = some (.lst us)) : ∀ xs, H a ≠ some (.tup xs) ∧ ∀ ob u, H a ≠ some (.frz ob u) := fun xs => ⟨(fun z => by rw [e5] at z; cases z), (fun ob u z => by rw [e5] at z; cases z)⟩
/-- the list in the making is done: it stays as it is -/
theorem comp_end {ρ1 ρ2 : Lc} {H1 H2 : Hp} {h1 h2 : DH} {a : Addr} {us : List V} {xs : List D} (rel1 : HRel g ρ1 h1 H1) (r2 : HRel g ρ2 h2 H2) (m2 : a ∈ ρ2.mt) (n2 : a ∉ ρ2.ad) (x2 : Ext (ρ1.hold a) (upd H1 a (.lst [])) ρ2 (upd H2 a (.lst []))) (e2 : H2 a = some (.lst us)) (ha : H1 a = none) (i2 : IsDs g ρ2 H2 xs us) :
    HRel g (ρ2.drop a) h2 H2 ∧ Ext ρ1 H1 (ρ2.drop a) H2 ∧ IsD g (ρ2.drop a) H2 (.lst xs) (.ref a) := by
  have bt : But ρ2 a (ρ2.drop a) H2 H2 := ⟨⟨[], by simp [Lc.drop]⟩, fun b hb z => hb (List.mem_filter.mp z).1, fun _ _ => rfl⟩
  have ne1 : ∀ {b o}, H1 b = some o → b ≠ a := fun e z => by subst z; rw [ha] at e; cases e
  refine ⟨r2.but rfl m2 n2 (lst_nt e2) bt fun c hc => r2.trk c (List.mem_filter.mp hc).1, ⟨x2.pre, fun b o e n => ?_, fun b z n => ?_, fun b z n => ?_, fun b z => ?_⟩, .lst e2 (Lc.not_drop n2) (i2.but r2 m2 (lst_nt e2) bt)⟩
  · obtain ⟨o', e', l⟩ := x2.keep b o (by rw [upd_ne (ne1 e)]; exact e) n
    rw [upd_ne (ne1 e)] at e'
    exact ⟨o', e', l⟩
  · have nb : b ≠ a := fun q => by subst q; exact n2 z
    have := x2.newC b z n
    rw [upd_ne nb] at this; exact this
  · obtain ⟨z1, z2⟩ := List.mem_filter.mp z
    have nb : b ≠ a := by
      rcases of_decide_eq_true z2 with q | q
      · exact q
      · intro w; subst w; exact n2 q
    have := x2.new b z1 fun w => by
      rcases List.mem_append.mp w with w | w
      · exact n w
      · exact nb (by simpa using w)
    rw [upd_ne nb] at this; exact this
  · obtain ⟨o, e⟩ := rel1.trk b z
    exact List.mem_filter.mpr ⟨x2.mono b (List.mem_append_left _ z), decide_eq_true (.inl (ne1 e))⟩
/-- .. it is a cell from now on -/
theorem comp_cell {ρ1 ρ2 : Lc} {H1 H2 : Hp} {h1 h2 : DH} {a : Addr} {us : List V} {xs : List D} (rel1 : HRel g ρ1 h1 H1) (r2 : HRel g ρ2 h2 H2) (m2 : a ∈ ρ2.mt) (n2 : a ∉ ρ2.ad) (x2 : Ext (ρ1.hold a) (upd H1 a (.lst [])) ρ2 (upd H2 a (.lst []))) (e2 : H2 a = some (.lst us)) (ha : H1 a = none) (i2 : IsDs g ρ2 H2 xs us) :
    ∃ ρ3, HRel g ρ3 (h2 ++ [.lst xs]) H2 ∧ Ext ρ1 H1 ρ3 H2 ∧ IsD g ρ3 H2 (.ref h2.length) (.ref a) := by
  let ρ3 : Lc := ⟨ρ2.ad ++ [a], ρ2.mt, fun b hb => (List.mem_append.mp hb).elim (ρ2.sub b) fun z => by
    have e : b = a := by simpa using z
    rw [e]; exact m2⟩
  have bt : But ρ2 a ρ3 H2 H2 := ⟨⟨[a], rfl⟩, fun b hb => hb, fun _ _ => rfl⟩
  have ne1 : ∀ {b o}, H1 b = some o → b ≠ a := fun e z => by subst z; rw [ha] at e; cases e
  refine ⟨ρ3, ⟨by simp [ρ3, r2.len], ?_, fun b hb => r2.trk b hb, fun l c e => ?_⟩, ⟨?_, fun b o e n => ?_, fun b z n => ?_, fun b z n => ?_, fun b z => x2.mono b (List.mem_append_left _ z)⟩, .ref ?_⟩
  · refine List.nodup_append.mpr ⟨r2.nd, by simp, fun b hb c hc z => ?_⟩
    have e : c = a := by simpa using hc
    rw [z, e] at hb
    exact n2 hb
  · by_cases hl : l < h2.length
    · rw [List.getElem?_append_left hl] at e
      obtain ⟨p, o, e1, e2', e3⟩ := r2.cell l c e
      refine ⟨p, o, ?_, e2', e3.but r2 m2 (lst_nt e2) bt⟩
      show (ρ2.ad ++ [a])[l]? = some p
      rw [List.getElem?_append_left (by rw [r2.len]; exact hl)]; exact e1
    · rw [List.getElem?_append_right (by omega)] at e
      have z : l - h2.length = 0 := by
        rcases Nat.lt_or_ge (l - h2.length) 1 with q | q
        · omega
        · rw [List.getElem?_eq_none (by simpa using q)] at e; cases e
      rw [z] at e
      have e' : Cell.lst xs = c := by simpa using e
      subst e'
      refine ⟨a, _, ?_, e2, .lst (i2.but r2 m2 (lst_nt e2) bt)⟩
      show (ρ2.ad ++ [a])[l]? = some a
      rw [List.getElem?_append_right (by rw [r2.len]; omega), r2.len, z]; rfl
  · obtain ⟨l, e⟩ := x2.pre
    exact ⟨l ++ [a], by show ρ2.ad ++ [a] = _; rw [e]; simp [Lc.hold]⟩
  · obtain ⟨o', e', l⟩ := x2.keep b o (by rw [upd_ne (ne1 e)]; exact e) n
    rw [upd_ne (ne1 e)] at e'
    exact ⟨o', e', l⟩
  · by_cases hb : b = a
    · rw [hb]; exact ha
    · rcases List.mem_append.mp z with z | z
      · have := x2.newC b z n
        rw [upd_ne hb] at this; exact this
      · exact absurd (by simpa using z) hb
  · by_cases hb : b = a
    · rw [hb]; exact ha
    · have := x2.new b z fun w => by
        rcases List.mem_append.mp w with w | w
        · exact n w
        · exact hb (by simpa using w)
      rw [upd_ne hb] at this; exact this
  · show (ρ2.ad ++ [a])[h2.length]? = some a
    rw [List.getElem?_append_right (by rw [r2.len]; omega), r2.len]; simp

/-- the reading's premise, from the denotation -/
theorem comp_pre {vs : List Nat} {mi : DI} {p : Pat} {t : DM Bool} {e : DE} {σ : L2.St} {ρ : Lc} {sd : Sl} {h : DH} {H : Hp} {Q : VK} {k : List D → DH → R D} (rel : HRel g ρ h H) (sl : Slots g ρ H sd σ) (q : Post g ρ H (IsD g) ((eLcs vs mi p t e sd h).bind k) Q E)
    (hno : ∀ it h1 x h2, mi sd h = .ok it h1 → compD p t e it.ok (wipeD sd vs) it.xs [] h1 ≠ .exc x h2)
    (hk : ∀ (ρ1 ρ2 : Lc) (H1 H2 : Hp) (h1 h2 : DH) (a : Addr) (us : List V) (xs : List D), HRel g ρ1 h1 H1 → HRel g ρ2 h2 H2 → a ∈ ρ2.mt → a ∉ ρ2.ad → Ext (ρ1.hold a) (upd H1 a (.lst [])) ρ2 (upd H2 a (.lst [])) → H2 a = some (.lst us) → H1 a = none → IsDs g ρ2 H2 xs us → Post g ρ1 H1 (IsD g) (k xs h2) Q E → Q (.ref a) H2) :
    ∃ ρ sd h, HRel g ρ h H ∧ Slots g ρ H sd σ ∧ match mi sd h with
      | .ok it h1 => ∀ ρ1 H1, HRel g ρ1 h1 H1 → Ext ρ H ρ1 H1 → match compD p t e it.ok (wipeD sd vs) it.xs [] h1 with
          | .ok xs h2 => ∀ a us ρ2 H2, HRel g ρ2 h2 H2 → a ∈ ρ2.mt → a ∉ ρ2.ad → Ext (ρ1.hold a) (upd H1 a (.lst [])) ρ2 (upd H2 a (.lst [])) → H2 a = some (.lst us) → H1 a = none → IsDs g ρ2 H2 xs us → Q (.ref a) H2
          | .exc x h2 => False
          | .no => False
      | .exc x h1 => ∀ c d ρ' H', HRel g ρ' h1 H' → Ext ρ H ρ' H' → IsEx g ρ' H' x c d → E c d H'
      | .no => False := by
  refine ⟨ρ, sd, h, rel, sl, ?_⟩
  unfold eLcs at q
  cases em : mi sd h with
  | no => rw [em] at q; exact q.elim
  | exc x h1 => rw [em] at q; exact q
  | ok it h1 =>
    rw [em] at q
    simp only [Cp.R.bind_ok] at q
    intro ρ1 H1 rel1 x1
    have q1 := Post.ext q x1
    cases ec : compD p t e it.ok (wipeD sd vs) it.xs [] h1 with
    | no => rw [ec] at q1; exact q1.elim
    | exc x h2 => exact hno it h1 x h2 em ec
    | ok xs h2 =>
      rw [ec] at q1
      simp only [Cp.R.bind_ok] at q1
      exact fun a us ρ2 H2 r2 m2 n2 x2 e2 ha i2 => hk ρ1 ρ2 H1 H2 h1 h2 a us xs rel1 r2 m2 n2 x2 e2 ha i2 q1
/-- in a comprehension nothing may be raised: what raises is refused -/
def quiet {α : Type} (m : DM α) : DM α := fun sd h => match m sd h with
  | .exc _ _ => .no
  | r => r
theorem quiet_no {α : Type} {m : DM α} {sd : Sl} {h : DH} {x : Ex} {h1 : DH} : quiet m sd h ≠ .exc x h1 := fun z => by
  unfold quiet at z
  cases e : m sd h <;> rw [e] at z <;> cases z
theorem quiet_E {m : DE} {σ : L2.St} {H : Hp} {Q : VK} (hq : tE g w0 (quiet m) σ H Q) : tE g w0 m σ H Q := by
  obtain ⟨ρ, sd, h, rel, sl, p⟩ := hq
  refine ⟨ρ, sd, h, rel, sl, ?_⟩
  unfold quiet at p
  cases e : m sd h <;> rw [e] at p <;> first | exact p | exact p.elim
theorem quiet_B {m : DM Bool} {σ : L2.St} {H : Hp} {Q : Bool → Hp → Prop} (hq : tB g w0 (quiet m) σ H Q) : tB g w0 m σ H Q := by
  obtain ⟨ρ, sd, h, rel, sl, p⟩ := hq
  refine ⟨ρ, sd, h, rel, sl, ?_⟩
  unfold quiet at p
  cases e : m sd h <;> rw [e] at p <;> first | exact p | exact p.elim
theorem comp_noexc {p : Pat} {t : DM Bool} {e : DE} {ok : DH → Bool} {wd : Sl} (ht : ∀ sd h x h1, t sd h ≠ .exc x h1) (he : ∀ sd h x h1, e sd h ≠ .exc x h1) : ∀ (ds acc : List D) (h : DH) (x : Ex) (h1 : DH), compD p t e ok wd ds acc h ≠ .exc x h1
  | [], acc, h, x, h1 => by
    unfold compD
    split <;> intro z <;> cases z
  | d :: ds, acc, h, x, h1 => by
    unfold compD
    split
    · split
      · rename_i sd1 _
        cases et : t sd1 h with
        | no => intro z; cases z
        | exc x h1 => exact absurd et (ht _ _ _ _)
        | ok b h2 =>
          simp only [Cp.R.bind_ok]
          split
          · cases ee : e sd1 h2 with
            | no => intro z; cases z
            | exc x h1 => exact absurd ee (he _ _ _ _)
            | ok y h3 =>
              simp only [Cp.R.bind_ok]
              split
              · exact comp_noexc ht he ds _ _ _ _
              · intro z; cases z
          · exact comp_noexc ht he ds _ _ _ _
      · intro z; cases z
    · intro z; cases z

abbrev JTs (X : Cx) (g : G) (W : WX) (ifs : List Expr) (m : DM Bool) : Prop := PTs X ifs (tB g W m)
theorem jts_nil {W : WX} : JTs X g W [] bYes := ⟨fun pins s σ H Q I hq => pts_nil.run pins s σ H Q I (by
  obtain ⟨ρ, sd, h, rel, sl, p⟩ := hq
  exact p.fin rel rfl)⟩
theorem jts_one {W : WX} {c : Expr} {m : DM Bool} (h : JT X g W c m) : JTs X g W [c] m := pts_one h
section
variable {elt tg iter : Expr} {ifs : List Expr} {scope : Scope} {own : List (Str × Nat)} {pos : Pos} {mi : DI} {p : Pat} {t : DM Bool} {e : DE}
theorem j_lc (hK : g.K = X.K) (hc : X.calm = true) (hN : X.N.Nodup) (hi : JI X g E tg iter mi) (ok : BlkOk X.N X.env.scope scope own)
    (hg : ∀ (s : Shared) (H : Hp) (C : Addr) (cl : List (Str × Addr)) (fp : List Addr), PG (X.blk s H scope (compEnvC scope cl C X.env) fp) tg (p.g X.K)) (ht : ∀ (s : Shared) (H : Hp) (C : Addr) (cl : List (Str × Addr)) (fp : List Addr), JTs (X.blk s H scope (compEnvC scope cl C X.env) fp) g w0 ifs t)
    (he : ∀ (s : Shared) (H : Hp) (C : Addr) (cl : List (Str × Addr)) (fp : List Addr), JE (X.blk s H scope (compEnvC scope cl C X.env) fp) g w0 elt e) (hix : ∀ i ∈ p.ix, i ∈ own.map (·.2) := by decide) (hs : ∀ x, foldedSetIterable iter X.env x = pure x := by intro _; rfl) :
    JE X g (wx E) (.ListComp elt [⟨tg, iter, ifs, 0⟩] scope pos) (eLc (own.map (·.2)) mi p (quiet t) (quiet e)) := by
  refine (pe_lc hc hN hi ok hg (fun s H C cl fp => ⟨fun pins s' σ H Q I q => (ht s _ C cl fp).run pins s' σ H Q I (quiet_B q)⟩) (fun s H C cl fp => (he s H C cl fp).imp fun _ _ _ q => quiet_E q) hs).imp fun σ H Q hq => ?_
  obtain ⟨ρ, sd, h, rel, sl, q⟩ := hq
  refine comp_core hK hix (comp_pre rel sl q (fun it h1 x h2 _ => comp_noexc (fun _ _ _ _ => quiet_no) (fun _ _ _ _ => quiet_no) _ _ _ _ _) ?_)
  intro ρ1 ρ2 H1 H2 h1 h2 a us xs rel1 r2 m2 n2 x2 e2 ha i2 pp
  obtain ⟨q1, q2, q3⟩ := comp_end rel1 r2 m2 n2 x2 e2 ha i2
  exact pp _ _ _ q1 q2 q3
theorem j_lcM (hK : g.K = X.K) (hc : X.calm = true) (hN : X.N.Nodup) (hi : JI X g E tg iter mi) (ok : BlkOk X.N X.env.scope scope own)
    (hg : ∀ (s : Shared) (H : Hp) (C : Addr) (cl : List (Str × Addr)) (fp : List Addr), PG (X.blk s H scope (compEnvC scope cl C X.env) fp) tg (p.g X.K)) (ht : ∀ (s : Shared) (H : Hp) (C : Addr) (cl : List (Str × Addr)) (fp : List Addr), JTs (X.blk s H scope (compEnvC scope cl C X.env) fp) g w0 ifs t)
    (he : ∀ (s : Shared) (H : Hp) (C : Addr) (cl : List (Str × Addr)) (fp : List Addr), JE (X.blk s H scope (compEnvC scope cl C X.env) fp) g w0 elt e) (hix : ∀ i ∈ p.ix, i ∈ own.map (·.2) := by decide) (hs : ∀ x, foldedSetIterable iter X.env x = pure x := by intro _; rfl) :
    JE X g (wx E) (.ListComp elt [⟨tg, iter, ifs, 0⟩] scope pos) (eLcM (own.map (·.2)) mi p (quiet t) (quiet e)) := by
  refine (pe_lc hc hN hi ok hg (fun s H C cl fp => ⟨fun pins s' σ H Q I q => (ht s _ C cl fp).run pins s' σ H Q I (quiet_B q)⟩) (fun s H C cl fp => (he s H C cl fp).imp fun _ _ _ q => quiet_E q) hs).imp fun σ H Q hq => ?_
  obtain ⟨ρ, sd, h, rel, sl, q⟩ := hq
  refine comp_core hK hix (comp_pre rel sl q (fun it h1 x h2 _ => comp_noexc (fun _ _ _ _ => quiet_no) (fun _ _ _ _ => quiet_no) _ _ _ _ _) ?_)
  intro ρ1 ρ2 H1 H2 h1 h2 a us xs rel1 r2 m2 n2 x2 e2 ha i2 pp
  obtain ⟨ρ3, q1, q2, q3⟩ := comp_cell rel1 r2 m2 n2 x2 e2 ha i2
  exact pp _ _ _ q1 q2 q3
/-- y = [..] -/
theorem j_setLc {i : Nat} {y : Str} {py spos : Pos} (hK : g.K = X.K) (hc : X.calm = true) (hN : X.N.Nodup) (hi : JI X g E tg iter mi) (ok : BlkOk X.N X.env.scope scope own)
    (hg : ∀ (s : Shared) (H : Hp) (C : Addr) (cl : List (Str × Addr)) (fp : List Addr), PG (X.blk s H scope (compEnvC scope cl C X.env) fp) tg (p.g X.K)) (ht : ∀ (s : Shared) (H : Hp) (C : Addr) (cl : List (Str × Addr)) (fp : List Addr), JTs (X.blk s H scope (compEnvC scope cl C X.env) fp) g w0 ifs t)
    (he : ∀ (s : Shared) (H : Hp) (C : Addr) (cl : List (Str × Addr)) (fp : List Addr), JE (X.blk s H scope (compEnvC scope cl C X.env) fp) g w0 elt e)
    (hsw : swapsWith (.ListComp elt [⟨tg, iter, ifs, 0⟩] scope pos) (some (.Name y py)) spos.line X.env = pure true) (hy : X.N[i]? = some y := by rfl) (hyl : X.env.scope.names.lookup y = some .local := by rfl) (hix : ∀ i ∈ p.ix, i ∈ own.map (·.2) := by decide) (hs : ∀ x, foldedSetIterable iter X.env x = pure x := by intro _; rfl) :
    JS X g E (.Assign [.Name y py] (.ListComp elt [⟨tg, iter, ifs, 0⟩] scope pos) spos) (sSet i (eLc (own.map (·.2)) mi p (quiet t) (quiet e))) := by
  refine (ps_setLc hc hN hy hyl hsw hi ok hg (fun s H C cl fp => ⟨fun pins s' σ H Q I q => (ht s _ C cl fp).run pins s' σ H Q I (quiet_B q)⟩) (fun s H C cl fp => (he s H C cl fp).imp fun _ _ _ q => quiet_E q) hs).imp fun Dn σ H hq => ?_
  obtain ⟨ρ, sd, h, rel, sl, q⟩ := hq
  have hq := inES (Q' := fun v H' => Dn.nx (σ.set i (some v)) H') rel sl q fun d h1 v ρ1 H1 rel1 x1 sl1 i1 p1 => p1.nxt rel1 (sl1.set i i1)
  obtain ⟨ρ, sd, h, rel, sl, q⟩ := hq
  refine comp_core hK hix (comp_pre rel sl q (fun it h1 x h2 _ => comp_noexc (fun _ _ _ _ => quiet_no) (fun _ _ _ _ => quiet_no) _ _ _ _ _) ?_)
  intro ρ1 ρ2 H1 H2 h1 h2 a us xs rel1 r2 m2 n2 x2 e2 ha i2 pp
  obtain ⟨q1, q2, q3⟩ := comp_end rel1 r2 m2 n2 x2 e2 ha i2
  exact pp _ _ _ q1 q2 q3
end
end
end Cp

set_option maxHeartbeats 4000000
namespace Cp
open PySem PySem.Spec PyProof.Rows L2

mutual
def bnd (n : Nat) : D → Bool
  | .ref l => Nat.blt l n
  | .tup xs => bnds n xs
  | .lst xs => bnds n xs
  | .dct kvs => bndk n kvs
  | .obj _ fs => bndf n fs
  | _ => true
def bnds (n : Nat) : List D → Bool
  | [] => true
  | x :: xs => bnd n x && bnds n xs
def bndk (n : Nat) : List (D × D) → Bool
  | [] => true
  | x :: xs => bnd n x.2 && bndk n xs
def bndf (n : Nat) : List (Str × D) → Bool
  | [] => true
  | x :: xs => bnd n x.2 && bndf n xs
end
def bndC (n : Nat) : Cell → Bool
  | .lst xs => bnds n xs
  | .dct kvs => bndk n kvs
  | .ins _ fs => bndf n fs
/-- a result, its new cells read out -/
def frz (n : Nat) (h : DH) : D → Option D
  | .ref l => if Nat.blt l n = true then some (.ref l) else match h[l]? with
    | some (.lst xs) => if bnds n xs = true then some (.lst xs) else none
    | some (.dct kvs) => if bndk n kvs = true then some (.dct kvs) else none
    | some (.ins c fs) => if bndf n fs = true then some (.obj c fs) else none
    | none => none
  | d => if bnd n d = true then some d else none
section
variable {g : G} {ρ ρ1 ρ' : Lc} {h h1 : DH} {H H1 : Hp} {n : Nat}
/-- cut to the first n cells -/
structure Cut (ρ1 ρ' : Lc) (n : Nat) : Prop where
  ad : ρ'.ad = ρ1.ad.take n
  mt : ∀ a, a ∈ ρ'.mt → a ∈ ρ1.mt
  off : ∀ a, a ∈ ρ1.ad → a ∉ ρ'.ad → a ∉ ρ'.mt
mutual
theorem IsD.cut (c : Cut ρ1 ρ' n) : ∀ {d : D} {v : V}, IsD g ρ1 H d v → bnd n d = true → IsD g ρ' H d v
  | _, _, .non, _ => .non
  | _, _, .bl b, _ => .bl b
  | _, _, .int i, _ => .int i
  | _, _, .str x, _ => .str x
  | _, _, .tup q r, e => .tup q (IsDs.cutD c r (by rw [bnd] at e; exact e))
  | _, _, .lst q k r, e => .lst q (fun z => k (c.mt _ z)) (IsDs.cutD c r (by rw [bnd] at e; exact e))
  | _, _, .scr q, e => .scr (q.elim (fun z => .inl ⟨z.1, fun w => z.2 (c.mt _ w)⟩) .inr)
  | _, _, .dK q k r, e => .dK q (fun z => k (c.mt _ z)) (IsKs.cutD c r (by rw [bnd] at e; exact e))
  | _, _, .dT q k r, e => .dT q (fun z => k (c.mt _ z)) (IsTs.cutD c r (by rw [bnd] at e; exact e))
  | _, _, .obj m q k r, e => .obj m q (fun z => k (c.mt _ z)) (IsFs.cutD c r (by rw [bnd] at e; exact e))
  | _, _, .set q k r, e => .set q (fun z => k (c.mt _ z)) r
  | _, _, .ref (l := l) q, e => .ref (by
      rw [bnd] at e
      have hl : l < n := Nat.le_of_ble_eq_true e
      rw [c.ad, List.getElem?_take_of_lt hl]; exact q)
  | _, _, .glo m, _ => .glo m
theorem IsDs.cutD (c : Cut ρ1 ρ' n) : ∀ {ds : List D} {vs : List V}, IsDs g ρ1 H ds vs → bnds n ds = true → IsDs g ρ' H ds vs
  | _, _, .nil, _ => .nil
  | _, _, .cons a t, e => by
    rw [bnds, Bool.and_eq_true] at e
    exact .cons (IsD.cut c a e.1) (IsDs.cutD c t e.2)
theorem IsFs.cutD (c : Cut ρ1 ρ' n) : ∀ {ds : List (Str × D)} {vs : List (Str × V)}, IsFs g ρ1 H ds vs → bndf n ds = true → IsFs g ρ' H ds vs
  | _, _, .nil, _ => .nil
  | _, _, .cons a t, e => by
    rw [bndf, Bool.and_eq_true] at e
    exact .cons (IsD.cut c a e.1) (IsFs.cutD c t e.2)
theorem IsKs.cutD (c : Cut ρ1 ρ' n) : ∀ {ds : List (D × D)} {vs : List (Key × V)}, IsKs g ρ1 H ds vs → bndk n ds = true → IsKs g ρ' H ds vs
  | _, _, .nil, _ => .nil
  | _, _, .int a t, e => by
    rw [bndk, Bool.and_eq_true] at e
    exact .int (IsD.cut c a e.1) (IsKs.cutD c t e.2)
  | _, _, .str a t, e => by
    rw [bndk, Bool.and_eq_true] at e
    exact .str (IsD.cut c a e.1) (IsKs.cutD c t e.2)
theorem IsTs.cutD (c : Cut ρ1 ρ' n) : ∀ {ds : List (D × D)} {vs : List (List Key × V)}, IsTs g ρ1 H ds vs → bndk n ds = true → IsTs g ρ' H ds vs
  | _, _, .nil, _ => .nil
  | _, _, .cons a t, e => by
    rw [bndk, Bool.and_eq_true] at e
    exact .cons (IsD.cut c a e.1) (IsTs.cutD c t e.2)
end
theorem CellOk.cut (c : Cut ρ1 ρ' n) {x : Cell} {o : HO} (k : CellOk g ρ1 H x o) (e : bndC n x = true) : CellOk g ρ' H x o := by
  cases k with
  | lst r => exact .lst (r.cutD c e)
  | dK r => exact .dK (r.cutD c e)
  | dT r => exact .dT (r.cutD c e)
  | ins m r => exact .ins m (r.cutD c e)
mutual
/-- what stands names only cells that are there -/
theorem IsD.bnd (hn : ρ.ad.length ≤ n) : ∀ {d : D} {v : V}, IsD g ρ H d v → Cp.bnd n d = true
  | _, _, .non => by rw [Cp.bnd]; all_goals (intros; contradiction)
  | _, _, .bl b => by rw [Cp.bnd]; all_goals (intros; contradiction)
  | _, _, .int i => by rw [Cp.bnd]; all_goals (intros; contradiction)
  | _, _, .str x => by rw [Cp.bnd]; all_goals (intros; contradiction)
  | _, _, .tup q r => by rw [Cp.bnd]; exact IsDs.bnd hn r
  | _, _, .lst q k r => by rw [Cp.bnd]; exact IsDs.bnd hn r
  | _, _, .scr q => by rw [Cp.bnd]; all_goals (intros; contradiction)
  | _, _, .dK q k r => by rw [Cp.bnd]; exact IsKs.bnd hn r
  | _, _, .dT q k r => by rw [Cp.bnd]; exact IsTs.bnd hn r
  | _, _, .obj m q k r => by rw [Cp.bnd]; exact IsFs.bnd hn r
  | _, _, .set q k r => by rw [Cp.bnd]; all_goals (intros; contradiction)
  | _, _, .ref q => by
    rw [Cp.bnd]
    exact Nat.ble_eq_true_of_le (Nat.lt_of_lt_of_le (List.getElem?_eq_some_iff.mp q).1 hn)
  | _, _, .glo m => by rw [Cp.bnd]; all_goals (intros; contradiction)
theorem IsDs.bnd (hn : ρ.ad.length ≤ n) : ∀ {ds : List D} {vs : List V}, IsDs g ρ H ds vs → Cp.bnds n ds = true
  | _, _, .nil => by rw [Cp.bnds]
  | _, _, .cons a t => by rw [Cp.bnds, IsD.bnd hn a, IsDs.bnd hn t]; rfl
theorem IsFs.bnd (hn : ρ.ad.length ≤ n) : ∀ {ds : List (Str × D)} {vs : List (Str × V)}, IsFs g ρ H ds vs → Cp.bndf n ds = true
  | _, _, .nil => by rw [Cp.bndf]
  | _, _, .cons a t => by rw [Cp.bndf, IsD.bnd hn a, IsFs.bnd hn t]; rfl
theorem IsKs.bnd (hn : ρ.ad.length ≤ n) : ∀ {ds : List (D × D)} {vs : List (Key × V)}, IsKs g ρ H ds vs → Cp.bndk n ds = true
  | _, _, .nil => by rw [Cp.bndk]
  | _, _, .int a t => by rw [Cp.bndk, IsD.bnd hn a, IsKs.bnd hn t]; rfl
  | _, _, .str a t => by rw [Cp.bndk, IsD.bnd hn a, IsKs.bnd hn t]; rfl
theorem IsTs.bnd (hn : ρ.ad.length ≤ n) : ∀ {ds : List (D × D)} {vs : List (List Key × V)}, IsTs g ρ H ds vs → Cp.bndk n ds = true
  | _, _, .nil => by rw [Cp.bndk]
  | _, _, .cons a t => by rw [Cp.bndk, IsD.bnd hn a, IsTs.bnd hn t]; rfl
end
theorem CellOk.bnd (hn : ρ.ad.length ≤ n) {c : Cell} {o : HO} (k : CellOk g ρ H c o) : bndC n c = true := by
  cases k with
  | lst r => exact r.bnd hn
  | dK r => exact r.bnd hn
  | dT r => exact r.bnd hn
  | ins m r => exact r.bnd hn
/-- the cells behind a call -/
def CellsOk (h h' : DH) : Prop := ∀ (l : Nat) (c : Cell), h'[l]? = some c → h[l]? = some c ∨ bndC h'.length c = true
theorem cut_ok (rel : HRel g ρ h H) (rel1 : HRel g ρ1 h1 H1) (x : Ext ρ H ρ1 H1) (hn : h.length ≤ n) (hn1 : n ≤ h1.length) (hc : CellsOk h (h1.take n)) :
    ∃ ρ', HRel g ρ' (h1.take n) H1 ∧ Ext ρ H ρ' H1 ∧ Cut ρ1 ρ' n := by
  have ht : (h1.take n).length = n := by simp; omega
  let ρ' : Lc := ⟨ρ1.ad.take n, ρ1.mt.filter fun a => decide (a ∉ ρ1.ad ∨ a ∈ ρ1.ad.take n), fun a ha => List.mem_filter.mpr ⟨ρ1.sub a (List.mem_of_mem_take ha), decide_eq_true (.inr ha)⟩⟩
  have cut : Cut ρ1 ρ' n := ⟨rfl, fun a ha => (List.mem_filter.mp ha).1, fun a ha na z => by
    rcases of_decide_eq_true (List.mem_filter.mp z).2 with q | q
    · exact q ha
    · exact na q⟩
  refine ⟨ρ', ⟨by simp [ρ', rel1.len], rel1.nd.sublist (List.take_sublist n ρ1.ad), fun a ha => rel1.trk a (cut.mt a ha), fun l c e => ?_⟩, ⟨?_, x.keep, fun a ha na => x.newC a (List.mem_of_mem_take ha) na, fun a ha na => x.new a (cut.mt a ha) na, fun a ha => ?_⟩, cut⟩
  · have hl : l < n := by
      have := (List.getElem?_eq_some_iff.mp e).1
      omega
    have e1 : h1[l]? = some c := by rw [List.getElem?_take_of_lt hl] at e; exact e
    obtain ⟨a, o, q1, q2, q3⟩ := rel1.cell l c e1
    refine ⟨a, o, by show (ρ1.ad.take n)[l]? = some a; rw [List.getElem?_take_of_lt hl]; exact q1, q2, q3.cut cut ?_⟩
    rcases hc l c e with z | z
    · obtain ⟨a', o', _, _, k⟩ := rel.cell l c z
      exact k.bnd (by rw [rel.len]; exact hn)
    · rw [ht] at z; exact z
  · obtain ⟨m, e⟩ := x.pre
    refine ⟨(m.take (n - ρ.ad.length)), ?_⟩
    show ρ1.ad.take n = _
    rw [e, List.take_append]
    rw [List.take_of_length_le (by rw [rel.len]; exact hn)]
  · refine List.mem_filter.mpr ⟨x.mono a ha, decide_eq_true ?_⟩
    by_cases h2 : a ∈ ρ1.ad
    · refine .inr ?_
      -- a was changeable before and is a cell now: it was a cell before
      have h3 : a ∈ ρ.ad := by
        by_cases h4 : a ∈ ρ.ad
        · exact h4
        · obtain ⟨o, eo⟩ := rel.trk a ha
          rw [x.newC a h2 h4] at eo; cases eo
      obtain ⟨m, e⟩ := x.pre
      rw [e, List.take_append, List.take_of_length_le (by rw [rel.len]; exact hn)]
      exact List.mem_append_left _ h3
    · exact .inl h2
theorem frz_ok (rel1 : HRel g ρ1 h1 H1) (hn1 : n ≤ h1.length) (c : Cut ρ1 ρ' n) {d1 d : D} {v : V} (i : IsD g ρ1 H1 d1 v) (e : frz n h1 d1 = some d) : IsD g ρ' H1 d v := by
  have plain : ∀ {d1 : D}, IsD g ρ1 H1 d1 v → (if bnd n d1 = true then some d1 else none) = some d → IsD g ρ' H1 d v := fun {d1} i e => by
    split at e
    · rename_i hb; cases e; exact i.cut c hb
    · cases e
  cases i with
  | @ref l a q =>
    unfold frz at e
    dsimp only at e
    by_cases hl : Nat.blt l n = true
    · rw [if_pos hl] at e
      cases e
      exact (IsD.ref q).cut c (by rw [bnd]; exact hl)
    · rw [if_neg hl] at e
      have hl' : n ≤ l := by
        have : ¬ l < n := fun z => hl (Nat.ble_eq_true_of_le z)
        omega
      have ha : a ∈ ρ1.ad := List.mem_of_getElem? q
      have hna : a ∉ ρ'.ad := fun z => by
        rw [c.ad] at z
        obtain ⟨j, hj, ej⟩ := List.getElem_of_mem z
        have hj' : j < n := by simp at hj; omega
        have e1 : ρ1.ad[j]? = some a := by
          have : (ρ1.ad.take n)[j]? = some a := by rw [List.getElem?_eq_getElem hj, ej]
          rw [List.getElem?_take_of_lt hj'] at this; exact this
        obtain ⟨b1, b2⟩ := List.getElem?_eq_some_iff.mp e1
        obtain ⟨b3, b4⟩ := List.getElem?_eq_some_iff.mp q
        have := (List.getElem_inj rel1.nd).mp (b2.trans b4.symm)
        omega
      have hm := c.off a ha hna
      cases hc : h1[l]? with
      | none => simp only [hc] at e; cases e
      | some x =>
        obtain ⟨a', o, q1, q2, q3⟩ := rel1.cell l x hc
        rw [q] at q1; cases q1
        cases q3 with
        | lst r =>
          simp only [hc] at e
          split at e
          · rename_i hb; cases e; exact .lst q2 hm (r.cutD c hb)
          · cases e
        | dK r =>
          simp only [hc] at e
          split at e
          · rename_i hb; cases e; exact .dK (.inl q2) hm (r.cutD c hb)
          · cases e
        | dT r =>
          simp only [hc] at e
          split at e
          · rename_i hb; cases e; exact .dT (.inl q2) hm (r.cutD c hb)
          · cases e
        | ins m r =>
          simp only [hc] at e
          split at e
          · rename_i hb; cases e; exact .obj m q2 hm (r.cutD c hb)
          · cases e
  | non => exact plain .non (by simpa [frz] using e)
  | bl b => exact plain (.bl b) (by simpa [frz] using e)
  | int b => exact plain (.int b) (by simpa [frz] using e)
  | str b => exact plain (.str b) (by simpa [frz] using e)
  | tup q r => exact plain (.tup q r) (by simpa [frz] using e)
  | lst q k r => exact plain (.lst q k r) (by simpa [frz] using e)
  | scr q => exact plain (.scr q) (by simpa [frz] using e)
  | dK q k r => exact plain (.dK q k r) (by simpa [frz] using e)
  | dT q k r => exact plain (.dT q k r) (by simpa [frz] using e)
  | obj m q k r => exact plain (.obj m q k r) (by simpa [frz] using e)
  | set q k r => exact plain (.set q k r) (by simpa [frz] using e)
  | glo m => exact plain (.glo m) (by simpa [frz] using e)
theorem IsEx.cut (c : Cut ρ1 ρ' n) {e : Ex} {v : Value} {d : Option Addr} (k : IsEx g ρ1 H1 e v d) (hb : bndf n e.fs = true) : IsEx g ρ' H1 e v d := by
  cases k with
  | bare m => exact .bare m
  | full m h n r => exact .full m h (fun z => n (c.mt _ z)) (r.cutD c hb)
end

inductive Wk (h : DH) : RS → R D → Prop
  | no {r : RS} : Wk h r .no
  | rt {d1 d : D} {h1 h' : DH} (hl : h.length ≤ h'.length) (ht : h' = h1.take h'.length) (hc : CellsOk h h') (e : frz h'.length h1 d1 = some d) : Wk h (.rt d1 h1) (.ok d h')
  | nx {sd : Sl} {h1 h' : DH} (hl : h.length ≤ h'.length) (ht : h' = h1.take h'.length) (hc : CellsOk h h') : Wk h (.nx sd h1) (.ok .non h')
  | exc {x : Ex} {h1 h' : DH} (hl : h.length ≤ h'.length) (ht : h' = h1.take h'.length) (hc : CellsOk h h') (e : bndf h'.length x.fs = true) : Wk h (.exc x h1) (.exc x h')
theorem CellsOk.refl (h : DH) : CellsOk h h := fun _ _ e => .inl e
/-- nothing but garbage behind -/
theorem Wk.plain {h t : DH} {d1 d : D} (e : frz h.length (h ++ t) d1 = some d) : Wk h (.rt d1 (h ++ t)) (.ok d h) := .rt (Nat.le_refl _) (by simp) (CellsOk.refl h) e
theorem Wk.same {h : DH} {d : D} (e : bnd h.length d = true) : Wk h (.rt d h) (.ok d h) := by
  refine .rt (Nat.le_refl _) (by simp) (CellsOk.refl h) ?_
  cases d <;> simp [frz, bnd] at e ⊢ <;> first | exact e | (intro z; exact absurd e (by omega)) | (try simp [e])
section
variable {g : G} {ρ : Lc} {h : DH} {H : Hp} {E : WE} {Q : VK}
theorem wk_post {r : RS} {R' : R D} (rel : HRel g ρ h H) (w : Wk h r R') (p : Post g ρ H (IsD g) R' Q E) : PostS g ρ H r { nx := fun _ H' => Q .non H', rt := Q } E := by
  have len : ∀ {h1 h' : DH}, h' = h1.take h'.length → h'.length ≤ h1.length := fun {h1 h'} e => by
    have := congrArg List.length e
    simp at this; omega
  cases w with
  | no => exact p.elim
  | @rt d1 d h1 h' hl ht hc e =>
    intro v ρ1 H1 rel1 x1 i1
    obtain ⟨ρ', r2, x2, c⟩ := cut_ok rel rel1 x1 hl (len ht) (by rw [← ht]; exact hc)
    exact p v ρ' H1 (by rw [ht]; exact r2) x2 (frz_ok rel1 (len ht) c i1 e)
  | @nx sd h1 h' hl ht hc =>
    intro σ' ρ1 H1 rel1 x1 _
    obtain ⟨ρ', r2, x2, c⟩ := cut_ok rel rel1 x1 hl (len ht) (by rw [← ht]; exact hc)
    exact p .non ρ' H1 (by rw [ht]; exact r2) x2 .non
  | @exc x h1 h' hl ht hc e =>
    intro cl d ρ1 H1 rel1 x1 i1
    obtain ⟨ρ', r2, x2, c⟩ := cut_ok rel rel1 x1 hl (len ht) (by rw [← ht]; exact hc)
    exact p cl d ρ' H1 (by rw [ht]; exact r2) x2 (i1.cut c e)
end
abbrev DF := List D → DH → R D
/-- a promise: the def does what F says -/
def spD (g : G) (n : Nat) (F : DF) : Sp := fun vs H Q E => ∃ ρ h ds, HRel g ρ h H ∧ IsDs g ρ H ds vs ∧ ds.length = n ∧ Post g ρ H (IsD g) (F ds h) Q E
def startD (N : List Str) (ds : List D) : Sl := ds.map some ++ List.replicate (N.length - ds.length) none
theorem start_ok {g : G} {ρ : Lc} {H : Hp} {N : List Str} {ds : List D} {vs : List V} (r : IsDs g ρ H ds vs) : Slots g ρ H (startD N ds) (L2.start N vs) := by
  unfold startD L2.start
  refine ⟨by simp [r.length], fun i d e => ?_⟩
  rw [r.length] at e
  by_cases hi : i < ds.length
  · rw [List.getElem?_append_left (by simpa using hi), List.getElem?_map] at e
    cases c : ds[i]? with
    | none => rw [c] at e; cases e
    | some d' =>
      rw [c] at e
      cases e
      obtain ⟨v, e1, r1⟩ := r.get c
      exact ⟨v, by rw [List.getElem?_append_left (by rw [List.length_map, ← r.length]; exact hi), List.getElem?_map, e1]; rfl, r1⟩
  · rw [List.getElem?_append_right (by simpa using hi), List.getElem?_replicate] at e
    split at e <;> cases e
section
variable {P : Program} {w : World} {K : PySem.W.Frag} {mg : Str → Option Value} {base : Heap} {x qual : Str} {params : Arguments} {body : List Stmt} {scope : Scope} {dvs : List V} {kws : List (Str × V)} {f : Addr} {fd : FuncData} {N ps : List Str} {k : Nat} {g : G}
/-- the context of a def's body -/
abbrev bodyCx (P : Program) (w : World) (K : PySem.W.Frag) (mg : Str → Option Value) (base : Heap) (N : List Str) (qual : Str) (scope : Scope) (f : Addr) (cdv : Value) (A : Around) (outer : List Env) (s : Shared) (H : Hp) (E : XK) : Cx := cxOf (L2.CX P w) P w K mg base N qual scope f cdv A outer s H E
theorem fn_D (F0 : FunD K x qual params body scope dvs kws f fd) (S : FnScope N ps scope) {n : Nat} (hn : n = ps.length) {b : DSt} {F : DF} (hF : ∀ ds h, ds.length = n → Wk h (b (startD N ds) h) (F ds h))
    (hb : ∀ (cdv : Value) (A : Around) (outer : List Env) (s : Shared) (H : Hp) (E : XK), Room k (A.deeper (envOfC qual scope s.heap.objs.size f cdv)) → JSs (bodyCx P w K mg base N qual scope f cdv A outer s H E) g E body b) :
    FnOk P w K mg base (L2.CX P w) (k + 1) f fd ps (spD g n F) := by
  refine F0.ok S (fun vs H Q E h => ?_) fun cdv A outer s H vs Q E hr h => ?_
  · obtain ⟨ρ, h, ds, rel, i, hl, p⟩ := h
    rw [← i.length, hl, hn]
  · obtain ⟨ρ, h, ds, rel, i, hl, p⟩ := h
    exact ⟨_, hb cdv A outer s H E hr, ρ, startD N ds, h, rel, start_ok i, wk_post rel (hF ds h hl) p⟩
end
section
variable {X : Cx} {g : G} {E : WE} {k n : Nat} {f C : Addr} {fd : FuncData} {ps : List Str} {F : DF} {dvs : List V} {dd : List D} {ds : List Value} {x m : Str} {p pos apos : Pos} {e o : Expr} {es : List Expr} {mo : DE} {ma : DM (List D)}
/-- what a callee may let out goes on -/
def PassE (X : Cx) (E : WE) : Prop := Passes (L2.CX X.prog X.w) X E
theorem passE_def {P : Program} {w : World} {K : PySem.W.Frag} {mg : Str → Option Value} {base : Heap} {N : List Str} {qual : Str} {scope : Scope} {f : Addr} {cdv : Value} {A : Around} {outer : List Env} {s : Shared} {H : Hp} {E : XK} :
    PassE (bodyCx P w K mg base N qual scope f cdv A outer s H E) E := passes_call (takes_of rfl rfl rfl rfl) fun _ _ _ _ h => h
theorem cx_none {P : Program} {w : World} {outer : List Env} {H : Hp} {s s' : Shared} {u : Value} (h : L2.CX P w outer H s (fun _ _ _ => False) u s') : False := by
  unfold L2.CX at h
  obtain ⟨_, h⟩ := h
  simp at h
theorem passE_none {X : Cx} : PassE X E0 := fun _ _ _ _ _ _ _ h => (cx_none h).elim
/-- defaults -/
def IsV (g : G) (dd : List D) (dvs : List V) : Prop := ∀ ρ H, IsDs g ρ H dd dvs
/-- how many arguments -/
def AL (m : DM (List D)) (n : Nat) : Prop := ∀ sd h xs h1, m sd h = .ok xs h1 → xs.length = n
theorem al_nil : AL asNil 0 := fun sd h xs h1 e => by cases e; rfl
theorem al_cons {a : DE} {r : DM (List D)} {n : Nat} (h : AL r n) : AL (asCons a r) (n + 1) := fun sd h0 xs h1 e => by
  unfold asCons at e
  cases c : a sd h0 with
  | no => rw [c] at e; cases e
  | exc x h2 => rw [c] at e; cases e
  | ok x h2 =>
    rw [c] at e
    simp only [Cp.R.bind_ok] at e
    cases c2 : r sd h2 with
    | no => rw [c2] at e; cases e
    | exc x h2 => rw [c2] at e; cases e
    | ok ys h3 =>
      rw [c2] at e
      cases e
      simp [h sd h2 ys h1 c2]
def eCall (F : DF) (dd : List D) (m : DM (List D)) : DE := fun sd h => (m sd h).bind fun ds h1 => F (ds ++ dd) h1
theorem j_call (G0 : FnOk X.prog X.w X.K X.mg X.base (L2.CX X.prog X.w) k f fd ps (spD g n F)) (hr : Room k X.A) (hg : Gl X x) (hm : X.mg x = some (.ref f)) (hk : PySem.W.keepIn X.K (.ref f) = true) (hb : Binds X.K fd ps ds) (hd : Vals dvs ds) (hdd : IsV g dd dvs) (hx : PassE X E)
    (ha : JA X g (wx E) (e :: es) ma) {j : Nat} (hj : AL ma j) (hn : j + dd.length = n := by rfl) (hdb : (x == ("__debug__" : Str)) = false := by decide) (he : starEach (e :: es) X.env = (false, eval e X.env) :: starEach es X.env := by rfl) (hpl : (backTo pos (starEach es X.env)).any (·.1) = false := by rfl) :
    JE X g (wx E) (.Call (.Name x p) (e :: es) [] pos) (eCall F dd ma) := by
  refine (pe_call G0 hr hg hm hk hb hd hx ha hdb he hpl).imp fun σ H Q hq => ?_
  obtain ⟨ρ, sd, h, rel, sl, q⟩ := hq
  unfold eCall at q
  cases c : ma sd h with
  | no => rw [c] at q; exact q.elim
  | exc y h1 => exact ⟨ρ, sd, h, rel, sl, by rw [c]; rw [c] at q; exact q⟩
  | ok xs h1 =>
    rw [c] at q
    refine ⟨ρ, sd, h, rel, sl, ?_⟩
    rw [c]
    intro vs ρ1 H1 rel1 x1 i1
    exact ⟨ρ1, h1, xs ++ dd, rel1, IsDs.append (hdd ρ1 H1) i1, by rw [List.length_append, hj sd h xs h1 c]; exact hn, Post.ext q x1⟩
theorem post_args {F : DF} {dd : List D} {ma : DM (List D)} {σ : L2.St} {H : Hp} {Q : VK} (hdd : IsV g dd dvs) {j : Nat} (hj : AL ma j) (hn : j + dd.length = n) (hq : tE g (wx E) (eCall F dd ma) σ H Q) : tAs g (wx E) ma σ H fun vs H1 => spD g n F (vs ++ dvs) H1 Q E := by
  obtain ⟨ρ, sd, h, rel, sl, q⟩ := hq
  unfold eCall at q
  cases c : ma sd h with
  | no => rw [c] at q; exact q.elim
  | exc y h1 => exact ⟨ρ, sd, h, rel, sl, by rw [c]; rw [c] at q; exact q⟩
  | ok xs h1 =>
    rw [c] at q
    refine ⟨ρ, sd, h, rel, sl, ?_⟩
    rw [c]
    intro vs ρ1 H1 rel1 x1 i1
    exact ⟨ρ1, h1, xs ++ dd, rel1, IsDs.append (hdd ρ1 H1) i1, by rw [List.length_append, hj sd h xs h1 c]; exact hn, Post.ext q x1⟩
theorem isv_nil : IsV g [] [] := fun _ _ => .nil
theorem j_call0 (G0 : FnOk X.prog X.w X.K X.mg X.base (L2.CX X.prog X.w) k f fd ps (spD g n F)) (hr : Room k X.A) (hg : Gl X x) (hm : X.mg x = some (.ref f)) (hk : PySem.W.keepIn X.K (.ref f) = true) (hb : Binds X.K fd ps ds) (hd : Vals dvs ds) (hdd : IsV g dd dvs) (hx : PassE X E)
    (hn : 0 + dd.length = n := by rfl) (hdb : (x == ("__debug__" : Str)) = false := by decide) : JE X g (wx E) (.Call (.Name x p) [] [] pos) (eCall F dd asNil) :=
  (pe_call0 G0 hr hg hm hk hb hd hx hdb).imp fun σ H Q hq => by
    have z := post_args hdd al_nil hn hq
    obtain ⟨ρ, sd, h, rel, sl, q⟩ := z
    exact Post.fin q rel .nil

/-- a new instance, made by __init__ (which does F), is what F' says -/
def MkWk (c : Str) (n : Nat) (F F' : DF) : Prop := ∀ ds h, ds.length = n → match F' ds h with
  | .no => True
  | .ok d h' => ∃ h1, F (.ref h.length :: ds) (h ++ [.ins c []]) = .ok .non h1 ∧ h.length ≤ h'.length ∧ h' = h1.take h'.length ∧ CellsOk h h' ∧ frz h'.length h1 (.ref h.length) = some d
  | .exc x h' => ∃ h1, F (.ref h.length :: ds) (h ++ [.ins c []]) = .exc x h1 ∧ h.length ≤ h'.length ∧ h' = h1.take h'.length ∧ CellsOk h h' ∧ bndf h'.length x.fs = true
theorem mk_pre {c : Str} {F F' : DF} (hgm : g.mg c = some (.ref C)) (w : MkWk c n F F') {vs : List V} {H : Hp} {Q : VK} (hs : spD g n F' vs H Q E) : ∀ x dx, H x = none → H dx = none → dx ≠ x →
    spD g (n + 1) F (.ref x :: vs) (upd (upd H dx (.own x)) x (.ins C dx [])) (fun v H2 => v = .non ∧ Q (.ref x) H2) E := by
  obtain ⟨ρ, h, ds, rel, i, hl, p⟩ := hs
  intro x dx hx hdx hne
  have hx1 : upd H dx (.own x) x = none := by rw [upd_ne hne.symm]; exact hx
  have rel1 := rel.laid hdx (.own x)
  have x1 : Ext ρ H ρ (upd H dx (.own x)) := Ext.laid hdx _
  have rel2 := rel1.more hx1 (c := .ins c []) (o := .ins C dx []) (.ins hgm .nil)
  have x2 : Ext ρ (upd H dx (.own x)) (ρ.more x) _ := Ext.cell hx1 (.ins C dx [])
  have x12 := x1.trans x2
  have ix : IsD g (ρ.more x) (upd (upd H dx (.own x)) x (.ins C dx [])) (.ref h.length) (.ref x) := .ref (by
    show (ρ.ad ++ [x])[h.length]? = some x
    rw [List.getElem?_append_right (by rw [rel.len]; omega), rel.len]; simp)
  refine ⟨ρ.more x, h ++ [.ins c []], .ref h.length :: ds, rel2, .cons ix (i.ext rel x12), by simp [hl], ?_⟩
  have ww := w ds h hl
  have len : ∀ {h1 h' : DH}, h' = h1.take h'.length → h'.length ≤ h1.length := fun {h1 h'} e => by
    have := congrArg List.length e
    simp at this; omega
  cases e : F' ds h with
  | no => rw [e] at p; exact p.elim
  | ok d h' =>
    rw [e] at p ww
    obtain ⟨h1, e1, hl1, ht, hc, ef⟩ := ww
    rw [e1]
    intro v ρ3 H3 rel3 x3 i3
    refine ⟨by cases i3; rfl, ?_⟩
    obtain ⟨ρ', r4, x4, c4⟩ := cut_ok rel rel3 (x12.trans x3) hl1 (len ht) (by rw [← ht]; exact hc)
    exact p (.ref x) ρ' H3 (by rw [ht]; exact r4) x4 (frz_ok rel3 (len ht) c4 (ix.ext rel2 x3) ef)
  | exc y h' =>
    rw [e] at p ww
    obtain ⟨h1, e1, hl1, ht, hc, ef⟩ := ww
    rw [e1]
    intro cl d ρ3 H3 rel3 x3 i3
    obtain ⟨ρ', r4, x4, c4⟩ := cut_ok rel rel3 (x12.trans x3) hl1 (len ht) (by rw [← ht]; exact hc)
    exact p cl d ρ' H3 (by rw [ht]; exact r4) x4 (i3.cut c4 ef)
theorem j_make {c : Str} {F' : DF} (hgK : g.mg = X.mg) (M : Mk X.K C f) (G0 : FnOk X.prog X.w X.K X.mg X.base (L2.CX X.prog X.w) k f fd ps (spD g (n + 1) F)) (w : MkWk c n F F') (hr : Room (k + 1) X.A) (hg : Gl X c) (hm : X.mg c = some (.ref C)) (hb : Binds X.K fd ps ds) (hd : Vals dvs ds) (hdd : IsV g dd dvs) (hx : PassE X E)
    (ha : JA X g (wx E) (e :: es) ma) {j : Nat} (hj : AL ma j) (hn : j + dd.length = n := by rfl) (hdb : (c == ("__debug__" : Str)) = false := by decide) (he : starEach (e :: es) X.env = (false, eval e X.env) :: starEach es X.env := by rfl) (hpl : (backTo pos (starEach es X.env)).any (·.1) = false := by rfl) :
    JE X g (wx E) (.Call (.Name c p) (e :: es) [] pos) (eCall F' dd ma) :=
  (pe_make M G0 hr hg hm hb hd hx ha hdb he hpl).imp fun σ H Q hq => tAs.mono (post_args hdd hj hn hq) fun vs H1 hs => mk_pre (by rw [hgK]; exact hm) w hs
theorem j_make0 {c : Str} {F' : DF} (hgK : g.mg = X.mg) (M : Mk X.K C f) (G0 : FnOk X.prog X.w X.K X.mg X.base (L2.CX X.prog X.w) k f fd ps (spD g (n + 1) F)) (w : MkWk c n F F') (hr : Room (k + 1) X.A) (hg : Gl X c) (hm : X.mg c = some (.ref C)) (hb : Binds X.K fd ps ds) (hd : Vals dvs ds) (hdd : IsV g dd dvs) (hx : PassE X E)
    (hn : 0 + dd.length = n := by rfl) (hdb : (c == ("__debug__" : Str)) = false := by decide) : JE X g (wx E) (.Call (.Name c p) [] [] pos) (eCall F' dd asNil) :=
  (pe_make0 M G0 hr hg hm hb hd hx hdb).imp fun σ H Q hq => by
    have z := tAs.mono (post_args hdd al_nil hn hq) fun vs H1 hs => mk_pre (g := g) (by rw [hgK]; exact hm) w hs
    obtain ⟨ρ, sd, h, rel, sl, q⟩ := z
    exact fun x dx a b c => Post.fin q rel .nil x dx a b c
/-- an instance of the class c, by value or by place: its attributes -/
def fldsD (c : Str) (d : D) (h : DH) : Option (List (Str × D)) := match d with
  | .obj c' fs => if c' = c then some fs else none
  | .ref l => (match h[l]? with
    | some (.ins c' fs) => if c' = c then some fs else none
    | _ => none)
  | _ => none
def eFld (c f : Str) (m : DE) : DE := fun sd h => (m sd h).bind fun d h1 => match fldsD c d h1 with
  | some fs => ofO (fs.lookup f) h1
  | none => .no
theorem IsFs.lookup {ρ : Lc} {H : Hp} {f : Str} : ∀ {fs : List (Str × D)} {vs : List (Str × V)}, IsFs g ρ H fs vs → (∀ d, fs.lookup f = some d → ∃ v, vs.lookup f = some v ∧ IsD g ρ H d v) ∧ (fs.lookup f = none → vs.lookup f = none)
  | _, _, .nil => ⟨(fun d e => by cases e), (fun _ => rfl)⟩
  | _, _, @IsFs.cons _ _ _ n d v ds vs a t => by
    rw [List.lookup_cons, List.lookup_cons]
    cases c : (f == n) with
    | true => exact ⟨(fun d' e => by cases e; exact ⟨v, rfl, a⟩), (fun e => by cases e)⟩
    | false => exact IsFs.lookup t
theorem flds_ok {c : Str} {ρ : Lc} {h : DH} {H : Hp} {d : D} {v : V} {fs : List (Str × D)} (rel : HRel g ρ h H) (hm : g.mg c = some (.ref C)) (i : IsD g ρ H d v) (e : fldsD c d h = some fs) : ∃ a dx fvs, v = .ref a ∧ H a = some (.ins C dx fvs) ∧ IsFs g ρ H fs fvs := by
  cases i with
  | obj m q n r =>
    unfold fldsD at e
    dsimp only at e
    split at e
    · rename_i ec
      subst ec; cases e
      rw [hm] at m; cases m
      exact ⟨_, _, _, rfl, q, r⟩
    · cases e
  | @ref l a q =>
    unfold fldsD at e
    dsimp only at e
    cases cc : h[l]? with
    | none => simp only [cc] at e; cases e
    | some x =>
      obtain ⟨a', o, e1, e2, k⟩ := rel.cell l x cc
      rw [q] at e1; cases e1
      cases k with
      | ins m r =>
        simp only [cc] at e
        split at e
        · rename_i ec
          subst ec; cases e
          rw [hm] at m; cases m
          exact ⟨_, _, _, rfl, e2, r⟩
        · cases e
      | _ => simp only [cc] at e; cases e
  | _ => cases e
theorem j_fld {c fl : Str} (hgK : g.mg = X.mg) (hm : X.mg c = some (.ref C)) (cl : Cls X.K C) (na : NoAttr X.K C fl) (ho : JE X g (wx E) o mo) (hb : attributeBase o fl X.env (eval o X.env) = eval o X.env := by rfl) : JE X g (wx E) (.Attribute o fl pos) (eFld c fl mo) := by
  refine (pe_fld ho hb).imp fun σ H Q hq => ?_
  obtain ⟨ρ, sd, h, rel, sl, q⟩ := hq
  refine inE rel sl q fun d h1 v ρ1 H1 rel1 x1 sl1 i1 p1 => ?_
  cases ef : fldsD c d h1 with
  | none => simp only [ef] at p1; exact p1.elim
  | some fs =>
    simp only [ef] at p1
    obtain ⟨a, dx, fvs, rfl, ha, r⟩ := flds_ok rel1 (by rw [hgK]; exact hm) i1 ef
    cases el : fs.lookup fl with
    | none => rw [el] at p1; exact p1.elim
    | some d' =>
      rw [el] at p1
      obtain ⟨v', e1, r1⟩ := r.lookup.1 d' el
      exact ⟨a, C, dx, fvs, v', rfl, ha, cl, na, e1, p1.fin rel1 r1⟩
/-- a property -/
def eProp (c : Str) (F : DF) (m : DE) : DE := fun sd h => (m sd h).bind fun d h1 => match fldsD c d h1 with
  | some _ => (match F [d] h1 with
    | .ok r h2 => .ok r h2
    | _ => .no)
  | none => .no
theorem j_prop {c fl : Str} {pp : Addr} (hgK : g.mg = X.mg) (hm : X.mg c = some (.ref C)) (cl : Cls X.K C) (hp : PropOf X.K C fl pp f) (G0 : FnOk X.prog X.w X.K X.mg X.base (L2.CX X.prog X.w) k f fd ps (spD g 1 F)) (hr : Room (k + 1) X.A) (hb : Binds X.K fd ps []) (ho : JE X g (wx E) o mo)
    (hab : attributeBase o fl X.env (eval o X.env) = eval o X.env := by rfl) : JE X g (wx E) (.Attribute o fl pos) (eProp c F mo) := by
  refine (pe_prop (dvs := []) (E := E0) ho cl hp G0 hr hb .nil passE_none hab).imp fun σ H Q hq => ?_
  obtain ⟨ρ, sd, h, rel, sl, q⟩ := hq
  refine inE rel sl q fun d h1 v ρ1 H1 rel1 x1 sl1 i1 p1 => ?_
  cases ef : fldsD c d h1 with
  | none => simp only [ef] at p1; exact p1.elim
  | some fs =>
    simp only [ef] at p1
    obtain ⟨a, dx, fvs, rfl, ha, r⟩ := flds_ok rel1 (by rw [hgK]; exact hm) i1 ef
    refine ⟨a, dx, fvs, rfl, ha, ρ1, h1, [d], rel1, .cons i1 .nil, rfl, ?_⟩
    cases eF : F [d] h1 with
    | no => rw [eF] at p1; exact p1.elim
    | exc y h2 => rw [eF] at p1; exact p1.elim
    | ok r h2 => rw [eF] at p1; exact p1
/-- a method -/
def eMeth (c m : Str) (F : DF) (dd : List D) (mo : DE) (ma : DM (List D)) : DE := fun sd h => (mo sd h).bind fun d h1 => match fldsD c d h1 with
  | some fs => (match fs.lookup m with
    | none => (ma sd h1).bind fun ds h2 => F (d :: (ds ++ dd)) h2
    | some _ => .no)
  | none => .no
theorem meth_core {c m : Str} {F : DF} {dd : List D} {mo : DE} {ma : DM (List D)} {σ : L2.St} {H : Hp} {Q : VK} (hm : g.mg c = some (.ref C)) (hdd : IsV g dd dvs) {j : Nat} (hj : AL ma j) (hn : j + dd.length + 1 = n) (hq : tE g (wx E) (eMeth c m F dd mo ma) σ H Q) :
    tMeth C m (spD g n F) dvs E (tE g (wx E) mo) (tAs g (wx E) ma) σ H Q := by
  obtain ⟨ρ, sd, h, rel, sl, q⟩ := hq
  refine inE rel sl q fun d h1 v ρ1 H1 rel1 x1 sl1 i1 p1 => ?_
  cases ef : fldsD c d h1 with
  | none => simp only [ef] at p1; exact p1.elim
  | some fs =>
    simp only [ef] at p1
    obtain ⟨a, dx, fvs, rfl, ha, r⟩ := flds_ok rel1 hm i1 ef
    cases el : fs.lookup m with
    | some d' => rw [el] at p1; exact p1.elim
    | none =>
      rw [el] at p1
      refine ⟨a, dx, fvs, rfl, ha, r.lookup.2 el, ?_⟩
      cases c : ma sd h1 with
      | no => rw [c] at p1; exact p1.elim
      | exc y h1 => exact ⟨ρ1, sd, _, rel1, sl1, by rw [c]; rw [c] at p1; exact p1⟩
      | ok xs h2 =>
        rw [c] at p1
        refine ⟨ρ1, sd, h1, rel1, sl1, ?_⟩
        rw [c]
        intro vs ρ2 H2 rel2 x2 i2
        exact ⟨ρ2, h2, d :: (xs ++ dd), rel2, .cons (i1.ext rel1 x2) (IsDs.append (hdd ρ2 H2) i2), by simp [hj sd h1 xs h2 c, hn], Post.ext p1 x2⟩
theorem j_meth {c : Str} {pl : Sem Bool} (hgK : g.mg = X.mg) (hmc : X.mg c = some (.ref C)) (cl : Cls X.K C) (hm : Meth X.K C m f) (G0 : FnOk X.prog X.w X.K X.mg X.base (L2.CX X.prog X.w) k f fd ps (spD g n F)) (hr : Room k X.A) (hb : Binds X.K fd ps ds) (hd : Vals dvs ds) (hdd : IsV g dd dvs) (hx : PassE X E)
    (ho : JE X g (wx E) o mo) (ha : JA X g (wx E) (e :: es) ma) {j : Nat} (hj : AL ma j) (hn : j + dd.length + 1 = n := by rfl)
    (hst : starEach (e :: es) X.env = (false, eval e X.env) :: starEach es X.env := by rfl) (hpl : (backTo pos (starEach es X.env)).any (·.1) = false := by rfl)
    (ht : eval (.Call (.Attribute o m apos) (e :: es) [] pos) X.env = (do
      let ov ← eval o X.env
      standAt apos.atName
      let (f, first) ← holding [ov] (getMethod ov m pl)
      callWith pos f first (backTo pos (starEach (e :: es) X.env)) (backToKw pos (keywordEach [] X.env))) := by rfl) :
    JE X g (wx E) (.Call (.Attribute o m apos) (e :: es) [] pos) (eMeth c m F dd mo ma) :=
  (pe_meth ho cl hm G0 hr hb hd hx ha hst hpl ht).imp fun σ H Q hq => meth_core (by rw [hgK]; exact hmc) hdd hj hn hq
theorem j_meth0 {c : Str} {pl : Sem Bool} (hgK : g.mg = X.mg) (hmc : X.mg c = some (.ref C)) (cl : Cls X.K C) (hm : Meth X.K C m f) (G0 : FnOk X.prog X.w X.K X.mg X.base (L2.CX X.prog X.w) k f fd ps (spD g n F)) (hr : Room k X.A) (hb : Binds X.K fd ps ds) (hd : Vals dvs ds) (hdd : IsV g dd dvs) (hx : PassE X E)
    (ho : JE X g (wx E) o mo) (hn : 0 + dd.length + 1 = n := by rfl)
    (ht : eval (.Call (.Attribute o m apos) [] [] pos) X.env = (do
      let ov ← eval o X.env
      standAt apos.atName
      let (f, first) ← holding [ov] (getMethod ov m pl)
      callWith pos f first (backTo pos (starEach [] X.env)) (backToKw pos (keywordEach [] X.env))) := by rfl) :
    JE X g (wx E) (.Call (.Attribute o m apos) [] [] pos) (eMeth c m F dd mo asNil) :=
  (pe_meth0 ho cl hm G0 hr hb hd hx ht).imp fun σ H Q hq => by
    have z := meth_core (F := F) (by rw [hgK]; exact hmc) hdd al_nil hn hq
    exact tE.mono z fun v H1 ⟨a, dx, fs, q1, q2, q3, q4⟩ => by
      obtain ⟨ρ, sd, h, rel, sl, q⟩ := q4
      exact ⟨a, dx, fs, q1, q2, q3, Post.fin q rel .nil⟩
end
end Cp

set_option maxHeartbeats 4000000
namespace PySem
open Sem (wp)
open Builtin Builtin.Str PyProof.Rows
theorem cp_meets_enumT (l : Addr) (items : Array Value) (n : Nat) (dct : Option Addr) (sl : Array (Option Value)) :
    Meets (Builtin.«enumerate.__new__» ⟨[.type "enumerate", .ref l], []⟩) (fun _ R s => s.heap.get? l = some { cls := .type "tuple", dict := dct, data := .seq items n, slots := sl } ∧
      R (.ok (.ret (.ref (s.heap.push { cls := .type "tuple_iterator", data := .fields #[.ref l, .int 0 0] }).objs.size)))
        { s with heap := (s.heap.push { cls := .type "tuple_iterator", data := .fields #[.ref l, .int 0 0] }).push { cls := .type "enumerate", data := .fields #[.none, .bool false, .ref s.heap.objs.size, rawInt 0, .none, .none] } }) :=
  .of_wp fun prog w A R s h => by
    obtain ⟨hp, g, d, tk, os⟩ := s
    obtain ⟨hl, h⟩ := h
    have hL : (⟨hp, g, d, tk, os⟩ : Shared).heap.IsTuple l items := ⟨_, hl, rfl, n, rfl⟩
    have hsub := sub_enumerate
    wp_walk using wpAny_loadPart' hl, wpAny_pyIter_tuple hL
    refine wpAny_stack_any fun st => wpAny_pure ?_
    split
    · rename_i c _ _ _ _ _
      cases (c == Value.type "enumerate")
      · wp_walk using wpAny_loadPart' hl, wpAny_pyIter_tuple hL
        exact ⟨_, rfl, h⟩
      · wp_walk using wpAny_loadPart' hl, wpAny_pyIter_tuple hL
        exact ⟨_, rfl, h⟩
    · wp_walk using wpAny_loadPart' hl, wpAny_pyIter_tuple hL
      exact ⟨_, rfl, h⟩
section
variable {prog : Program} {w : World} {A : Around} {E : Value → Shared → Prop} {s : Shared}
theorem cp_call_enumT {l : Addr} {items : Array Value} {Q : Value → Shared → Prop} (hL : s.heap.IsTuple l items)
    (h : ∀ h', IsEnum h' (s.heap.objs.size + 1) s.heap.objs.size 0 .none → h'.IsTupleIter s.heap.objs.size l 0 → h'.objs.size = s.heap.objs.size + 2 →
      (∀ b o, s.heap.get? b = some o → h'.get? b = some o) → Q (.ref (s.heap.objs.size + 1)) { s with heap := h' }) :
    wpAny (model prog w) A (call (.type "enumerate") [.ref l]) Q E s := by
  obtain ⟨⟨c, dct, dt, sl⟩, hl, hc, n, hd⟩ := hL
  replace hc : c = .type "tuple" := hc
  replace hd : dt = .seq items n := hd
  subst hc hd
  refine callType_new F.called_enumerate (by decide) (F.typeCall_enumerate_1 _) (F.newCall_enumerate_1 _) (fun obj => F.args_object_init_2 obj _) F.entry_enumerate_new
    (cp_meets_enumT l items n dct sl) ⟨hl, ?_⟩
  have hz : (s.heap.push { cls := .type "tuple_iterator", data := .fields #[.ref l, .int 0 0] }).objs.size = s.heap.objs.size + 1 := Heap.size_push ..
  show _ ∧ _
  rw [hz]
  have he : IsEnum ((s.heap.push { cls := .type "tuple_iterator", data := .fields #[.ref l, .int 0 0] }).push
      { cls := .type "enumerate", data := .fields #[.none, .bool false, .ref s.heap.objs.size, rawInt 0, .none, .none] }) (s.heap.objs.size + 1) s.heap.objs.size 0 .none := by
    have := Heap.get?_push_size (s.heap.push { cls := .type "tuple_iterator", data := .fields #[.ref l, .int 0 0] })
      (o := { cls := .type "enumerate", data := .fields #[.none, .bool false, .ref s.heap.objs.size, rawInt 0, .none, .none] }) rfl
    rw [hz] at this; exact this
  refine ⟨⟨_, he, rfl⟩, h _ he ⟨_, Heap.get?_push_of_some _ (Heap.get?_push_size _ rfl), rfl, rfl⟩ (by rw [Heap.size_push, hz]) fun b o x => Heap.get?_push_of_some _ (Heap.get?_push_of_some _ x)⟩
end
end PySem
namespace Cp
open PySem PySem.Spec PyProof.Rows L2
/-- the tuple at a, its items in new pairs with their numbers -/
def IteT (K : PySem.W.Frag) (a : Addr) : It :=
  ⟨fun i H => ∃ (xs : List V) (x : V), SqT K H a xs ∧ xs[i]? = some x, fun i H v H' => ∃ T x, v = .ref T ∧ H T = none ∧ H' = upd H T (.tup [.int (i : Nat), x]) ∧ ∀ xs, SqT K H a xs → xs[i]? = some x, fun i H => ∃ xs : List V, SqT K H a xs ∧ xs.length = i⟩
theorem turn_enumT {P : Program} {w : World} {K : PySem.W.Frag} {elts : List Expr} {kk : Nat} {tpos : Pos} (a e it : Addr) (hai : a ≠ it) (hae : a ≠ e) :
    Turn P w K (.Tuple elts kk tpos) (IteT K a) [e, it] e (fun i h => (∃ old, IsEnum h e it ((i : Nat) : Int) old) ∧ h.IsTupleIter it a i ∧ e ≠ it) where
  mem := by simp
  obj := fun i h st b hb => by
    obtain ⟨⟨old, he⟩, ⟨o, ho, hc, hd⟩, _⟩ := st
    have e' : b = e ∨ b = it := by simpa using hb
    rcases e' with z | z
    · rw [z]; exact ⟨_, he, fun v q => nomatch q⟩
    · rw [z]; exact ⟨o, ho, fun v q => by rw [hd] at q; cases q⟩
  keep := fun i h h' st k => let ⟨⟨old, he⟩, hi, hne⟩ := st; ⟨⟨old, k e (by simp) _ he⟩, hi.at fun o q => k it (by simp) o q, hne⟩
  item := by
    intro X hP hw hK hc i pins s σ H E I hf st hg
    subst hP hw hK
    obtain ⟨⟨old, he⟩, hit, hne⟩ := st
    obtain ⟨xs, x, hq, hx⟩ := hg
    obtain ⟨its, rv, p, hz⟩ := I.tuple hq
    obtain ⟨u, hu, ru⟩ := rv.get hx
    have hel : e < s.heap.objs.size := Heap.lt_size he
    have hil : it < s.heap.objs.size := by obtain ⟨_, q, _⟩ := hit; exact Heap.lt_size q
    have hi : i < its.toArray.size := by
      have := (List.getElem?_eq_some_iff.mp hu).1
      simpa using this
    have hT0 : s.heap.IsTuple a its.toArray := p
    refine wpAny_pyNext_enum_itemD (Draws.tuple (prog := X.prog) (w := X.w) (A := X.A.in1) (show X.A.in1.handled = none from I.ok.hd hc) it a hai its.toArray) he ⟨hit, hT0⟩ hi hne (by simp [hne, Ne.symm hae]) fun y h' tk hPx ho st' hT hsz hk => ?_
    have ey : y = u := by
      have h1 : its.toArray[i]? = some y := hPx
      have h2 : its.toArray[i]? = some u := by simpa using hu
      rw [h2] at h1
      exact (Option.some.inj h1).symm
    subst ey
    refine ⟨_, rfl, wpAny_letOwnedTupleGo_enum (s := { s with heap := h', toks := tk + 1 }) ho fun h'' he' sb => ?_⟩
    have hT2 : h''.get? s.heap.objs.size = some { cls := .type "tuple", data := .seq #[.int i tk, y] } := (sb.2 _ (Nat.ne_of_gt hel)).trans hT
    have new : ObjOk X.prog X.w (upd H s.heap.objs.size (.tup [.int (i : Nat), x])) h'' s.heap.objs.size (.tup [.int (i : Nat), x]) :=
      ⟨by show 2 ≤ sizeLine; decide, [.int i tk, y], .cons ⟨_, rfl⟩ (.cons ru .nil), ⟨_, hT2, rfl, _, rfl⟩⟩
    have I1 : Inv X pins σ (upd H s.heap.objs.size (.tup [.int (i : Nat), x])) { s with heap := h'', toks := tk + 1 } :=
      I.turnedNew (ch := [e, it]) (fun b ob hb q => (sb.2 b (fun z => hb (by simp [z]))).trans (hk b ob (fun z => hb (by simp [z])) (fun z => hb (by simp [z])) q)) hf (Nat.le_refl _) new
    refine ⟨.ref s.heap.objs.size, _, I1, rfl, ⟨_, x, rfl, I.hok.fresh (Nat.le_refl _), rfl, fun ys hy => by rw [I.tuple_inj hy hq]; exact hx⟩, ⟨⟨y, ?_⟩, st'.1.at fun o q => (sb.2 it (Ne.symm hne)).trans q, hne⟩, fun b hb => ?_⟩
    · have e1 : ((i + 1 : Nat) : Int) = (i : Int) + 1 := by omega
      rw [e1]; exact he'
    · have hb' : b < s.heap.objs.size := by
        have e' : b = e ∨ b = it := by simpa using hb
        rcases e' with z | z
        · rw [z]; exact hel
        · rw [z]; exact hil
      rw [upd_ne (Nat.ne_of_lt hb')]
      exact (hf b hb).1
  done := by
    intro X hP hw hK hc i pins s σ H E I hf st hg
    subst hP hw hK
    obtain ⟨⟨old, he⟩, hit, hne⟩ := st
    obtain ⟨xs, hq, hx⟩ := hg
    obtain ⟨its, rv, p, hz⟩ := I.tuple hq
    obtain ⟨f0, f1, f2, f3, f4, f5⟩ := hf it (by simp)
    have hl := rv.length
    have hT0 : s.heap.IsTuple a its.toArray := p
    have hn : its.toArray.size = i := by simp; omega
    have D := Draws.tuple (prog := X.prog) (w := X.w) (A := X.A.in1) (show X.A.in1.handled = none from I.ok.hd hc) it a hai its.toArray
    rw [hn] at D
    exact wpAny_pyNext_enum_endD D he ⟨hit, hT0⟩ fun h' eb => ⟨rfl, I.turned (t' := s.toks) (fun b o hb q => eb b o hb q) f0 f1 f3 f4 f5⟩
  self := fun A i s Q E st h => let ⟨⟨_, he⟩, _⟩ := st; wpAny_pyIter_enum he h
section
variable {X : Cx} {g : G} {E : WE}
def iEnT (K : PySem.W.Frag) (ta : TA) : TI := fun σ H R => ta σ H fun vs H1 => ∃ a xs, vs = [.ref a] ∧ SqT K H1 a xs ∧ R (IteT K a) H1
theorem pi_enT {e : Expr} {ta : TA} {p pos tpos : Pos} {elts : List Expr} {kk : Nat} (hg : Gl X "enumerate") (hm : X.mg "enumerate" = none) (ha : PA X [e] ta) (hs : starEach [e] X.env = [(false, eval e X.env)] := by rfl) :
    PI X (.Tuple elts kk tpos) (.Call (.Name "enumerate" p) [e] [] pos) (iEnT X.K ta) := by
  refine ⟨fun pins s σ H R I h => ?_⟩
  refine Call_ (ld_blt I hg hm boot_enumerate (PyProof.Rows.callWith_type1 (thn (ha.run pos pins s σ H _ I h) fun us s1 ⟨vs, H1, I1, r1, q1⟩ => ?_) hs rfl))
  obtain ⟨a, xs, ex, hq, q⟩ := q1
  subst ex
  cases r1 with
  | cons r rr =>
    cases rr
    cases r
    obtain ⟨its, rv, p', hz⟩ := I1.tuple hq
    have hT : s1.heap.IsTuple a its.toArray := p'
    have hal : a < s1.heap.objs.size := by obtain ⟨_, q, _⟩ := hT; exact Heap.lt_size q
    refine cp_call_enumT hT fun h' he hit hsz hk => wpAny_pyIter_enum he ?_
    have I2 : Inv X pins σ H1 { s1 with heap := h' } := I1.kept (t' := s1.toks) hk
    refine ⟨s1.heap.objs.size + 1, [s1.heap.objs.size + 1, s1.heap.objs.size], _, _, H1, rfl, I2, turn_enumT a (s1.heap.objs.size + 1) s1.heap.objs.size (Nat.ne_of_lt hal) (Nat.ne_of_lt (Nat.lt_succ_of_lt hal)), ⟨⟨.none, he⟩, hit, Nat.succ_ne_self _⟩, fun b hb => ?_, q⟩
    have e' : b = s1.heap.objs.size + 1 ∨ b = s1.heap.objs.size := by simpa using hb
    have hle : s1.heap.objs.size ≤ b := by
      rcases e' with z | z
      · rw [z]; exact Nat.le_add_right _ _
      · rw [z]; exact Nat.le_refl _
    exact I1.fpOk hle (I1.hok.fresh hle)
/-- pairs of numbers and items -/
def enD (xs : List D) : List D := (xs.zipIdx).map fun p => .tup [.int (p.2 : Nat), p.1]
def iEnum (m : DM (List D)) : DI := fun sd h => (m sd h).bind fun ds h1 => match ds with
  | [.tup xs] => .ok ⟨enD xs, always⟩ h1
  | _ => .no
theorem ji_enum {e : Expr} {m : DM (List D)} {p pos tpos : Pos} {elts : List Expr} {kk : Nat} (hK : g.K = X.K) (hg : Gl X "enumerate") (hm : X.mg "enumerate" = none) (ha : JA X g (wx E) [e] m) (hs : starEach [e] X.env = [(false, eval e X.env)] := by rfl) :
    JI X g E (.Tuple elts kk tpos) (.Call (.Name "enumerate" p) [e] [] pos) (iEnum m) := by
  refine (pi_enT hg hm ha hs).imp fun σ H R hq => ?_
  obtain ⟨ρ, sd, h, rel, sl, p⟩ := hq
  refine ⟨ρ, sd, h, rel, sl, ?_⟩
  unfold iEnum at p
  cases e : m sd h with
  | no => rw [e] at p; exact p.elim
  | exc x h1 => rw [e] at p; exact p
  | ok ds h1 =>
    rw [e] at p
    intro vs ρ1 H1 rel1 x1 i1
    simp only [Cp.R.bind_ok] at p
    split at p
    · rename_i t h' hh
      split at hh
      · rename_i xs
        cases hh
        obtain ⟨v, rfl, i2⟩ := one_of i1
        cases i2 with
        | @tup a vs _ s r =>
          have s' := s
          rw [hK] at s'
          refine ⟨a, vs, rfl, s', p (IteT X.K a) ρ1 H1 rel1 x1 ⟨fun i d ρ2 h2 H2 rel2 x2 _ hd => ?_, fun ρ2 h2 H2 rel2 x2 _ => ⟨vs, by rw [← hK]; exact sqT_ext rel1 x2 s, by simp [enD, r.length]⟩⟩⟩
          unfold enD at hd
          rw [List.getElem?_map] at hd
          cases c : xs.zipIdx[i]? with
          | none => rw [c] at hd; cases hd
          | some q =>
            rw [c] at hd
            cases hd
            rw [List.getElem?_zipIdx] at c
            cases c2 : xs[i]? with
            | none => rw [c2] at c; cases c
            | some d0 =>
              rw [c2] at c
              cases c
              obtain ⟨v, ev, rv⟩ := r.get c2
              have s2 : SqT X.K H2 a vs := by rw [← hK]; exact sqT_ext rel1 x2 s
              refine ⟨⟨vs, v, s2, ev⟩, fun y H3 yy => ?_⟩
              obtain ⟨T, x3, e3, n3, eH, y3⟩ := yy
              subst e3 eH
              have q := y3 vs s2
              rw [ev] at q
              cases q
              refine ⟨rel2.laid n3 _, Ext.laid n3 _, .tup (SqT.of upd_same) (.cons (by simpa using IsD.int (i : Int)) (.cons ((rv.ext rel1 x2).ext rel2 (Ext.laid n3 _)) .nil))⟩
      · cases hh
    · rename_i x h' hh
      split at hh <;> cases hh
    · exact p.elim
def zipD (xs ys : List D) : List D := (xs.zip ys).map fun p => .tup [p.1, p.2]
def iZip (m : DM (List D)) : DI := fun sd h => (m sd h).bind fun ds h1 => match ds with
  | [.tup xs, .tup ys] => .ok ⟨zipD xs ys, always⟩ h1
  | [.lst xs, .lst ys] => .ok ⟨zipD xs ys, always⟩ h1
  | _ => .no
theorem zip_get {xs ys : List D} {i : Nat} {d : D} (hd : (zipD xs ys)[i]? = some d) : ∃ x y, xs[i]? = some x ∧ ys[i]? = some y ∧ d = .tup [x, y] := by
  unfold zipD at hd
  rw [List.getElem?_map] at hd
  cases c : (xs.zip ys)[i]? with
  | none => rw [c] at hd; cases hd
  | some q =>
    rw [c] at hd
    cases hd
    obtain ⟨c1, c2⟩ := List.getElem?_zip_eq_some.mp c
    exact ⟨q.1, q.2, c1, c2, rfl⟩
theorem ji_zip {e e2 : Expr} {m : DM (List D)} {p pos tpos : Pos} {elts : List Expr} {kk : Nat} (hK : g.K = X.K) (hg : Gl X "zip") (hm : X.mg "zip" = none) (ha : JA X g (wx E) [e, e2] m) (hs : starEach [e, e2] X.env = (false, eval e X.env) :: starEach [e2] X.env := by rfl) (hpl : (backTo pos (starEach [e2] X.env)).any (·.1) = false := by rfl) :
    JI X g E (.Tuple elts kk tpos) (.Call (.Name "zip" p) [e, e2] [] pos) (iZip m) := by
  refine (RZ.pi_zipA hg hm ha hs hpl).imp fun σ H R hq => ?_
  obtain ⟨ρ, sd, h, rel, sl, p⟩ := hq
  refine ⟨ρ, sd, h, rel, sl, ?_⟩
  unfold iZip at p
  cases e : m sd h with
  | no => rw [e] at p; exact p.elim
  | exc x h1 => rw [e] at p; exact p
  | ok ds h1 =>
    rw [e] at p
    intro vs ρ1 H1 rel1 x1 i1
    simp only [Cp.R.bind_ok] at p
    split at p
    · rename_i t h' hh
      split at hh
      · rename_i xs ys
        cases hh
        obtain ⟨v, u, rfl, i2, i3⟩ := two_of i1
        cases i2 with
        | @tup a vs _ s r =>
          cases i3 with
          | @tup b us _ z q =>
            have s' := s
            have z' := z
            rw [hK] at s' z'
            refine ⟨a, b, vs, us, rfl, .inr ⟨s', z', p (RZ.ItzT X.K a b) ρ1 H1 rel1 x1 ⟨fun i d ρ2 h2 H2 rel2 x2 _ hd => ?_, fun ρ2 h2 H2 rel2 x2 _ => ⟨vs, us, by rw [← hK]; exact sqT_ext rel1 x2 s, by rw [← hK]; exact sqT_ext rel1 x2 z, by simp [zipD, r.length, q.length]; omega⟩⟩⟩⟩
            obtain ⟨x, y, c1, c2, rfl⟩ := zip_get hd
            obtain ⟨v1, e1, r1⟩ := r.get c1
            obtain ⟨v2, e2, r2⟩ := q.get c2
            have s2 : SqT X.K H2 a vs := by rw [← hK]; exact sqT_ext rel1 x2 s
            have z2 : SqT X.K H2 b us := by rw [← hK]; exact sqT_ext rel1 x2 z
            refine ⟨⟨vs, us, v1, v2, s2, z2, e1, e2⟩, fun w H3 yy => ?_⟩
            obtain ⟨T, x3, y3, e3, n3, eH, g1, g2⟩ := yy
            subst e3 eH
            have q1 := g1 vs s2
            have q2 := g2 us z2
            rw [e1] at q1
            rw [e2] at q2
            cases q1; cases q2
            exact ⟨rel2.laid n3 _, Ext.laid n3 _, .tup (SqT.of upd_same) (.cons ((r1.ext rel1 x2).ext rel2 (Ext.laid n3 _)) (.cons ((r2.ext rel1 x2).ext rel2 (Ext.laid n3 _)) .nil))⟩
      · rename_i xs ys
        cases hh
        obtain ⟨v, u, rfl, i2, i3⟩ := two_of i1
        cases i2 with
        | @lst a vs _ s n r =>
          cases i3 with
          | @lst b us _ z m q =>
            have st : ∀ {ρ2 H2}, Ext ρ1 H1 ρ2 H2 → H2 a = some (.lst vs) ∧ H2 b = some (.lst us) := fun {ρ2 H2} x2 => by
              obtain ⟨o', e, l⟩ := x2.keep a _ s fun z => n (ρ1.sub a z)
              obtain ⟨o2, e2, l2⟩ := x2.keep b _ z fun z => m (ρ1.sub b z)
              rw [l.lst] at e
              rw [l2.lst] at e2
              exact ⟨e, e2⟩
            refine ⟨a, b, vs, us, rfl, .inl ⟨SqL.of s, SqL.of z, p (Itz X.K a b) ρ1 H1 rel1 x1 ⟨fun i d ρ2 h2 H2 rel2 x2 _ hd => ?_, fun ρ2 h2 H2 rel2 x2 _ => ⟨vs, us, SqL.of (st x2).1, SqL.of (st x2).2, by simp [zipD, r.length, q.length]; omega⟩⟩⟩⟩
            obtain ⟨x, y, c1, c2, rfl⟩ := zip_get hd
            obtain ⟨v1, e1, r1⟩ := r.get c1
            obtain ⟨v2, e2, r2⟩ := q.get c2
            refine ⟨⟨vs, us, v1, v2, SqL.of (st x2).1, SqL.of (st x2).2, e1, e2⟩, fun w H3 yy => ?_⟩
            obtain ⟨T, x3, y3, e3, n3, eH, g1, g2⟩ := yy
            subst e3 eH
            have q1 := g1 vs (SqL.of (st x2).1)
            have q2 := g2 us (SqL.of (st x2).2)
            rw [e1] at q1
            rw [e2] at q2
            cases q1; cases q2
            exact ⟨rel2.laid n3 _, Ext.laid n3 _, .tup (SqT.of upd_same) (.cons ((r1.ext rel1 x2).ext rel2 (Ext.laid n3 _)) (.cons ((r2.ext rel1 x2).ext rel2 (Ext.laid n3 _)) .nil))⟩
      · cases hh
    · rename_i x h' hh
      split at hh <;> cases hh
    · exact p.elim
end
end Cp

set_option maxHeartbeats 4000000
namespace Cp
open PySem PySem.Spec PyProof.Rows L2
section
variable {X : Cx} {g : G} {E : WE}
def insU (a : Int) : List Int → List Int
  | [] => [a]
  | b :: r => if a < b then a :: b :: r else if a = b then b :: r else b :: insU a r
def sortU : List Int → List Int
  | [] => []
  | a :: r => insU a (sortU r)
theorem mem_insU (a k : Int) : ∀ l : List Int, k ∈ insU a l ↔ k = a ∨ k ∈ l
  | [] => by simp [insU]
  | b :: r => by
    unfold insU
    split
    · simp
    · split
      · rename_i e; subst e; simp
      · rw [List.mem_cons, mem_insU a k r, List.mem_cons]
        constructor
        · rintro (h | h | h)
          · exact .inr (.inl h)
          · exact .inl h
          · exact .inr (.inr h)
        · rintro (h | h | h)
          · exact .inr (.inl h)
          · exact .inl h
          · exact .inr (.inr h)
theorem mem_sortU (k : Int) : ∀ l : List Int, k ∈ sortU l ↔ k ∈ l
  | [] => by simp [sortU]
  | a :: r => by rw [sortU, mem_insU, mem_sortU k r, List.mem_cons]
theorem pw_insU (a : Int) : ∀ {l : List Int}, l.Pairwise (· < ·) → (insU a l).Pairwise (· < ·)
  | [], _ => by simp [insU]
  | b :: r, h => by
    rw [List.pairwise_cons] at h
    unfold insU
    split
    · rename_i hab
      rw [List.pairwise_cons, List.pairwise_cons]
      refine ⟨fun x hx => ?_, h.1, h.2⟩
      rcases List.mem_cons.mp hx with e | hx
      · subst e; exact hab
      · have := h.1 x hx; omega
    · split
      · rw [List.pairwise_cons]; exact ⟨h.1, h.2⟩
      · rename_i h1 h2
        rw [List.pairwise_cons]
        refine ⟨fun x hx => ?_, pw_insU a h.2⟩
        rcases (mem_insU a x r).mp hx with e | hx
        · subst e; omega
        · exact h.1 x hx
theorem pw_sortU : ∀ l : List Int, (sortU l).Pairwise (· < ·)
  | [] => .nil
  | a :: r => pw_insU a (pw_sortU r)
def cSortSet (x : D) (h : DH) : Option D := match x with
  | .tup xs => (intsD xs).bind fun ns => if ns.length ≤ 60 then some (.lst ((sortU ns).map .int)) else none
  | _ => none
theorem cr_setT (hc : X.calm = true) : CallR X (.type "set") (fun xs H Q => ∃ (p : Addr) (ns : List Int), xs = [.ref p] ∧ SqT X.K H p (ns.map V.int) ∧ ns.length + 1 < scanBound ∧ ∀ (a : Addr) (n : Nat), H a = none → n ≤ ns.length → Q (.ref a) (upd H a (SetO X.w a (fun j => decide (j ∈ ns)) n))) := by
  intro pins s σ H xs us Q I r h
  obtain ⟨p, ns, rfl, hs, hb, q⟩ := h
  obtain ⟨u, rfl, ru⟩ := vals1 r
  cases ru
  obtain ⟨its, rv, pt, hz⟩ := I.tuple hs
  have hT : s.heap.IsTuple p its.toArray := pt
  refine call_set_tupI ns (I.ok.hd hc) hT (by simpa using Vals.ints rv) hb fun h' tk c hS hc' hk => ?_
  have hf := I.hok.fresh (Nat.le_refl s.heap.objs.size)
  exact ⟨.ref s.heap.objs.size, upd H s.heap.objs.size (SetO X.w s.heap.objs.size (fun j => decide (j ∈ ns)) c), I.laid (t' := tk) (fun b u e => hk b u e) (Nat.le_refl _) (setO_new hS), rfl, q _ c hf hc'⟩
theorem sorted_uniq {as bs : List Int} (h1 : as.Pairwise (· < ·)) (h2 : bs.Pairwise (· < ·)) (h : ∀ k, k ∈ as ↔ k ∈ bs) : as = bs := by
  induction as generalizing bs with
  | nil =>
    cases bs with
    | nil => rfl
    | cons b bs => exact absurd ((h b).mpr (by simp)) (by simp)
  | cons a as ih =>
    cases bs with
    | nil => exact absurd ((h a).mp (by simp)) (by simp)
    | cons b bs =>
      rw [List.pairwise_cons] at h1 h2
      have e : a = b := by
        have ha := (h a).mp (by simp)
        have hb := (h b).mpr (by simp)
        rcases List.mem_cons.mp ha with e | ha
        · exact e
        · rcases List.mem_cons.mp hb with e | hb
          · exact e.symm
          · have := h2.1 a ha
            have := h1.1 b hb
            omega
      subst e
      congr 1
      refine ih h1.2 h2.2 fun k => ⟨fun hk => ?_, fun hk => ?_⟩
      · rcases List.mem_cons.mp ((h k).mp (List.mem_cons_of_mem _ hk)) with e | z
        · subst e; exact absurd (h1.1 k hk) (by omega)
        · exact z
      · rcases List.mem_cons.mp ((h k).mpr (List.mem_cons_of_mem _ hk)) with e | z
        · subst e; exact absurd (h2.1 k hk) (by omega)
        · exact z
def eSortSet (m : DE) : DE := eO1 cSortSet m
theorem j_sortSet {e : Expr} {m : DE} {p p2 pos pos2 : Pos} (hK : g.K = X.K) (hc : X.calm = true) (hg : Gl X "sorted") (hm : X.mg "sorted" = none) (hg2 : Gl X "set") (hm2 : X.mg "set" = none) (he : JE X g (wx E) e m)
    (hst : starEach [e] X.env = (false, eval e X.env) :: starEach [] X.env := by rfl) (hst2 : starEach [Expr.Call (.Name "set" p2) [e] [] pos2] X.env = (false, eval (Expr.Call (.Name "set" p2) [e] [] pos2) X.env) :: starEach [] X.env := by rfl) :
    JE X g (wx E) (.Call (.Name "sorted" p) [.Call (.Name "set" p2) [e] [] pos2] [] pos) (eSortSet m) := by
  refine (pe_callB (cr_sortedSet hc) hg hm (by decide +kernel) (pa_cons (pe_callTy (cr_setT hc) hg2 hm2 (by decide +kernel) (pa_cons he pa_nil hst) (he := hst)) pa_nil hst2) (he := hst2)).imp fun σ H Q hq => ?_
  obtain ⟨ρ, sd, h, rel, sl, q⟩ := hq
  refine inE rel sl q fun d h1 v ρ1 H1 rel1 x1 sl1 i1 p1 => ?_
  cases i1 with
  | @tup a vs xs s r =>
    simp only [cSortSet] at p1
    cases c : intsD xs with
    | none => rw [c] at p1; exact p1.elim
    | some ns =>
      rw [c, Option.bind_some] at p1
      by_cases hl : ns.length ≤ 60
      · rw [if_pos hl] at p1
        have ev := intsD_ok r c
        subst ev
        have s' := s
        rw [hK] at s'
        refine ⟨a, ns, rfl, s', ?_, fun b n hb hn => ⟨b, _, n, rfl, upd_same, by omega, fun ms p hp1 hp2 hp3 hp => ?_⟩⟩
        · have : (62 : Nat) < scanBound := by decide
          omega
        · have e : ms = sortU ns := sorted_uniq hp1 (pw_sortU ns) fun k => by
            rw [mem_sortU, hp2]; simp
          subst e
          have r1 := rel1.laid hb (SetO X.w b (fun j => decide (j ∈ ns)) n)
          exact p1 _ ρ1 _ (r1.laid hp _) ((Ext.laid hb _).trans (Ext.laid hp _)) (.lst upd_same (r1.fresh hp) (IsDs.ints _))
      · rw [if_neg hl] at p1; exact p1.elim
  | _ => exact p1.elim

def eApp (mo me : DE) : DE := fun sd h => (mo sd h).bind fun d h1 => match d with
  | .ref l => (match h1[l]? with
    | some (.lst _) => (me sd h1).bind fun y h2 => match h2[l]? with
      | some (.lst xs) => if fine xs.length = true then .ok .non (h2.set l (.lst (xs ++ [y]))) else .no
      | _ => .no
    | _ => .no)
  | _ => .no
theorem cell_lst {ρ : Lc} {h : DH} {H : Hp} {l : Nat} {a : Addr} {xs : List D} (rel : HRel g ρ h H) (q : ρ.ad[l]? = some a) (c : h[l]? = some (.lst xs)) : ∃ vs, H a = some (.lst vs) ∧ IsDs g ρ H xs vs := by
  obtain ⟨a', o, e1, e2, k⟩ := rel.cell l _ c
  rw [q] at e1; cases e1
  cases k with
  | lst r => exact ⟨_, e2, r⟩
theorem put_lst {ρ : Lc} {h : DH} {H : Hp} {l : Nat} {a : Addr} {xs : List D} {vs : List V} (rel : HRel g ρ h H) (q : ρ.ad[l]? = some a) (r : IsDs g ρ H xs vs) : HRel g ρ (h.set l (.lst xs)) (upd H a (.lst vs)) ∧ Ext ρ H ρ (upd H a (.lst vs)) :=
  have hm : a ∈ ρ.ad := List.mem_of_getElem? q
  ⟨rel.put q (.lst (r.ext rel (Ext.put hm _))), Ext.put hm _⟩
theorem j_append {o e : Expr} {mo me : DE} {apos cpos : Pos} (ho : JE X g (wx E) o mo) (he : JE X g (wx E) e me)
    (hbase : attributeBase o "append" X.env (eval o X.env) = eval o X.env := by rfl)
    (hfew : ((backTo cpos (starEach [e] X.env)).all (fun x => !x.1) && (backToKw cpos (keywordEach [] X.env)).all (fun x => x.1.isSome)
      && decide (([e] : List Expr).length + ([] : List Keyword).length + (if ([] : List Keyword).isEmpty then 0 else 1) < 30)) = true := by rfl)
    (hline : (apos.endLine == cpos.line) = true := by rfl) (hs : starEach [e] X.env = (false, eval e X.env) :: starEach [] X.env := by rfl) :
    JE X g (wx E) (.Call (.Attribute o "append" apos) [e] [] cpos) (eApp mo me) := by
  refine (pe_bm PySem.F.plainAttrs_list PySem.F.slot_list_append PySem.F.type_list_append mt_append ho (pa_cons he pa_nil hs) hbase hfew hline hs (by rfl)).imp fun σ H Q hq => ?_
  obtain ⟨ρ, sd, h, rel, sl, q⟩ := hq
  refine inE rel sl q fun d h1 v ρ1 H1 rel1 x1 sl1 i1 p1 => ?_
  cases i1 with
  | @ref l a el =>
    dsimp only at p1
    cases c : h1[l]? with
    | none => simp only [c] at p1; exact p1.elim
    | some cc =>
      cases cc with
      | lst xs0 =>
        simp only [c] at p1
        obtain ⟨vs0, ha, _⟩ := cell_lst rel1 el c
        refine ⟨.inl ⟨rfl, _, SqL.of ha⟩, ?_⟩
        refine inE rel1 sl1 p1 fun y h2 w ρ2 H2 rel2 x2 sl2 i2 p2 => ?_
        cases c2 : h2[l]? with
        | none => simp only [c2] at p2; exact p2.elim
        | some c3 =>
          cases c3 with
          | lst xs =>
            simp only [c2] at p2
            by_cases hf : fine xs.length = true
            · rw [if_pos hf] at p2
              have el2 := x2.get el
              obtain ⟨vs, ha2, r⟩ := cell_lst rel2 el2 c2
              refine ⟨a, vs, w, rfl, rfl, ha2, by rw [← r.length]; exact fine_lt hf, ?_⟩
              obtain ⟨q1, q2⟩ := put_lst rel2 el2 (IsDs.append (.cons i2 .nil) r)
              exact p2 .non ρ2 _ q1 q2 .non
            · rw [if_neg hf] at p2; exact p2.elim
          | _ => simp only [c2] at p2; exact p2.elim
      | _ => simp only [c] at p1; exact p1.elim
  | _ => exact p1.elim
def eExt (mo me : DE) : DE := fun sd h => (mo sd h).bind fun d h1 => match d with
  | .ref l => (match h1[l]? with
    | some (.lst _) => (me sd h1).bind fun y h2 => match h2[l]?, listD y h2 with
      | some (.lst xs), some ys => if fine (xs.length + ys.length) = true then .ok .non (h2.set l (.lst (xs ++ ys))) else .no
      | _, _ => .no
    | _ => .no)
  | _ => .no
theorem j_extend {o e : Expr} {mo me : DE} {apos cpos : Pos} (ho : JE X g (wx E) o mo) (he : JE X g (wx E) e me)
    (hbase : attributeBase o "extend" X.env (eval o X.env) = eval o X.env := by rfl)
    (hfew : ((backTo cpos (starEach [e] X.env)).all (fun x => !x.1) && (backToKw cpos (keywordEach [] X.env)).all (fun x => x.1.isSome)
      && decide (([e] : List Expr).length + ([] : List Keyword).length + (if ([] : List Keyword).isEmpty then 0 else 1) < 30)) = true := by rfl)
    (hline : (apos.endLine == cpos.line) = true := by rfl) (hs : starEach [e] X.env = (false, eval e X.env) :: starEach [] X.env := by rfl) :
    JE X g (wx E) (.Call (.Attribute o "extend" apos) [e] [] cpos) (eExt mo me) := by
  refine (pe_bm PySem.F.plainAttrs_list PySem.F.slot_list_extend PySem.F.type_list_extend mt_extend ho (pa_cons he pa_nil hs) hbase hfew hline hs (by rfl)).imp fun σ H Q hq => ?_
  obtain ⟨ρ, sd, h, rel, sl, q⟩ := hq
  refine inE rel sl q fun d h1 v ρ1 H1 rel1 x1 sl1 i1 p1 => ?_
  cases i1 with
  | @ref l a el =>
    dsimp only at p1
    cases c : h1[l]? with
    | none => simp only [c] at p1; exact p1.elim
    | some cc =>
      cases cc with
      | lst xs0 =>
        simp only [c] at p1
        obtain ⟨vs0, ha, _⟩ := cell_lst rel1 el c
        refine ⟨.inl ⟨rfl, _, SqL.of ha⟩, ?_⟩
        refine inE rel1 sl1 p1 fun y h2 w ρ2 H2 rel2 x2 sl2 i2 p2 => ?_
        cases c2 : h2[l]? with
        | none => simp only [c2] at p2; exact p2.elim
        | some c3 =>
          cases c3 with
          | lst xs =>
            cases c4 : listD y h2 with
            | none => simp only [c2, c4] at p2; exact p2.elim
            | some ys =>
              simp only [c2, c4] at p2
              by_cases hf : fine (xs.length + ys.length) = true
              · rw [if_pos hf] at p2
                have el2 := x2.get el
                obtain ⟨vs, ha2, r⟩ := cell_lst rel2 el2 c2
                obtain ⟨b, us, rfl, r', hb⟩ := listD_ok rel2 i2 c4
                refine ⟨a, b, vs, us, rfl, rfl, ha2, hb, by rw [← r.length, ← r'.length]; exact fine_ok hf, ?_⟩
                obtain ⟨q1, q2⟩ := put_lst rel2 el2 (IsDs.append r' r)
                exact p2 .non ρ2 _ q1 q2 .non
              · rw [if_neg hf] at p2; exact p2.elim
          | _ => simp only [c2] at p2; exact p2.elim
      | _ => simp only [c] at p1; exact p1.elim
  | _ => exact p1.elim
/-- xs[i] = e -/
def sSetIx (mo mi me : DE) : DSt := fun sd h => (me sd h).thn fun y h1 => (mo sd h1).thn fun d h2 => (mi sd h2).thn fun i h3 => match d, i with
  | .ref l, .int k => (match h3[l]? with
    | some (.lst xs) => (match ixN xs.length k with
      | some j => .nx sd (h3.set l (.lst (xs.set j y)))
      | none => .no)
    | _ => .no)
  | _, _ => .no
theorem j_setIx {o i e : Expr} {mo mi me : DE} {p pos : Pos} (ho : JE X g (wx E) o mo) (hi : JE X g (wx E) i mi) (he : JE X g (wx E) e me)
    (ha : ∀ v, assign (.Subscript o i p) X.env v = (do
      let ov ← holding [v] (eval o X.env)
      let iv ← holding [v, ov] (eval i X.env)
      standAt p
      holding [v, ov, iv] (setItem ov iv v)
      release [v, ov, iv] []) := by intro _; rfl)
    (hs : swapsWithSole [.Subscript o i p] e pos.line X.env = pure false := by rfl) (hw : swappedStores [.Subscript o i p] e X.env = pure none := by rfl)
    (h1 : (assignEach [.Subscript o i p] X.env).map (·.2) = [assign (.Subscript o i p) X.env] := by rfl) : JS X g E (.Assign [.Subscript o i p] e pos) (sSetIx mo mi me) := by
  refine (ps_asg he (pg_sub ho hi set_list ha) hs hw h1).imp fun Dn σ H hq => ?_
  obtain ⟨ρ, sd, h, rel, sl, q⟩ := hq
  refine inES rel sl q fun y h1 v ρ1 H1 rel1 x1 sl1 i1 p1 => ?_
  refine inES rel1 sl1 p1 fun d h2 w ρ2 H2 rel2 x2 sl2 i2 p2 => ?_
  refine inES rel2 sl2 p2 fun k h3 u ρ3 H3 rel3 x3 sl3 i3 p3 => ?_
  cases i2 with
  | @ref l a el =>
    cases i3 with
    | int k =>
      dsimp only at p3
      cases c : h3[l]? with
      | none => simp only [c] at p3; exact p3.elim
      | some cc =>
        cases cc with
        | lst xs =>
          simp only [c] at p3
          have el2 := x3.get el
          obtain ⟨vs, ha, r⟩ := cell_lst rel3 el2 c
          cases cj : ixN xs.length k with
          | none => simp only [cj] at p3; exact p3.elim
          | some j =>
            simp only [cj] at p3
            refine ⟨a, vs, k, j, rfl, rfl, ha, by rw [← r.length]; exact cj, ?_⟩
            obtain ⟨q1, q2⟩ := put_lst rel3 el2 (IsDs.set ((i1.ext rel1 x2).ext rel2 x3) j r)
            exact p3 σ ρ3 _ q1 q2 (sl3.ext rel3 q2)
        | _ => simp only [c] at p3; exact p3.elim
    | _ => exact p3.elim
  | _ =>
    cases i3 <;> exact p3.elim
def putD (f : Str) (v : D) : List (Str × D) → List (Str × D)
  | [] => [(f, v)]
  | (k, u) :: r => if k = f then (k, v) :: r else (k, u) :: putD f v r
theorem IsFs.put {ρ : Lc} {H : Hp} {f : Str} {d : D} {v : V} (a : IsD g ρ H d v) : ∀ {fs : List (Str × D)} {vs : List (Str × V)}, IsFs g ρ H fs vs → IsFs g ρ H (putD f d fs) (putF f v vs)
  | _, _, .nil => .cons a .nil
  | _, _, @IsFs.cons _ _ _ n d' v' ds vs b t => by
    unfold putD putF
    split
    · exact .cons a t
    · exact .cons b (IsFs.put a t)
theorem IsFs.length {ρ : Lc} {H : Hp} : ∀ {fs : List (Str × D)} {vs : List (Str × V)}, IsFs g ρ H fs vs → fs.length = vs.length
  | _, _, .nil => rfl
  | _, _, .cons _ t => by simp [IsFs.length t]
/-- self.f = e -/
def sFldSet (c f : Str) (mo me : DE) : DSt := fun sd h => (me sd h).thn fun y h1 => (mo sd h1).thn fun d h2 => match d with
  | .ref l => (match h2[l]? with
    | some (.ins c' fs) => if c' = c then (if decide (fs.length < 900) = true then .nx sd (h2.set l (.ins c (putD f y fs))) else .no) else .no
    | _ => .no)
  | _ => .no
theorem j_fldSet {c fl : Str} {C : Addr} {o e : Expr} {mo me : DE} {pos pos' : Pos} (hgK : g.mg = X.mg) (hm : X.mg c = some (.ref C)) (cl : Cls X.K C) (na : NoAttr X.K C fl) (ho : JE X g (wx E) o mo) (he : JE X g (wx E) e me)
    (hs : swapsWith e (some (.Attribute o fl pos')) pos.line X.env = pure false := by rfl) : JS X g E (.Assign [.Attribute o fl pos'] e pos) (sFldSet c fl mo me) := by
  refine (ps_fld ho he hs).imp fun Dn σ H hq => ?_
  obtain ⟨ρ, sd, h, rel, sl, q⟩ := hq
  refine inES rel sl q fun y h1 v ρ1 H1 rel1 x1 sl1 i1 p1 => ?_
  refine inES rel1 sl1 p1 fun d h2 w ρ2 H2 rel2 x2 sl2 i2 p2 => ?_
  cases i2 with
  | @ref l a el =>
    dsimp only at p2
    cases cc : h2[l]? with
    | none => simp only [cc] at p2; exact p2.elim
    | some x =>
      obtain ⟨a', o, e1, e2, k⟩ := rel2.cell l x cc
      rw [el] at e1; cases e1
      cases k with
      | ins m r =>
        simp only [cc] at p2
        split at p2
        · rename_i ec
          subst ec
          rw [hgK, hm] at m; cases m
          split at p2
          · rename_i hl
            have hl := of_decide_eq_true hl
            have hma : a ∈ ρ2.ad := List.mem_of_getElem? el
            refine ⟨a, C, _, _, rfl, e2, cl, na, by rw [← r.length]; omega, ?_⟩
            rename_i dx fs fvs _
            have x3 := Ext.put (H := H2) hma (.ins C dx (putF fl v fvs))
            refine p2 σ ρ2 _ (rel2.put el (.ins (by rw [hgK]; exact hm) ((IsFs.put (i1.ext rel1 x2) r).ext rel2 x3))) x3 (sl2.ext rel2 x3)
          · exact p2.elim
        · exact p2.elim
      | _ => simp only [cc] at p2; exact p2.elim
  | _ => exact p2.elim
def sIfW (i : Nat) (f : D → D → DH → Option Bool) (m : DE) (a b : DSt) : DSt := fun sd h => (m sd h).thn fun d h1 => (ofO (f d .non h1) h1).thn fun k h2 => if k = true then a (sd.set i (some d)) h2 else b (sd.set i (some d)) h2
theorem j_ifW {i : Nat} {x : Str} {op : CmpOp} {f : D → D → DH → Option Bool} {e : Expr} {p q : List Stmt} {m : DE} {a b : DSt} {pn ppos cpos pos : Pos} {j : Nat} (hN : X.N.Nodup) (ho : OpR X (compareOp op) (r2 g (cmpD f))) (he : JE X g (wx E) e m) (hp : JSs X g E p a) (hq : JSs X g E q b)
    (hi : X.N[i]? = some x := by rfl) (hx : Loc X.env.scope x := by first | exact Or.inl rfl | exact Or.inr rfl) (hf : X.fn x = true ∨ X.env.scope.names.lookup x = some .local := by first | exact .inl rfl | exact .inr rfl | assumption) (hm : behindInMarks op (.Constant .none j cpos) = false := by first | exact nomark _ | rfl) :
    JS X g E (.If (.Compare (.NamedExpr (.Name x pn) e ppos) [op] [.Constant .none j cpos] pos) p q pos') (sIfW i f m a b) := by
  refine (ps_ifW (ptw_cmp ho (pew_named hN hi hx (pew_of he) hf) pe_non hm) hp hq).imp fun Dn σ H hq => ?_
  obtain ⟨ρ, sd, h, rel, sl, q⟩ := hq
  refine inES rel sl q fun d h1 v ρ1 H1 rel1 x1 sl1 i1 p1 => ?_
  show r2 g (cmpD f) v .non H1 _
  have sl2 := sl1.set i i1
  cases c : f d .non h1 with
  | none => rw [c] at p1; exact p1.elim
  | some k =>
    rw [c] at p1
    refine ⟨ρ1, h1, d, .non, .bl k, rel1, i1, .non, by unfold cmpD; rw [c]; rfl, fun z H' rel' x' i' => ?_⟩
    cases i'
    refine ⟨k, rfl, ?_⟩
    have p2 := PostS.ext p1 x'
    cases k with
    | true => exact ⟨ρ1, _, h1, rel', sl2.ext rel1 x', p2⟩
    | false => exact ⟨ρ1, _, h1, rel', sl2.ext rel1 x', p2⟩
inductive Tag where
  | ty (n : String) | cls (c : Str)
def tagD (d : D) (h : DH) : Option Tag := match d with
  | .non => some (.ty "NoneType")
  | .bl _ => some (.ty "bool")
  | .int _ => some (.ty "int")
  | .str _ => some (.ty "str")
  | .tup _ => some (.ty "tuple")
  | .lst _ => some (.ty "list")
  | .dct _ => some (.ty "dict")
  | .obj c _ => some (.cls c)
  | .ref l => (match h[l]? with
    | some (.lst _) => some (.ty "list")
    | some (.dct _) => some (.ty "dict")
    | some (.ins c _) => some (.cls c)
    | none => none)
  | _ => none
structure ClsT (X : Cx) (c : Str) (C : Addr) : Prop where
  mg : X.mg c = some (.ref C)
  cl : Cls X.K C
  ha : PySem.W.findIn X.K (.ref C) "__class__" = some (some (.builtin "object.__class__"))
  hn : PySem.W.specialIn X.K (.builtin "object.__class__") "__get__" = some (some (.builtin "getset_descriptor.__get__"))
  ht : PySem.W.takesIn X.K (.builtin "object.__class__") = some true
  hm : PySem.W.mroIn X.K C (.type "object") = some true
/-- the answers of isinstance(.., u), by what is asked -/
def Isi (X : Cx) (u : Value) (t : Tag) (b : Bool) : Prop := match t with
  | .ty n => PySem.W.kitOne X.K (.type n) u = some b
  | .cls c => ∃ C, ClsT X c C ∧ PySem.W.kitOne X.K (.ref C) u = some b
def cIsi (k : Tag → Option Bool) (ds : List D) (h : DH) : Option D := match ds with
  | [x, _] => ((tagD x h).bind k).map .bl
  | _ => none
theorem tag_ok (hgK : g.mg = X.mg) (hK : g.K = X.K) {ρ : Lc} {h : DH} {H : Hp} {d : D} {v : V} {t : Tag} {u : Value} {b : Bool} (rel : HRel g ρ h H) (i : IsD g ρ H d v) (e : tagD d h = some t) (a : Isi X u t b) :
    (∃ tv, TyX X.K H v tv ∧ PySem.W.kitOne X.K tv u = some b) ∨ ∃ p o ts, v = .ref p ∧ H p = some (.frz o (.dT ts)) ∧ PySem.W.kitOne X.K (.type "dict") u = some b := by
  have ins : ∀ {p C dx : Addr} {fs : List (Str × V)} {c : Str}, g.mg c = some (.ref C) → H p = some (.ins C dx fs) → Isi X u (.cls c) b → ∃ tv, TyX X.K H (.ref p) tv ∧ PySem.W.kitOne X.K tv u = some b := fun {p C dx fs c} m q a => by
    obtain ⟨C', T, k⟩ := a
    rw [hgK, T.mg] at m; cases m
    exact ⟨_, .base (.ins q T.cl T.ha T.hn T.ht T.hm), k⟩
  cases i with
  | non => cases e; exact .inl ⟨_, .base .non, a⟩
  | bl b => cases e; exact .inl ⟨_, .base (.bl b), a⟩
  | int b => cases e; exact .inl ⟨_, .base (.int b), a⟩
  | str b => cases e; exact .inl ⟨_, .base (.str b), a⟩
  | tup q r =>
    cases e
    rcases q with (q | ⟨o, q⟩) | ⟨o, its, n, q, qc, _⟩
    · exact .inl ⟨_, .base (.tup q), a⟩
    · exact .inl ⟨_, .fTuple q, a⟩
    · rw [hK] at q; exact .inl ⟨_, .kTuple q qc, a⟩
  | lst q n r => cases e; exact .inl ⟨_, .base (.lst q), a⟩
  | dK q n r =>
    cases e
    rcases q with q | ⟨o, q⟩
    · exact .inl ⟨_, .base (.dK q), a⟩
    · exact .inl ⟨_, .fDict q, a⟩
  | dT q n r =>
    cases e
    rcases q with q | ⟨o, q⟩
    · exact .inl ⟨_, .base (.dT q), a⟩
    · exact .inr ⟨_, _, _, rfl, q, a⟩
  | obj m q n r => cases e; exact .inl (ins m q a)
  | @ref l p q =>
    unfold tagD at e
    dsimp only at e
    cases cc : h[l]? with
    | none => simp only [cc] at e; cases e
    | some x =>
      obtain ⟨a', o, e1, e2, k⟩ := rel.cell l x cc
      rw [q] at e1; cases e1
      cases k with
      | lst r => simp only [cc] at e; cases e; exact .inl ⟨_, .base (.lst e2), a⟩
      | dK r => simp only [cc] at e; cases e; exact .inl ⟨_, .base (.dK e2), a⟩
      | dT r => simp only [cc] at e; cases e; exact .inl ⟨_, .base (.dT e2), a⟩
      | ins m r => simp only [cc] at e; cases e; exact .inl (ins m e2 a)
  | _ => cases e
theorem call_cIsi {k : Tag → Option Bool} {u : Value} (hgK : g.mg = X.mg) (hK : g.K = X.K) (hk : ∀ t b, k t = some b → Isi X u t b) : CallR X (.builtin "isinstance") (fun xs H Q => (∃ x c, xs = [x, c] ∧ ClsV c u) ∧ rc g (cIsi k) xs H Q) := by
  intro pins s σ H xs us Q I rr hq
  obtain ⟨⟨x, c, rfl, hc⟩, ρ, h, ds, d, rel, i, e, q⟩ := hq
  obtain ⟨u1, u2, rfl, r1, r2⟩ := vals2 rr
  have e2 := hc.eq r2
  subst e2
  unfold cIsi at e
  split at e
  · rename_i x1 y1
    obtain ⟨v, w, e1, i1, i2⟩ := two_of i
    cases e1
    cases ct : tagD x1 h with
    | none => rw [ct] at e; cases e
    | some t =>
      rw [ct, Option.bind_some] at e
      cases ck : k t with
      | none => rw [ck] at e; cases e
      | some b =>
        rw [ck] at e; cases e
        rcases tag_ok hgK hK rel i1 ct (hk t b ck) with ⟨tv, ty, kk⟩ | ⟨p, o, ts, rfl, hp, kk⟩
        · obtain ⟨P, Z, p, hx⟩ := kit_of I r1 ty
          exact PySem.W.kia_one Z I.kIn p kk hx fun tk => ⟨.bl b, H, I.tok tk, rfl, r2_fin rel q (.bl b)⟩
        · cases (show u1 = Value.ref p from r1)
          obtain ⟨_, _, _, xs, _, o, es, ep, h1, h2, _⟩ := (show ObjOk X.prog X.w H s.heap p (.frz o (.dT ts)) from I.hok p _ hp)
          exact PySem.W.kia_one PySem.W.kitx_dict I.kIn ⟨o, h1, h2.1⟩ kk (fun z => nomatch z) fun tk => ⟨.bl b, H, I.tok tk, rfl, r2_fin rel q (.bl b)⟩
  · cases e
end
end Cp

set_option maxHeartbeats 4000000
namespace Cp
open PySem PySem.Spec PyProof.Rows L2
/-- a promise of a def whose last parameter is starred: F takes the rest as a tuple -/
def spS (g : G) (n : Nat) (F : DF) : Sp := fun vs H Q E => ∃ ρ h ds es, HRel g ρ h H ∧ IsDs g ρ H (ds ++ es) vs ∧ ds.length = n ∧ fine es.length = true ∧ Post g ρ H (IsD g) (F (ds ++ [.tup es]) h) Q E
theorem IsDs.split {g : G} {ρ : Lc} {H : Hp} : ∀ {ds es : List D} {vs : List V}, IsDs g ρ H (ds ++ es) vs → ∃ ws rest, vs = ws ++ rest ∧ IsDs g ρ H ds ws ∧ IsDs g ρ H es rest
  | [], es, vs, r => ⟨[], vs, rfl, .nil, r⟩
  | d :: ds, es, _, .cons a t => by
    obtain ⟨ws, rest, e, r1, r2⟩ := IsDs.split (ds := ds) t
    subst e
    exact ⟨_ :: ws, rest, rfl, .cons a r1, r2⟩
section
variable {P : Program} {w : World} {K : PySem.W.Frag} {mg : Str → Option Value} {base : Heap} {name qual : Str} {params : Arguments} {body : List Stmt} {scope : Scope} {f : Addr} {fd : FuncData} {N ps : List Str} {k : Nat} {g : G} {pv : Str}
theorem fine_sz {n : Nat} (h : fine n = true) : n ≤ sizeLine := by
  have h1 := fine_ok h
  omega
theorem fn_DS (F0 : FunD K name qual params body scope [] [] f fd) (S : FnScope N (ps ++ [pv]) scope) {n : Nat} (hn : n = ps.length)
    (hb0 : ∀ (kV doc pm cdv ct : Value) (an : Option Addr), ∀ us rest : List Value, us.length = ps.length → bindArgs (PySem.W.fnOf name qual params body scope .none kV doc pm an cdv ct) ⟨us ++ rest, []⟩ = (newTuple rest >>= fun t => pure (ps.zip us ++ [(pv, t)])))
    {b : DSt} {F : DF} (hF : ∀ ds h, ds.length = n + 1 → Wk h (b (startD N ds) h) (F ds h))
    (hb : ∀ (cdv : Value) (A : Around) (outer : List Env) (s : Shared) (H : Hp) (E : XK), Room k (A.deeper (envOfC qual scope s.heap.objs.size f cdv)) → JSs (bodyCx P w K mg base N qual scope f cdv A outer s H E) g E body b) :
    FnR P w K mg base (L2.CX P w) (k + 1) f (spS g n F) := by
  obtain ⟨oc, od, dV, kV, doc, pm, an, cdv, ct, osl, rfl, lk, hcd, hd, _⟩ := F0.ex
  rcases hd with ⟨_, rfl⟩ | ⟨z, _⟩
  · refine (StX.fn_star (sp := spD g (n + 1) F) lk hcd S StX.cxUp (hb0 kV doc pm cdv ct an) fun A outer s H vs Q E hr hsp => ?_).imp fun vs H Q E hsp => ?_
    · obtain ⟨ρ, h, ds, rel, i, hl, p⟩ := hsp
      exact ⟨_, hb cdv A outer s H E hr, ρ, startD N ds, h, rel, start_ok i, wk_post rel (hF ds h hl) p⟩
    · obtain ⟨ρ, h, ds, es, rel, i, hl, hf, p⟩ := hsp
      obtain ⟨ws, rest, rfl, r1, r2⟩ := i.split
      refine ⟨ws, rest, rfl, by rw [← r1.length, hl, hn], by rw [← r2.length]; exact fine_sz hf, fun q hq => ?_⟩
      have x := Ext.laid (ρ := ρ) hq (.tup rest)
      exact ⟨ρ, h, ds ++ [.tup es], rel.laid hq _, IsDs.append (.cons (.tup (.inl (.inl upd_same)) (r2.ext rel x)) .nil) (r1.ext rel x), by simp [hl], Post.ext p x⟩
  · exact absurd rfl z
end
/-- a starred __init__ told as one of plain arguments -/
def starF (F : DF) : DF := fun ds h => match ds with
  | d :: es => F [d, .tup es] h
  | [] => .no
section
variable {X : Cx} {g : G} {E : WE} {k n : Nat} {f C : Addr} {F F' : DF} {c : Str} {p pos : Pos} {e : Expr} {es : List Expr} {ma : DM (List D)}
theorem make_pre (hgK : g.mg = X.mg) (hm : X.mg c = some (.ref C)) (w : ∀ n, MkWk c n (starF F) F') {ma : DM (List D)} (hj : ∀ sd h xs h1, ma sd h = .ok xs h1 → fine xs.length = true) {σ : L2.St} {H : Hp} {Q : VK} (hq : tE g (wx E) (eCall F' [] ma) σ H Q) :
    StX.tMakeR C (spS g 1 F) E (tAs g (wx E) ma) σ H Q := by
  obtain ⟨ρ, sd, h, rel, sl, q⟩ := hq
  unfold eCall at q
  cases c : ma sd h with
  | no => rw [c] at q; exact q.elim
  | exc y h1 => exact ⟨ρ, sd, h, rel, sl, by rw [c]; rw [c] at q; exact q⟩
  | ok xs h1 =>
    rw [c] at q
    refine ⟨ρ, sd, h, rel, sl, ?_⟩
    rw [c]
    intro vs ρ1 H1 rel1 x1 i1 x dx hx hdx hne
    have hs : spD g xs.length F' vs H1 Q E := ⟨ρ1, h1, xs, rel1, i1, rfl, by
      have z := Post.ext q x1
      rw [Cp.R.bind_ok, List.append_nil] at z
      exact z⟩
    obtain ⟨ρ2, h2, ds, rel2, i2, hl, p2⟩ := mk_pre (by rw [hgK]; exact hm) (w xs.length) hs x dx hx hdx hne
    match ds, i2, hl, p2 with
    | d :: es, i2, hl, p2 =>
      refine ⟨ρ2, h2, [d], es, rel2, i2, rfl, ?_, p2⟩
      have : es.length = xs.length := by simpa using hl
      rw [this]; exact hj sd h xs h1 c
theorem j_makeS (hgK : g.mg = X.mg) (M : Mk X.K C f) (G0 : FnR X.prog X.w X.K X.mg X.base (L2.CX X.prog X.w) k f (spS g 1 F)) (w : ∀ n, MkWk c n (starF F) F') (hr : Room (k + 1) X.A) (hg : Gl X c) (hm : X.mg c = some (.ref C)) (hx : PassE X E)
    (ha : JA X g (wx E) (e :: es) ma) {j : Nat} (hj : AL ma j) (hfj : fine j = true := by decide) (hdb : (c == ("__debug__" : Str)) = false := by decide) (he : starEach (e :: es) X.env = (false, eval e X.env) :: starEach es X.env := by rfl) (hpl : (backTo pos (starEach es X.env)).any (·.1) = false := by rfl) :
    JE X g (wx E) (.Call (.Name c p) (e :: es) [] pos) (eCall F' [] ma) :=
  (StX.pe_makeR M G0 hr hg hm hx ha hdb he hpl).imp fun σ H Q hq => make_pre hgK hm w (fun sd h xs h1 z => by rw [hj sd h xs h1 z]; exact hfj) hq
theorem j_makeS0 (hgK : g.mg = X.mg) (M : Mk X.K C f) (G0 : FnR X.prog X.w X.K X.mg X.base (L2.CX X.prog X.w) k f (spS g 1 F)) (w : ∀ n, MkWk c n (starF F) F') (hr : Room (k + 1) X.A) (hg : Gl X c) (hm : X.mg c = some (.ref C)) (hx : PassE X E)
    (hdb : (c == ("__debug__" : Str)) = false := by decide) : JE X g (wx E) (.Call (.Name c p) [] [] pos) (eCall F' [] asNil) := by
  refine ⟨fun pins s σ H Q I h => ?_⟩
  refine wpAny_Call_Name_kw (ld_glob I hg hm ?_ hdb)
  have z := make_pre (F := F) (C := C) hgK hm w (ma := asNil) (fun sd h xs h1 z => by cases z; decide) h
  refine PySem.W.callWith_K0 I.kIn M.kp (StX.run_makeR (us := []) (vs := []) M G0 hr hx I .nil ?_)
  obtain ⟨ρ, sd, h, rel, sl, q⟩ := z
  exact fun x dx a b c => Post.fin q rel .nil x dx a b c
/-- {} -/
def eDct0 : DE := fun _ h => .ok (.dct []) h
theorem j_dct0 {pos : Pos} : JE X g (wx E) (.Dict [] [] pos) eDct0 := by
  refine pe_dnewK.imp fun σ H Q hq => ?_
  obtain ⟨ρ, sd, h, rel, sl, q⟩ := hq
  intro a ha
  have rel1 := rel.laid ha (.dK [])
  exact q _ ρ _ rel1 (Ext.laid ha _) (.dK (.inl upd_same) (rel.fresh ha) .nil)
/-- a, b, .. = a list (frozen) -/
def sUnl (ps : Pats) (m : DE) : DSt := fun sd h => (m sd h).thn fun d h1 => match d with
  | .lst xs => (match ps.d xs sd with
    | some sd1 => .nx sd1 h1
    | none => .no)
  | _ => .no
theorem j_unl {es : List Expr} {kk : Nat} {e : Expr} {m : DE} {ps : Pats} {pos tpos : Pos} (hK : g.K = X.K) (hc : X.calm = true) (he : JE X g (wx E) e m) (hg : PGs X es (ps.g X.K))
    (hn : (assignEach es X.env).length = ps.len := by rfl) (hst : (assignEach es X.env).findIdx? (·.1) = none := by rfl)
    (hs : swapsWithSole [.Tuple es kk tpos] e pos.line X.env = pure false := by rfl) (hw : swappedStores [.Tuple es kk tpos] e X.env = pure none := by rfl)
    (h1 : (assignEach [.Tuple es kk tpos] X.env).map (·.2) = [assign (.Tuple es kk tpos) X.env] := by rfl) : JS X g E (.Assign [.Tuple es kk tpos] e pos) (sUnl ps m) := by
  refine (ps_asg he (pg_unl hc hg hn hst) hs hw h1).imp fun Dn σ H hq => ?_
  obtain ⟨ρ, sd, h, rel, sl, q⟩ := hq
  refine inES rel sl q fun d h1 v ρ1 H1 rel1 x1 sl1 i1 p1 => ?_
  cases i1 with
  | @lst a vs xs s n r =>
    dsimp only at p1
    cases c : ps.d xs sd with
    | none => simp only [c] at p1; exact p1.elim
    | some sd1 =>
      simp only [c] at p1
      exact ⟨a, vs, rfl, SqL.of s, by rw [← r.length]; exact Pats.d_len c, Pats.ok hK ps sl1 r c fun σ1 sl2 _ => p1.nxt rel1 sl2⟩
  | _ => exact p1.elim
end
end Cp

set_option maxHeartbeats 4000000
namespace Cp
open PySem PySem.Spec PyProof.Rows L2
mutual
def eqD : D → D → Bool
  | .non, .non => true
  | .bl a, .bl b => a == b
  | .int a, .int b => decide (a = b)
  | .str a, .str b => decide (a = b)
  | .tup a, .tup b => eqDs a b
  | .lst a, .lst b => eqDs a b
  | .dct a, .dct b => eqKs a b
  | .obj c a, .obj d b => decide (c = d) && eqFs a b
  | .set a, .set b => decide (a = b)
  | .scr a, .scr b => decide (a = b)
  | .ref a, .ref b => decide (a = b)
  | .glo a, .glo b => decide (a = b)
  | _, _ => false
def eqDs : List D → List D → Bool
  | [], [] => true
  | a :: r, b :: q => eqD a b && eqDs r q
  | _, _ => false
def eqKs : List (D × D) → List (D × D) → Bool
  | [], [] => true
  | (a, b) :: r, (c, d) :: q => eqD a c && (eqD b d && eqKs r q)
  | _, _ => false
def eqFs : List (Str × D) → List (Str × D) → Bool
  | [], [] => true
  | (a, b) :: r, (c, d) :: q => decide (a = c) && (eqD b d && eqFs r q)
  | _, _ => false
end
mutual
theorem eqD_ok : ∀ {a b : D}, eqD a b = true → a = b
  | .non, b, e => by cases b <;> simp [eqD] at e ⊢
  | .bl x, b, e => by cases b <;> simp [eqD] at e ⊢; exact e
  | .int x, b, e => by cases b <;> simp [eqD] at e ⊢; exact e
  | .str x, b, e => by cases b <;> simp [eqD] at e ⊢; exact e
  | .tup x, b, e => by cases b <;> simp [eqD] at e ⊢; exact eqDs_ok e
  | .lst x, b, e => by cases b <;> simp [eqD] at e ⊢; exact eqDs_ok e
  | .dct x, b, e => by cases b <;> simp [eqD] at e ⊢; exact eqKs_ok e
  | .obj c x, b, e => by cases b <;> simp [eqD] at e ⊢; exact ⟨e.1, eqFs_ok e.2⟩
  | .set x, b, e => by cases b <;> simp [eqD] at e ⊢; exact e
  | .scr x, b, e => by cases b <;> simp [eqD] at e ⊢; exact e
  | .ref x, b, e => by cases b <;> simp [eqD] at e ⊢; exact e
  | .glo x, b, e => by cases b <;> simp [eqD] at e ⊢; exact e
theorem eqDs_ok : ∀ {a b : List D}, eqDs a b = true → a = b
  | [], b, e => by cases b <;> simp [eqDs] at e ⊢
  | x :: r, b, e => by
    cases b <;> simp [eqDs] at e ⊢
    exact ⟨eqD_ok e.1, eqDs_ok e.2⟩
theorem eqKs_ok : ∀ {a b : List (D × D)}, eqKs a b = true → a = b
  | [], b, e => by cases b <;> simp [eqKs] at e ⊢
  | (x, y) :: r, b, e => by
    cases b with
    | nil => simp [eqKs] at e
    | cons p q =>
      obtain ⟨u, v⟩ := p
      simp [eqKs] at e
      rw [eqD_ok e.1, eqD_ok e.2.1, eqKs_ok e.2.2]
theorem eqFs_ok : ∀ {a b : List (Str × D)}, eqFs a b = true → a = b
  | [], b, e => by cases b <;> simp [eqFs] at e ⊢
  | (x, y) :: r, b, e => by
    cases b with
    | nil => simp [eqFs] at e
    | cons p q =>
      obtain ⟨u, v⟩ := p
      simp [eqFs] at e
      rw [e.1, eqD_ok e.2.1, eqFs_ok e.2.2]
end
mutual
theorem eqD_refl : ∀ a : D, eqD a a = true
  | .non => by simp [eqD]
  | .bl x => by simp [eqD]
  | .int x => by simp [eqD]
  | .str x => by simp [eqD]
  | .tup x => by simp [eqD, eqDs_refl x]
  | .lst x => by simp [eqD, eqDs_refl x]
  | .dct x => by simp [eqD, eqKs_refl x]
  | .obj c x => by simp [eqD, eqFs_refl x]
  | .set x => by simp [eqD]
  | .scr x => by simp [eqD]
  | .ref x => by simp [eqD]
  | .glo x => by simp [eqD]
theorem eqDs_refl : ∀ a : List D, eqDs a a = true
  | [] => by simp [eqDs]
  | x :: r => by simp [eqDs, eqD_refl x, eqDs_refl r]
theorem eqKs_refl : ∀ a : List (D × D), eqKs a a = true
  | [] => by simp [eqKs]
  | (x, y) :: r => by simp [eqKs, eqD_refl x, eqD_refl y, eqKs_refl r]
theorem eqFs_refl : ∀ a : List (Str × D), eqFs a a = true
  | [] => by simp [eqFs]
  | (x, y) :: r => by simp [eqFs, eqD_refl y, eqFs_refl r]
end
def eqC : Cell → Cell → Bool
  | .lst a, .lst b => eqDs a b
  | .dct a, .dct b => eqKs a b
  | .ins c a, .ins d b => decide (c = d) && eqFs a b
  | _, _ => false
theorem eqC_ok {a b : Cell} (e : eqC a b = true) : a = b := by
  cases a <;> cases b <;> simp [eqC] at e ⊢
  · exact eqDs_ok e
  · exact eqKs_ok e
  · exact ⟨e.1, eqFs_ok e.2⟩
theorem eqC_refl (a : Cell) : eqC a a = true := by
  cases a
  · exact eqDs_refl _
  · exact eqKs_refl _
  · simp [eqC, eqFs_refl]
/-- h' names only its own cells, as far as it is not h -/
def okC (n : Nat) : DH → DH → Bool
  | _, [] => true
  | c :: h, d :: h' => (eqC c d || bndC n d) && okC n h h'
  | [], d :: h' => bndC n d && okC n [] h'
theorem okC_ok {n : Nat} : ∀ {h h' : DH}, okC n h h' = true → ∀ (l : Nat) (c : Cell), h'[l]? = some c → h[l]? = some c ∨ bndC n c = true
  | _, [], _, l, c, e => by simp at e
  | c0 :: h, d :: h', e, l, c, q => by
    rw [okC, Bool.and_eq_true, Bool.or_eq_true] at e
    cases l with
    | zero =>
      have : d = c := by simpa using q
      subst this
      exact e.1.elim (fun z => .inl (by rw [eqC_ok z]; rfl)) .inr
    | succ l => exact okC_ok e.2 l c q
  | [], d :: h', e, l, c, q => by
    rw [okC, Bool.and_eq_true] at e
    cases l with
    | zero =>
      have : d = c := by simpa using q
      subst this
      exact .inr e.1
    | succ l =>
      rcases okC_ok e.2 l c q with z | z
      · simp at z
      · exact .inr z
@[simp] theorem okC_refl (n : Nat) : ∀ h : DH, okC n h h = true
  | [] => rfl
  | c :: h => by rw [okC, eqC_refl, okC_refl n h]; rfl
theorem okC_set {n : Nat} : ∀ {h : DH} {l : Nat} {c : Cell}, bndC n c = true → okC n h (h.set l c) = true
  | [], l, c, _ => rfl
  | d :: h, 0, c, e => by rw [List.set_cons_zero, okC, e, okC_refl]; simp
  | d :: h, l + 1, c, e => by rw [List.set_cons_succ, okC, eqC_refl, okC_set e]; rfl
theorem okC_cells {h h1 : DH} {n : Nat} (hn : (h1.take n).length = n) (e : okC n h (h1.take n) = true) : CellsOk h (h1.take n) := fun l c q => by
  rw [hn]; exact okC_ok e l c q
/-- cut to the n cells that were there -/
def outF (h : DH) (n : Nat) (r : RS) : R D := match r with
  | .rt d h1 => if Nat.ble n h1.length && okC n h (h1.take n) then ofO (frz n h1 d) (h1.take n) else .no
  | .nx _ h1 => if Nat.ble n h1.length && okC n h (h1.take n) then .ok .non (h1.take n) else .no
  | .exc x h1 => if Nat.ble n h1.length && (okC n h (h1.take n) && bndf n x.fs) then .exc x (h1.take n) else .no
  | _ => .no
def runF (N : List Str) (b : DSt) : DF := fun ds h => outF h h.length (b (startD N ds) h)
/-- nothing cut -/
def runA (N : List Str) (b : DSt) : DF := fun ds h => match b (startD N ds) h with
  | .rt d h1 => .ok d h1
  | .nx _ h1 => .ok .non h1
  | .exc x h1 => .exc x h1
  | _ => .no
theorem outF_wk (h : DH) (r : RS) : Wk h r (outF h h.length r) := by
  have len : ∀ {h1 : DH}, Nat.ble h.length h1.length = true → (h1.take h.length).length = h.length := fun {h1} e => by
    have := Nat.le_of_ble_eq_true e
    simp; omega
  unfold outF
  cases r with
  | rt d h1 =>
    dsimp only
    split
    · rename_i e
      obtain ⟨e1, e2⟩ := Bool.and_eq_true_iff.mp e
      have l := len e1
      cases q : frz h.length h1 d with
      | none => exact .no
      | some d' => exact .rt (by rw [l]; exact Nat.le_refl _) (by rw [l]) (okC_cells l e2) (by rw [l]; exact q)
    · exact .no
  | nx sd h1 =>
    dsimp only
    split
    · rename_i e
      obtain ⟨e1, e2⟩ := Bool.and_eq_true_iff.mp e
      have l := len e1
      exact .nx (by rw [l]; exact Nat.le_refl _) (by rw [l]) (okC_cells l e2)
    · exact .no
  | exc x h1 =>
    dsimp only
    split
    · rename_i e
      obtain ⟨e1, e2⟩ := Bool.and_eq_true_iff.mp e
      obtain ⟨e2, e3⟩ := Bool.and_eq_true_iff.mp e2
      have l := len e1
      exact .exc (by rw [l]; exact Nat.le_refl _) (by rw [l]) (okC_cells l e2) (by rw [l]; exact e3)
    · exact .no
  | _ => exact .no
/-- the promise read off a body, as the def's rule wants it -/
inductive WkA : RS → R D → Prop
  | no {r : RS} : WkA r .no
  | rt {d : D} {h1 : DH} : WkA (.rt d h1) (.ok d h1)
  | nx {sd : Sl} {h1 : DH} : WkA (.nx sd h1) (.ok .non h1)
  | exc {x : Ex} {h1 : DH} : WkA (.exc x h1) (.exc x h1)
theorem runA_wk (N : List Str) (b : DSt) (ds : List D) (h : DH) : WkA (b (startD N ds) h) (runA N b ds h) := by
  unfold runA
  cases b (startD N ds) h <;> constructor
section
variable {g : G} {ρ : Lc} {h : DH} {H : Hp} {E : WE} {Q : VK}
theorem wkA_post {r : RS} {R' : R D} (w : WkA r R') (p : Post g ρ H (IsD g) R' Q E) : PostS g ρ H r { nx := fun _ H' => Q .non H', rt := Q } E := by
  cases w with
  | no => exact p.elim
  | rt => exact p
  | nx => exact fun σ' ρ1 H1 rel1 x1 _ => p .non ρ1 H1 rel1 x1 .non
  | exc => exact p
end
section
variable {P : Program} {w : World} {K : PySem.W.Frag} {mg : Str → Option Value} {base : Heap} {x qual : Str} {params : Arguments} {body : List Stmt} {scope : Scope} {dvs : List V} {kws : List (Str × V)} {f : Addr} {fd : FuncData} {N ps : List Str} {k : Nat} {g : G} {b : DSt}
theorem fn_R (F0 : FunD K x qual params body scope dvs kws f fd) (S : FnScope N ps scope) {n : Nat} (hn : n = ps.length)
    (hb : ∀ (cdv : Value) (A : Around) (outer : List Env) (s : Shared) (H : Hp) (E : XK), Room k (A.deeper (envOfC qual scope s.heap.objs.size f cdv)) → JSs (bodyCx P w K mg base N qual scope f cdv A outer s H E) g E body b) :
    FnOk P w K mg base (L2.CX P w) (k + 1) f fd ps (spD g n (runF N b)) := fn_D F0 S hn (fun ds h _ => outF_wk h _) hb
theorem fn_A (F0 : FunD K x qual params body scope dvs kws f fd) (S : FnScope N ps scope) {n : Nat} (hn : n = ps.length)
    (hb : ∀ (cdv : Value) (A : Around) (outer : List Env) (s : Shared) (H : Hp) (E : XK), Room k (A.deeper (envOfC qual scope s.heap.objs.size f cdv)) → JSs (bodyCx P w K mg base N qual scope f cdv A outer s H E) g E body b) :
    FnOk P w K mg base (L2.CX P w) (k + 1) f fd ps (spD g n (runA N b)) := by
  refine F0.ok S (fun vs H Q E h => ?_) fun cdv A outer s H vs Q E hr h => ?_
  · obtain ⟨ρ, h, ds, rel, i, hl, p⟩ := h
    rw [← i.length, hl, hn]
  · obtain ⟨ρ, h, ds, rel, i, hl, p⟩ := h
    exact ⟨_, hb cdv A outer s H E hr, ρ, startD N ds, h, rel, start_ok i, wkA_post (runA_wk N b ds h) p⟩
theorem fn_RS {pv : Str} (F0 : FunD K x qual params body scope [] [] f fd) (S : FnScope N (ps ++ [pv]) scope) {n : Nat} (hn : n = ps.length)
    (hb0 : ∀ (kV doc pm cdv ct : Value) (an : Option Addr), ∀ us rest : List Value, us.length = ps.length → bindArgs (PySem.W.fnOf x qual params body scope .none kV doc pm an cdv ct) ⟨us ++ rest, []⟩ = (newTuple rest >>= fun t => pure (ps.zip us ++ [(pv, t)])))
    (hb : ∀ (cdv : Value) (A : Around) (outer : List Env) (s : Shared) (H : Hp) (E : XK), Room k (A.deeper (envOfC qual scope s.heap.objs.size f cdv)) → JSs (bodyCx P w K mg base N qual scope f cdv A outer s H E) g E body b) :
    FnR P w K mg base (L2.CX P w) (k + 1) f (spS g n (runF N b)) := fn_DS F0 S hn hb0 (fun ds h _ => outF_wk h _) hb
end
def mkF (c : Str) (F : DF) : DF := fun ds h => match F (.ref h.length :: ds) (h ++ [.ins c []]) with
  | .ok .non h1 => if Nat.ble h.length h1.length && okC h.length h (h1.take h.length) then ofO (frz h.length h1 (.ref h.length)) (h1.take h.length) else .no
  | .exc x h1 => if Nat.ble h.length h1.length && (okC h.length h (h1.take h.length) && bndf h.length x.fs) then .exc x (h1.take h.length) else .no
  | _ => .no
theorem mkF_wk (c : Str) (n : Nat) (F : DF) : MkWk c n F (mkF c F) := fun ds h hl => by
  have len : ∀ {h1 : DH}, Nat.ble h.length h1.length = true → (h1.take h.length).length = h.length := fun {h1} e => by
    have := Nat.le_of_ble_eq_true e
    simp; omega
  unfold mkF
  cases e : F (.ref h.length :: ds) (h ++ [.ins c []]) with
  | no => trivial
  | ok d h1 =>
    cases d with
    | non =>
      dsimp only
      split
      · rename_i h2
        split at h2
        · trivial
        · trivial
      · rename_i d h' h2
        split at h2
        · rename_i b
          obtain ⟨e1, e2⟩ := Bool.and_eq_true_iff.mp b
          have l := len e1
          cases q : frz h.length h1 (.ref h.length) with
          | none => rw [q] at h2; cases h2
          | some d' =>
            rw [q] at h2
            cases h2
            exact ⟨h1, rfl, by rw [l]; exact Nat.le_refl _, by rw [l], okC_cells l e2, by rw [l]; exact q⟩
        · cases h2
      · rename_i x h' h2
        split at h2
        · cases q : frz h.length h1 (.ref h.length) <;> rw [q] at h2 <;> cases h2
        · cases h2
    | _ => trivial
  | exc x h1 =>
    dsimp only
    split
    · trivial
    · rename_i d h' h2
      split at h2 <;> cases h2
    · rename_i x' h' h2
      split at h2
      · rename_i b
        obtain ⟨e1, e2⟩ := Bool.and_eq_true_iff.mp b
        obtain ⟨e2, e3⟩ := Bool.and_eq_true_iff.mp e2
        have l := len e1
        cases h2
        exact ⟨h1, rfl, by rw [l]; exact Nat.le_refl _, by rw [l], okC_cells l e2, by rw [l]; exact e3⟩
      · cases h2
def lstIs (l : Nat) (xs : List D) : DH → Bool := fun h => match h[l]? with
  | some (.lst ys) => eqDs ys xs
  | _ => false
def iCell (m : DE) : DI := fun sd h => (m sd h).bind fun x h1 => match x with
  | .ref l => (match h1[l]? with
    | some (.lst xs) => .ok ⟨xs, lstIs l xs⟩ h1
    | _ => .no)
  | _ => .no
section
variable {X : Cx} {g : G} {E : WE}
theorem lstIs_ok {ρ2 : Lc} {h2 : DH} {H2 : Hp} {l : Nat} {a : Addr} {xs : List D} (rel : HRel g ρ2 h2 H2) (q : ρ2.ad[l]? = some a) (e : lstIs l xs h2 = true) : ∃ vs, H2 a = some (.lst vs) ∧ IsDs g ρ2 H2 xs vs := by
  unfold lstIs at e
  split at e
  · rename_i ys c
    have := eqDs_ok e
    subst this
    exact cell_lst rel q c
  · cases e
theorem ji_cell {tg l : Expr} {m : DE} (hl : JE X g (wx E) l m) : JI X g E tg l (iCell m) := by
  refine (pi_list hl).imp fun σ H R hq => ?_
  obtain ⟨ρ, sd, h, rel, sl, p⟩ := hq
  refine ⟨ρ, sd, h, rel, sl, ?_⟩
  unfold iCell at p
  cases e : m sd h with
  | no => rw [e] at p; exact p.elim
  | exc x h1 => rw [e] at p; exact p
  | ok d h1 =>
    rw [e] at p
    intro v ρ1 H1 rel1 x1 i1
    cases i1 with
    | @ref l a q =>
      rw [Cp.R.bind_ok] at p
      dsimp only at p
      cases c : h1[l]? with
      | none => simp only [c] at p
      | some cc =>
        cases cc with
        | lst xs =>
          simp only [c] at p
          obtain ⟨vs, s, r⟩ := cell_lst rel1 q c
          refine ⟨a, rfl, ⟨vs, SqL.of s⟩, p (Itl X.K a) ρ1 H1 rel1 x1 ⟨fun i d ρ2 h2 H2 rel2 x2 ok hd => ?_, fun ρ2 h2 H2 rel2 x2 ok => ?_⟩⟩
          · obtain ⟨vs2, s2, r2⟩ := lstIs_ok rel2 (x2.get q) ok
            obtain ⟨v, ev, rv⟩ := r2.get hd
            refine ⟨⟨vs2, v, SqL.of s2, ev⟩, fun x H3 yy => ?_⟩
            obtain ⟨e3, y3⟩ := yy
            subst e3
            have q := y3 vs2 (SqL.of s2)
            rw [ev] at q
            cases q
            exact ⟨rel2, Ext.refl _ _, rv⟩
          · obtain ⟨vs2, s2, r2⟩ := lstIs_ok rel2 (x2.get q) ok
            exact ⟨vs2, SqL.of s2, by rw [r2.length]; exact Nat.le_refl _⟩
        | _ => simp only [c] at p
    | _ => exact p.elim
/-- a tuple, a list that is never changed, a list by its place -/
def iAny (m : DE) : DI := fun sd h => (m sd h).bind fun x h1 => match x with
  | .tup xs => .ok ⟨xs, always⟩ h1
  | .lst xs => .ok ⟨xs, always⟩ h1
  | .ref l => (match h1[l]? with
    | some (.lst xs) => .ok ⟨xs, lstIs l xs⟩ h1
    | _ => .no)
  | _ => .no
theorem ji_any {tg l : Expr} {m : DE} (hK : g.K = X.K) (hl : JE X g (wx E) l m) : JI X g E tg l (iAny m) := by
  refine ⟨fun pins s σ H R I hq => ?_⟩
  obtain ⟨ρ, sd, h, rel, sl, p⟩ := hq
  cases e : m sd h with
  | no => unfold iAny at p; rw [e] at p; exact p.elim
  | exc x h1 => exact (ji_tup hK hl).run pins s σ H R I ⟨ρ, sd, h, rel, sl, by unfold iAny at p; unfold iSeq; rw [e] at p ⊢; exact p⟩
  | ok d h1 =>
    have p0 := p
    unfold iAny at p
    rw [e] at p
    cases d with
    | tup xs => exact (ji_tup hK hl).run pins s σ H R I ⟨ρ, sd, h, rel, sl, by unfold iSeq; rw [e]; exact p⟩
    | lst xs => exact (ji_lst hl).run pins s σ H R I ⟨ρ, sd, h, rel, sl, by unfold iLst; rw [e]; exact p⟩
    | ref l => exact (ji_cell hl).run pins s σ H R I ⟨ρ, sd, h, rel, sl, by unfold iCell; rw [e]; exact p⟩
    | _ => exact p.elim
end
end Cp

set_option maxHeartbeats 4000000
namespace Cp
open PySem PySem.Spec PyProof.Rows L2
def dNeg (x : D) (_ : DH) : Option D := match x with
  | .int i => some (.int (-i))
  | _ => none
theorem j_neg {X : Cx} {g : G} {W : WX} {a : Expr} {m : DE} {pos : Pos} (ha : JE X g W a m) : JE X g W (.UnaryOp .USub a pos) (eO1 dNeg m) := by
  refine (pe_un un_neg ha).imp fun σ H Q hq => ?_
  obtain ⟨ρ, sd, h, rel, sl, q⟩ := hq
  refine inE rel sl q fun d h1 v ρ1 H1 rel1 x1 sl1 i1 p1 => ?_
  cases i1 with
  | int i => exact ⟨i, rfl, p1.fin rel1 (.int (-i))⟩
  | _ => exact p1.elim
inductive Adr where
  | glo (x : Str) | meth (c m : Str) | prop (c f : Str)
def pa (K : PySem.W.Frag) (c f : Str) : Addr := He.ma K (He.ga K c) f
def gp (K : PySem.W.Frag) (c f : Str) : Addr := match PySem.W.recIn K (pa K c f) "property" with
  | some (.ref g :: _) => g
  | _ => 0
def Adr.at (K : PySem.W.Frag) : Adr → Addr
  | .glo x => He.ga K x
  | .meth c m => He.ma K (He.ga K c) m
  | .prop c f => gp K c f
def tagV (K : PySem.W.Frag) : Tag → Value
  | .ty n => .type n
  | .cls c => .ref (He.ga K c)
inductive Fx where
  | fa (f : He.Fa)
  | isi (t u : Tag) (b : Bool)
  | clsT (x : Str)
  | prop (c f : Str)
  | keep (a : Adr)
def Fx.ok (K : PySem.W.Frag) : Fx → Bool
  | .fa f => f.ok K
  | .isi t u b => decide (PySem.W.kitOne K (tagV K t) (tagV K u) = some b)
  | .clsT x => He.eqO (PySem.W.findIn K (.ref (He.ga K x)) "__class__") (some (some (.builtin "object.__class__"))) && (He.eqO (PySem.W.specialIn K (.builtin "object.__class__") "__get__") (some (some (.builtin "getset_descriptor.__get__"))) &&
      (decide (PySem.W.takesIn K (.builtin "object.__class__") = some true) && decide (PySem.W.mroIn K (He.ga K x) (.type "object") = some true)))
  | .prop c f => He.eqO (PySem.W.findIn K (.ref (He.ga K c)) f) (some (some (.ref (pa K c f)))) && (He.eqO (PySem.W.specialIn K (.ref (pa K c f)) "__get__") (some (some (.builtin "property.__get__"))) && (decide (PySem.W.takesIn K (.ref (pa K c f)) = some true) &&
      (match PySem.W.recIn K (pa K c f) "property" with
        | some (.ref _ :: _) => true
        | _ => false)))
  | .keep a => PySem.W.keepIn K (.ref (a.at K))
section
variable {K : PySem.W.Frag}
theorem isi_ok {t u : Tag} {b : Bool} (c : (Fx.isi t u b).ok K = true) : PySem.W.kitOne K (tagV K t) (tagV K u) = some b := of_decide_eq_true c
theorem prop_ok {c f : Str} (h : (Fx.prop c f).ok K = true) : PropOf K (He.ga K c) f (pa K c f) (gp K c f) := by
  obtain ⟨c1, h⟩ := He.ba h
  obtain ⟨c2, h⟩ := He.ba h
  obtain ⟨c3, c4⟩ := He.ba h
  refine ⟨He.eqO_ok c1, He.eqO_ok c2, of_decide_eq_true c3, ?_⟩
  unfold gp
  split at c4
  · rename_i g r q
    exact ⟨r, by rw [q]⟩
  · cases c4
end
structure DefX where
  at_ : Adr
  name : Str
  qual : Str
  params : Arguments
  body : List Stmt
  scope : Scope
  dfl : List He.Dv := []
  kwd : List (Str × He.Dv) := []
def fnX (K : PySem.W.Frag) (a : Addr) : He.FnW := match K.lookup a with
  | some ⟨_, _, .func fd, _⟩ => some (fd.name, fd.qualname, fd.params, fd.body, fd.scope, fd.globals, fd.closure, fd.builtins)
  | _ => none
def DefX.val (d : DefX) : He.FnW := some (d.name, d.qual, d.params, .stmts d.body, d.scope, mainGlobals, [], builtinsNs)
def DefX.dvs (K : PySem.W.Frag) (d : DefX) : List V := d.dfl.map (He.Dv.v K)
def DefX.kws (K : PySem.W.Frag) (d : DefX) : List (Str × V) := d.kwd.map fun q => (q.1, q.2.v K)
def DefX.ok (K : PySem.W.Frag) (d : DefX) : Bool := PySem.W.keepIn K (.ref (d.at_.at K)) && (match K.lookup (d.at_.at K) with
  | some ⟨_, _, .func fd, _⟩ => PySem.W.codeIn K fd.code d.qual && (He.dflB K fd.defaults (d.dvs K) && He.kwdB K fd.kwdefaults (d.kws K))
  | _ => false)
theorem DefX.funD {K : PySem.W.Frag} {d : DefX} (e : fnX K (d.at_.at K) = d.val) (c : d.ok K = true) : ∃ fd, FunD K d.name d.qual d.params d.body d.scope (d.dvs K) (d.kws K) (d.at_.at K) fd := by
  obtain ⟨kp, c2⟩ := He.ba c
  unfold fnX at e
  cases q : K.lookup (d.at_.at K) with
  | none =>
    rw [q] at c2
    cases c2
  | some o =>
    obtain ⟨oc, od, dt, osl⟩ := o
    rw [q] at c2 e
    cases dt with
    | func fd =>
      obtain ⟨n1, n2, n3, n4, n5, n6, n7, n8, n9, n10, n11, n12, n13, n14, n15⟩ := fd
      have e2 : (some (n1, n2, n3, n4, n5, n6, n7, n15) : He.FnW) = some (d.name, d.qual, d.params, .stmts d.body, d.scope, mainGlobals, [], builtinsNs) := e
      simp only [Option.some.injEq, Prod.mk.injEq] at e2
      obtain ⟨h1, h2, h3, h4, h5, h6, h7, h8⟩ := e2
      subst h1 h2 h3 h4 h5 h6 h7 h8
      have c3 : (PySem.W.codeIn K n13 d.qual && (He.dflB K n8 (d.dvs K) && He.kwdB K n9 (d.kws K))) = true := c2
      obtain ⟨k1, k2⟩ := He.ba c3
      obtain ⟨k3, k4⟩ := He.ba k2
      exact ⟨_, ⟨oc, od, n8, n9, n10, n11, n12, n13, n14, osl, rfl, q, k1, He.dflB_ok k3, He.kwdB_ok k4⟩, kp⟩
    | _ => cases c2
def obsX (fa : List Fx) (fn : List DefX) (K : PySem.W.Frag) : He.AlD := ((fa.all fun f => f.ok K) && fn.all fun d => d.ok K, fn.map fun d => fnX K (d.at_.at K))
def valX (fn : List DefX) : He.AlD := (true, fn.map DefX.val)
def SaysX (fa : List Fx) (fn : List DefX) (K : PySem.W.Frag) : Prop := obsX fa fn K = valX fn
def obsXG (n : Nat) (fa : List Fx) (fn : List DefX) (g : Addr → Option Obj) : He.AlD := obsX fa fn (He.frG g (He.asD g n))
def hookX (n : Nat) (fa : List Fx) (fn : List DefX) : PySem.W.Hook where
  α := He.AlD
  obs := fun s => obsXG n fa fn s.heap.get?
  val := fun _ => valX fn
  says := fun _ h => ∃ K : PySem.W.Frag, K.In h ∧ SaysX fa fn K
  of := fun _ _ e => ⟨_, He.frG_in, e⟩
  keeps := fun _ _ _ ⟨K, hK, c⟩ k => ⟨K, PySem.W.Frag.In.keeps hK k, c⟩
theorem obsXG_eq {n : Nat} {fa : List Fx} {fn : List DefX} {g : Addr → Option Obj} {s : Shared} (h : ∀ a, g a = s.heap.get? a) : obsXG n fa fn g = (hookX n fa fn).obs s := by
  have e : g = s.heap.get? := funext h
  rw [e] <;> rfl
section
variable {fa : List Fx} {fn : List DefX} {K : PySem.W.Frag}
theorem SaysX.fact (c : SaysX fa fn K) (i : Nat) {f : Fx} (h : fa[i]? = some f := by rfl) : f.ok K = true := by
  have c1 := (He.ba (show ((fa.all fun f => f.ok K) && fn.all fun d => d.ok K) = true from congrArg (fun z : He.AlD => z.1) c)).1
  exact List.all_eq_true.mp c1 f (List.mem_of_getElem? h)
theorem SaysX.def_ (c : SaysX fa fn K) (i : Nat) {d : DefX} (h : fn[i]? = some d := by rfl) : ∃ fd, FunD K d.name d.qual d.params d.body d.scope (d.dvs K) (d.kws K) (d.at_.at K) fd := by
  have c2 := (He.ba (show ((fa.all fun f => f.ok K) && fn.all fun d => d.ok K) = true from congrArg (fun z : He.AlD => z.1) c)).2
  have e : fn.map (fun d => fnX K (d.at_.at K)) = fn.map DefX.val := congrArg (fun z : He.AlD => z.2) c
  have e2 : (fn.map fun d => fnX K (d.at_.at K))[i]? = (fn.map DefX.val)[i]? := by rw [e]
  rw [List.getElem?_map, List.getElem?_map, h] at e2
  exact DefX.funD (Option.some.inj e2) (List.all_eq_true.mp c2 d (List.mem_of_getElem? h))
end
/-- the module as a base sees it -/
structure Bs (fa : List Fx) (fn : List DefX) (K : PySem.W.Frag) (mg : Str → Option Value) : Prop where
  says : SaysX fa fn K
  ns : ∃ h : Heap, K.In h ∧ h.Ns mainGlobals mg
section
variable {fa : List Fx} {fn : List DefX} {K : PySem.W.Frag} {mg : Str → Option Value}
theorem Bs.glo (B : Bs fa fn K mg) (i : Nat) {x : Str} (h : fa[i]? = some (.fa (.glo x)) := by rfl) : mg x = some (.ref (He.ga K x)) := by
  obtain ⟨_, X, G⟩ := B.ns
  exact He.glo_ok X G (B.says.fact i h)
theorem Bs.free (B : Bs fa fn K mg) (i : Nat) {x : Str} (h : fa[i]? = some (.fa (.free x)) := by rfl) : mg x = none := by
  obtain ⟨_, X, G⟩ := B.ns
  exact He.free_ok X G (B.says.fact i h)
theorem Bs.int (B : Bs fa fn K mg) (i : Nat) {x : Str} {n : Int} (h : fa[i]? = some (.fa (.int x n)) := by rfl) : ∃ t, mg x = some (.int n t) := by
  obtain ⟨_, X, G⟩ := B.ns
  exact He.int_ok X G (B.says.fact i h)
theorem Bs.str (B : Bs fa fn K mg) (i : Nat) {x z : Str} (h : fa[i]? = some (.fa (.str x z)) := by rfl) : ∃ t, mg x = some (.str z t) := by
  obtain ⟨_, X, G⟩ := B.ns
  exact He.str_ok X G (B.says.fact i h)
theorem Bs.cls (B : Bs fa fn K mg) (i : Nat) {x : Str} (h : fa[i]? = some (.fa (.cls x)) := by rfl) : Cls K (He.ga K x) := He.cls_ok (B.says.fact i h)
theorem Bs.noat (B : Bs fa fn K mg) (i : Nat) {x f : Str} (h : fa[i]? = some (.fa (.noat x f)) := by rfl) : NoAttr K (He.ga K x) f := He.noat_ok (B.says.fact i h)
theorem Bs.meth (B : Bs fa fn K mg) (i : Nat) {x m : Str} (h : fa[i]? = some (.fa (.meth x m)) := by rfl) : Meth K (He.ga K x) m (He.ma K (He.ga K x) m) := He.meth_ok (B.says.fact i h)
theorem Bs.mkr (B : Bs fa fn K mg) (i : Nat) {x : Str} (h : fa[i]? = some (.fa (.mkr x)) := by rfl) : Mk K (He.ga K x) (He.ma K (He.ga K x) "__init__") := He.mkr_ok (B.says.fact i h)
theorem Bs.prop (B : Bs fa fn K mg) (i : Nat) {x m : Str} (h : fa[i]? = some (.prop x m) := by rfl) : PropOf K (He.ga K x) m (pa K x m) (gp K x m) := prop_ok (B.says.fact i h)
theorem Bs.isi (B : Bs fa fn K mg) (i : Nat) {t u : Tag} {b : Bool} (h : fa[i]? = some (.isi t u b) := by rfl) : PySem.W.kitOne K (tagV K t) (tagV K u) = some b := isi_ok (B.says.fact i h)
end
theorem Bs.clsT {fa : List Fx} {fn : List DefX} {X : Cx} (B : Bs fa fn X.K X.mg) (i j k : Nat) {x : Str} (h : fa[i]? = some (.clsT x) := by rfl) (hg : fa[j]? = some (.fa (.glo x)) := by rfl) (hc : fa[k]? = some (.fa (.cls x)) := by rfl) : ClsT X x (He.ga X.K x) := by
  have h := B.says.fact i h
  obtain ⟨c1, h⟩ := He.ba h
  obtain ⟨c2, h⟩ := He.ba h
  obtain ⟨c3, c4⟩ := He.ba h
  exact ⟨B.glo j hg, B.cls k hc, He.eqO_ok c1, He.eqO_ok c2, of_decide_eq_true c3, of_decide_eq_true c4⟩
def tagEq : Tag → Tag → Bool
  | .ty a, .ty b => decide (a = b)
  | .cls a, .cls b => decide (a = b)
  | _, _ => false
theorem tagEq_ok {a b : Tag} (h : tagEq a b = true) : a = b := by
  cases a <;> cases b <;> simp [tagEq] at h ⊢ <;> exact h
def ansT : List (Tag × Bool) → Tag → Option Bool
  | [], _ => none
  | (t, b) :: r, u => if tagEq t u = true then some b else ansT r u
theorem isi_nil {X : Cx} {u : Value} : ∀ t b, ansT [] t = some b → Isi X u t b := fun _ _ e => by cases e
theorem isi_ty {X : Cx} {u : Value} {n : String} {b : Bool} {r : List (Tag × Bool)} (h : PySem.W.kitOne X.K (.type n) u = some b) (hr : ∀ t b, ansT r t = some b → Isi X u t b) : ∀ t b', ansT ((.ty n, b) :: r) t = some b' → Isi X u t b' := fun t b' e => by
  unfold ansT at e
  split at e
  · rename_i q
    cases tagEq_ok q; cases e
    exact h
  · exact hr t b' e
theorem isi_cls {X : Cx} {u : Value} {c : Str} {C : Addr} {b : Bool} {r : List (Tag × Bool)} (T : ClsT X c C) (h : PySem.W.kitOne X.K (.ref C) u = some b) (hr : ∀ t b, ansT r t = some b → Isi X u t b) : ∀ t b', ansT ((.cls c, b) :: r) t = some b' → Isi X u t b' := fun t b' e => by
  unfold ansT at e
  split at e
  · rename_i q
    cases tagEq_ok q; cases e
    exact ⟨C, T, h⟩
  · exact hr t b' e
end Cp

set_option maxHeartbeats 4000000
namespace Cp
open PySem PySem.Spec PyProof.Rows L2
def rIsiD (g : G) (u : Value) (k : Tag → Option Bool) : List V → Hp → VK → Prop := fun xs H Q => ∃ x c ρ h d b, xs = [x, c] ∧ ClsV c u ∧ HRel g ρ h H ∧ IsD g ρ H d x ∧ (tagD d h).bind k = some b ∧ Q (.bl b) H
section
variable {X : Cx} {g : G} {E : WE} {W : WX}
theorem call_isiD {k : Tag → Option Bool} {u : Value} (hgK : g.mg = X.mg) (hK : g.K = X.K) (hk : ∀ t b, k t = some b → Isi X u t b) : CallR X (.builtin "isinstance") (rIsiD g u k) := by
  intro pins s σ H xs us Q I rr hq
  obtain ⟨x, c, ρ, h, d, b, rfl, hc, rel, i1, e, q⟩ := hq
  obtain ⟨u1, u2, rfl, r1, r2⟩ := vals2 rr
  have e2 := hc.eq r2
  subst e2
  cases ct : tagD d h with
  | none => rw [ct] at e; cases e
  | some t =>
    rw [ct, Option.bind_some] at e
    rcases tag_ok hgK hK rel i1 ct (hk t b e) with ⟨tv, ty, kk⟩ | ⟨p, o, ts, rfl, hp, kk⟩
    · obtain ⟨P, Z, p, hx⟩ := kit_of I r1 ty
      exact PySem.W.kia_one Z I.kIn p kk hx fun tk => ⟨.bl b, H, I.tok tk, rfl, q⟩
    · cases (show u1 = Value.ref p from r1)
      obtain ⟨_, _, _, xs, _, o, es, ep, h1, h2, _⟩ := (show ObjOk X.prog X.w H s.heap p (.frz o (.dT ts)) from I.hok p _ hp)
      exact PySem.W.kia_one PySem.W.kitx_dict I.kIn ⟨o, h1, h2.1⟩ kk (fun z => nomatch z) fun tk => ⟨.bl b, H, I.tok tk, rfl, q⟩
def eIsi (k : Tag → Option Bool) (m : DE) : DE := fun sd h => (m sd h).bind fun d h1 => ofO (((tagD d h1).bind k).map D.bl) h1
theorem isi_core {k : Tag → Option Bool} {u : Value} {c : V} {m : DE} (hc : ClsV c u) {σ : L2.St} {H : Hp} {Q : VK} (hq : tE g W (eIsi k m) σ H Q) : tCons (tE g W m) (tCons (tC c) tNil) σ H fun xs H1 => rIsiD g u k xs H1 Q := by
  obtain ⟨ρ, sd, h, rel, sl, q⟩ := hq
  refine inE rel sl q fun d h1 v ρ1 H1 rel1 x1 sl1 i1 p1 => ?_
  cases e : (tagD d h1).bind k with
  | none => rw [e] at p1; exact p1.elim
  | some b =>
    rw [e] at p1
    exact ⟨v, c, ρ1, h1, d, b, rfl, hc, rel1, i1, e, p1.fin rel1 (.bl b)⟩
theorem j_isi {e ce : Expr} {m : DE} {k : Tag → Option Bool} {u : Value} {c : V} {p pos : Pos} (hgK : g.mg = X.mg) (hK : g.K = X.K) (hg : Gl X "isinstance") (hm : X.mg "isinstance" = none) (hk : ∀ t b, k t = some b → Isi X u t b) (he : JE X g W e m) (hc : ClsV c u) (hce : PE X ce (tC c))
    (h1 : starEach [e, ce] X.env = (false, eval e X.env) :: starEach [ce] X.env := by rfl) (h2 : starEach [ce] X.env = (false, eval ce X.env) :: starEach [] X.env := by rfl) (hpl : (backTo pos (starEach [ce] X.env)).any (·.1) = false := by rfl) :
    JE X g W (.Call (.Name "isinstance" p) [e, ce] [] pos) (eIsi k m) :=
  (pe_callB (call_isiD hgK hK hk) hg hm (by decide +kernel) (pa_cons he (pa_cons hce pa_nil h2) h1) (he := h1) (hpl := hpl)).imp fun σ H Q hq => isi_core hc hq
/-- .., a built-in type -/
theorem j_isiTy {x : Str} {n : String} {e : Expr} {m : DE} {k : Tag → Option Bool} {p pt pos : Pos} (hgK : g.mg = X.mg) (hK : g.K = X.K) (hg : Gl X "isinstance") (hm : X.mg "isinstance" = none) (hgt : Gl X x) (hmt : X.mg x = none) (hb : bootBuiltins x = some (.type n)) (hk : ∀ t b, k t = some b → Isi X (.type n) t b) (he : JE X g W e m)
    (hn : x ≠ "__name__" := by decide) (hdb : (x == ("__debug__" : Str)) = false := by decide)
    (h1 : starEach [e, .Name x pt] X.env = (false, eval e X.env) :: starEach [.Name x pt] X.env := by rfl) :
    JE X g W (.Call (.Name "isinstance" p) [e, .Name x pt] [] pos) (eIsi k m) :=
  j_isi hgK hK hg hm hk he (.ty n) (pe_bltn hgt hmt hb rfl hn hdb) h1
/-- .., a class of the module -/
theorem j_isiC {x : Str} {C : Addr} {e : Expr} {m : DE} {k : Tag → Option Bool} {p pt pos : Pos} (hgK : g.mg = X.mg) (hK : g.K = X.K) (hg : Gl X "isinstance") (hm : X.mg "isinstance" = none) (hgt : Gl X x) (hmt : X.mg x = some (.ref C)) (hk : ∀ t b, k t = some b → Isi X (.ref C) t b) (he : JE X g W e m)
    (hdb : (x == ("__debug__" : Str)) = false := by decide)
    (h1 : starEach [e, .Name x pt] X.env = (false, eval e X.env) :: starEach [.Name x pt] X.env := by rfl) :
    JE X g W (.Call (.Name "isinstance" p) [e, .Name x pt] [] pos) (eIsi k m) :=
  j_isi hgK hK hg hm hk he (.own C) (pe_glob hgt hmt rfl hdb) h1
end
end Cp
namespace Cp
open PySem PySem.Spec PyProof.Rows L2
/-- a promise under which nothing is let out, told with no exceptions at all -/
theorem fn_out {P : Program} {w : World} {K : PySem.W.Frag} {mg : Str → Option Value} {base : Heap} {k : Nat} {f : Addr} {fd : FuncData} {ps : List Str} {sp : Sp} (F : FnOk P w K mg base (L2.CX P w) k f fd ps sp) :
    FnOk P w K mg base (fun _ _ _ _ _ _ => False) k f fd ps (fun vs H Q _ => sp vs H Q fun _ _ _ => False) :=
  ⟨fun vs H Q E h => F.len vs H Q _ h, fun A outer s H args us vs Q E hr e0 b r h => codeAny_mono (F.run A outer s H args us vs Q (fun _ _ _ => False) hr e0 b r h) fun r s' hq => by
    cases r with
    | ok fl => cases fl <;> exact hq
    | error e => exact cx_none hq⟩
end Cp

set_option maxHeartbeats 4000000
namespace Cp
open PySem PySem.Spec PyProof.Rows L2
def RW {α : Type} (r : R α) (Q : α → DH → Prop) (X : Ex → DH → Prop) : Prop := match r with
  | .ok a h => Q a h
  | .exc e h => X e h
  | .no => False
structure Tq where
  nx : Sl → DH → Prop
  rt : D → DH → Prop
  exc : Ex → DH → Prop
  bk : Sl → DH → Prop := fun _ _ => False
  ct : Sl → DH → Prop := fun _ _ => False
def SW (r : RS) (T : Tq) : Prop := match r with
  | .nx sd h => T.nx sd h
  | .rt d h => T.rt d h
  | .bk sd h => T.bk sd h
  | .ct sd h => T.ct sd h
  | .exc e h => T.exc e h
  | .no => False
section
variable {α β : Type} {Q : α → DH → Prop} {Q' : β → DH → Prop} {X : Ex → DH → Prop} {T : Tq} {sd : Sl} {h : DH}
theorem RW.mono {r : R α} {Q2 : α → DH → Prop} {X2 : Ex → DH → Prop} (p : RW r Q X) (hq : ∀ a h, Q a h → Q2 a h) (hx : ∀ a h, X a h → X2 a h) : RW r Q2 X2 := by
  cases r with
  | ok a h => exact hq _ _ p
  | exc e h => exact hx _ _ p
  | no => exact p
theorem SW.mono {r : RS} {T2 : Tq} (p : SW r T) (h1 : ∀ a h, T.nx a h → T2.nx a h) (h2 : ∀ a h, T.rt a h → T2.rt a h) (h3 : ∀ a h, T.exc a h → T2.exc a h) (h4 : ∀ a h, T.bk a h → T2.bk a h) (h5 : ∀ a h, T.ct a h → T2.ct a h) : SW r T2 := by
  cases r with
  | nx a h => exact h1 _ _ p
  | rt a h => exact h2 _ _ p
  | exc a h => exact h3 _ _ p
  | bk a h => exact h4 _ _ p
  | ct a h => exact h5 _ _ p
  | no => exact p
/-- a result that is known -/
theorem RW.of {r : R α} {a : α} {h : DH} (e : r = .ok a h) (q : Q a h) : RW r Q X := by rw [e]; exact q
theorem RW.eq {r : R α} {a : α} {h : DH} (p : RW r (fun b h' => b = a ∧ h' = h) fun _ _ => False) : r = .ok a h := by
  cases r with
  | ok b h' => obtain ⟨rfl, rfl⟩ := p; rfl
  | exc e h => exact p.elim
  | no => exact p.elim
theorem RW.ex {r : R α} (p : RW r Q fun _ _ => False) : ∃ a h, r = .ok a h ∧ Q a h := by
  cases r with
  | ok b h' => exact ⟨b, h', rfl, p⟩
  | exc e h => exact p.elim
  | no => exact p.elim
@[simp] theorem rw_ok {a : α} : RW (.ok a h) Q X = Q a h := rfl
@[simp] theorem rw_exc {e : Ex} : RW (.exc e h : R α) Q X = X e h := rfl
@[simp] theorem rw_no : RW (.no : R α) Q X = False := rfl
@[simp] theorem sw_nx : SW (.nx sd h) T = T.nx sd h := rfl
@[simp] theorem sw_rt {d : D} : SW (.rt d h) T = T.rt d h := rfl
@[simp] theorem sw_bk : SW (.bk sd h) T = T.bk sd h := rfl
@[simp] theorem sw_ct : SW (.ct sd h) T = T.ct sd h := rfl
@[simp] theorem sw_exc {e : Ex} : SW (.exc e h) T = T.exc e h := rfl
@[simp] theorem sw_no : SW .no T = False := rfl
@[simp] theorem rw_bind {r : R β} {k : β → DH → R α} : RW (r.bind k) Q X = RW r (fun a h => RW (k a h) Q X) X := by cases r <;> rfl
@[simp] theorem sw_thn {r : R β} {k : β → DH → RS} : SW (r.thn k) T = RW r (fun a h => SW (k a h) T) T.exc := by cases r <;> rfl
@[simp] theorem sw_seq {r : RS} {k : DSt} : SW (r.seq k) T = SW r { T with nx := fun sd h => SW (k sd h) T } := by cases r <;> rfl
@[simp] theorem rw_ofO {o : Option α} : RW (ofO o h) Q X = ∃ a, o = some a ∧ Q a h := by
  cases o <;> simp [ofO]
@[simp] theorem ex_ite {c : Prop} [Decidable c] {x : α} {P : α → Prop} : (∃ a, (if c then some x else none) = some a ∧ P a) = (c ∧ P x) := by
  by_cases hc : c <;> simp [hc]
theorem rw_ite {c : Prop} [Decidable c] {a b : R α} : RW (if c then a else b) Q X = ((c → RW a Q X) ∧ (¬ c → RW b Q X)) := by
  by_cases hc : c <;> simp [hc]
theorem sw_ite {c : Prop} [Decidable c] {a b : RS} : SW (if c then a else b) T = ((c → SW a T) ∧ (¬ c → SW b T)) := by
  by_cases hc : c <;> simp [hc]
theorem rw_iteF {c : Prop} [Decidable c] {a : R α} : RW (if c then a else .no) Q X = (c ∧ RW a Q X) := by
  by_cases hc : c <;> simp [hc]
variable {QD : D → DH → Prop} {QB : Bool → DH → Prop} {QL : List D → DH → Prop}
@[simp] theorem w_eV {i : Nat} : RW (eV i sd h) QD X = ∃ d, sd[i]? = some (some d) ∧ QD d h := by
  unfold eV
  split
  · rename_i d e; simp [e]
  · rename_i e; simp; intro d hd; exact absurd hd (e d)
@[simp] theorem w_eK {d : D} : RW (eK d sd h) QD X = QD d h := rfl
@[simp] theorem w_eO1 {f : D → DH → Option D} {a : DE} : RW (eO1 f a sd h) QD X = RW (a sd h) (fun x h1 => ∃ d, f x h1 = some d ∧ QD d h1) X := by unfold eO1; simp
@[simp] theorem w_eO2 {f : D → D → DH → Option D} {a b : DE} : RW (eO2 f a b sd h) QD X = RW (a sd h) (fun x h1 => RW (b sd h1) (fun y h2 => ∃ d, f x y h2 = some d ∧ QD d h2) X) X := by unfold eO2; simp
@[simp] theorem w_bO2 {f : D → D → DH → Option Bool} {a b : DE} : RW (bO2 f a b sd h) QB X = RW (a sd h) (fun x h1 => RW (b sd h1) (fun y h2 => ∃ d, f x y h2 = some d ∧ QB d h2) X) X := by unfold bO2; simp
@[simp] theorem w_bVal {a : DE} : RW (bVal a sd h) QB X = RW (a sd h) (fun x h1 => ∃ b, x = .bl b ∧ QB b h1) X := by
  unfold bVal; rw [rw_bind]
  congr 1; funext x h1
  cases x <;> simp
@[simp] theorem w_bAnd {a b : DM Bool} : RW (bAnd a b sd h) QB X = RW (a sd h) (fun x h1 => (x = true → RW (b sd h1) QB X) ∧ (x = false → QB false h1)) X := by
  unfold bAnd; rw [rw_bind]; congr 1; funext x h1; cases x <;> simp
@[simp] theorem w_bOr {a b : DM Bool} : RW (bOr a b sd h) QB X = RW (a sd h) (fun x h1 => (x = true → QB true h1) ∧ (x = false → RW (b sd h1) QB X)) X := by
  unfold bOr; rw [rw_bind]; congr 1; funext x h1; cases x <;> simp
@[simp] theorem w_bNot {a : DM Bool} : RW (bNot a sd h) QB X = RW (a sd h) (fun x h1 => QB (!x) h1) X := by unfold bNot; simp
@[simp] theorem w_eAnd {a b : DE} : RW (eAnd a b sd h) QD X = RW (a sd h) (fun x h1 => ∃ k, x = .bl k ∧ (k = true → RW (b sd h1) QD X) ∧ (k = false → QD (.bl false) h1)) X := by
  unfold eAnd; rw [rw_bind, w_bVal]; congr 1; funext x h1; congr 1; funext k; cases k <;> simp
@[simp] theorem w_eOr {a b : DE} : RW (eOr a b sd h) QD X = RW (a sd h) (fun x h1 => ∃ k, x = .bl k ∧ (k = true → QD (.bl true) h1) ∧ (k = false → RW (b sd h1) QD X)) X := by
  unfold eOr; rw [rw_bind, w_bVal]; congr 1; funext x h1; congr 1; funext k; cases k <;> simp
@[simp] theorem w_eNot {a : DE} : RW (eNot a sd h) QD X = RW (a sd h) (fun x h1 => ∃ k, x = .bl k ∧ QD (.bl (!k)) h1) X := by
  unfold eNot; rw [rw_bind, w_bVal]; rfl
@[simp] theorem w_eIf {t : DM Bool} {a b : DE} : RW (eIf t a b sd h) QD X = RW (t sd h) (fun k h1 => (k = true → RW (a sd h1) QD X) ∧ (k = false → RW (b sd h1) QD X)) X := by
  unfold eIf; rw [rw_bind]; congr 1; funext x h1; cases x <;> simp
@[simp] theorem w_asNil : RW (asNil sd h) QL X = QL [] h := rfl
@[simp] theorem w_asCons {a : DE} {r : DM (List D)} : RW (asCons a r sd h) QL X = RW (a sd h) (fun x h1 => RW (r sd h1) (fun xs h2 => QL (x :: xs) h2) X) X := by unfold asCons; simp
@[simp] theorem w_asStar {a : DE} {r : DM (List D)} : RW (asStar a r sd h) QL X = RW (a sd h) (fun x h1 => ∃ xs, seqD x h1 = some xs ∧ RW (r sd h1) (fun ys h2 => QL (xs ++ ys) h2) X) X := by
  unfold asStar; rw [rw_bind]; congr 1; funext x h1
  cases e : seqD x h1 <;> simp
@[simp] theorem w_eTup {m : DM (List D)} : RW (eTup m sd h) QD X = RW (m sd h) (fun xs h1 => fine xs.length = true ∧ QD (.tup xs) h1) X := by
  unfold eTup; rw [rw_bind]; congr 1; funext x h1; rw [rw_iteF]; rfl
@[simp] theorem w_eLst {m : DM (List D)} : RW (eLst m sd h) QD X = RW (m sd h) (fun xs h1 => fine xs.length = true ∧ QD (.lst xs) h1) X := by
  unfold eLst; rw [rw_bind]; congr 1; funext x h1; rw [rw_iteF]; rfl
@[simp] theorem w_eLstM {m : DM (List D)} : RW (eLstM m sd h) QD X = RW (m sd h) (fun xs h1 => fine xs.length = true ∧ QD (.ref h1.length) (h1 ++ [.lst xs])) X := by
  unfold eLstM; rw [rw_bind]; congr 1; funext x h1; rw [rw_iteF]; rfl
@[simp] theorem w_bChain {f f' : D → D → DH → Option Bool} {a b c : DE} : RW (bChain f f' a b c sd h) QB X = RW (a sd h) (fun x h1 => RW (b sd h1) (fun y h2 => ∃ k, f x y h2 = some k ∧ (k = true → RW (c sd h2) (fun z h4 => ∃ k, f' y z h4 = some k ∧ QB k h4) X) ∧ (k = false → QB false h2)) X) X := by
  unfold bChain; rw [rw_bind]; congr 1; funext x h1; rw [rw_bind]; congr 1; funext y h2; rw [rw_bind, rw_ofO]; congr 1; funext k; cases k <;> simp
@[simp] theorem w_eB {m : DM Bool} : RW (eB m sd h) QD X = RW (m sd h) (fun b h1 => QD (.bl b) h1) X := by unfold eB; simp
@[simp] theorem w_oNone {Q : Option Int → DH → Prop} : RW (oNone sd h) Q X = Q none h := rfl
@[simp] theorem w_oSome {Q : Option Int → DH → Prop} {m : DE} : RW (oSome m sd h) Q X = RW (m sd h) (fun x h1 => ∃ i, x = .int i ∧ Q (some i) h1) X := by
  unfold oSome; rw [rw_bind]; congr 1; funext x h1; cases x <;> simp
@[simp] theorem w_eSl {m : DE} {lo hi : DO} : RW (eSl m lo hi sd h) QD X = RW (m sd h) (fun x h1 => RW (lo sd h1) (fun a h2 => RW (hi sd h2) (fun b h3 => ∃ d, dSl x a b h3 = some d ∧ QD d h3) X) X) X := by unfold eSl; simp
@[simp] theorem w_eCB {F : List D → DH → Option D} {m : DM (List D)} : RW (eCB F m sd h) QD X = RW (m sd h) (fun ds h1 => ∃ d, F ds h1 = some d ∧ QD d h1) X := by unfold eCB; simp
@[simp] theorem w_eIsi {k : Tag → Option Bool} {m : DE} : RW (eIsi k m sd h) QD X = RW (m sd h) (fun d h1 => ∃ b, (tagD d h1).bind k = some b ∧ QD (.bl b) h1) X := by
  unfold eIsi; rw [rw_bind]; congr 1; funext d h1; rw [rw_ofO]
  cases (tagD d h1).bind k <;> simp
@[simp] theorem w_eCall {F : DF} {dd : List D} {m : DM (List D)} : RW (eCall F dd m sd h) QD X = RW (m sd h) (fun ds h1 => RW (F (ds ++ dd) h1) QD X) X := by unfold eCall; simp
@[simp] theorem w_eFld {c f : Str} {m : DE} : RW (eFld c f m sd h) QD X = RW (m sd h) (fun d h1 => ∃ fs, fldsD c d h1 = some fs ∧ ∃ v, fs.lookup f = some v ∧ QD v h1) X := by
  unfold eFld; rw [rw_bind]; congr 1; funext d h1
  cases e : fldsD c d h1 <;> simp
@[simp] theorem w_eProp {c : Str} {F : DF} {m : DE} : RW (eProp c F m sd h) QD X = RW (m sd h) (fun d h1 => (fldsD c d h1).isSome = true ∧ RW (F [d] h1) QD fun _ _ => False) X := by
  unfold eProp; rw [rw_bind]; congr 1; funext d h1
  cases e : fldsD c d h1 with
  | none => simp
  | some fs =>
    dsimp only
    cases F [d] h1 <;> simp
@[simp] theorem w_eMeth {c m : Str} {F : DF} {dd : List D} {mo : DE} {ma : DM (List D)} : RW (eMeth c m F dd mo ma sd h) QD X = RW (mo sd h) (fun d h1 => ∃ fs, fldsD c d h1 = some fs ∧ fs.lookup m = none ∧ RW (ma sd h1) (fun ds h2 => RW (F (d :: (ds ++ dd)) h2) QD X) X) X := by
  unfold eMeth; rw [rw_bind]; congr 1; funext d h1
  cases e : fldsD c d h1 with
  | none => simp
  | some fs =>
    dsimp only
    cases e2 : fs.lookup m with
    | none => exact propext ⟨fun q => ⟨fs, rfl, e2, by simpa using q⟩, fun ⟨fs', q1, q2, q3⟩ => by cases q1; simpa using q3⟩
    | some v => exact propext ⟨fun q => q.elim, fun ⟨fs', q1, q2, q3⟩ => by cases q1; rw [e2] at q2; cases q2⟩
@[simp] theorem w_eDct0 : RW (eDct0 sd h) QD X = QD (.dct []) h := rfl
@[simp] theorem w_eSortSet {m : DE} : RW (eSortSet m sd h) QD X = RW (m sd h) (fun x h1 => ∃ d, cSortSet x h1 = some d ∧ QD d h1) X := by unfold eSortSet; simp
@[simp] theorem w_eApp {mo me : DE} : RW (eApp mo me sd h) QD X = RW (mo sd h) (fun d h1 => ∃ l, d = .ref l ∧ ∃ xs0, h1[l]? = some (.lst xs0) ∧ RW (me sd h1) (fun y h2 => ∃ xs, h2[l]? = some (.lst xs) ∧ fine xs.length = true ∧ QD .non (h2.set l (.lst (xs ++ [y])))) X) X := by
  unfold eApp; rw [rw_bind]; congr 1; funext d h1
  cases d with
  | ref l =>
    dsimp only
    cases e : h1[l]? with
    | none => simp [e]
    | some c =>
      cases c with
      | lst xs0 =>
        dsimp only
        rw [rw_bind]
        refine propext ⟨fun q => ⟨l, rfl, xs0, e, ?_⟩, fun ⟨l', el, xs1, e1, q⟩ => ?_⟩
        · refine q.mono (fun y h2 q => ?_) fun _ _ q => q
          split at q
          · rename_i xs e2
            rw [rw_iteF] at q
            exact ⟨xs, e2, q.1, q.2⟩
          · exact q.elim
        · cases el
          refine q.mono (fun y h2 q => ?_) fun _ _ q => q
          obtain ⟨xs, q1, q2, q3⟩ := q
          simp only [q1, q2, if_true]; exact q3
      | _ => simp [e]
  | _ => simp
@[simp] theorem w_eExt {mo me : DE} : RW (eExt mo me sd h) QD X = RW (mo sd h) (fun d h1 => ∃ l, d = .ref l ∧ ∃ xs0, h1[l]? = some (.lst xs0) ∧ RW (me sd h1) (fun y h2 => ∃ xs, h2[l]? = some (.lst xs) ∧ ∃ ys, listD y h2 = some ys ∧ fine (xs.length + ys.length) = true ∧ QD .non (h2.set l (.lst (xs ++ ys)))) X) X := by
  unfold eExt; rw [rw_bind]; congr 1; funext d h1
  cases d with
  | ref l =>
    dsimp only
    cases e : h1[l]? with
    | none => simp [e]
    | some c =>
      cases c with
      | lst xs0 =>
        dsimp only
        rw [rw_bind]
        refine propext ⟨fun q => ⟨l, rfl, xs0, e, ?_⟩, fun ⟨l', el, xs1, e1, q⟩ => ?_⟩
        · refine q.mono (fun y h2 q => ?_) fun _ _ q => q
          split at q
          · rename_i xs ys e2 e3
            rw [rw_iteF] at q
            exact ⟨xs, e2, ys, e3, q.1, q.2⟩
          · exact q.elim
        · cases el
          refine q.mono (fun y h2 q => ?_) fun _ _ q => q
          obtain ⟨xs, q1, ys, q4, q2, q3⟩ := q
          simp only [q1, q4, q2, if_true]; exact q3
      | _ => simp [e]
  | _ => simp
@[simp] theorem w_sNil : SW (sNil sd h) T = T.nx sd h := rfl
@[simp] theorem w_sBreak : SW (sBreak sd h) T = T.bk sd h := rfl
@[simp] theorem w_sCont : SW (sCont sd h) T = T.ct sd h := rfl
@[simp] theorem w_sNo : SW (sNo sd h) T = False := rfl
@[simp] theorem w_sSeq {a b : DSt} : SW (sSeq a b sd h) T = SW (a sd h) { T with nx := fun sd h => SW (b sd h) T } := by unfold sSeq; simp
@[simp] theorem w_sExpr {m : DE} : SW (sExpr m sd h) T = RW (m sd h) (fun _ h1 => T.nx sd h1) T.exc := by unfold sExpr; simp
@[simp] theorem w_sRet {m : DE} : SW (sRet m sd h) T = RW (m sd h) T.rt T.exc := by unfold sRet; simp
@[simp] theorem w_sIf {t : DM Bool} {a b : DSt} : SW (sIf t a b sd h) T = RW (t sd h) (fun k h1 => (k = true → SW (a sd h1) T) ∧ (k = false → SW (b sd h1) T)) T.exc := by
  unfold sIf; rw [sw_thn]; congr 1; funext k h1; cases k <;> simp
@[simp] theorem w_sSet {i : Nat} {m : DE} : SW (sSet i m sd h) T = RW (m sd h) (fun d h1 => T.nx (sd.set i (some d)) h1) T.exc := by unfold sSet; simp
@[simp] theorem w_sPar {i j : Nat} {m : DM (List D)} : SW (sPar i j m sd h) T = RW (m sd h) (fun ds h1 => ∃ a b, ds = [a, b] ∧ T.nx ((sd.set i (some a)).set j (some b)) h1) T.exc := by
  unfold sPar; rw [sw_thn]; congr 1; funext ds h1
  match ds with
  | [] => simp
  | [a] => simp
  | [a, b] => exact propext ⟨fun q => ⟨a, b, rfl, q⟩, fun ⟨a', b', e, q⟩ => by cases e; exact q⟩
  | a :: b :: c :: r => simp
@[simp] theorem w_sAug {i : Nat} {f : D → D → DH → Option D} {m : DE} : SW (sAug i f m sd h) T = ∃ x, sd[i]? = some (some x) ∧ RW (m sd h) (fun y h1 => ∃ z, f x y h1 = some z ∧ T.nx (sd.set i (some z)) h1) T.exc := by
  unfold sAug
  split
  · rename_i x e; simp [e]
  · rename_i e; simp; intro d hd; exact absurd hd (e d)
@[simp] theorem w_sSetIx {mo mi me : DE} : SW (sSetIx mo mi me sd h) T = RW (me sd h) (fun y h1 => RW (mo sd h1) (fun d h2 => RW (mi sd h2) (fun i h3 => ∃ l, d = .ref l ∧ ∃ k, i = .int k ∧ ∃ xs, h3[l]? = some (.lst xs) ∧ ∃ j, ixN xs.length k = some j ∧ T.nx sd (h3.set l (.lst (xs.set j y)))) T.exc) T.exc) T.exc := by
  unfold sSetIx; rw [sw_thn]; congr 1; funext y h1; rw [sw_thn]; congr 1; funext d h2; rw [sw_thn]; congr 1; funext i h3
  cases d with
  | ref l =>
    cases i with
    | int k =>
      dsimp only
      cases e : h3[l]? with
      | none => simp [e]
      | some c =>
        cases c with
        | lst xs =>
          dsimp only
          cases e2 : ixN xs.length k <;> simp [e, e2]
        | _ => simp [e]
    | _ => simp
  | _ => cases i <;> simp
@[simp] theorem w_sFldSet {c f : Str} {mo me : DE} : SW (sFldSet c f mo me sd h) T = RW (me sd h) (fun y h1 => RW (mo sd h1) (fun d h2 => ∃ l fs, d = .ref l ∧ h2[l]? = some (.ins c fs) ∧ fs.length < 900 ∧ T.nx sd (h2.set l (.ins c (putD f y fs)))) T.exc) T.exc := by
  unfold sFldSet; rw [sw_thn]; congr 1; funext y h1; rw [sw_thn]; congr 1; funext d h2
  cases d with
  | ref l =>
    dsimp only
    cases e : h2[l]? with
    | none => simp [e]
    | some cc =>
      cases cc with
      | ins c' fs =>
        dsimp only
        by_cases hc : c' = c
        · subst hc
          by_cases hl : fs.length < 900 <;> simp [hl, e]
        · simp [hc, e]
      | _ => simp [e]
  | _ => simp
@[simp] theorem w_sIfW {i : Nat} {f : D → D → DH → Option Bool} {m : DE} {a b : DSt} : SW (sIfW i f m a b sd h) T = RW (m sd h) (fun d h1 => ∃ k, f d .non h1 = some k ∧ (k = true → SW (a (sd.set i (some d)) h1) T) ∧ (k = false → SW (b (sd.set i (some d)) h1) T)) T.exc := by
  unfold sIfW; rw [sw_thn]; congr 1; funext d h1; rw [sw_thn, rw_ofO]; congr 1; funext k; cases k <;> simp
@[simp] theorem w_sUnp {p : Pat} {m : DE} : SW (sUnp p m sd h) T = RW (m sd h) (fun d h1 => ∃ sd1, p.d d sd = some sd1 ∧ T.nx sd1 h1) T.exc := by
  unfold sUnp; rw [sw_thn]; congr 1; funext d h1
  cases p.d d sd <;> simp
@[simp] theorem w_sUnl {ps : Pats} {m : DE} : SW (sUnl ps m sd h) T = RW (m sd h) (fun d h1 => ∃ xs sd1, d = .lst xs ∧ ps.d xs sd = some sd1 ∧ T.nx sd1 h1) T.exc := by
  unfold sUnl; rw [sw_thn]; congr 1; funext d h1
  cases d with
  | lst xs =>
    dsimp only
    cases e : ps.d xs sd <;> simp [e]
  | _ => simp
def goTq (g : DG) (b : DSt) (ok : DH → Bool) (ds : List D) (T : Tq) : Tq := { nx := fun sd h => SW (forD g b ok ds sd h) T, ct := fun sd h => SW (forD g b ok ds sd h) T, bk := T.nx, rt := T.rt, exc := T.exc }
@[simp] theorem w_sFor {m : DI} {g : DG} {b : DSt} : SW (sFor m g b sd h) T = RW (m sd h) (fun t h1 => SW (forD g b t.ok t.xs sd h1) T) T.exc := by unfold sFor; simp
theorem w_for_nil {g : DG} {b : DSt} {ok : DH → Bool} : SW (forD g b ok [] sd h) T = (ok h = true ∧ T.nx sd h) := by
  unfold forD; by_cases hk : ok h = true <;> simp [hk]
theorem w_for_cons {p : Pat} {b : DSt} {ok : DH → Bool} {d : D} {ds : List D} : SW (forD (gdPat p) b ok (d :: ds) sd h) T = (ok h = true ∧ ∃ sd1, p.d d sd = some sd1 ∧ SW (b sd1 h) (goTq (gdPat p) b ok ds T)) := by
  rw [forD]
  by_cases hk : ok h = true
  · cases e : p.d d sd with
    | none =>
      have e0 : gdPat p d sd h = .no := by unfold gdPat; rw [e]
      simp [hk, e0]
    | some sd1 =>
      have e0 : gdPat p d sd h = .nx sd1 h := by unfold gdPat; rw [e]
      simp only [hk, if_true, e0]
      have key : ∀ r : RS, SW (match r with
        | .nx sd2 h2 => forD (gdPat p) b ok ds sd2 h2
        | .ct sd2 h2 => forD (gdPat p) b ok ds sd2 h2
        | .bk sd2 h2 => .nx sd2 h2
        | r => r) T ↔ SW r (goTq (gdPat p) b ok ds T) := fun r => by cases r <;> exact Iff.rfl
      exact propext ⟨fun q => ⟨trivial, sd1, rfl, (key _).mp q⟩, fun ⟨_, sd2, q1, q⟩ => by cases q1; exact (key _).mpr q⟩
  · simp [hk]
/-- by an invariant -/
theorem for_inv (I : Nat → Sl → DH → Prop) {p : Pat} {b : DSt} {ok : DH → Bool} {xs : List D} (h0 : I 0 sd h)
    (hs : ∀ i d sd h, xs[i]? = some d → I i sd h → ok h = true ∧ ∃ sd1, p.d d sd = some sd1 ∧ SW (b sd1 h) { nx := I (i + 1), ct := I (i + 1), bk := T.nx, rt := T.rt, exc := T.exc })
    (he : ∀ sd h, I xs.length sd h → ok h = true ∧ T.nx sd h) : SW (forD (gdPat p) b ok xs sd h) T := by
  have go : ∀ (n i : Nat) (sd : Sl) (h : DH), xs.length - i = n → i ≤ xs.length → I i sd h → SW (forD (gdPat p) b ok (xs.drop i) sd h) T := by
    intro n
    induction n with
    | zero =>
      intro i sd h hn hi hI
      have e : i = xs.length := by omega
      subst e
      rw [List.drop_length, w_for_nil]
      exact he sd h hI
    | succ n ih =>
      intro i sd h hn hi hI
      have hlt : i < xs.length := by omega
      rw [List.drop_eq_getElem_cons hlt, w_for_cons]
      obtain ⟨k1, sd1, k2, k3⟩ := hs i xs[i] sd h (by simp [hlt]) hI
      refine ⟨k1, sd1, k2, k3.mono (fun sd2 h2 q => ih (i + 1) sd2 h2 (by omega) (by omega) q) (fun _ _ q => q) (fun _ _ q => q) (fun _ _ q => q) (fun sd2 h2 q => ih (i + 1) sd2 h2 (by omega) (by omega) q)⟩
  exact go xs.length 0 sd h (by omega) (by omega) h0
variable {QI : Itm → DH → Prop}
@[simp] theorem w_iRng1 {m : DM (List D)} : RW (iRng1 m sd h) QI X = RW (m sd h) (fun ds h1 => ∃ j, ds = [.int j] ∧ (-(2 ^ 62) ≤ j ∧ j < 2 ^ 62) ∧ QI ⟨rngD 0 j.toNat, always⟩ h1) X := by
  unfold iRng1; rw [rw_bind]; congr 1; funext ds h1
  match ds with
  | [] => simp
  | [.int j] => by_cases hj : -(2 ^ 62) ≤ j ∧ j < 2 ^ 62 <;> simp [hj, rw_iteF]
  | [.non] | [.bl _] | [.str _] | [.tup _] | [.lst _] | [.dct _] | [.obj _ _] | [.set _] | [.scr _] | [.ref _] | [.glo _] => simp
  | a :: b :: r => simp
def rng2I (ds : List D) : Option Itm := match ds with
  | [.int i, .int j] => if decide (-(2 ^ 62) ≤ i) && decide (i < 2 ^ 62) && (decide (-(2 ^ 62) ≤ j) && decide (j < 2 ^ 62)) then some ⟨rngD i (j - i).toNat, always⟩ else none
  | _ => none
@[simp] theorem rng2_ii {i j : Int} : rng2I [.int i, .int j] = if decide (-(2 ^ 62) ≤ i) && decide (i < 2 ^ 62) && (decide (-(2 ^ 62) ≤ j) && decide (j < 2 ^ 62)) then some ⟨rngD i (j - i).toNat, always⟩ else none := rfl
@[simp] theorem w_iRng2 {m : DM (List D)} : RW (iRng2 m sd h) QI X = RW (m sd h) (fun ds h1 => ∃ it, rng2I ds = some it ∧ QI it h1) X := by
  unfold iRng2; rw [rw_bind]; congr 1; funext ds h1
  have key : ∀ (c : Bool) (it : Itm), RW (if c = true then .ok it h1 else .no) QI X = ∃ it', (if c = true then some it else none) = some it' ∧ QI it' h1 := fun c it => by cases c <;> simp
  unfold rng2I
  split
  · exact key _ _
  · simp
def anyI (x : D) (h : DH) : Option Itm := match x with
  | .tup xs => some ⟨xs, always⟩
  | .lst xs => some ⟨xs, always⟩
  | .ref l => (match h[l]? with
    | some (.lst xs) => some ⟨xs, lstIs l xs⟩
    | _ => none)
  | _ => none
@[simp] theorem any_tup {xs : List D} : anyI (.tup xs) h = some ⟨xs, always⟩ := rfl
@[simp] theorem any_lst {xs : List D} : anyI (.lst xs) h = some ⟨xs, always⟩ := rfl
theorem any_ref {l : Nat} {xs : List D} (e : h[l]? = some (.lst xs)) : anyI (.ref l) h = some ⟨xs, lstIs l xs⟩ := by simp [anyI, e]
theorem lstIs_at {l : Nat} {xs : List D} (e : h[l]? = some (.lst xs)) : lstIs l xs h = true := by simp [lstIs, e, eqDs_refl]
@[simp] theorem w_iAny {m : DE} : RW (iAny m sd h) QI X = RW (m sd h) (fun x h1 => ∃ it, anyI x h1 = some it ∧ QI it h1) X := by
  unfold iAny; rw [rw_bind]; congr 1; funext x h1
  unfold anyI
  cases x with
  | ref l =>
    dsimp only
    cases h1[l]? with
    | none => simp
    | some c => cases c <;> simp
  | _ => simp
def zipI (ds : List D) : Option Itm := match ds with
  | [.tup xs, .tup ys] => some ⟨zipD xs ys, always⟩
  | [.lst xs, .lst ys] => some ⟨zipD xs ys, always⟩
  | _ => none
@[simp] theorem zip_tt {xs ys : List D} : zipI [.tup xs, .tup ys] = some ⟨zipD xs ys, always⟩ := rfl
@[simp] theorem zip_ll {xs ys : List D} : zipI [.lst xs, .lst ys] = some ⟨zipD xs ys, always⟩ := rfl
@[simp] theorem w_iZip {m : DM (List D)} : RW (iZip m sd h) QI X = RW (m sd h) (fun ds h1 => ∃ it, zipI ds = some it ∧ QI it h1) X := by
  unfold iZip; rw [rw_bind]; congr 1; funext ds h1
  unfold zipI
  split
  · simp
  · simp
  · simp
@[simp] theorem w_iEnum {m : DM (List D)} : RW (iEnum m sd h) QI X = RW (m sd h) (fun x h1 => ∃ xs, x = [.tup xs] ∧ QI ⟨enD xs, always⟩ h1) X := by
  unfold iEnum; rw [rw_bind]; congr 1; funext ds h1
  match ds with
  | [] => simp
  | [.tup xs] => simp
  | [.int _] | [.non] | [.bl _] | [.str _] | [.lst _] | [.dct _] | [.obj _ _] | [.set _] | [.scr _] | [.ref _] | [.glo _] => simp
  | a :: b :: r => simp
@[simp] theorem always_eq : always h = true := rfl
@[simp] theorem w_quiet {m : DM α} : RW (quiet m sd h) Q X = RW (m sd h) Q fun _ _ => False := by
  unfold quiet
  cases m sd h <;> rfl
@[simp] theorem w_bYes : RW (bYes sd h) QB X = QB true h := rfl
@[simp] theorem w_eLcs {vs : List Nat} {m : DI} {p : Pat} {t : DM Bool} {e : DE} : RW (eLcs vs m p t e sd h) QL X = RW (m sd h) (fun it h1 => RW (compD p t e it.ok (wipeD sd vs) it.xs [] h1) QL X) X := by unfold eLcs; simp
@[simp] theorem w_eLc {vs : List Nat} {m : DI} {p : Pat} {t : DM Bool} {e : DE} : RW (eLc vs m p t e sd h) QD X = RW (m sd h) (fun it h1 => RW (compD p t e it.ok (wipeD sd vs) it.xs [] h1) (fun xs h2 => QD (.lst xs) h2) X) X := by unfold eLc; simp
@[simp] theorem w_eLcM {vs : List Nat} {m : DI} {p : Pat} {t : DM Bool} {e : DE} : RW (eLcM vs m p t e sd h) QD X = RW (m sd h) (fun it h1 => RW (compD p t e it.ok (wipeD sd vs) it.xs [] h1) (fun xs h2 => QD (.ref h2.length) (h2 ++ [.lst xs])) X) X := by unfold eLcM; simp
theorem w_comp_nil {p : Pat} {t : DM Bool} {e : DE} {ok : DH → Bool} {acc : List D} : RW (compD p t e ok sd [] acc h) QL X = (ok h = true ∧ QL acc h) := by
  unfold compD; by_cases hk : ok h = true <;> simp [hk]
theorem w_comp_cons {p : Pat} {t : DM Bool} {e : DE} {ok : DH → Bool} {d : D} {ds acc : List D} : RW (compD p t e ok sd (d :: ds) acc h) QL X = (ok h = true ∧ ∃ sd1, p.d d sd = some sd1 ∧ RW (t sd1 h) (fun b h2 => (b = true → RW (e sd1 h2) (fun x h3 => fine acc.length = true ∧ RW (compD p t e ok sd ds (acc ++ [x]) h3) QL X) X) ∧ (b = false → RW (compD p t e ok sd ds acc h2) QL X)) X) := by
  rw [compD]
  by_cases hk : ok h = true
  · cases c : p.d d sd with
    | none => simp [hk]
    | some sd1 =>
      simp only [hk, if_true, rw_bind, true_and, Option.some.injEq, exists_eq_left']
      congr 1; funext b h2
      cases b with
      | false => simp
      | true =>
        simp only [if_true, rw_bind, true_implies, Bool.true_eq_false, false_implies, and_true]
        congr 1; funext x h3
        rw [rw_iteF]
  · simp [hk]
/-- by an invariant: what is gathered, how many are walked -/
theorem comp_inv (I : Nat → List D → DH → Prop) {p : Pat} {t : DM Bool} {e : DE} {ok : DH → Bool} {xs : List D} (h0 : I 0 [] h)
    (hs : ∀ i d acc h, xs[i]? = some d → I i acc h → ok h = true ∧ ∃ sd1, p.d d sd = some sd1 ∧ RW (t sd1 h) (fun b h2 => (b = true → RW (e sd1 h2) (fun x h3 => fine acc.length = true ∧ I (i + 1) (acc ++ [x]) h3) X) ∧ (b = false → I (i + 1) acc h2)) X)
    (he : ∀ acc h, I xs.length acc h → ok h = true ∧ QL acc h) : RW (compD p t e ok sd xs [] h) QL X := by
  have go : ∀ (n i : Nat) (acc : List D) (h : DH), xs.length - i = n → i ≤ xs.length → I i acc h → RW (compD p t e ok sd (xs.drop i) acc h) QL X := by
    intro n
    induction n with
    | zero =>
      intro i acc h hn hi hI
      have e : i = xs.length := by omega
      subst e
      rw [List.drop_length, w_comp_nil]
      exact he acc h hI
    | succ n ih =>
      intro i acc h hn hi hI
      have hlt : i < xs.length := by omega
      rw [List.drop_eq_getElem_cons hlt, w_comp_cons]
      obtain ⟨k1, sd1, k2, k3⟩ := hs i xs[i] acc h (by simp [hlt]) hI
      refine ⟨k1, sd1, k2, k3.mono (fun b h2 q => ⟨fun hb => (q.1 hb).mono (fun x h3 q => ⟨q.1, ih (i + 1) _ h3 (by omega) (by omega) q.2⟩) fun _ _ q => q, fun hb => ih (i + 1) _ h2 (by omega) (by omega) (q.2 hb)⟩) fun _ _ q => q⟩
  exact go xs.length 0 [] h (by omega) (by omega) h0
/-- a plain map -/
theorem comp_map (f : D → D) {p : Pat} {t : DM Bool} {e : DE} {ok : DH → Bool} {xs : List D} (hok : ok h = true) (hf : xs.length ≤ 100000)
    (hs : ∀ d, d ∈ xs → ∃ sd1, p.d d sd = some sd1 ∧ t sd1 h = .ok true h ∧ e sd1 h = .ok (f d) h) (hq : QL (xs.map f) h) : RW (compD p t e ok sd xs [] h) QL X := by
  refine comp_inv (fun i acc h' => h' = h ∧ acc = (xs.take i).map f) ⟨rfl, by simp⟩ (fun i d acc h' hd hI => ?_) fun acc h' hI => ?_
  · obtain ⟨rfl, rfl⟩ := hI
    obtain ⟨sd1, k1, k2, k3⟩ := hs d (List.mem_of_getElem? hd)
    refine ⟨hok, sd1, k1, ?_⟩
    rw [k2, rw_ok, k3]
    refine ⟨fun _ => ⟨?_, rfl, ?_⟩, fun z => by cases z⟩
    · unfold fine
      refine Nat.ble_eq_true_of_le ?_
      have := List.length_take_le i xs
      simp; omega
    · rw [List.take_succ, List.map_append, hd]; rfl
  · obtain ⟨rfl, rfl⟩ := hI
    exact ⟨hok, by simpa using hq⟩
/-- nothing of the old cells touched -/
theorem run_plain {N : List Str} {b : DSt} {ds : List D} (hb : SW (b (startD N ds) h) { nx := fun _ h1 => (∃ t, h1 = h ++ t) ∧ QD .non h, rt := fun d h1 => (∃ t, h1 = h ++ t) ∧ ∃ d', frz h.length h1 d = some d' ∧ QD d' h, exc := fun x h1 => (∃ t, h1 = h ++ t) ∧ bndf h.length x.fs = true ∧ X x h }) : RW (runF N b ds h) QD X := by
  unfold runF outF
  cases e : b (startD N ds) h with
  | nx sd h1 =>
    rw [e] at hb
    obtain ⟨⟨t, rfl⟩, q⟩ := hb
    simp [Nat.ble_eq]
    exact q
  | rt d h1 =>
    rw [e] at hb
    obtain ⟨⟨t, rfl⟩, d', q1, q⟩ := hb
    simp [Nat.ble_eq, q1]
    exact q
  | exc x h1 =>
    rw [e] at hb
    obtain ⟨⟨t, rfl⟩, q1, q⟩ := hb
    simp [Nat.ble_eq, q1]
    exact q
  | _ => rw [e] at hb; exact hb.elim
end
end Cp

set_option maxHeartbeats 4000000
namespace Cp
open PySem PySem.Spec PyProof.Rows L2
section
variable {i j : Int} {h : DH} {n : Nat}
@[simp] theorem dAdd_ii : dAdd (.int i) (.int j) h = some (.int (i + j)) := rfl
@[simp] theorem dAddI_ii : dAddI (.int i) (.int j) h = some (.int (i + j)) := rfl
@[simp] theorem dSub_ii : dSub (.int i) (.int j) h = some (.int (i - j)) := rfl
@[simp] theorem dMul_ii : dMul (.int i) (.int j) h = if mulOk i j = true then some (.int (i * j)) else none := rfl
@[simp] theorem dDiv_ii : dDiv (.int i) (.int j) h = if (decide (0 < j) && small 8000 j) = true then some (.int (i / j)) else none := rfl
@[simp] theorem dMod_ii : dMod (.int i) (.int j) h = if 0 < j then some (.int (i % j)) else none := rfl
@[simp] theorem dLt_ii : dLt (.int i) (.int j) h = some (decide (i < j)) := rfl
@[simp] theorem dLe_ii : dLe (.int i) (.int j) h = some (decide (i ≤ j)) := rfl
@[simp] theorem dGt_ii : dGt (.int i) (.int j) h = some (decide (j < i)) := rfl
@[simp] theorem dGe_ii : dGe (.int i) (.int j) h = some (decide (j ≤ i)) := rfl
@[simp] theorem dNeg_i : dNeg (.int i) h = some (.int (-i)) := rfl
@[simp] theorem dEq_ii : dEq (.int i) (.int j) h = some (decide (i = j)) := by
  unfold dEq eqDepth
  rw [toPy, toPy]
  show some (i == j) = _
  by_cases e : i = j <;> simp [e]
@[simp] theorem dNe_ii : dNe (.int i) (.int j) h = some (!decide (i = j)) := by unfold dNe; simp
@[simp] theorem cmpD_eq {f : D → D → DH → Option Bool} {x y : D} : cmpD f x y h = (f x y h).map D.bl := rfl
@[simp] theorem dIs_n {x : D} : dIs x .non h = some (isNon x) := by cases x <;> rfl
@[simp] theorem dIs_b {a b : Bool} : dIs (.bl a) (.bl b) h = some (decide (a = b)) := rfl
@[simp] theorem dIsNot_n {x : D} : dIsNot x .non h = some (!isNon x) := by unfold dIsNot; simp
@[simp] theorem dIsNot_b {a b : Bool} : dIsNot (.bl a) (.bl b) h = some (!decide (a = b)) := by unfold dIsNot; simp
@[simp] theorem isNon_non : isNon .non = true := rfl
@[simp] theorem isNon_tup {xs : List D} : isNon (.tup xs) = false := rfl
@[simp] theorem isNon_int : isNon (.int i) = false := rfl
@[simp] theorem cAbs_i : cAbs [.int i] h = some (.int (if i < 0 then -i else i)) := rfl
@[simp] theorem cInt_i : cInt [.int i] h = some (.int i) := rfl
@[simp] theorem cInt_b {b : Bool} : cInt [.bl b] h = some (.int (if b then 1 else 0)) := rfl
@[simp] theorem cMax2_ii : cMax2 [.int i, .int j] h = some (.int (if j > i then j else i)) := rfl
@[simp] theorem cMin2_ii : cMin2 [.int i, .int j] h = some (.int (if j < i then j else i)) := rfl
@[simp] theorem cReprB_b {b : Bool} : cReprB [.bl b] h = some (.str (if b then "True" else "False")) := rfl
@[simp] theorem items_tup {xs : List D} : itemsD (.tup xs) h = some xs := rfl
@[simp] theorem items_lst {xs : List D} : itemsD (.lst xs) h = some xs := rfl
@[simp] theorem items_scr {xs : List Int} : itemsD (.scr xs) h = some (xs.map D.int) := rfl
@[simp] theorem seq_tup {xs : List D} : seqD (.tup xs) h = some xs := rfl
@[simp] theorem seq_lst {xs : List D} : seqD (.lst xs) h = some xs := rfl
@[simp] theorem list_lst {xs : List D} : listD (.lst xs) h = some xs := rfl
theorem items_ref {l : Nat} {xs : List D} (e : h[l]? = some (.lst xs)) : itemsD (.ref l) h = some xs := by simp [itemsD, seqD, e]
theorem seq_ref {l : Nat} {xs : List D} (e : h[l]? = some (.lst xs)) : seqD (.ref l) h = some xs := by simp [seqD, e]
theorem list_ref {l : Nat} {xs : List D} (e : h[l]? = some (.lst xs)) : listD (.ref l) h = some xs := by simp [listD, e]
theorem items_set {l : Nat} {xs : List D} (hl : l < h.length) : itemsD (.ref l) (h.set l (.lst xs)) = some xs := items_ref (by rw [List.getElem?_set_self hl])
theorem items_push {xs : List D} : itemsD (.ref h.length) (h ++ [.lst xs]) = some xs := items_ref (by simp)
@[simp] theorem ixN_30 : ixN 3 0 = some 0 := rfl
@[simp] theorem ixN_31 : ixN 3 1 = some 1 := rfl
@[simp] theorem ixN_32 : ixN 3 2 = some 2 := rfl
@[simp] theorem dIx_i {x : D} {k : Int} : dIx x (.int k) h = (itemsD x h).bind fun xs => atI xs k := by
  unfold dIx; cases itemsD x h <;> rfl
theorem cLen_1 {x : D} {xs : List D} (e : itemsD x h = some xs) : cLen [x] h = some (.int xs.length) := by
  unfold cLen
  split
  · rename_i y hy
    injection hy with hy _
    subst hy
    simp [itemsD, seqD] at e
  · rename_i y _ hy
    injection hy with hy _
    subst hy
    simp [e]
  · rename_i hy
    exact absurd rfl (hy x)
@[simp] theorem cLen_tup {xs : List D} : cLen [.tup xs] h = some (.int xs.length) := rfl
@[simp] theorem cLen_lst {xs : List D} : cLen [.lst xs] h = some (.int xs.length) := rfl
@[simp] theorem cLen_scr {xs : List Int} : cLen [.scr xs] h = some (.int xs.length) := by simp [cLen]
@[simp] theorem cTuple_1 {x : D} : cTuple [x] h = (seqD x h).map .tup := rfl
@[simp] theorem cList_1 {x : D} : cList [x] h = (itemsD x h).map .lst := rfl
theorem atI_nat {α : Type} {xs : List α} {k : Nat} (hk : k < xs.length) : atI xs (k : Int) = some xs[k] := by
  unfold atI ixN
  have : (k : Int) < xs.length := by omega
  simp [this, hk]
theorem atI_neg1 {α : Type} {xs : List α} {a : α} : atI (xs ++ [a]) (-1) = some a := by
  unfold atI ixN
  have h1 : ¬ (0 : Int) ≤ -1 := by omega
  have h2 : -((xs ++ [a]).length : Int) ≤ -1 := by simp; omega
  rw [if_neg h1, if_pos h2]
  have : (-1 + ((xs ++ [a]).length : Int)).toNat = xs.length := by simp; omega
  rw [this]; simp
@[simp] theorem atI_0 {α : Type} {a : α} {xs : List α} : atI (a :: xs) 0 = some a := by simp [atI, ixN]
@[simp] theorem atI_1 {α : Type} {a b : α} {xs : List α} : atI (a :: b :: xs) 1 = some b := by
  have : (1 : Int) < (((a :: b :: xs).length : Nat) : Int) := by simp; omega
  simp only [atI, ixN, this]; rfl
@[simp] theorem atI_2 {α : Type} {a b c : α} {xs : List α} : atI (a :: b :: c :: xs) 2 = some c := by
  have : (2 : Int) < (((a :: b :: c :: xs).length : Nat) : Int) := by simp; omega
  simp only [atI, ixN, this]; rfl
theorem atI_mem {α : Type} {xs : List α} {k : Int} (h0 : 0 ≤ k) (hk : k < xs.length) : ∃ a, atI xs k = some a ∧ a ∈ xs := by
  obtain ⟨m, rfl⟩ := Int.eq_ofNat_of_zero_le h0
  have : m < xs.length := by omega
  exact ⟨xs[m], atI_nat this, List.getElem_mem this⟩
theorem mulOk_l (h0 : -(2 ^ 60) < i) (h1 : i < 2 ^ 64) : mulOk i j = true := by
  unfold mulOk small
  have : i.natAbs < 2 ^ 64 := by omega
  simp [this]
theorem mulOk_r (h0 : -(2 ^ 60) < j) (h1 : j < 2 ^ 64) : mulOk i j = true := by
  unfold mulOk small
  have : j.natAbs < 2 ^ 64 := by omega
  simp [this]
theorem small_le {m : Nat} (h0 : -(2 ^ 60) < i) (h1 : i < 2 ^ 64) (hm : 64 ≤ m) : small m i = true := by
  unfold small
  have : i.natAbs < 2 ^ 64 := by omega
  exact decide_eq_true (Nat.lt_of_lt_of_le this (Nat.pow_le_pow_right (by decide) hm))
@[simp] theorem fine_0 : fine 0 = true := by decide
@[simp] theorem fine_1 : fine 1 = true := by decide
@[simp] theorem fine_2 : fine 2 = true := by decide
@[simp] theorem fine_3 : fine 3 = true := by decide
@[simp] theorem fine_4 : fine 4 = true := by decide
@[simp] theorem fine_5 : fine 5 = true := by decide
@[simp] theorem fine_6 : fine 6 = true := by decide
@[simp] theorem fine_7 : fine 7 = true := by decide
@[simp] theorem fine_8 : fine 8 = true := by decide
@[simp] theorem fine_9 : fine 9 = true := by decide
@[simp] theorem fine_10 : fine 10 = true := by decide
@[simp] theorem fine_11 : fine 11 = true := by decide
@[simp] theorem fine_12 : fine 12 = true := by decide
theorem fine_of (hn : n ≤ 100000) : fine n = true := Nat.ble_eq_true_of_le hn
@[simp] theorem bnd_int : bnd n (.int i) = true := by simp [bnd]
@[simp] theorem bnd_non : bnd n .non = true := by simp [bnd]
@[simp] theorem bnd_bl {b : Bool} : bnd n (.bl b) = true := by simp [bnd]
@[simp] theorem bnd_str {x : Str} : bnd n (.str x) = true := by simp [bnd]
@[simp] theorem bnd_tup {xs : List D} : bnd n (.tup xs) = bnds n xs := by rw [bnd]
@[simp] theorem bnd_lst {xs : List D} : bnd n (.lst xs) = bnds n xs := by rw [bnd]
@[simp] theorem bnds_nil : bnds n [] = true := by rw [bnds]
@[simp] theorem bnds_cons {x : D} {xs : List D} : bnds n (x :: xs) = (bnd n x && bnds n xs) := by rw [bnds]
theorem bnds_all {xs : List D} (hx : ∀ x, x ∈ xs → bnd n x = true) : bnds n xs = true := by
  induction xs with
  | nil => simp
  | cons a r ih => simp [hx a (by simp), ih fun x hx' => hx x (by simp [hx'])]
@[simp] theorem bnds_append {xs ys : List D} : bnds n (xs ++ ys) = (bnds n xs && bnds n ys) := by
  induction xs with
  | nil => simp
  | cons a r ih => simp [ih, Bool.and_assoc]
@[simp] theorem bnds_ints {ns : List Int} : bnds n (ns.map D.int) = true := bnds_all fun x hx => by
  obtain ⟨m, _, rfl⟩ := List.mem_map.mp hx
  simp
@[simp] theorem frz_int : frz n h (.int i) = some (.int i) := by simp [frz]
@[simp] theorem frz_bl {b : Bool} : frz n h (.bl b) = some (.bl b) := by simp [frz]
@[simp] theorem frz_non : frz n h .non = some .non := by simp [frz]
@[simp] theorem frz_str {x : Str} : frz n h (.str x) = some (.str x) := by simp [frz]
theorem frz_tup {xs : List D} (e : bnds n xs = true) : frz n h (.tup xs) = some (.tup xs) := by simp [frz, e]
theorem frz_lst {xs : List D} (e : bnds n xs = true) : frz n h (.lst xs) = some (.lst xs) := by simp [frz, e]
theorem frz_new {l : Nat} {xs : List D} (hl : n ≤ l) (e : h[l]? = some (.lst xs)) (hb : bnds n xs = true) : frz n h (.ref l) = some (.lst xs) := by
  have : ¬ (Nat.blt l n = true) := fun z => by
    have := Nat.le_of_ble_eq_true z
    omega
  simp [frz, this, e, hb]
end
def DiceAt (l : Nat) (h : DH) : Prop := ∃ a b c : Int, h[l]? = some (.lst [.int a, .int b, .int c])
theorem DiceAt.lt {l : Nat} {h : DH} (d : DiceAt l h) : l < h.length := by
  obtain ⟨a, b, c, e⟩ := d
  exact (List.getElem?_eq_some_iff.mp e).1
structure Dx (l : Nat) (h h1 : DH) : Prop where
  len : h.length ≤ h1.length
  at_ : DiceAt l h1
  keep : ∀ j, j < h.length → j ≠ l → h1[j]? = h[j]?
section
variable {l : Nat} {h h1 h2 : DH}
theorem Dx.refl (d : DiceAt l h) : Dx l h h := ⟨Nat.le_refl _, d, fun _ _ _ => rfl⟩
theorem Dx.trans (x : Dx l h h1) (y : Dx l h1 h2) : Dx l h h2 := ⟨Nat.le_trans x.len y.len, y.at_, fun j hj hn => (y.keep j (Nat.lt_of_lt_of_le hj x.len) hn).trans (x.keep j hj hn)⟩
theorem Dx.push (x : Dx l h h1) (c : Cell) : Dx l h (h1 ++ [c]) := ⟨by have := x.len; simp; omega, by
  obtain ⟨a, b, k, e⟩ := x.at_
  exact ⟨a, b, k, by rw [List.getElem?_append_left (List.getElem?_eq_some_iff.mp e).1]; exact e⟩, fun j hj hn => by rw [List.getElem?_append_left (Nat.lt_of_lt_of_le hj x.len)]; exact x.keep j hj hn⟩
/-- a new cell changed -/
theorem Dx.set (x : Dx l h h1) (d : DiceAt l h) {m : Nat} (hm : h.length ≤ m) (c : Cell) : Dx l h (h1.set m c) := by
  have hl := d.lt
  refine ⟨by simp; exact x.len, ?_, fun j hj hn => by rw [List.getElem?_set_ne (by omega)]; exact x.keep j hj hn⟩
  obtain ⟨a, b, k, e⟩ := x.at_
  exact ⟨a, b, k, by rw [List.getElem?_set_ne (by omega)]; exact e⟩
/-- the dice changed -/
theorem Dx.roll (d : DiceAt l h) (a b c : Int) : Dx l h (h.set l (.lst [.int a, .int b, .int c])) := ⟨by simp, ⟨a, b, c, by rw [List.getElem?_set_self d.lt]⟩, fun j hj hn => by rw [List.getElem?_set_ne (Ne.symm hn)]⟩
theorem Dx.get (x : Dx l h h1) {m : Nat} {c : Cell} (hm : m ≠ l) (e : h[m]? = some c) : h1[m]? = some c := by
  rw [x.keep m (List.getElem?_eq_some_iff.mp e).1 hm]; exact e
theorem okC_keep {n : Nat} : ∀ {h h1 : DH} {l : Nat}, h.length ≤ h1.length → (∀ j, j < h.length → j ≠ l → h1[j]? = h[j]?) → (∀ c, h1[l]? = some c → bndC n c = true) → okC n h (h1.take h.length) = true
  | [], h1, l, _, _, _ => by simp [okC]
  | c :: h, [], l, hl, _, _ => by simp at hl
  | c :: h, d :: h1, 0, hl, hk, hb => by
    rw [List.length_cons, List.take_succ_cons, okC, Bool.and_eq_true, Bool.or_eq_true]
    refine ⟨.inr (hb d rfl), ?_⟩
    have e : h1.take h.length = h := by
      apply List.ext_getElem?
      intro j
      by_cases hj : j < h.length
      · rw [List.getElem?_take_of_lt hj]
        have := hk (j + 1) (by simp; omega) (by omega)
        simpa using this
      · rw [List.getElem?_eq_none (by simp; omega), List.getElem?_eq_none (by omega)]
    rw [e]; exact okC_refl n h
  | c :: h, d :: h1, l + 1, hl, hk, hb => by
    rw [List.length_cons, List.take_succ_cons, okC, Bool.and_eq_true, Bool.or_eq_true]
    have e0 : d = c := by
      have := hk 0 (by simp) (by omega)
      simpa using this
    refine ⟨.inl (by rw [e0]; exact eqC_refl c), okC_keep (l := l) (by simpa using hl) (fun j hj hn => ?_) fun c e => hb c e⟩
    have := hk (j + 1) (by simp; omega) (by omega)
    simpa using this
theorem Dx.okC (x : Dx l h h1) (n : Nat) : okC n h (h1.take h.length) = true := okC_keep x.len x.keep fun c e => by
  obtain ⟨a, b, k, e'⟩ := x.at_
  rw [e'] at e; cases e
  simp [bndC]
theorem Dx.take (x : Dx l h h1) (d : DiceAt l h) : Dx l h (h1.take h.length) ∧ (h1.take h.length).length = h.length := by
  have hl : (h1.take h.length).length = h.length := by have := x.len; simp; omega
  refine ⟨⟨by omega, ?_, fun j hj hn => by rw [List.getElem?_take_of_lt hj]; exact x.keep j hj hn⟩, hl⟩
  obtain ⟨a, b, k, e⟩ := x.at_
  exact ⟨a, b, k, by rw [List.getElem?_take_of_lt d.lt]; exact e⟩
variable {QD : D → DH → Prop} {X : Ex → DH → Prop}
/-- a def that rolls -/
theorem run_dice {N : List Str} {b : DSt} {ds : List D} (dd : DiceAt l h) (hb : SW (b (startD N ds) h) { nx := fun _ h1 => Dx l h h1 ∧ ∀ h', h'.length = h.length → Dx l h h' → QD .non h', rt := fun d h1 => Dx l h h1 ∧ ∃ d', frz h.length h1 d = some d' ∧ ∀ h', h'.length = h.length → Dx l h h' → QD d' h', exc := fun _ _ => False }) : RW (runF N b ds h) QD X := by
  unfold runF outF
  cases e : b (startD N ds) h with
  | nx sd h1 =>
    rw [e] at hb
    obtain ⟨x, q⟩ := hb
    obtain ⟨t1, t2⟩ := x.take dd
    simp [Nat.ble_eq, x.len, x.okC]
    exact q _ t2 t1
  | rt d h1 =>
    rw [e] at hb
    obtain ⟨x, d', q1, q⟩ := hb
    obtain ⟨t1, t2⟩ := x.take dd
    simp [Nat.ble_eq, x.len, x.okC, q1]
    exact q _ t2 t1
  | exc x h1 => rw [e] at hb; exact hb.elim
  | _ => rw [e] at hb; exact hb.elim
end
end Cp

set_option maxHeartbeats 4000000
namespace Cp
open PySem PySem.Spec PyProof.Rows L2
def Ch : List Int → Prop
  | [] => False
  | [a] => 1 ≤ a
  | a :: b :: r => 1 ≤ a ∧ a < b ∧ b % a = 0 ∧ Ch (b :: r)
theorem Ch.ne {cs : List Int} (h : Ch cs) : cs ≠ [] := by
  rintro rfl; exact h
theorem Ch.pos : ∀ {cs : List Int}, Ch cs → ∀ c ∈ cs, 1 ≤ c
  | [a], h, c, hc => by
    have : c = a := by simpa using hc
    rw [this]; exact h
  | a :: b :: r, h, c, hc => by
    rcases List.mem_cons.mp hc with e | hc
    · rw [e]; exact h.1
    · exact Ch.pos h.2.2.2 c hc
theorem Ch.lt : ∀ {cs : List Int}, Ch cs → cs.Pairwise (· < ·)
  | [a], h => by simp
  | a :: b :: r, h => by
    have ih := Ch.lt h.2.2.2
    rw [List.pairwise_cons]
    refine ⟨fun c hc => ?_, ih⟩
    rcases List.mem_cons.mp hc with e | hc
    · rw [e]; exact h.2.1
    · exact Int.lt_trans h.2.1 ((List.pairwise_cons.mp ih).1 c hc)
theorem Ch.dvd : ∀ {cs : List Int}, Ch cs → cs.Pairwise (fun a b => a ∣ b)
  | [a], h => by simp
  | a :: b :: r, h => by
    have ih := Ch.dvd h.2.2.2
    have hab : a ∣ b := Int.dvd_of_emod_eq_zero h.2.2.1
    rw [List.pairwise_cons]
    refine ⟨fun c hc => ?_, ih⟩
    rcases List.mem_cons.mp hc with e | hc
    · rw [e]; exact hab
    · exact Int.dvd_trans hab ((List.pairwise_cons.mp ih).1 c hc)
theorem Ch.snoc : ∀ {cs : List Int} {a k : Int}, Ch (cs ++ [a]) → 2 ≤ k → Ch (cs ++ [a] ++ [a * k])
  | [], a, k, h, hk => by
    have h : 1 ≤ a := h
    refine ⟨h, ?_, Int.mul_emod_right a k, ?_⟩
    · have : a * 2 ≤ a * k := Int.mul_le_mul_of_nonneg_left hk (by omega)
      omega
    · show 1 ≤ a * k
      have : 1 * 1 ≤ a * k := Int.mul_le_mul h (by omega) (by omega) (by omega)
      omega
  | [b], a, k, h, hk => by
    have h : 1 ≤ b ∧ b < a ∧ a % b = 0 ∧ Ch [a] := h
    exact ⟨h.1, h.2.1, h.2.2.1, Ch.snoc (cs := []) h.2.2.2 hk⟩
  | b :: c :: r, a, k, h, hk => by
    have h : 1 ≤ b ∧ b < c ∧ c % b = 0 ∧ Ch (c :: r ++ [a]) := h
    exact ⟨h.1, h.2.1, h.2.2.1, Ch.snoc (cs := c :: r) h.2.2.2 hk⟩
theorem Ch.init {cs : List Int} (h : Ch cs) : ∃ ds a, cs = ds ++ [a] := ⟨cs.dropLast, cs.getLast h.ne, (List.dropLast_concat_getLast h.ne).symm⟩
/-- grown at its end by a factor -/
theorem Ch.grow {cs : List Int} (h : Ch cs) {k : Int} (hk : 2 ≤ k) : ∃ a, atI (cs.map D.int) (-1) = some (.int a) ∧ a ∈ cs ∧ Ch (cs ++ [a * k]) := by
  obtain ⟨ds, a, rfl⟩ := h.init
  exact ⟨a, by rw [List.map_append]; exact atI_neg1, by simp, h.snoc hk⟩
theorem ints_len {ns : List Int} : (ns.map D.int).length = ns.length := by simp
theorem ints_snoc {ns : List Int} {a : Int} : ns.map D.int ++ [.int a] = (ns ++ [a]).map D.int := by simp
theorem rngD_get {lo : Int} {n i : Nat} {d : D} (h : (rngD lo n)[i]? = some d) : i < n ∧ d = .int (lo + i) := by
  unfold rngD at h
  rw [List.getElem?_map] at h
  cases e : (List.range n)[i]? with
  | none => rw [e] at h; cases h
  | some j =>
    rw [e] at h
    obtain ⟨h1, h2⟩ := List.getElem?_eq_some_iff.mp e
    simp at h1 h2
    subst h2
    exact ⟨h1, by cases h; rfl⟩
@[simp] theorem rngD_len {lo : Int} {n : Nat} : (rngD lo n).length = n := by simp [rngD]
@[simp] theorem pat_nm {i : Nat} {d : D} {sd : Sl} : (Pat.nm i).d d sd = some (sd.set i (some d)) := by rw [Pat.d]
@[simp] theorem pat_tup {ps : Pats} {xs : List D} {sd : Sl} : (Pat.tup ps).d (.tup xs) sd = ps.d xs sd := by rw [Pat.d]
@[simp] theorem pats_nil {sd : Sl} : Pats.nil.d [] sd = some sd := by rw [Pats.d]
@[simp] theorem pats_cons {p : Pat} {ps : Pats} {x : D} {xs : List D} {sd : Sl} : (Pats.cons p ps).d (x :: xs) sd = (p.d x sd).bind fun sd1 => ps.d xs sd1 := by
  rw [Pats.d]; cases p.d x sd <;> rfl
end Cp

set_option maxHeartbeats 4000000
namespace W73
open PySem PySem.Spec PyProof.Rows L2 Cp
abbrev RowW : PySem.W.OpenRow := PySem.W.OpenLaw.row PySem.Challenge.rw_chainpacks_k73_whole_open_stores
def top (i : Nat) : Stmt := PySem.Challenge.pw_chainpacks_k73_whole_open_stores.main.body.getD i (.Pass ⟨0, 0, 0, 0⟩)
def clsB : Stmt → List Stmt
  | .ClassDef (body := b) .. => b
  | _ => []
def meth_ (s : Stmt) (j : Nat) : Stmt := (clsB s).getD j (.Pass ⟨0, 0, 0, 0⟩)
abbrev s__law_dice : Stmt := top 43
abbrev s__law_roll : Stmt := top 44
abbrev s__law_chain : Stmt := top 47
abbrev s__law_small_store : Stmt := top 49
abbrev s__law_pick : Stmt := top 45
abbrev s__law_rooms : Stmt := top 53
abbrev s__law_shutters : Stmt := top 54
abbrev s_is_integer : Stmt := top 3
abbrev s_is_size : Stmt := top 5
abbrev s_is_run : Stmt := top 21
abbrev s_merged : Stmt := top 22
abbrev s_Store___init__ : Stmt := meth_ (top 25) 0
abbrev s__law_made_store : Stmt := top 52
abbrev s_is_sizes : Stmt := top 16
abbrev s_require_together : Stmt := top 30
abbrev s_require_chain : Stmt := top 32
abbrev s_require_store : Stmt := top 29
abbrev s_require_arrivals : Stmt := top 34
abbrev s_Store_runs : Stmt := meth_ (top 25) 2
abbrev s_first_of : Stmt := top 36
abbrev s_cut_room : Stmt := top 35
abbrev s_shutter_at : Stmt := top 37
abbrev s_shutter_in : Stmt := top 38
abbrev s_shutter : Stmt := top 40
abbrev s_is_open : Stmt := top 39
abbrev s_is_count : Stmt := top 4
abbrev s_Store_number : Stmt := meth_ (top 25) 4
abbrev s_Store_room_at : Stmt := meth_ (top 25) 9
abbrev s_is_shutter : Stmt := top 41
abbrev s__law_right : Stmt := top 55
abbrev s__law_long_chain : Stmt := top 48
abbrev s__law_merged : Stmt := top 51
abbrev s__law_great : Stmt := top 46
abbrev s__law_great_store : Stmt := top 50
abbrev s__law_great_right : Stmt := top 56
abbrev s_law : Stmt := top 57
def D__law_dice : DefX := ⟨.glo "_law_dice", "_law_dice", "_law_dice", defArgs s__law_dice, defBody s__law_dice, defScope s__law_dice, [], []⟩
def D__law_roll : DefX := ⟨.glo "_law_roll", "_law_roll", "_law_roll", defArgs s__law_roll, defBody s__law_roll, defScope s__law_roll, [], []⟩
def D__law_chain : DefX := ⟨.glo "_law_chain", "_law_chain", "_law_chain", defArgs s__law_chain, defBody s__law_chain, defScope s__law_chain, [], []⟩
def D__law_small_store : DefX := ⟨.glo "_law_small_store", "_law_small_store", "_law_small_store", defArgs s__law_small_store, defBody s__law_small_store, defScope s__law_small_store, [], []⟩
def D__law_pick : DefX := ⟨.glo "_law_pick", "_law_pick", "_law_pick", defArgs s__law_pick, defBody s__law_pick, defScope s__law_pick, [], []⟩
def D__law_rooms : DefX := ⟨.glo "_law_rooms", "_law_rooms", "_law_rooms", defArgs s__law_rooms, defBody s__law_rooms, defScope s__law_rooms, [], []⟩
def D__law_shutters : DefX := ⟨.glo "_law_shutters", "_law_shutters", "_law_shutters", defArgs s__law_shutters, defBody s__law_shutters, defScope s__law_shutters, [], []⟩
def D_is_integer : DefX := ⟨.glo "is_integer", "is_integer", "is_integer", defArgs s_is_integer, defBody s_is_integer, defScope s_is_integer, [], []⟩
def D_is_size : DefX := ⟨.glo "is_size", "is_size", "is_size", defArgs s_is_size, defBody s_is_size, defScope s_is_size, [], []⟩
def D_is_run : DefX := ⟨.glo "is_run", "is_run", "is_run", defArgs s_is_run, defBody s_is_run, defScope s_is_run, [], []⟩
def D_merged : DefX := ⟨.glo "merged", "merged", "merged", defArgs s_merged, defBody s_merged, defScope s_merged, [], []⟩
def D_Store___init__ : DefX := ⟨.meth "Store" "__init__", "__init__", "Store.__init__", defArgs s_Store___init__, defBody s_Store___init__, defScope s_Store___init__, [], []⟩
def D__law_made_store : DefX := ⟨.glo "_law_made_store", "_law_made_store", "_law_made_store", defArgs s__law_made_store, defBody s__law_made_store, defScope s__law_made_store, [], []⟩
def D_is_sizes : DefX := ⟨.glo "is_sizes", "is_sizes", "is_sizes", defArgs s_is_sizes, defBody s_is_sizes, defScope s_is_sizes, [], []⟩
def D_require_together : DefX := ⟨.glo "require_together", "require_together", "require_together", defArgs s_require_together, defBody s_require_together, defScope s_require_together, [], []⟩
def D_require_chain : DefX := ⟨.glo "require_chain", "require_chain", "require_chain", defArgs s_require_chain, defBody s_require_chain, defScope s_require_chain, [], []⟩
def D_require_store : DefX := ⟨.glo "require_store", "require_store", "require_store", defArgs s_require_store, defBody s_require_store, defScope s_require_store, [], []⟩
def D_require_arrivals : DefX := ⟨.glo "require_arrivals", "require_arrivals", "require_arrivals", defArgs s_require_arrivals, defBody s_require_arrivals, defScope s_require_arrivals, [], []⟩
def D_Store_runs : DefX := ⟨.prop "Store" "runs", "runs", "Store.runs", defArgs s_Store_runs, defBody s_Store_runs, defScope s_Store_runs, [], []⟩
def D_first_of : DefX := ⟨.glo "first_of", "first_of", "first_of", defArgs s_first_of, defBody s_first_of, defScope s_first_of, [], []⟩
def D_cut_room : DefX := ⟨.glo "cut_room", "cut_room", "cut_room", defArgs s_cut_room, defBody s_cut_room, defScope s_cut_room, [], []⟩
def D_shutter_at : DefX := ⟨.glo "shutter_at", "shutter_at", "shutter_at", defArgs s_shutter_at, defBody s_shutter_at, defScope s_shutter_at, [], []⟩
def D_shutter_in : DefX := ⟨.glo "shutter_in", "shutter_in", "shutter_in", defArgs s_shutter_in, defBody s_shutter_in, defScope s_shutter_in, [], []⟩
def D_shutter : DefX := ⟨.glo "shutter", "shutter", "shutter", defArgs s_shutter, defBody s_shutter, defScope s_shutter, [], []⟩
def D_is_open : DefX := ⟨.glo "is_open", "is_open", "is_open", defArgs s_is_open, defBody s_is_open, defScope s_is_open, [], []⟩
def D_is_count : DefX := ⟨.glo "is_count", "is_count", "is_count", defArgs s_is_count, defBody s_is_count, defScope s_is_count, [], []⟩
def D_Store_number : DefX := ⟨.prop "Store" "number", "number", "Store.number", defArgs s_Store_number, defBody s_Store_number, defScope s_Store_number, [], []⟩
def D_Store_room_at : DefX := ⟨.meth "Store" "room_at", "room_at", "Store.room_at", defArgs s_Store_room_at, defBody s_Store_room_at, defScope s_Store_room_at, [], []⟩
def D_is_shutter : DefX := ⟨.glo "is_shutter", "is_shutter", "is_shutter", defArgs s_is_shutter, defBody s_is_shutter, defScope s_is_shutter, [], []⟩
def D__law_right : DefX := ⟨.glo "_law_right", "_law_right", "_law_right", defArgs s__law_right, defBody s__law_right, defScope s__law_right, [], []⟩
def D__law_long_chain : DefX := ⟨.glo "_law_long_chain", "_law_long_chain", "_law_long_chain", defArgs s__law_long_chain, defBody s__law_long_chain, defScope s__law_long_chain, [], []⟩
def D__law_merged : DefX := ⟨.glo "_law_merged", "_law_merged", "_law_merged", defArgs s__law_merged, defBody s__law_merged, defScope s__law_merged, [], []⟩
def D__law_great : DefX := ⟨.glo "_law_great", "_law_great", "_law_great", defArgs s__law_great, defBody s__law_great, defScope s__law_great, [], []⟩
def D__law_great_store : DefX := ⟨.glo "_law_great_store", "_law_great_store", "_law_great_store", defArgs s__law_great_store, defBody s__law_great_store, defScope s__law_great_store, [], []⟩
def D__law_great_right : DefX := ⟨.glo "_law_great_right", "_law_great_right", "_law_great_right", defArgs s__law_great_right, defBody s__law_great_right, defScope s__law_great_right, [], []⟩
def D_law : DefX := ⟨.glo "law", "law", "law", defArgs s_law, defBody s_law, defScope s_law, [], []⟩
def fn : List DefX := [D__law_dice, D__law_roll, D__law_chain, D__law_small_store, D__law_pick, D__law_rooms, D__law_shutters, D_is_integer, D_is_size, D_is_run, D_merged, D_Store___init__, D__law_made_store, D_is_sizes, D_require_together, D_require_chain, D_require_store, D_require_arrivals, D_Store_runs, D_first_of, D_cut_room, D_shutter_at, D_shutter_in, D_shutter, D_is_open, D_is_count, D_Store_number, D_Store_room_at, D_is_shutter, D__law_right, D__law_long_chain, D__law_merged, D__law_great, D__law_great_store, D__law_great_right, D_law]
def fa : List Fx := [.fa (.free "len"),
  .fa (.free "min"),
  .fa (.free "max"),
  .fa (.free "range"),
  .fa (.free "int"),
  .fa (.free "abs"),
  .fa (.glo "_law_dice"),
  .fa (.glo "_law_roll"),
  .fa (.free "tuple"),
  .fa (.glo "_law_chain"),
  .fa (.glo "_law_small_store"),
  .fa (.glo "_law_pick"),
  .fa (.glo "_law_rooms"),
  .fa (.glo "_law_shutters"),
  .fa (.free "list"),
  .clsT "Store",
  .fa (.glo "Store"),
  .fa (.cls "Store"),
  .isi (.cls "Store") (.cls "Row") false,
  .isi (.ty "dict") (.cls "Row") false,
  .isi (.ty "list") (.cls "Row") false,
  .isi (.ty "tuple") (.cls "Row") false,
  .isi (.ty "str") (.cls "Row") false,
  .isi (.ty "int") (.cls "Row") false,
  .isi (.ty "bool") (.cls "Row") false,
  .isi (.ty "NoneType") (.cls "Row") false,
  .fa (.free "isinstance"),
  .fa (.glo "Row"),
  .fa (.noat "Store" "own_runs"),
  .isi (.cls "Store") (.ty "tuple") false,
  .isi (.ty "dict") (.ty "tuple") false,
  .isi (.ty "list") (.ty "tuple") false,
  .isi (.ty "tuple") (.ty "tuple") true,
  .isi (.ty "str") (.ty "tuple") false,
  .isi (.ty "int") (.ty "tuple") false,
  .isi (.ty "bool") (.ty "tuple") false,
  .isi (.ty "NoneType") (.ty "tuple") false,
  .isi (.cls "Store") (.ty "int") false,
  .isi (.ty "dict") (.ty "int") false,
  .isi (.ty "list") (.ty "int") false,
  .isi (.ty "tuple") (.ty "int") false,
  .isi (.ty "str") (.ty "int") false,
  .isi (.ty "int") (.ty "int") true,
  .isi (.ty "bool") (.ty "int") true,
  .isi (.ty "NoneType") (.ty "int") false,
  .isi (.cls "Store") (.ty "bool") false,
  .isi (.ty "dict") (.ty "bool") false,
  .isi (.ty "list") (.ty "bool") false,
  .isi (.ty "tuple") (.ty "bool") false,
  .isi (.ty "str") (.ty "bool") false,
  .isi (.ty "int") (.ty "bool") false,
  .isi (.ty "bool") (.ty "bool") true,
  .isi (.ty "NoneType") (.ty "bool") false,
  .fa (.free "bool"),
  .fa (.int "LIMIT" (100000000000000000000000000000000000000000000000000000000000000000000000000000000000000000000000000000000000000000000000000000000000000000000000000000000000000000000000000000000000000000000000000000000)),
  .fa (.glo "is_integer"),
  .fa (.glo "is_size"),
  .fa (.glo "is_run"),
  .fa (.free "all"),
  .fa (.glo "merged"),
  .fa (.int "MAX_RUNS" (40)),
  .fa (.mkr "Store"),
  .fa (.glo "_law_made_store"),
  .fa (.int "MAX_SIZES" (12)),
  .fa (.free "zip"),
  .fa (.glo "is_sizes"),
  .fa (.free "sorted"),
  .fa (.free "set"),
  .fa (.glo "require_together"),
  .fa (.glo "require_chain"),
  .isi (.cls "Store") (.cls "Store") true,
  .isi (.ty "dict") (.cls "Store") false,
  .isi (.ty "list") (.cls "Store") false,
  .isi (.ty "tuple") (.cls "Store") false,
  .isi (.ty "str") (.cls "Store") false,
  .isi (.ty "int") (.cls "Store") false,
  .isi (.ty "bool") (.cls "Store") false,
  .isi (.ty "NoneType") (.cls "Store") false,
  .fa (.glo "require_store"),
  .fa (.glo "require_arrivals"),
  .prop "Store" "runs",
  .fa (.free "enumerate"),
  .fa (.glo "first_of"),
  .fa (.glo "cut_room"),
  .fa (.glo "shutter_at"),
  .fa (.glo "shutter_in"),
  .fa (.glo "shutter"),
  .fa (.glo "is_open"),
  .fa (.free "repr"),
  .fa (.glo "is_count"),
  .fa (.free "sum"),
  .prop "Store" "number",
  .fa (.meth "Store" "room_at"),
  .fa (.glo "is_shutter"),
  .fa (.glo "_law_right"),
  .fa (.glo "_law_long_chain"),
  .fa (.glo "_law_great"),
  .fa (.glo "_law_great_store"),
  .fa (.glo "_law_merged"),
  .fa (.glo "_law_great_right"),
  .fa (.glo "law")]
theorem hu64 {A : Around} {k : Nat} (hr : Room k A) : A.units + 64 < cLine := by
  have := hr.un
  omega
theorem hu65 {A : Around} {k : Nat} (hr : Room k A) : A.units + 65 < cLine := by
  have := hr.un
  omega
def k_Row : Tag → Option Bool := ansT [(.ty "NoneType", false), (.ty "bool", false), (.ty "int", false), (.ty "str", false), (.ty "tuple", false), (.ty "list", false), (.ty "dict", false), (.cls "Store", false)]
theorem isi_Row {X : Cx} (B : Bs fa fn X.K X.mg) : ∀ t b, k_Row t = some b → Isi X (.ref (He.ga X.K "Row")) t b := (isi_ty (B.isi (t := .ty "NoneType") (u := .cls "Row") (b := false) 25) (isi_ty (B.isi (t := .ty "bool") (u := .cls "Row") (b := false) 24) (isi_ty (B.isi (t := .ty "int") (u := .cls "Row") (b := false) 23) (isi_ty (B.isi (t := .ty "str") (u := .cls "Row") (b := false) 22) (isi_ty (B.isi (t := .ty "tuple") (u := .cls "Row") (b := false) 21) (isi_ty (B.isi (t := .ty "list") (u := .cls "Row") (b := false) 20) (isi_ty (B.isi (t := .ty "dict") (u := .cls "Row") (b := false) 19) (isi_cls (B.clsT 15 16 17) (B.isi (t := .cls "Store") (u := .cls "Row") (b := false) 18) isi_nil))))))))

def k_tuple : Tag → Option Bool := ansT [(.ty "NoneType", false), (.ty "bool", false), (.ty "int", false), (.ty "str", false), (.ty "tuple", true), (.ty "list", false), (.ty "dict", false), (.cls "Store", false)]
theorem isi_tuple {X : Cx} (B : Bs fa fn X.K X.mg) : ∀ t b, k_tuple t = some b → Isi X (.type "tuple") t b := (isi_ty (B.isi (t := .ty "NoneType") (u := .ty "tuple") (b := false) 36) (isi_ty (B.isi (t := .ty "bool") (u := .ty "tuple") (b := false) 35) (isi_ty (B.isi (t := .ty "int") (u := .ty "tuple") (b := false) 34) (isi_ty (B.isi (t := .ty "str") (u := .ty "tuple") (b := false) 33) (isi_ty (B.isi (t := .ty "tuple") (u := .ty "tuple") (b := true) 32) (isi_ty (B.isi (t := .ty "list") (u := .ty "tuple") (b := false) 31) (isi_ty (B.isi (t := .ty "dict") (u := .ty "tuple") (b := false) 30) (isi_cls (B.clsT 15 16 17) (B.isi (t := .cls "Store") (u := .ty "tuple") (b := false) 29) isi_nil))))))))

def k_int : Tag → Option Bool := ansT [(.ty "NoneType", false), (.ty "bool", true), (.ty "int", true), (.ty "str", false), (.ty "tuple", false), (.ty "list", false), (.ty "dict", false), (.cls "Store", false)]
theorem isi_int {X : Cx} (B : Bs fa fn X.K X.mg) : ∀ t b, k_int t = some b → Isi X (.type "int") t b := (isi_ty (B.isi (t := .ty "NoneType") (u := .ty "int") (b := false) 44) (isi_ty (B.isi (t := .ty "bool") (u := .ty "int") (b := true) 43) (isi_ty (B.isi (t := .ty "int") (u := .ty "int") (b := true) 42) (isi_ty (B.isi (t := .ty "str") (u := .ty "int") (b := false) 41) (isi_ty (B.isi (t := .ty "tuple") (u := .ty "int") (b := false) 40) (isi_ty (B.isi (t := .ty "list") (u := .ty "int") (b := false) 39) (isi_ty (B.isi (t := .ty "dict") (u := .ty "int") (b := false) 38) (isi_cls (B.clsT 15 16 17) (B.isi (t := .cls "Store") (u := .ty "int") (b := false) 37) isi_nil))))))))

def k_bool : Tag → Option Bool := ansT [(.ty "NoneType", false), (.ty "bool", true), (.ty "int", false), (.ty "str", false), (.ty "tuple", false), (.ty "list", false), (.ty "dict", false), (.cls "Store", false)]
theorem isi_bool {X : Cx} (B : Bs fa fn X.K X.mg) : ∀ t b, k_bool t = some b → Isi X (.type "bool") t b := (isi_ty (B.isi (t := .ty "NoneType") (u := .ty "bool") (b := false) 52) (isi_ty (B.isi (t := .ty "bool") (u := .ty "bool") (b := true) 51) (isi_ty (B.isi (t := .ty "int") (u := .ty "bool") (b := false) 50) (isi_ty (B.isi (t := .ty "str") (u := .ty "bool") (b := false) 49) (isi_ty (B.isi (t := .ty "tuple") (u := .ty "bool") (b := false) 48) (isi_ty (B.isi (t := .ty "list") (u := .ty "bool") (b := false) 47) (isi_ty (B.isi (t := .ty "dict") (u := .ty "bool") (b := false) 46) (isi_cls (B.clsT 15 16 17) (B.isi (t := .cls "Store") (u := .ty "bool") (b := false) 45) isi_nil))))))))

def k_Store : Tag → Option Bool := ansT [(.ty "NoneType", false), (.ty "bool", false), (.ty "int", false), (.ty "str", false), (.ty "tuple", false), (.ty "list", false), (.ty "dict", false), (.cls "Store", true)]
theorem isi_Store {X : Cx} (B : Bs fa fn X.K X.mg) : ∀ t b, k_Store t = some b → Isi X (.ref (He.ga X.K "Store")) t b := (isi_ty (B.isi (t := .ty "NoneType") (u := .cls "Store") (b := false) 77) (isi_ty (B.isi (t := .ty "bool") (u := .cls "Store") (b := false) 76) (isi_ty (B.isi (t := .ty "int") (u := .cls "Store") (b := false) 75) (isi_ty (B.isi (t := .ty "str") (u := .cls "Store") (b := false) 74) (isi_ty (B.isi (t := .ty "tuple") (u := .cls "Store") (b := false) 73) (isi_ty (B.isi (t := .ty "list") (u := .cls "Store") (b := false) 72) (isi_ty (B.isi (t := .ty "dict") (u := .cls "Store") (b := false) 71) (isi_cls (B.clsT 15 16 17) (B.isi (t := .cls "Store") (u := .cls "Store") (b := true) 70) isi_nil))))))))

section
variable {P : Program} {w : World} {K : PySem.W.Frag} {mg : Str → Option Value} {base : Heap}
def d__law_dice : DSt := sSeq (sSet 2 (eIf (bO2 dLt (eV 1) (eCB cLen (asCons (eV 0) (asNil)))) (eCB cInt (asCons (eO2 dIx (eV 0) (eV 1)) (asNil))) (eO2 dAdd (eO2 dMul (eK (.int 71)) (eV 1)) (eK (.int 29))))) (
  sSeq (sSet 3 (eO2 dMod (eCB cMax2 (asCons (eK (.int 0)) (asCons (eO2 dSub (eCB cAbs (asCons (eV 2) (asNil))) (eO2 dPow (eK (.int 10)) (eK (.int 15)))) (asNil)))) (eO2 dMul (eO2 dPow (eK (.int 10)) (eK (.int 60))) (eO2 dPow (eK (.int 10)) (eK (.int 60)))))) (
  sRet (eLstM (asCons (eV 3) (asCons (eO2 dAdd (eO2 dAdd (eO2 dAdd (eO2 dMul (eO2 dMod (eCB cAbs (asCons (eV 2) (asNil))) (eK (.int 1152921504606846877))) (eK (.int 43))) (eO2 dMul (eK (.int 1009)) (eV 1))) (eO2 dMul (eK (.int 31)) (eCB cInt (asCons (eO2 (cmpD dLt) (eV 2) (eK (.int 0))) (asNil))))) (eK (.int 11))) (asCons (eK (.int 0)) (asNil)))))))
def F__law_dice : DF := runA ["script", "spot", "cell", "left"] d__law_dice
theorem sc__law_dice : FnScope ["script", "spot", "cell", "left"] ["script", "spot"] (defScope s__law_dice) := ⟨rfl, rfl, rfl, by decide +kernel, rfl, by decide +kernel, by decide +kernel⟩
theorem ok__law_dice (B : Bs fa fn K mg) : ∃ fd, FnOk P w K mg base (L2.CX P w) 1 (He.ga K "_law_dice") fd ["script", "spot"] (spD ⟨K, mg⟩ 2 F__law_dice) ∧ Binds K fd ["script", "spot"] [] ∧ PySem.W.keepIn K (.ref (He.ga K "_law_dice")) = true := by
    obtain ⟨fd, F⟩ := B.says.def_ 0 (d := D__law_dice) rfl
    refine ⟨fd, fn_A F sc__law_dice rfl (fun cdv A outer s H E hr => ?_), FunD.bindsN F fun _ _ _ _ _ _ us hl => match us, hl with | [_, _], _ => rfl, F.kp⟩
    exact (show JSs _ _ _ _ d__law_dice from (js_cons (j_set (i := 2) sc__law_dice.nd (j_if (jt_cmp op_dLt (j_var (i := 1)) (j_callB (call_cLen rfl) rfl (B.free 0) (by decide +kernel) (ja_cons (j_var (i := 0)) ja_nil))) (j_callTy (call_cInt) rfl (B.free 4) (by decide +kernel) (ja_cons (j_ix rfl (j_var (i := 0)) (j_var (i := 1))) ja_nil)) (j_op (op_dAdd rfl) (j_op (op_dMul) j_int (j_var (i := 1))) j_int)))
    (js_cons (j_set (i := 3) sc__law_dice.nd (j_op (op_dMod) (j_callB (call_cMax2 rfl) rfl (B.free 2) (by decide +kernel) (ja_cons j_int (ja_cons (j_op (op_dSub) (j_callB (call_cAbs) rfl (B.free 5) (by decide +kernel) (ja_cons (j_var (i := 2)) ja_nil)) (j_op (op_dPow) j_int j_int)) ja_nil))) (j_op (op_dMul) (j_op (op_dPow) j_int j_int) (j_op (op_dPow) j_int j_int))))
    (js_one (j_ret (j_lstM (ja_cons (j_var (i := 3)) (ja_cons (j_op (op_dAdd rfl) (j_op (op_dAdd rfl) (j_op (op_dAdd rfl) (j_op (op_dMul) (j_op (op_dMod) (j_callB (call_cAbs) rfl (B.free 5) (by decide +kernel) (ja_cons (j_var (i := 2)) ja_nil)) j_int) j_int) (j_op (op_dMul) j_int (j_var (i := 1)))) (j_op (op_dMul) j_int (j_callTy (call_cInt) rfl (B.free 4) (by decide +kernel) (ja_cons (j_cmp op_dLt (j_var (i := 2)) j_int) ja_nil)))) j_int) (ja_cons j_int ja_nil)))))))))
def d__law_roll : DSt := sSeq (sIf (bO2 dGt (eO2 dIx (eV 0) (eK (.int 0))) (eK (.int 0))) (sSeq (sSet 2 (eO2 dMod (eCB cInt (asCons (eO2 dIx (eV 0) (eK (.int 0))) (asNil))) (eV 1))) (
  sSeq (sSetIx (eV 0) (eK (.int 0)) (eO2 dDiv (eO2 dIx (eV 0) (eK (.int 0))) (eV 1))) (
  sRet (eV 2)))) (sNil)) (
  sSeq (sSetIx (eV 0) (eK (.int 2)) (eO2 dAdd (eO2 dIx (eV 0) (eK (.int 2))) (eK (.int 1)))) (
  sSeq (sSet 3 (eO2 dMod (eCB cInt (asCons (eO2 dAdd (eO2 dIx (eV 0) (eK (.int 1))) (eO2 dMul (eK (.int 67867967)) (eO2 dIx (eV 0) (eK (.int 2))))) (asNil))) (eK (.int 2305843009213693723)))) (
  sSeq (sSet 4 (eO2 dAdd (eO2 dMul (eO2 dMod (eCB cInt (asCons (eO2 dAdd (eO2 dMul (eV 3) (eV 3)) (eO2 dMul (eK (.int 83)) (eO2 dIx (eV 0) (eK (.int 2))))) (asNil))) (eK (.int 1152921504606846803))) (eK (.int 5915587))) (eV 3))) (
  sRet (eO2 dMod (eCB cInt (asCons (eO2 dDiv (eV 4) (eK (.int 131072))) (asNil))) (eV 1))))))
def F__law_roll : DF := runF ["dice", "total", "found", "one", "two"] d__law_roll
theorem sc__law_roll : FnScope ["dice", "total", "found", "one", "two"] ["dice", "total"] (defScope s__law_roll) := ⟨rfl, rfl, rfl, by decide +kernel, rfl, by decide +kernel, by decide +kernel⟩
theorem ok__law_roll (B : Bs fa fn K mg) : ∃ fd, FnOk P w K mg base (L2.CX P w) 1 (He.ga K "_law_roll") fd ["dice", "total"] (spD ⟨K, mg⟩ 2 F__law_roll) ∧ Binds K fd ["dice", "total"] [] ∧ PySem.W.keepIn K (.ref (He.ga K "_law_roll")) = true := by
    obtain ⟨fd, F⟩ := B.says.def_ 1 (d := D__law_roll) rfl
    refine ⟨fd, fn_R F sc__law_roll rfl (fun cdv A outer s H E hr => ?_), FunD.bindsN F fun _ _ _ _ _ _ us hl => match us, hl with | [_, _], _ => rfl, F.kp⟩
    exact (show JSs _ _ _ _ d__law_roll from (js_cons (j_ifS (jt_cmp op_dGt (j_ix rfl (j_var (i := 0)) j_int) j_int) (js_cons (j_set (i := 2) sc__law_roll.nd (j_op (op_dMod) (j_callTy (call_cInt) rfl (B.free 4) (by decide +kernel) (ja_cons (j_ix rfl (j_var (i := 0)) j_int) ja_nil)) (j_var (i := 1))))
    (js_cons (j_setIx (j_var (i := 0)) j_int (j_op (op_dDiv) (j_ix rfl (j_var (i := 0)) j_int) (j_var (i := 1))))
    (js_one (j_ret (j_var (i := 2)))))) js_nil)
    (js_cons (j_setIx (j_var (i := 0)) j_int (j_op (op_dAdd rfl) (j_ix rfl (j_var (i := 0)) j_int) j_int))
    (js_cons (j_set (i := 3) sc__law_roll.nd (j_op (op_dMod) (j_callTy (call_cInt) rfl (B.free 4) (by decide +kernel) (ja_cons (j_op (op_dAdd rfl) (j_ix rfl (j_var (i := 0)) j_int) (j_op (op_dMul) j_int (j_ix rfl (j_var (i := 0)) j_int))) ja_nil)) j_int))
    (js_cons (j_set (i := 4) sc__law_roll.nd (j_op (op_dAdd rfl) (j_op (op_dMul) (j_op (op_dMod) (j_callTy (call_cInt) rfl (B.free 4) (by decide +kernel) (ja_cons (j_op (op_dAdd rfl) (j_op (op_dMul) (j_var (i := 3)) (j_var (i := 3))) (j_op (op_dMul) j_int (j_ix rfl (j_var (i := 0)) j_int))) ja_nil)) j_int) j_int) (j_var (i := 3))))
    (js_one (j_ret (j_op (op_dMod) (j_callTy (call_cInt) rfl (B.free 4) (by decide +kernel) (ja_cons (j_op (op_dDiv) (j_var (i := 4)) j_int) ja_nil)) (j_var (i := 1))))))))))
def lb__law_chain_1 : DSt := sExpr (eApp (eV 3) (eO2 dMul (eO2 dIx (eV 3) (eO1 dNeg (eK (.int 1)))) (eO2 dAdd (eK (.int 2)) (eCall F__law_roll [] (asCons (eV 0) (asCons (eK (.int 3)) (asNil)))))))
def d__law_chain : DSt := sSeq (sSet 3 (eLstM (asCons (eO2 dAdd (eK (.int 1)) (eCall F__law_roll [] (asCons (eV 0) (asCons (eV 2) (asNil))))) (asNil)))) (
  sSeq (sFor (iRng1 (asCons (eCall F__law_roll [] (asCons (eV 0) (asCons (eV 1) (asNil)))) (asNil))) (gdPat (.nm 4)) (lb__law_chain_1)) (
  sRet (eCB cTuple (asCons (eV 3) (asNil)))))
def F__law_chain : DF := runF ["dice", "many", "start", "found", "turn"] d__law_chain
theorem sc__law_chain : FnScope ["dice", "many", "start", "found", "turn"] ["dice", "many", "start"] (defScope s__law_chain) := ⟨rfl, rfl, rfl, by decide +kernel, rfl, by decide +kernel, by decide +kernel⟩
theorem ok__law_chain (B : Bs fa fn K mg) : ∃ fd, FnOk P w K mg base (L2.CX P w) 2 (He.ga K "_law_chain") fd ["dice", "many", "start"] (spD ⟨K, mg⟩ 3 F__law_chain) ∧ Binds K fd ["dice", "many", "start"] [] ∧ PySem.W.keepIn K (.ref (He.ga K "_law_chain")) = true := by
    obtain ⟨fd__law_roll, G__law_roll, b__law_roll, k__law_roll⟩ := ok__law_roll (P := P) (w := w) (base := base) B
    obtain ⟨fd, F⟩ := B.says.def_ 2 (d := D__law_chain) rfl
    refine ⟨fd, fn_R F sc__law_chain rfl (fun cdv A outer s H E hr => ?_), FunD.bindsN F fun _ _ _ _ _ _ us hl => match us, hl with | [_, _, _], _ => rfl, F.kp⟩
    exact (show JSs _ _ _ _ d__law_chain from (js_cons (j_set (i := 3) sc__law_chain.nd (j_lstM (ja_cons (j_op (op_dAdd rfl) j_int (j_call G__law_roll (hr.mono (by decide)) rfl (B.glo 7) k__law_roll b__law_roll .nil isv_nil passE_def (ja_cons (j_var (i := 0)) (ja_cons (j_var (i := 2)) ja_nil)) (al_cons (al_cons al_nil)))) ja_nil)))
    (js_cons (j_for (passes_of rfl) rfl (ji_rng1 rfl (B.free 3) (ja_cons (j_call G__law_roll (hr.mono (by decide)) rfl (B.glo 7) k__law_roll b__law_roll .nil isv_nil passE_def (ja_cons (j_var (i := 0)) (ja_cons (j_var (i := 1)) ja_nil)) (al_cons (al_cons al_nil))) ja_nil)) (jg_pat rfl (.nm 4) (pgn (i := 4) sc__law_chain.nd)) (js_one (j_expr (j_append (j_var (i := 3)) (j_op (op_dMul) (j_ix rfl (j_var (i := 3)) (j_neg j_int)) (j_op (op_dAdd rfl) j_int (j_call G__law_roll (hr.mono (by decide)) rfl (B.glo 7) k__law_roll b__law_roll .nil isv_nil passE_def (ja_cons (j_var (i := 0)) (ja_cons j_int ja_nil)) (al_cons (al_cons al_nil)))))))))
    (js_one (j_ret (j_callTy (call_cTuple rfl) rfl (B.free 8) (by decide +kernel) (ja_cons (j_var (i := 3)) ja_nil)))))))
def lb__law_small_store_1 : DSt := sExpr (eApp (eV 3) (eTup (asCons (eO2 dAdd (eK (.int 1)) (eCall F__law_roll [] (asCons (eV 0) (asCons (eV 1) (asNil))))) (asCons (eK (.int 1)) (asNil)))))
def d__law_small_store : DSt := sSeq (sSet 3 (eLstM (asNil))) (
  sSeq (sFor (iRng1 (asCons (eO2 dAdd (eCall F__law_roll [] (asCons (eV 0) (asCons (eV 2) (asNil)))) (eK (.int 1))) (asNil))) (gdPat (.nm 4)) (lb__law_small_store_1)) (
  sSeq (sIf (bO2 dEq (eCall F__law_roll [] (asCons (eV 0) (asCons (eK (.int 4)) (asNil)))) (eK (.int 0))) (sSet 3 (eLstM (asCons (eTup (asCons (eO2 dIx (eO2 dIx (eV 3) (eK (.int 0))) (eK (.int 0))) (asCons (eCB cLen (asCons (eV 3) (asNil))) (asNil)))) (asNil)))) (sNil)) (
  sRet (eIf (bO2 dGt (eCall F__law_roll [] (asCons (eV 0) (asCons (eK (.int 12)) (asNil)))) (eK (.int 0))) (eV 3) (eLst (asNil))))))
def F__law_small_store : DF := runF ["dice", "greatest", "most", "found", "turn"] d__law_small_store
theorem sc__law_small_store : FnScope ["dice", "greatest", "most", "found", "turn"] ["dice", "greatest", "most"] (defScope s__law_small_store) := ⟨rfl, rfl, rfl, by decide +kernel, rfl, by decide +kernel, by decide +kernel⟩
theorem ok__law_small_store (B : Bs fa fn K mg) : ∃ fd, FnOk P w K mg base (L2.CX P w) 2 (He.ga K "_law_small_store") fd ["dice", "greatest", "most"] (spD ⟨K, mg⟩ 3 F__law_small_store) ∧ Binds K fd ["dice", "greatest", "most"] [] ∧ PySem.W.keepIn K (.ref (He.ga K "_law_small_store")) = true := by
    obtain ⟨fd__law_roll, G__law_roll, b__law_roll, k__law_roll⟩ := ok__law_roll (P := P) (w := w) (base := base) B
    obtain ⟨fd, F⟩ := B.says.def_ 3 (d := D__law_small_store) rfl
    refine ⟨fd, fn_R F sc__law_small_store rfl (fun cdv A outer s H E hr => ?_), FunD.bindsN F fun _ _ _ _ _ _ us hl => match us, hl with | [_, _, _], _ => rfl, F.kp⟩
    exact (show JSs _ _ _ _ d__law_small_store from (js_cons (j_set (i := 3) sc__law_small_store.nd (j_lstM ja_nil))
    (js_cons (j_for (passes_of rfl) rfl (ji_rng1 rfl (B.free 3) (ja_cons (j_op (op_dAdd rfl) (j_call G__law_roll (hr.mono (by decide)) rfl (B.glo 7) k__law_roll b__law_roll .nil isv_nil passE_def (ja_cons (j_var (i := 0)) (ja_cons (j_var (i := 2)) ja_nil)) (al_cons (al_cons al_nil))) j_int) ja_nil)) (jg_pat rfl (.nm 4) (pgn (i := 4) sc__law_small_store.nd)) (js_one (j_expr (j_append (j_var (i := 3)) (j_tup (ja_cons (j_op (op_dAdd rfl) j_int (j_call G__law_roll (hr.mono (by decide)) rfl (B.glo 7) k__law_roll b__law_roll .nil isv_nil passE_def (ja_cons (j_var (i := 0)) (ja_cons (j_var (i := 1)) ja_nil)) (al_cons (al_cons al_nil)))) (ja_cons j_int ja_nil)))))))
    (js_cons (j_ifS (jt_cmp (op_dEq rfl (hu64 hr)) (j_call G__law_roll (hr.mono (by decide)) rfl (B.glo 7) k__law_roll b__law_roll .nil isv_nil passE_def (ja_cons (j_var (i := 0)) (ja_cons j_int ja_nil)) (al_cons (al_cons al_nil))) j_int) (js_one (j_set (i := 3) sc__law_small_store.nd (j_lstM (ja_cons (j_tup (ja_cons (j_ix rfl (j_ix rfl (j_var (i := 3)) j_int) j_int) (ja_cons (j_callB (call_cLen rfl) rfl (B.free 0) (by decide +kernel) (ja_cons (j_var (i := 3)) ja_nil)) ja_nil))) ja_nil)))) js_nil)
    (js_one (j_ret (j_if (jt_cmp op_dGt (j_call G__law_roll (hr.mono (by decide)) rfl (B.glo 7) k__law_roll b__law_roll .nil isv_nil passE_def (ja_cons (j_var (i := 0)) (ja_cons j_int ja_nil)) (al_cons (al_cons al_nil))) j_int) (j_var (i := 3)) (j_lst ja_nil))))))))
def d__law_pick : DSt := sRet (eO2 dIx (eV 1) (eCall F__law_roll [] (asCons (eV 0) (asCons (eCB cLen (asCons (eV 1) (asNil))) (asNil)))))
def F__law_pick : DF := runF ["dice", "items"] d__law_pick
theorem sc__law_pick : FnScope ["dice", "items"] ["dice", "items"] (defScope s__law_pick) := ⟨rfl, rfl, rfl, by decide +kernel, rfl, by decide +kernel, by decide +kernel⟩
theorem ok__law_pick (B : Bs fa fn K mg) : ∃ fd, FnOk P w K mg base (L2.CX P w) 2 (He.ga K "_law_pick") fd ["dice", "items"] (spD ⟨K, mg⟩ 2 F__law_pick) ∧ Binds K fd ["dice", "items"] [] ∧ PySem.W.keepIn K (.ref (He.ga K "_law_pick")) = true := by
    obtain ⟨fd__law_roll, G__law_roll, b__law_roll, k__law_roll⟩ := ok__law_roll (P := P) (w := w) (base := base) B
    obtain ⟨fd, F⟩ := B.says.def_ 4 (d := D__law_pick) rfl
    refine ⟨fd, fn_R F sc__law_pick rfl (fun cdv A outer s H E hr => ?_), FunD.bindsN F fun _ _ _ _ _ _ us hl => match us, hl with | [_, _], _ => rfl, F.kp⟩
    exact (show JSs _ _ _ _ d__law_pick from (js_one (j_ret (j_ix rfl (j_var (i := 1)) (j_call G__law_roll (hr.mono (by decide)) rfl (B.glo 7) k__law_roll b__law_roll .nil isv_nil passE_def (ja_cons (j_var (i := 0)) (ja_cons (j_callB (call_cLen rfl) rfl (B.free 0) (by decide +kernel) (ja_cons (j_var (i := 1)) ja_nil)) ja_nil)) (al_cons (al_cons al_nil)))))))
def lb__law_rooms_1 : DSt := sExpr (eExt (eV 1) (eO2 dMul (eLst (asCons (eV 2) (asNil))) (eV 3)))
def d__law_rooms : DSt := sSeq (sSet 1 (eLstM (asNil))) (
  sSeq (sFor (iAny (eV 0)) (gdPat (.tup (.cons (.nm 2) (.cons (.nm 3) (.nil))))) (lb__law_rooms_1)) (
  sRet (eV 1)))
def F__law_rooms : DF := runF ["runs", "found", "room", "number"] d__law_rooms
theorem sc__law_rooms : FnScope ["runs", "found", "room", "number"] ["runs"] (defScope s__law_rooms) := ⟨rfl, rfl, rfl, by decide +kernel, rfl, by decide +kernel, by decide +kernel⟩
theorem ok__law_rooms (B : Bs fa fn K mg) : ∃ fd, FnOk P w K mg base (L2.CX P w) 1 (He.ga K "_law_rooms") fd ["runs"] (spD ⟨K, mg⟩ 1 F__law_rooms) ∧ Binds K fd ["runs"] [] ∧ PySem.W.keepIn K (.ref (He.ga K "_law_rooms")) = true := by
    obtain ⟨fd, F⟩ := B.says.def_ 5 (d := D__law_rooms) rfl
    refine ⟨fd, fn_R F sc__law_rooms rfl (fun cdv A outer s H E hr => ?_), FunD.bindsN F fun _ _ _ _ _ _ us hl => match us, hl with | [_], _ => rfl, F.kp⟩
    exact (show JSs _ _ _ _ d__law_rooms from (js_cons (j_set (i := 1) sc__law_rooms.nd (j_lstM ja_nil))
    (js_cons (j_for (passes_of rfl) rfl (ji_any rfl (j_var (i := 0))) (jg_pat rfl (.tup (.cons (.nm 2) (.cons (.nm 3) (.nil)))) (pgt rfl (pgc (pgn (i := 2) sc__law_rooms.nd) (pgc (pgn (i := 3) sc__law_rooms.nd) pg0)))) (js_one (j_expr (j_extend (j_var (i := 1)) (j_op (op_dMul) (j_lst (ja_cons (j_var (i := 2)) ja_nil)) (j_var (i := 3)))))))
    (js_one (j_ret (j_var (i := 1)))))))
def lb__law_shutters_1 : DSt := sSeq (sSet 7 (eO2 dSub (eO2 dIx (eV 2) (eV 6)) (eO2 dMod (eO2 dIx (eV 2) (eV 6)) (eO2 dIx (eV 0) (eK (.int 0)))))) (
  sIf (bAnd (bO2 dGe (eO2 dIx (eV 2) (eV 5)) (eV 4)) (bO2 dNe (eO2 dMod (eV 7) (eV 4)) (eK (.int 0)))) (sExpr (eApp (eV 3) (eTup (asCons (eV 4) (asCons (eV 5) (asCons (eV 6) (asNil))))))) (sNil))
def lb__law_shutters_2 : DSt := sFor (iRng2 (asCons (eO2 dAdd (eV 5) (eK (.int 1))) (asCons (eCB cLen (asCons (eV 2) (asNil))) (asNil)))) (gdPat (.nm 6)) (lb__law_shutters_1)
def lb__law_shutters_3 : DSt := sFor (iRng1 (asCons (eCB cLen (asCons (eV 2) (asNil))) (asNil))) (gdPat (.nm 5)) (lb__law_shutters_2)
def d__law_shutters : DSt := sSeq (sPar 2 3 (asCons (eCall F__law_rooms [] (asCons (eV 1) (asNil))) (asCons (eLstM (asNil)) (asNil)))) (
  sSeq (sFor (iAny (eV 0)) (gdPat (.nm 4)) (lb__law_shutters_3)) (
  sRet (eV 3)))
def F__law_shutters : DF := runF ["chain", "runs", "rooms", "found", "size", "at", "later", "cut"] d__law_shutters
theorem sc__law_shutters : FnScope ["chain", "runs", "rooms", "found", "size", "at", "later", "cut"] ["chain", "runs"] (defScope s__law_shutters) := ⟨rfl, rfl, rfl, by decide +kernel, rfl, by decide +kernel, by decide +kernel⟩
theorem ok__law_shutters (B : Bs fa fn K mg) : ∃ fd, FnOk P w K mg base (L2.CX P w) 2 (He.ga K "_law_shutters") fd ["chain", "runs"] (spD ⟨K, mg⟩ 2 F__law_shutters) ∧ Binds K fd ["chain", "runs"] [] ∧ PySem.W.keepIn K (.ref (He.ga K "_law_shutters")) = true := by
    obtain ⟨fd__law_rooms, G__law_rooms, b__law_rooms, k__law_rooms⟩ := ok__law_rooms (P := P) (w := w) (base := base) B
    obtain ⟨fd, F⟩ := B.says.def_ 6 (d := D__law_shutters) rfl
    refine ⟨fd, fn_R F sc__law_shutters rfl (fun cdv A outer s H E hr => ?_), FunD.bindsN F fun _ _ _ _ _ _ us hl => match us, hl with | [_, _], _ => rfl, F.kp⟩
    exact (show JSs _ _ _ _ d__law_shutters from (js_cons (j_par (i := 2) (j := 3) rfl sc__law_shutters.nd (ja_cons (j_call G__law_rooms (hr.mono (by decide)) rfl (B.glo 12) k__law_rooms b__law_rooms .nil isv_nil passE_def (ja_cons (j_var (i := 1)) ja_nil) (al_cons al_nil)) (ja_cons (j_lstM ja_nil) ja_nil)))
    (js_cons (j_for (passes_of rfl) rfl (ji_any rfl (j_var (i := 0))) (jg_pat rfl (.nm 4) (pgn (i := 4) sc__law_shutters.nd)) (js_one (j_for (passes_of rfl) rfl (ji_rng1 rfl (B.free 3) (ja_cons (j_callB (call_cLen rfl) rfl (B.free 0) (by decide +kernel) (ja_cons (j_var (i := 2)) ja_nil)) ja_nil)) (jg_pat rfl (.nm 5) (pgn (i := 5) sc__law_shutters.nd)) (js_one (j_for (passes_of rfl) rfl (ji_rng2 rfl (B.free 3) (ja_cons (j_op (op_dAdd rfl) (j_var (i := 5)) j_int) (ja_cons (j_callB (call_cLen rfl) rfl (B.free 0) (by decide +kernel) (ja_cons (j_var (i := 2)) ja_nil)) ja_nil))) (jg_pat rfl (.nm 6) (pgn (i := 6) sc__law_shutters.nd)) (js_cons (j_set (i := 7) sc__law_shutters.nd (j_op (op_dSub) (j_ix rfl (j_var (i := 2)) (j_var (i := 6))) (j_op (op_dMod) (j_ix rfl (j_var (i := 2)) (j_var (i := 6))) (j_ix rfl (j_var (i := 0)) j_int))))
    (js_one (j_ifS (jt_w (jw_and (jt_cmp op_dGe (j_ix rfl (j_var (i := 2)) (j_var (i := 5))) (j_var (i := 4))) (jw_and1 (jt_cmp (op_dNe rfl (hu64 hr)) (j_op (op_dMod) (j_var (i := 7)) (j_var (i := 4))) j_int)))) (js_one (j_expr (j_append (j_var (i := 3)) (j_tup (ja_cons (j_var (i := 4)) (ja_cons (j_var (i := 5)) (ja_cons (j_var (i := 6)) ja_nil))))))) js_nil))))))))
    (js_one (j_ret (j_var (i := 3)))))))
def d_is_integer : DSt := sRet (eAnd (eIsi k_int (eV 0)) (eAnd (eNot (eIsi k_bool (eV 0))) (eB (bChain dLt dLt (eO1 dNeg (eK (.int (100000000000000000000000000000000000000000000000000000000000000000000000000000000000000000000000000000000000000000000000000000000000000000000000000000000000000000000000000000000000000000000000000000000)))) (eV 0) (eK (.int (100000000000000000000000000000000000000000000000000000000000000000000000000000000000000000000000000000000000000000000000000000000000000000000000000000000000000000000000000000000000000000000000000000000)))))))
def F_is_integer : DF := runF ["value"] d_is_integer
theorem sc_is_integer : FnScope ["value"] ["value"] (defScope s_is_integer) := ⟨rfl, rfl, rfl, by decide +kernel, rfl, by decide +kernel, by decide +kernel⟩
theorem ok_is_integer (B : Bs fa fn K mg) : ∃ fd, FnOk P w K mg base (L2.CX P w) 1 (He.ga K "is_integer") fd ["value"] (spD ⟨K, mg⟩ 1 F_is_integer) ∧ Binds K fd ["value"] [] ∧ PySem.W.keepIn K (.ref (He.ga K "is_integer")) = true := by
    obtain ⟨fd, F⟩ := B.says.def_ 7 (d := D_is_integer) rfl
    refine ⟨fd, fn_R F sc_is_integer rfl (fun cdv A outer s H E hr => ?_), FunD.bindsN F fun _ _ _ _ _ _ us hl => match us, hl with | [_], _ => rfl, F.kp⟩
    exact (show JSs _ _ _ _ d_is_integer from (js_one (j_ret (j_and (j_isiTy rfl rfl rfl (B.free 26) rfl (B.free 4) (by decide +kernel) (isi_int B) (j_var (i := 0))) (j_and (j_not (j_isiTy rfl rfl rfl (B.free 26) rfl (B.free 53) (by decide +kernel) (isi_bool B) (j_var (i := 0)))) (j_one (j_chain op_dLt op_dLt (j_neg (j_gint rfl (B.int 54))) (j_var (i := 0)) (j_gint rfl (B.int 54)))))))))
def d_is_size : DSt := sRet (eAnd (eCall F_is_integer [] (asCons (eV 0) (asNil))) (eO2 (cmpD dGe) (eV 0) (eK (.int 1))))
def F_is_size : DF := runF ["value"] d_is_size
theorem sc_is_size : FnScope ["value"] ["value"] (defScope s_is_size) := ⟨rfl, rfl, rfl, by decide +kernel, rfl, by decide +kernel, by decide +kernel⟩
theorem ok_is_size (B : Bs fa fn K mg) : ∃ fd, FnOk P w K mg base (L2.CX P w) 2 (He.ga K "is_size") fd ["value"] (spD ⟨K, mg⟩ 1 F_is_size) ∧ Binds K fd ["value"] [] ∧ PySem.W.keepIn K (.ref (He.ga K "is_size")) = true := by
    obtain ⟨fd_is_integer, G_is_integer, b_is_integer, k_is_integer⟩ := ok_is_integer (P := P) (w := w) (base := base) B
    obtain ⟨fd, F⟩ := B.says.def_ 8 (d := D_is_size) rfl
    refine ⟨fd, fn_R F sc_is_size rfl (fun cdv A outer s H E hr => ?_), FunD.bindsN F fun _ _ _ _ _ _ us hl => match us, hl with | [_], _ => rfl, F.kp⟩
    exact (show JSs _ _ _ _ d_is_size from (js_one (j_ret (j_and (j_call G_is_integer (hr.mono (by decide)) rfl (B.glo 55) k_is_integer b_is_integer .nil isv_nil passE_def (ja_cons (j_var (i := 0)) ja_nil) (al_cons al_nil)) (j_one (j_cmp op_dGe (j_var (i := 0)) j_int))))))
def d_is_run : DSt := sRet (eAnd (eIsi k_tuple (eV 0)) (eAnd (eO2 (cmpD dEq) (eCB cLen (asCons (eV 0) (asNil))) (eK (.int 2))) (eAnd (eCall F_is_size [] (asCons (eO2 dIx (eV 0) (eK (.int 0))) (asNil))) (eCall F_is_size [] (asCons (eO2 dIx (eV 0) (eK (.int 1))) (asNil))))))
def F_is_run : DF := runF ["value"] d_is_run
theorem sc_is_run : FnScope ["value"] ["value"] (defScope s_is_run) := ⟨rfl, rfl, rfl, by decide +kernel, rfl, by decide +kernel, by decide +kernel⟩
theorem ok_is_run (B : Bs fa fn K mg) : ∃ fd, FnOk P w K mg base (L2.CX P w) 3 (He.ga K "is_run") fd ["value"] (spD ⟨K, mg⟩ 1 F_is_run) ∧ Binds K fd ["value"] [] ∧ PySem.W.keepIn K (.ref (He.ga K "is_run")) = true := by
    obtain ⟨fd_is_size, G_is_size, b_is_size, k_is_size⟩ := ok_is_size (P := P) (w := w) (base := base) B
    obtain ⟨fd, F⟩ := B.says.def_ 9 (d := D_is_run) rfl
    refine ⟨fd, fn_R F sc_is_run rfl (fun cdv A outer s H E hr => ?_), FunD.bindsN F fun _ _ _ _ _ _ us hl => match us, hl with | [_], _ => rfl, F.kp⟩
    exact (show JSs _ _ _ _ d_is_run from (js_one (j_ret (j_and (j_isiTy rfl rfl rfl (B.free 26) rfl (B.free 8) (by decide +kernel) (isi_tuple B) (j_var (i := 0))) (j_and (j_cmp (op_dEq rfl (hu64 hr)) (j_callB (call_cLen rfl) rfl (B.free 0) (by decide +kernel) (ja_cons (j_var (i := 0)) ja_nil)) j_int) (j_and (j_call G_is_size (hr.mono (by decide)) rfl (B.glo 56) k_is_size b_is_size .nil isv_nil passE_def (ja_cons (j_ix rfl (j_var (i := 0)) j_int) ja_nil) (al_cons al_nil)) (j_one (j_call G_is_size (hr.mono (by decide)) rfl (B.glo 56) k_is_size b_is_size .nil isv_nil passE_def (ja_cons (j_ix rfl (j_var (i := 0)) j_int) ja_nil) (al_cons al_nil)))))))))
def lb_merged_1 : DSt := sIf (bAnd (bO2 dNe (eV 1) (eLst (asNil))) (bO2 dEq (eO2 dIx (eO2 dIx (eV 1) (eO1 dNeg (eK (.int 1)))) (eK (.int 0))) (eV 2))) (sSetIx (eV 1) (eO1 dNeg (eK (.int 1))) (eTup (asCons (eV 2) (asCons (eO2 dAdd (eO2 dIx (eO2 dIx (eV 1) (eO1 dNeg (eK (.int 1)))) (eK (.int 1))) (eV 3)) (asNil))))) (sExpr (eApp (eV 1) (eTup (asCons (eV 2) (asCons (eV 3) (asNil))))))
def d_merged : DSt := sSeq (sSet 1 (eLstM (asNil))) (
  sSeq (sFor (iAny (eV 0)) (gdPat (.tup (.cons (.nm 2) (.cons (.nm 3) (.nil))))) (lb_merged_1)) (
  sRet (eV 1)))
def F_merged : DF := runF ["runs", "found", "room", "many"] d_merged
theorem sc_merged : FnScope ["runs", "found", "room", "many"] ["runs"] (defScope s_merged) := ⟨rfl, rfl, rfl, by decide +kernel, rfl, by decide +kernel, by decide +kernel⟩
theorem ok_merged (B : Bs fa fn K mg) : ∃ fd, FnOk P w K mg base (L2.CX P w) 1 (He.ga K "merged") fd ["runs"] (spD ⟨K, mg⟩ 1 F_merged) ∧ Binds K fd ["runs"] [] ∧ PySem.W.keepIn K (.ref (He.ga K "merged")) = true := by
    obtain ⟨fd, F⟩ := B.says.def_ 10 (d := D_merged) rfl
    refine ⟨fd, fn_R F sc_merged rfl (fun cdv A outer s H E hr => ?_), FunD.bindsN F fun _ _ _ _ _ _ us hl => match us, hl with | [_], _ => rfl, F.kp⟩
    exact (show JSs _ _ _ _ d_merged from (js_cons (j_set (i := 1) sc_merged.nd (j_lstM ja_nil))
    (js_cons (j_for (passes_of rfl) rfl (ji_any rfl (j_var (i := 0))) (jg_pat rfl (.tup (.cons (.nm 2) (.cons (.nm 3) (.nil)))) (pgt rfl (pgc (pgn (i := 2) sc_merged.nd) (pgc (pgn (i := 3) sc_merged.nd) pg0)))) (js_one (j_ifS (jt_w (jw_and (jt_cmp (op_dNe rfl (hu64 hr)) (j_var (i := 1)) (j_lst ja_nil)) (jw_and1 (jt_cmp (op_dEq rfl (hu64 hr)) (j_ix rfl (j_ix rfl (j_var (i := 1)) (j_neg j_int)) j_int) (j_var (i := 2)))))) (js_one (j_setIx (j_var (i := 1)) (j_neg j_int) (j_tup (ja_cons (j_var (i := 2)) (ja_cons (j_op (op_dAdd rfl) (j_ix rfl (j_ix rfl (j_var (i := 1)) (j_neg j_int)) j_int) (j_var (i := 3))) ja_nil))))) (js_one (j_expr (j_append (j_var (i := 1)) (j_tup (ja_cons (j_var (i := 2)) (ja_cons (j_var (i := 3)) ja_nil)))))))))
    (js_one (j_ret (j_var (i := 1)))))))
def d_Store___init__ : DSt := sIf (bAnd (bO2 dEq (eCB cLen (asCons (eV 1) (asNil))) (eK (.int 1))) (bVal (eIsi k_Row (eO2 dIx (eV 1) (eK (.int 0)))))) (sFldSet "Store" "own_runs" (eV 0) (eFld "Store" "own_runs" (eO2 dIx (eV 1) (eK (.int 0))))) (sSeq (sIf (bNot (bVal (eCB cAll (asCons (eLc [3] (iAny (eV 1)) (.nm 3) (quiet (bYes)) (quiet (eCall F_is_run [] (asCons (eV 3) (asNil))))) (asNil))))) (sNo) (sNil)) (
  sSeq (sSet 2 (eCall F_merged [] (asCons (eV 1) (asNil)))) (
  sSeq (sIf (bO2 dGt (eCB cLen (asCons (eV 2) (asNil))) (eK (.int (40)))) (sNo) (sNil)) (
  sFldSet "Store" "own_runs" (eV 0) (eCB cTuple (asCons (eV 2) (asNil)))))))
def F_Store___init__ : DF := runF ["self", "runs", "found", "run"] d_Store___init__
theorem sc_Store___init__ : FnScope ["self", "runs", "found", "run"] ["self", "runs"] (defScope s_Store___init__) := ⟨rfl, rfl, rfl, by decide +kernel, rfl, by decide +kernel, by decide +kernel⟩
theorem ok_Store___init__ (B : Bs fa fn K mg) : FnR P w K mg base (L2.CX P w) 4 (He.ma K (He.ga K "Store") "__init__") (spS ⟨K, mg⟩ 1 F_Store___init__) := by
    obtain ⟨fd_is_run, G_is_run, b_is_run, k_is_run⟩ := ok_is_run (P := P) (w := w) (base := base) B
    obtain ⟨fd_merged, G_merged, b_merged, k_merged⟩ := ok_merged (P := P) (w := w) (base := base) B
    obtain ⟨fd, F⟩ := B.says.def_ 11 (d := D_Store___init__) rfl
    refine fn_RS (ps := ["self"]) (pv := "runs") F sc_Store___init__ rfl (fun kV doc pm cdv ct an => StX.bind_star1 (B := fun z => bindArgs (PySem.W.fnOf D_Store___init__.name D_Store___init__.qual D_Store___init__.params D_Store___init__.body D_Store___init__.scope .none kV doc pm an cdv ct) ⟨z, []⟩) (p1 := "self") (pv := "runs") (fun a => rfl) (fun a r rs => rfl)) (fun cdv A outer s H E hr => ?_)
    exact (show JSs _ _ _ _ d_Store___init__ from (js_one (j_ifS (jt_w (jw_and (jt_cmp (op_dEq rfl (hu64 hr)) (j_callB (call_cLen rfl) rfl (B.free 0) (by decide +kernel) (ja_cons (j_var (i := 1)) ja_nil)) j_int) (jw_and1 (jt_val (j_isiC rfl rfl rfl (B.free 26) rfl (B.glo 27) (isi_Row B) (j_ix rfl (j_var (i := 1)) j_int)))))) (js_one (j_fldSet rfl (B.glo 16) (B.cls 17) (B.noat 28) (j_var (i := 0)) (j_fld rfl (B.glo 16) (B.cls 17) (B.noat 28) (j_ix rfl (j_var (i := 1)) j_int)))) (js_cons (j_ifS (jt_not (jt_val (j_callB (call_cAll rfl) rfl (B.free 58) (by decide +kernel) (ja_cons (j_lc (own := [("run", 3)]) rfl rfl sc_Store___init__.nd (ji_any rfl (j_var (i := 1))) (blkOk_by rfl) (fun _ _ _ _ _ => (pgn (i := 3) sc_Store___init__.nd)) (fun _ _ _ _ _ => jts_nil) (fun _ _ _ _ _ => (j_call G_is_run (hr.mono (by decide)) rfl (B.glo 57) k_is_run b_is_run .nil isv_nil passE_none (ja_cons (j_var (i := 3)) ja_nil) (al_cons al_nil)))) ja_nil)))) (js_one j_never) js_nil)
    (js_cons (j_set (i := 2) sc_Store___init__.nd (j_call G_merged (hr.mono (by decide)) rfl (B.glo 59) k_merged b_merged .nil isv_nil passE_def (ja_cons (j_var (i := 1)) ja_nil) (al_cons al_nil)))
    (js_cons (j_ifS (jt_cmp op_dGt (j_callB (call_cLen rfl) rfl (B.free 0) (by decide +kernel) (ja_cons (j_var (i := 2)) ja_nil)) (j_gint rfl (B.int 60))) (js_one j_never) js_nil)
    (js_one (j_fldSet rfl (B.glo 16) (B.cls 17) (B.noat 28) (j_var (i := 0)) (j_callTy (call_cTuple rfl) rfl (B.free 8) (by decide +kernel) (ja_cons (j_var (i := 2)) ja_nil))))))))))
def d__law_made_store : DSt := sSeq (sSet 1 (eO2 dAdd (eCB cList (asCons (eV 0) (asNil))) (eO2 dMul (eLst (asCons (eK .non) (asNil))) (eK (.int 8))))) (
  sSeq (sUnl (.cons (.nm 2) (.cons (.nm 3) (.cons (.nm 4) (.cons (.nm 5) (.cons (.nm 6) (.cons (.nm 7) (.cons (.nm 8) (.cons (.nm 9) (.nil))))))))) (eSl (eV 1) (oNone) (oSome (eK (.int 8))))) (
  sSeq (sIf (bO2 dEq (eV 0) (eLst (asNil))) (sRet (eCall (mkF "Store" (starF F_Store___init__)) [] asNil)) (sNil)) (
  sSeq (sIf (bO2 dEq (eCB cLen (asCons (eV 0) (asNil))) (eK (.int 1))) (sRet (eCall (mkF "Store" (starF F_Store___init__)) [] (asCons (eV 2) (asNil)))) (sNil)) (
  sSeq (sIf (bO2 dEq (eCB cLen (asCons (eV 0) (asNil))) (eK (.int 2))) (sRet (eCall (mkF "Store" (starF F_Store___init__)) [] (asCons (eV 2) (asCons (eV 3) (asNil))))) (sNil)) (
  sSeq (sIf (bO2 dEq (eCB cLen (asCons (eV 0) (asNil))) (eK (.int 3))) (sRet (eCall (mkF "Store" (starF F_Store___init__)) [] (asCons (eV 2) (asCons (eV 3) (asCons (eV 4) (asNil)))))) (sNil)) (
  sSeq (sIf (bO2 dEq (eCB cLen (asCons (eV 0) (asNil))) (eK (.int 4))) (sRet (eCall (mkF "Store" (starF F_Store___init__)) [] (asCons (eV 2) (asCons (eV 3) (asCons (eV 4) (asCons (eV 5) (asNil))))))) (sNil)) (
  sSeq (sIf (bO2 dEq (eCB cLen (asCons (eV 0) (asNil))) (eK (.int 5))) (sRet (eCall (mkF "Store" (starF F_Store___init__)) [] (asCons (eV 2) (asCons (eV 3) (asCons (eV 4) (asCons (eV 5) (asCons (eV 6) (asNil)))))))) (sNil)) (
  sSeq (sIf (bO2 dEq (eCB cLen (asCons (eV 0) (asNil))) (eK (.int 6))) (sRet (eCall (mkF "Store" (starF F_Store___init__)) [] (asCons (eV 2) (asCons (eV 3) (asCons (eV 4) (asCons (eV 5) (asCons (eV 6) (asCons (eV 7) (asNil))))))))) (sNil)) (
  sSeq (sIf (bO2 dEq (eCB cLen (asCons (eV 0) (asNil))) (eK (.int 7))) (sRet (eCall (mkF "Store" (starF F_Store___init__)) [] (asCons (eV 2) (asCons (eV 3) (asCons (eV 4) (asCons (eV 5) (asCons (eV 6) (asCons (eV 7) (asCons (eV 8) (asNil)))))))))) (sNil)) (
  sRet (eCall (mkF "Store" (starF F_Store___init__)) [] (asCons (eV 2) (asCons (eV 3) (asCons (eV 4) (asCons (eV 5) (asCons (eV 6) (asCons (eV 7) (asCons (eV 8) (asCons (eV 9) (asNil))))))))))))))))))))
def F__law_made_store : DF := runF ["runs", "rest", "one", "two", "three", "four", "five", "six", "seven", "eight"] d__law_made_store
theorem sc__law_made_store : FnScope ["runs", "rest", "one", "two", "three", "four", "five", "six", "seven", "eight"] ["runs"] (defScope s__law_made_store) := ⟨rfl, rfl, rfl, by decide +kernel, rfl, by decide +kernel, by decide +kernel⟩
theorem ok__law_made_store (B : Bs fa fn K mg) : ∃ fd, FnOk P w K mg base (L2.CX P w) 6 (He.ga K "_law_made_store") fd ["runs"] (spD ⟨K, mg⟩ 1 F__law_made_store) ∧ Binds K fd ["runs"] [] ∧ PySem.W.keepIn K (.ref (He.ga K "_law_made_store")) = true := by
    have G_Store___init__ := ok_Store___init__ (P := P) (w := w) (base := base) B
    obtain ⟨fd, F⟩ := B.says.def_ 12 (d := D__law_made_store) rfl
    refine ⟨fd, fn_R F sc__law_made_store rfl (fun cdv A outer s H E hr => ?_), FunD.bindsN F fun _ _ _ _ _ _ us hl => match us, hl with | [_], _ => rfl, F.kp⟩
    exact (show JSs _ _ _ _ d__law_made_store from (js_cons (j_set (i := 1) sc__law_made_store.nd (j_op (op_dAdd rfl) (j_callTy (call_cList rfl) rfl (B.free 14) (by decide +kernel) (ja_cons (j_var (i := 0)) ja_nil)) (j_op (op_dMul) (j_lst (ja_cons j_non ja_nil)) j_int)))
    (js_cons (j_unl rfl rfl (j_slice rfl (j_var (i := 1)) jo_none (jo_some j_int)) (pgc (pgn (i := 2) sc__law_made_store.nd) (pgc (pgn (i := 3) sc__law_made_store.nd) (pgc (pgn (i := 4) sc__law_made_store.nd) (pgc (pgn (i := 5) sc__law_made_store.nd) (pgc (pgn (i := 6) sc__law_made_store.nd) (pgc (pgn (i := 7) sc__law_made_store.nd) (pgc (pgn (i := 8) sc__law_made_store.nd) (pgc (pgn (i := 9) sc__law_made_store.nd) pg0)))))))))
    (js_cons (j_ifS (jt_cmp (op_dEq rfl (hu64 hr)) (j_var (i := 0)) (j_lst ja_nil)) (js_one (j_ret (j_makeS0 rfl (B.mkr 61) G_Store___init__ (fun n => mkF_wk _ n _) (hr.mono (by decide)) rfl (B.glo 16) passE_def))) js_nil)
    (js_cons (j_ifS (jt_cmp (op_dEq rfl (hu64 hr)) (j_callB (call_cLen rfl) rfl (B.free 0) (by decide +kernel) (ja_cons (j_var (i := 0)) ja_nil)) j_int) (js_one (j_ret (j_makeS rfl (B.mkr 61) G_Store___init__ (fun n => mkF_wk _ n _) (hr.mono (by decide)) rfl (B.glo 16) passE_def (ja_cons (j_var (i := 2)) ja_nil) (al_cons al_nil)))) js_nil)
    (js_cons (j_ifS (jt_cmp (op_dEq rfl (hu64 hr)) (j_callB (call_cLen rfl) rfl (B.free 0) (by decide +kernel) (ja_cons (j_var (i := 0)) ja_nil)) j_int) (js_one (j_ret (j_makeS rfl (B.mkr 61) G_Store___init__ (fun n => mkF_wk _ n _) (hr.mono (by decide)) rfl (B.glo 16) passE_def (ja_cons (j_var (i := 2)) (ja_cons (j_var (i := 3)) ja_nil)) (al_cons (al_cons al_nil))))) js_nil)
    (js_cons (j_ifS (jt_cmp (op_dEq rfl (hu64 hr)) (j_callB (call_cLen rfl) rfl (B.free 0) (by decide +kernel) (ja_cons (j_var (i := 0)) ja_nil)) j_int) (js_one (j_ret (j_makeS rfl (B.mkr 61) G_Store___init__ (fun n => mkF_wk _ n _) (hr.mono (by decide)) rfl (B.glo 16) passE_def (ja_cons (j_var (i := 2)) (ja_cons (j_var (i := 3)) (ja_cons (j_var (i := 4)) ja_nil))) (al_cons (al_cons (al_cons al_nil)))))) js_nil)
    (js_cons (j_ifS (jt_cmp (op_dEq rfl (hu64 hr)) (j_callB (call_cLen rfl) rfl (B.free 0) (by decide +kernel) (ja_cons (j_var (i := 0)) ja_nil)) j_int) (js_one (j_ret (j_makeS rfl (B.mkr 61) G_Store___init__ (fun n => mkF_wk _ n _) (hr.mono (by decide)) rfl (B.glo 16) passE_def (ja_cons (j_var (i := 2)) (ja_cons (j_var (i := 3)) (ja_cons (j_var (i := 4)) (ja_cons (j_var (i := 5)) ja_nil)))) (al_cons (al_cons (al_cons (al_cons al_nil))))))) js_nil)
    (js_cons (j_ifS (jt_cmp (op_dEq rfl (hu64 hr)) (j_callB (call_cLen rfl) rfl (B.free 0) (by decide +kernel) (ja_cons (j_var (i := 0)) ja_nil)) j_int) (js_one (j_ret (j_makeS rfl (B.mkr 61) G_Store___init__ (fun n => mkF_wk _ n _) (hr.mono (by decide)) rfl (B.glo 16) passE_def (ja_cons (j_var (i := 2)) (ja_cons (j_var (i := 3)) (ja_cons (j_var (i := 4)) (ja_cons (j_var (i := 5)) (ja_cons (j_var (i := 6)) ja_nil))))) (al_cons (al_cons (al_cons (al_cons (al_cons al_nil)))))))) js_nil)
    (js_cons (j_ifS (jt_cmp (op_dEq rfl (hu64 hr)) (j_callB (call_cLen rfl) rfl (B.free 0) (by decide +kernel) (ja_cons (j_var (i := 0)) ja_nil)) j_int) (js_one (j_ret (j_makeS rfl (B.mkr 61) G_Store___init__ (fun n => mkF_wk _ n _) (hr.mono (by decide)) rfl (B.glo 16) passE_def (ja_cons (j_var (i := 2)) (ja_cons (j_var (i := 3)) (ja_cons (j_var (i := 4)) (ja_cons (j_var (i := 5)) (ja_cons (j_var (i := 6)) (ja_cons (j_var (i := 7)) ja_nil)))))) (al_cons (al_cons (al_cons (al_cons (al_cons (al_cons al_nil))))))))) js_nil)
    (js_cons (j_ifS (jt_cmp (op_dEq rfl (hu64 hr)) (j_callB (call_cLen rfl) rfl (B.free 0) (by decide +kernel) (ja_cons (j_var (i := 0)) ja_nil)) j_int) (js_one (j_ret (j_makeS rfl (B.mkr 61) G_Store___init__ (fun n => mkF_wk _ n _) (hr.mono (by decide)) rfl (B.glo 16) passE_def (ja_cons (j_var (i := 2)) (ja_cons (j_var (i := 3)) (ja_cons (j_var (i := 4)) (ja_cons (j_var (i := 5)) (ja_cons (j_var (i := 6)) (ja_cons (j_var (i := 7)) (ja_cons (j_var (i := 8)) ja_nil))))))) (al_cons (al_cons (al_cons (al_cons (al_cons (al_cons (al_cons al_nil)))))))))) js_nil)
    (js_one (j_ret (j_makeS rfl (B.mkr 61) G_Store___init__ (fun n => mkF_wk _ n _) (hr.mono (by decide)) rfl (B.glo 16) passE_def (ja_cons (j_var (i := 2)) (ja_cons (j_var (i := 3)) (ja_cons (j_var (i := 4)) (ja_cons (j_var (i := 5)) (ja_cons (j_var (i := 6)) (ja_cons (j_var (i := 7)) (ja_cons (j_var (i := 8)) (ja_cons (j_var (i := 9)) ja_nil)))))))) (al_cons (al_cons (al_cons (al_cons (al_cons (al_cons (al_cons (al_cons al_nil))))))))))))))))))))))
def d_is_sizes : DSt := sSeq (sIf (bOr (bNot (bVal (eIsi k_tuple (eV 0)))) (bOr (bNot (bChain dLe dLe (eK (.int 1)) (eCB cLen (asCons (eV 0) (asNil))) (eK (.int (12))))) (bNot (bVal (eCB cAll (asCons (eLc [1] (iAny (eV 0)) (.nm 1) (quiet (bYes)) (quiet (eCall F_is_size [] (asCons (eV 1) (asNil))))) (asNil))))))) (sRet (eK (.bl false))) (sNil)) (
  sRet (eCB cAll (asCons (eLc [1, 2] (iZip (asCons (eV 0) (asCons (eSl (eV 0) (oSome (eK (.int 1))) (oNone)) (asNil)))) (.tup (.cons (.nm 1) (.cons (.nm 2) (.nil)))) (quiet (bYes)) (quiet (eO2 (cmpD dLt) (eV 1) (eV 2)))) (asNil))))
def F_is_sizes : DF := runF ["value", "one", "other"] d_is_sizes
theorem sc_is_sizes : FnScope ["value", "one", "other"] ["value"] (defScope s_is_sizes) := ⟨rfl, rfl, rfl, by decide +kernel, rfl, by decide +kernel, by decide +kernel⟩
theorem ok_is_sizes (B : Bs fa fn K mg) : ∃ fd, FnOk P w K mg base (L2.CX P w) 3 (He.ga K "is_sizes") fd ["value"] (spD ⟨K, mg⟩ 1 F_is_sizes) ∧ Binds K fd ["value"] [] ∧ PySem.W.keepIn K (.ref (He.ga K "is_sizes")) = true := by
    obtain ⟨fd_is_size, G_is_size, b_is_size, k_is_size⟩ := ok_is_size (P := P) (w := w) (base := base) B
    obtain ⟨fd, F⟩ := B.says.def_ 13 (d := D_is_sizes) rfl
    refine ⟨fd, fn_R F sc_is_sizes rfl (fun cdv A outer s H E hr => ?_), FunD.bindsN F fun _ _ _ _ _ _ us hl => match us, hl with | [_], _ => rfl, F.kp⟩
    exact (show JSs _ _ _ _ d_is_sizes from (js_cons (j_ifS (jt_w (jw_or (jt_not (jt_val (j_isiTy rfl rfl rfl (B.free 26) rfl (B.free 8) (by decide +kernel) (isi_tuple B) (j_var (i := 0))))) (jw_or (jt_not (jt_chain op_dLe op_dLe j_int (j_callB (call_cLen rfl) rfl (B.free 0) (by decide +kernel) (ja_cons (j_var (i := 0)) ja_nil)) (j_gint rfl (B.int 63)))) (jw_or1 (jt_not (jt_val (j_callB (call_cAll rfl) rfl (B.free 58) (by decide +kernel) (ja_cons (j_lc (own := [("one", 1)]) rfl rfl sc_is_sizes.nd (ji_any rfl (j_var (i := 0))) (blkOk_by rfl) (fun _ _ _ _ _ => (pgn (i := 1) sc_is_sizes.nd)) (fun _ _ _ _ _ => jts_nil) (fun _ _ _ _ _ => (j_call G_is_size (hr.mono (by decide)) rfl (B.glo 56) k_is_size b_is_size .nil isv_nil passE_none (ja_cons (j_var (i := 1)) ja_nil) (al_cons al_nil)))) ja_nil)))))))) (js_one (j_ret j_bl)) js_nil)
    (js_one (j_ret (j_callB (call_cAll rfl) rfl (B.free 58) (by decide +kernel) (ja_cons (j_lc (own := [("one", 1), ("other", 2)]) rfl rfl sc_is_sizes.nd (ji_zip rfl rfl (B.free 64) (ja_cons (j_var (i := 0)) (ja_cons (j_slice rfl (j_var (i := 0)) (jo_some j_int) jo_none) ja_nil))) (blkOk_by rfl) (fun _ _ _ _ _ => (pgt rfl (pgc (pgn (i := 1) sc_is_sizes.nd) (pgc (pgn (i := 2) sc_is_sizes.nd) pg0)))) (fun _ _ _ _ _ => jts_nil) (fun _ _ _ _ _ => (j_cmp op_dLt (j_var (i := 1)) (j_var (i := 2))))) ja_nil))))))
def lb_require_together_1 : DSt := sIf (bO2 dNe (eO2 dMod (eV 3) (eV 2)) (eK (.int 0))) (sNo) (sNil)
def d_require_together : DSt := sSeq (sSet 1 (eCB cTuple (asCons (eSortSet (eV 0)) (asNil)))) (
  sFor (iZip (asCons (eV 1) (asCons (eSl (eV 1) (oSome (eK (.int 1))) (oNone)) (asNil)))) (gdPat (.tup (.cons (.nm 2) (.cons (.nm 3) (.nil))))) (lb_require_together_1))
def F_require_together : DF := runF ["sizes", "told", "low", "high"] d_require_together
theorem sc_require_together : FnScope ["sizes", "told", "low", "high"] ["sizes"] (defScope s_require_together) := ⟨rfl, rfl, rfl, by decide +kernel, rfl, by decide +kernel, by decide +kernel⟩
theorem ok_require_together (B : Bs fa fn K mg) : ∃ fd, FnOk P w K mg base (L2.CX P w) 1 (He.ga K "require_together") fd ["sizes"] (spD ⟨K, mg⟩ 1 F_require_together) ∧ Binds K fd ["sizes"] [] ∧ PySem.W.keepIn K (.ref (He.ga K "require_together")) = true := by
    obtain ⟨fd, F⟩ := B.says.def_ 14 (d := D_require_together) rfl
    refine ⟨fd, fn_R F sc_require_together rfl (fun cdv A outer s H E hr => ?_), FunD.bindsN F fun _ _ _ _ _ _ us hl => match us, hl with | [_], _ => rfl, F.kp⟩
    exact (show JSs _ _ _ _ d_require_together from (js_cons (j_set (i := 1) sc_require_together.nd (j_callTy (call_cTuple rfl) rfl (B.free 8) (by decide +kernel) (ja_cons (j_sortSet rfl rfl rfl (B.free 66) rfl (B.free 67) (j_var (i := 0))) ja_nil)))
    (js_one (j_for (passes_of rfl) rfl (ji_zip rfl rfl (B.free 64) (ja_cons (j_var (i := 1)) (ja_cons (j_slice rfl (j_var (i := 1)) (jo_some j_int) jo_none) ja_nil))) (jg_pat rfl (.tup (.cons (.nm 2) (.cons (.nm 3) (.nil)))) (pgt rfl (pgc (pgn (i := 2) sc_require_together.nd) (pgc (pgn (i := 3) sc_require_together.nd) pg0)))) (js_one (j_ifS (jt_cmp (op_dNe rfl (hu64 hr)) (j_op (op_dMod) (j_var (i := 3)) (j_var (i := 2))) j_int) (js_one j_never) js_nil))))))
def d_require_chain : DSt := sSeq (sIf (bNot (bVal (eCall F_is_sizes [] (asCons (eV 0) (asNil))))) (sNo) (sNil)) (
  sExpr (eCall F_require_together [] (asCons (eV 0) (asNil))))
def F_require_chain : DF := runF ["chain"] d_require_chain
theorem sc_require_chain : FnScope ["chain"] ["chain"] (defScope s_require_chain) := ⟨rfl, rfl, rfl, by decide +kernel, rfl, by decide +kernel, by decide +kernel⟩
theorem ok_require_chain (B : Bs fa fn K mg) : ∃ fd, FnOk P w K mg base (L2.CX P w) 4 (He.ga K "require_chain") fd ["chain"] (spD ⟨K, mg⟩ 1 F_require_chain) ∧ Binds K fd ["chain"] [] ∧ PySem.W.keepIn K (.ref (He.ga K "require_chain")) = true := by
    obtain ⟨fd_is_sizes, G_is_sizes, b_is_sizes, k_is_sizes⟩ := ok_is_sizes (P := P) (w := w) (base := base) B
    obtain ⟨fd_require_together, G_require_together, b_require_together, k_require_together⟩ := ok_require_together (P := P) (w := w) (base := base) B
    obtain ⟨fd, F⟩ := B.says.def_ 15 (d := D_require_chain) rfl
    refine ⟨fd, fn_R F sc_require_chain rfl (fun cdv A outer s H E hr => ?_), FunD.bindsN F fun _ _ _ _ _ _ us hl => match us, hl with | [_], _ => rfl, F.kp⟩
    exact (show JSs _ _ _ _ d_require_chain from (js_cons (j_ifS (jt_not (jt_val (j_call G_is_sizes (hr.mono (by decide)) rfl (B.glo 65) k_is_sizes b_is_sizes .nil isv_nil passE_def (ja_cons (j_var (i := 0)) ja_nil) (al_cons al_nil)))) (js_one j_never) js_nil)
    (js_one (j_expr (j_call G_require_together (hr.mono (by decide)) rfl (B.glo 68) k_require_together b_require_together .nil isv_nil passE_def (ja_cons (j_var (i := 0)) ja_nil) (al_cons al_nil))))))
def d_require_store : DSt := sIf (bNot (bVal (eIsi k_Store (eV 0)))) (sNo) (sNil)
def F_require_store : DF := runF ["value"] d_require_store
theorem sc_require_store : FnScope ["value"] ["value"] (defScope s_require_store) := ⟨rfl, rfl, rfl, by decide +kernel, rfl, by decide +kernel, by decide +kernel⟩
theorem ok_require_store (B : Bs fa fn K mg) : ∃ fd, FnOk P w K mg base (L2.CX P w) 1 (He.ga K "require_store") fd ["value"] (spD ⟨K, mg⟩ 1 F_require_store) ∧ Binds K fd ["value"] [] ∧ PySem.W.keepIn K (.ref (He.ga K "require_store")) = true := by
    obtain ⟨fd, F⟩ := B.says.def_ 16 (d := D_require_store) rfl
    refine ⟨fd, fn_R F sc_require_store rfl (fun cdv A outer s H E hr => ?_), FunD.bindsN F fun _ _ _ _ _ _ us hl => match us, hl with | [_], _ => rfl, F.kp⟩
    exact (show JSs _ _ _ _ d_require_store from (js_one (j_ifS (jt_not (jt_val (j_isiC rfl rfl rfl (B.free 26) rfl (B.glo 16) (isi_Store B) (j_var (i := 0))))) (js_one j_never) js_nil)))
def d_require_arrivals : DSt := sSeq (sExpr (eCall F_require_chain [] (asCons (eV 0) (asNil)))) (
  sExpr (eCall F_require_store [] (asCons (eV 1) (asNil))))
def F_require_arrivals : DF := runF ["chain", "store"] d_require_arrivals
theorem sc_require_arrivals : FnScope ["chain", "store"] ["chain", "store"] (defScope s_require_arrivals) := ⟨rfl, rfl, rfl, by decide +kernel, rfl, by decide +kernel, by decide +kernel⟩
theorem ok_require_arrivals (B : Bs fa fn K mg) : ∃ fd, FnOk P w K mg base (L2.CX P w) 5 (He.ga K "require_arrivals") fd ["chain", "store"] (spD ⟨K, mg⟩ 2 F_require_arrivals) ∧ Binds K fd ["chain", "store"] [] ∧ PySem.W.keepIn K (.ref (He.ga K "require_arrivals")) = true := by
    obtain ⟨fd_require_chain, G_require_chain, b_require_chain, k_require_chain⟩ := ok_require_chain (P := P) (w := w) (base := base) B
    obtain ⟨fd_require_store, G_require_store, b_require_store, k_require_store⟩ := ok_require_store (P := P) (w := w) (base := base) B
    obtain ⟨fd, F⟩ := B.says.def_ 17 (d := D_require_arrivals) rfl
    refine ⟨fd, fn_R F sc_require_arrivals rfl (fun cdv A outer s H E hr => ?_), FunD.bindsN F fun _ _ _ _ _ _ us hl => match us, hl with | [_, _], _ => rfl, F.kp⟩
    exact (show JSs _ _ _ _ d_require_arrivals from (js_cons (j_expr (j_call G_require_chain (hr.mono (by decide)) rfl (B.glo 69) k_require_chain b_require_chain .nil isv_nil passE_def (ja_cons (j_var (i := 0)) ja_nil) (al_cons al_nil)))
    (js_one (j_expr (j_call G_require_store (hr.mono (by decide)) rfl (B.glo 78) k_require_store b_require_store .nil isv_nil passE_def (ja_cons (j_var (i := 1)) ja_nil) (al_cons al_nil))))))
def d_Store_runs : DSt := sRet (eFld "Store" "own_runs" (eV 0))
def F_Store_runs : DF := runF ["self"] d_Store_runs
theorem sc_Store_runs : FnScope ["self"] ["self"] (defScope s_Store_runs) := ⟨rfl, rfl, rfl, by decide +kernel, rfl, by decide +kernel, by decide +kernel⟩
theorem ok_Store_runs (B : Bs fa fn K mg) : ∃ fd, FnOk P w K mg base (L2.CX P w) 1 (gp K "Store" "runs") fd ["self"] (spD ⟨K, mg⟩ 1 F_Store_runs) ∧ Binds K fd ["self"] [] ∧ PySem.W.keepIn K (.ref (gp K "Store" "runs")) = true := by
    obtain ⟨fd, F⟩ := B.says.def_ 18 (d := D_Store_runs) rfl
    refine ⟨fd, fn_R F sc_Store_runs rfl (fun cdv A outer s H E hr => ?_), FunD.bindsN F fun _ _ _ _ _ _ us hl => match us, hl with | [_], _ => rfl, F.kp⟩
    exact (show JSs _ _ _ _ d_Store_runs from (js_one (j_ret (j_fld rfl (B.glo 16) (B.cls 17) (B.noat 28) (j_var (i := 0))))))
def lb_first_of_1 : DSt := sSeq (sIf (bO2 dGe (eV 4) (eV 1)) (sRet (eTup (asCons (eV 3) (asCons (eV 2) (asNil))))) (sNil)) (
  sAug 2 dAddI (eV 5))
def d_first_of : DSt := sSeq (sSet 2 (eK (.int 0))) (
  sSeq (sFor (iEnum (asCons (eProp "Store" F_Store_runs (eV 0)) (asNil))) (gdPat (.tup (.cons (.nm 3) (.cons (.tup (.cons (.nm 4) (.cons (.nm 5) (.nil)))) (.nil))))) (lb_first_of_1)) (
  sRet (eK .non)))
def F_first_of : DF := runF ["store", "size", "index", "at", "room", "number"] d_first_of
theorem sc_first_of : FnScope ["store", "size", "index", "at", "room", "number"] ["store", "size"] (defScope s_first_of) := ⟨rfl, rfl, rfl, by decide +kernel, rfl, by decide +kernel, by decide +kernel⟩
theorem ok_first_of (B : Bs fa fn K mg) : ∃ fd, FnOk P w K mg base (L2.CX P w) 3 (He.ga K "first_of") fd ["store", "size"] (spD ⟨K, mg⟩ 2 F_first_of) ∧ Binds K fd ["store", "size"] [] ∧ PySem.W.keepIn K (.ref (He.ga K "first_of")) = true := by
    obtain ⟨fd_Store_runs, G_Store_runs, b_Store_runs, k_Store_runs⟩ := ok_Store_runs (P := P) (w := w) (base := base) B
    obtain ⟨fd, F⟩ := B.says.def_ 19 (d := D_first_of) rfl
    refine ⟨fd, fn_R F sc_first_of rfl (fun cdv A outer s H E hr => ?_), FunD.bindsN F fun _ _ _ _ _ _ us hl => match us, hl with | [_, _], _ => rfl, F.kp⟩
    exact (show JSs _ _ _ _ d_first_of from (js_cons (j_set (i := 2) sc_first_of.nd j_int)
    (js_cons (j_for (passes_of rfl) rfl (ji_enum rfl rfl (B.free 81) (ja_cons (j_prop rfl (B.glo 16) (B.cls 17) (B.prop 80) G_Store_runs (hr.mono (by decide)) b_Store_runs (j_var (i := 0))) ja_nil)) (jg_pat rfl (.tup (.cons (.nm 3) (.cons (.tup (.cons (.nm 4) (.cons (.nm 5) (.nil)))) (.nil)))) (pgt rfl (pgc (pgn (i := 3) sc_first_of.nd) (pgc (pgt rfl (pgc (pgn (i := 4) sc_first_of.nd) (pgc (pgn (i := 5) sc_first_of.nd) pg0))) pg0)))) (js_cons (j_ifS (jt_cmp op_dGe (j_var (i := 4)) (j_var (i := 1))) (js_one (j_ret (j_tup (ja_cons (j_var (i := 3)) (ja_cons (j_var (i := 2)) ja_nil))))) js_nil)
    (js_one (j_aug (i := 2) sc_first_of.nd ip_dAdd (j_var (i := 5))))))
    (js_one (j_ret j_non)))))
def d_cut_room : DSt := sRet (eO2 dSub (eV 1) (eO2 dMod (eV 1) (eO2 dIx (eV 0) (eK (.int 0)))))
def F_cut_room : DF := runF ["chain", "room"] d_cut_room
theorem sc_cut_room : FnScope ["chain", "room"] ["chain", "room"] (defScope s_cut_room) := ⟨rfl, rfl, rfl, by decide +kernel, rfl, by decide +kernel, by decide +kernel⟩
theorem ok_cut_room (B : Bs fa fn K mg) : ∃ fd, FnOk P w K mg base (L2.CX P w) 1 (He.ga K "cut_room") fd ["chain", "room"] (spD ⟨K, mg⟩ 2 F_cut_room) ∧ Binds K fd ["chain", "room"] [] ∧ PySem.W.keepIn K (.ref (He.ga K "cut_room")) = true := by
    obtain ⟨fd, F⟩ := B.says.def_ 20 (d := D_cut_room) rfl
    refine ⟨fd, fn_R F sc_cut_room rfl (fun cdv A outer s H E hr => ?_), FunD.bindsN F fun _ _ _ _ _ _ us hl => match us, hl with | [_, _], _ => rfl, F.kp⟩
    exact (show JSs _ _ _ _ d_cut_room from (js_one (j_ret (j_op (op_dSub) (j_var (i := 1)) (j_op (op_dMod) (j_var (i := 1)) (j_ix rfl (j_var (i := 0)) j_int))))))
def lb_shutter_at_1 : DSt := sSeq (sSet 10 (eIf (bO2 dGt (eV 7) (eK (.int 0))) (eV 6) (eO2 dAdd (eV 6) (eK (.int 1))))) (
  sSeq (sAug 6 dAddI (eV 9)) (
  sIf (bAnd (bO2 dLt (eV 10) (eV 6)) (bO2 dNe (eO2 dMod (eCall F_cut_room [] (asCons (eV 0) (asCons (eV 8) (asNil)))) (eV 2)) (eK (.int 0)))) (sRet (eTup (asCons (eV 5) (asCons (eV 10) (asNil))))) (sNil)))
def d_shutter_at : DSt := sSeq (sIfW 3 dIs (eCall F_first_of [] (asCons (eV 1) (asCons (eV 2) (asNil)))) (sRet (eK .non)) (sNil)) (
  sSeq (sUnp (.tup (.cons (.nm 4) (.cons (.nm 5) (.nil)))) (eV 3)) (
  sSeq (sSet 6 (eV 5)) (
  sSeq (sFor (iEnum (asCons (eSl (eProp "Store" F_Store_runs (eV 1)) (oSome (eV 4)) (oNone)) (asNil))) (gdPat (.tup (.cons (.nm 7) (.cons (.tup (.cons (.nm 8) (.cons (.nm 9) (.nil)))) (.nil))))) (lb_shutter_at_1)) (
  sRet (eK .non)))))
def F_shutter_at : DF := runF ["chain", "store", "size", "told", "run", "first", "index", "at", "room", "number", "later"] d_shutter_at
theorem sc_shutter_at : FnScope ["chain", "store", "size", "told", "run", "first", "index", "at", "room", "number", "later"] ["chain", "store", "size"] (defScope s_shutter_at) := ⟨rfl, rfl, rfl, by decide +kernel, rfl, by decide +kernel, by decide +kernel⟩
theorem ok_shutter_at (B : Bs fa fn K mg) : ∃ fd, FnOk P w K mg base (L2.CX P w) 4 (He.ga K "shutter_at") fd ["chain", "store", "size"] (spD ⟨K, mg⟩ 3 F_shutter_at) ∧ Binds K fd ["chain", "store", "size"] [] ∧ PySem.W.keepIn K (.ref (He.ga K "shutter_at")) = true := by
    obtain ⟨fd_first_of, G_first_of, b_first_of, k_first_of⟩ := ok_first_of (P := P) (w := w) (base := base) B
    obtain ⟨fd_Store_runs, G_Store_runs, b_Store_runs, k_Store_runs⟩ := ok_Store_runs (P := P) (w := w) (base := base) B
    obtain ⟨fd_cut_room, G_cut_room, b_cut_room, k_cut_room⟩ := ok_cut_room (P := P) (w := w) (base := base) B
    obtain ⟨fd, F⟩ := B.says.def_ 21 (d := D_shutter_at) rfl
    refine ⟨fd, fn_R F sc_shutter_at rfl (fun cdv A outer s H E hr => ?_), FunD.bindsN F fun _ _ _ _ _ _ us hl => match us, hl with | [_, _, _], _ => rfl, F.kp⟩
    exact (show JSs _ _ _ _ d_shutter_at from (js_cons (j_ifW (i := 3) sc_shutter_at.nd op_dIs (j_call G_first_of (hr.mono (by decide)) rfl (B.glo 82) k_first_of b_first_of .nil isv_nil passE_def (ja_cons (j_var (i := 1)) (ja_cons (j_var (i := 2)) ja_nil)) (al_cons (al_cons al_nil))) (js_one (j_ret j_non)) js_nil)
    (js_cons (j_unp rfl (j_var (i := 3)) (pgt rfl (pgc (pgn (i := 4) sc_shutter_at.nd) (pgc (pgn (i := 5) sc_shutter_at.nd) pg0))))
    (js_cons (j_set (i := 6) sc_shutter_at.nd (j_var (i := 5)))
    (js_cons (j_for (passes_of rfl) rfl (ji_enum rfl rfl (B.free 81) (ja_cons (j_slice rfl (j_prop rfl (B.glo 16) (B.cls 17) (B.prop 80) G_Store_runs (hr.mono (by decide)) b_Store_runs (j_var (i := 1))) (jo_some (j_var (i := 4))) jo_none) ja_nil)) (jg_pat rfl (.tup (.cons (.nm 7) (.cons (.tup (.cons (.nm 8) (.cons (.nm 9) (.nil)))) (.nil)))) (pgt rfl (pgc (pgn (i := 7) sc_shutter_at.nd) (pgc (pgt rfl (pgc (pgn (i := 8) sc_shutter_at.nd) (pgc (pgn (i := 9) sc_shutter_at.nd) pg0))) pg0)))) (js_cons (j_set (i := 10) sc_shutter_at.nd (j_if (jt_cmp op_dGt (j_var (i := 7)) j_int) (j_var (i := 6)) (j_op (op_dAdd rfl) (j_var (i := 6)) j_int)))
    (js_cons (j_aug (i := 6) sc_shutter_at.nd ip_dAdd (j_var (i := 9)))
    (js_one (j_ifS (jt_w (jw_and (jt_cmp op_dLt (j_var (i := 10)) (j_var (i := 6))) (jw_and1 (jt_cmp (op_dNe rfl (hu64 hr)) (j_op (op_dMod) (j_call G_cut_room (hr.mono (by decide)) rfl (B.glo 83) k_cut_room b_cut_room .nil isv_nil passE_def (ja_cons (j_var (i := 0)) (ja_cons (j_var (i := 8)) ja_nil)) (al_cons (al_cons al_nil))) (j_var (i := 2))) j_int)))) (js_one (j_ret (j_tup (ja_cons (j_var (i := 5)) (ja_cons (j_var (i := 10)) ja_nil))))) js_nil)))))
    (js_one (j_ret j_non)))))))
def lb_shutter_in_1 : DSt := sIfW 3 dIsNot (eCall F_shutter_at [] (asCons (eV 0) (asCons (eV 1) (asCons (eV 2) (asNil))))) (sRet (eTup (asCons (eV 2) (asStar (eV 3) (asNil))))) (sNil)
def d_shutter_in : DSt := sSeq (sFor (iAny (eV 0)) (gdPat (.nm 2)) (lb_shutter_in_1)) (
  sRet (eK .non))
def F_shutter_in : DF := runF ["chain", "store", "size", "told"] d_shutter_in
theorem sc_shutter_in : FnScope ["chain", "store", "size", "told"] ["chain", "store"] (defScope s_shutter_in) := ⟨rfl, rfl, rfl, by decide +kernel, rfl, by decide +kernel, by decide +kernel⟩
theorem ok_shutter_in (B : Bs fa fn K mg) : ∃ fd, FnOk P w K mg base (L2.CX P w) 5 (He.ga K "shutter_in") fd ["chain", "store"] (spD ⟨K, mg⟩ 2 F_shutter_in) ∧ Binds K fd ["chain", "store"] [] ∧ PySem.W.keepIn K (.ref (He.ga K "shutter_in")) = true := by
    obtain ⟨fd_shutter_at, G_shutter_at, b_shutter_at, k_shutter_at⟩ := ok_shutter_at (P := P) (w := w) (base := base) B
    obtain ⟨fd, F⟩ := B.says.def_ 22 (d := D_shutter_in) rfl
    refine ⟨fd, fn_R F sc_shutter_in rfl (fun cdv A outer s H E hr => ?_), FunD.bindsN F fun _ _ _ _ _ _ us hl => match us, hl with | [_, _], _ => rfl, F.kp⟩
    exact (show JSs _ _ _ _ d_shutter_in from (js_cons (j_for (passes_of rfl) rfl (ji_any rfl (j_var (i := 0))) (jg_pat rfl (.nm 2) (pgn (i := 2) sc_shutter_in.nd)) (js_one (j_ifW (i := 3) sc_shutter_in.nd op_dIsNot (j_call G_shutter_at (hr.mono (by decide)) rfl (B.glo 84) k_shutter_at b_shutter_at .nil isv_nil passE_def (ja_cons (j_var (i := 0)) (ja_cons (j_var (i := 1)) (ja_cons (j_var (i := 2)) ja_nil))) (al_cons (al_cons (al_cons al_nil)))) (js_one (j_ret (j_tup (ja_cons (j_var (i := 2)) (ja_star rfl (j_var (i := 3)) ja_nil))))) js_nil)))
    (js_one (j_ret j_non))))
def d_shutter : DSt := sSeq (sExpr (eCall F_require_arrivals [] (asCons (eV 0) (asCons (eV 1) (asNil))))) (
  sRet (eCall F_shutter_in [] (asCons (eV 0) (asCons (eV 1) (asNil)))))
def F_shutter : DF := runF ["chain", "store"] d_shutter
theorem sc_shutter : FnScope ["chain", "store"] ["chain", "store"] (defScope s_shutter) := ⟨rfl, rfl, rfl, by decide +kernel, rfl, by decide +kernel, by decide +kernel⟩
theorem ok_shutter (B : Bs fa fn K mg) : ∃ fd, FnOk P w K mg base (L2.CX P w) 6 (He.ga K "shutter") fd ["chain", "store"] (spD ⟨K, mg⟩ 2 F_shutter) ∧ Binds K fd ["chain", "store"] [] ∧ PySem.W.keepIn K (.ref (He.ga K "shutter")) = true := by
    obtain ⟨fd_require_arrivals, G_require_arrivals, b_require_arrivals, k_require_arrivals⟩ := ok_require_arrivals (P := P) (w := w) (base := base) B
    obtain ⟨fd_shutter_in, G_shutter_in, b_shutter_in, k_shutter_in⟩ := ok_shutter_in (P := P) (w := w) (base := base) B
    obtain ⟨fd, F⟩ := B.says.def_ 23 (d := D_shutter) rfl
    refine ⟨fd, fn_R F sc_shutter rfl (fun cdv A outer s H E hr => ?_), FunD.bindsN F fun _ _ _ _ _ _ us hl => match us, hl with | [_, _], _ => rfl, F.kp⟩
    exact (show JSs _ _ _ _ d_shutter from (js_cons (j_expr (j_call G_require_arrivals (hr.mono (by decide)) rfl (B.glo 79) k_require_arrivals b_require_arrivals .nil isv_nil passE_def (ja_cons (j_var (i := 0)) (ja_cons (j_var (i := 1)) ja_nil)) (al_cons (al_cons al_nil))))
    (js_one (j_ret (j_call G_shutter_in (hr.mono (by decide)) rfl (B.glo 85) k_shutter_in b_shutter_in .nil isv_nil passE_def (ja_cons (j_var (i := 0)) (ja_cons (j_var (i := 1)) ja_nil)) (al_cons (al_cons al_nil)))))))
def d_is_open : DSt := sSeq (sExpr (eCall F_require_arrivals [] (asCons (eV 0) (asCons (eV 1) (asNil))))) (
  sRet (eO2 (cmpD dIs) (eCall F_shutter_in [] (asCons (eV 0) (asCons (eV 1) (asNil)))) (eK .non)))
def F_is_open : DF := runF ["chain", "store"] d_is_open
theorem sc_is_open : FnScope ["chain", "store"] ["chain", "store"] (defScope s_is_open) := ⟨rfl, rfl, rfl, by decide +kernel, rfl, by decide +kernel, by decide +kernel⟩
theorem ok_is_open (B : Bs fa fn K mg) : ∃ fd, FnOk P w K mg base (L2.CX P w) 6 (He.ga K "is_open") fd ["chain", "store"] (spD ⟨K, mg⟩ 2 F_is_open) ∧ Binds K fd ["chain", "store"] [] ∧ PySem.W.keepIn K (.ref (He.ga K "is_open")) = true := by
    obtain ⟨fd_require_arrivals, G_require_arrivals, b_require_arrivals, k_require_arrivals⟩ := ok_require_arrivals (P := P) (w := w) (base := base) B
    obtain ⟨fd_shutter_in, G_shutter_in, b_shutter_in, k_shutter_in⟩ := ok_shutter_in (P := P) (w := w) (base := base) B
    obtain ⟨fd, F⟩ := B.says.def_ 24 (d := D_is_open) rfl
    refine ⟨fd, fn_R F sc_is_open rfl (fun cdv A outer s H E hr => ?_), FunD.bindsN F fun _ _ _ _ _ _ us hl => match us, hl with | [_, _], _ => rfl, F.kp⟩
    exact (show JSs _ _ _ _ d_is_open from (js_cons (j_expr (j_call G_require_arrivals (hr.mono (by decide)) rfl (B.glo 79) k_require_arrivals b_require_arrivals .nil isv_nil passE_def (ja_cons (j_var (i := 0)) (ja_cons (j_var (i := 1)) ja_nil)) (al_cons (al_cons al_nil))))
    (js_one (j_ret (j_cmp op_dIs (j_call G_shutter_in (hr.mono (by decide)) rfl (B.glo 85) k_shutter_in b_shutter_in .nil isv_nil passE_def (ja_cons (j_var (i := 0)) (ja_cons (j_var (i := 1)) ja_nil)) (al_cons (al_cons al_nil))) j_non)))))
def d_is_count : DSt := sRet (eAnd (eCall F_is_integer [] (asCons (eV 0) (asNil))) (eO2 (cmpD dGe) (eV 0) (eK (.int 0))))
def F_is_count : DF := runF ["value"] d_is_count
theorem sc_is_count : FnScope ["value"] ["value"] (defScope s_is_count) := ⟨rfl, rfl, rfl, by decide +kernel, rfl, by decide +kernel, by decide +kernel⟩
theorem ok_is_count (B : Bs fa fn K mg) : ∃ fd, FnOk P w K mg base (L2.CX P w) 2 (He.ga K "is_count") fd ["value"] (spD ⟨K, mg⟩ 1 F_is_count) ∧ Binds K fd ["value"] [] ∧ PySem.W.keepIn K (.ref (He.ga K "is_count")) = true := by
    obtain ⟨fd_is_integer, G_is_integer, b_is_integer, k_is_integer⟩ := ok_is_integer (P := P) (w := w) (base := base) B
    obtain ⟨fd, F⟩ := B.says.def_ 25 (d := D_is_count) rfl
    refine ⟨fd, fn_R F sc_is_count rfl (fun cdv A outer s H E hr => ?_), FunD.bindsN F fun _ _ _ _ _ _ us hl => match us, hl with | [_], _ => rfl, F.kp⟩
    exact (show JSs _ _ _ _ d_is_count from (js_one (j_ret (j_and (j_call G_is_integer (hr.mono (by decide)) rfl (B.glo 55) k_is_integer b_is_integer .nil isv_nil passE_def (ja_cons (j_var (i := 0)) ja_nil) (al_cons al_nil)) (j_one (j_cmp op_dGe (j_var (i := 0)) j_int))))))
def d_Store_number : DSt := sRet (eCB cSum (asCons (eLc [1, 2] (iAny (eFld "Store" "own_runs" (eV 0))) (.tup (.cons (.nm 1) (.cons (.nm 2) (.nil)))) (quiet (bYes)) (quiet (eV 2))) (asNil)))
def F_Store_number : DF := runF ["self", "room", "many"] d_Store_number
theorem sc_Store_number : FnScope ["self", "room", "many"] ["self"] (defScope s_Store_number) := ⟨rfl, rfl, rfl, by decide +kernel, rfl, by decide +kernel, by decide +kernel⟩
theorem ok_Store_number (B : Bs fa fn K mg) : ∃ fd, FnOk P w K mg base (L2.CX P w) 1 (gp K "Store" "number") fd ["self"] (spD ⟨K, mg⟩ 1 F_Store_number) ∧ Binds K fd ["self"] [] ∧ PySem.W.keepIn K (.ref (gp K "Store" "number")) = true := by
    obtain ⟨fd, F⟩ := B.says.def_ 26 (d := D_Store_number) rfl
    refine ⟨fd, fn_R F sc_Store_number rfl (fun cdv A outer s H E hr => ?_), FunD.bindsN F fun _ _ _ _ _ _ us hl => match us, hl with | [_], _ => rfl, F.kp⟩
    exact (show JSs _ _ _ _ d_Store_number from (js_one (j_ret (j_callB (call_cSum rfl) rfl (B.free 90) (by decide +kernel) (ja_cons (j_lc (own := [("room", 1), ("many", 2)]) rfl rfl sc_Store_number.nd (ji_any rfl (j_fld rfl (B.glo 16) (B.cls 17) (B.noat 28) (j_var (i := 0)))) (blkOk_by rfl) (fun _ _ _ _ _ => (pgt rfl (pgc (pgn (i := 1) sc_Store_number.nd) (pgc (pgn (i := 2) sc_Store_number.nd) pg0)))) (fun _ _ _ _ _ => jts_nil) (fun _ _ _ _ _ => (j_var (i := 2)))) ja_nil)))))
def lb_Store_room_at_1 : DSt := sSeq (sIf (bO2 dLt (eV 2) (eV 4)) (sBreak) (sNil)) (
  sAug 2 dSub (eV 4))
def d_Store_room_at : DSt := sSeq (sIf (bOr (bNot (bVal (eCall F_is_count [] (asCons (eV 1) (asNil))))) (bO2 dGe (eV 1) (eProp "Store" F_Store_number (eV 0)))) (sNo) (sNil)) (
  sSeq (sSet 2 (eV 1)) (
  sSeq (sFor (iAny (eFld "Store" "own_runs" (eV 0))) (gdPat (.tup (.cons (.nm 3) (.cons (.nm 4) (.nil))))) (lb_Store_room_at_1)) (
  sRet (eV 3))))
def F_Store_room_at : DF := runF ["self", "index", "left", "room", "many"] d_Store_room_at
theorem sc_Store_room_at : FnScope ["self", "index", "left", "room", "many"] ["self", "index"] (defScope s_Store_room_at) := ⟨rfl, rfl, rfl, by decide +kernel, rfl, by decide +kernel, by decide +kernel⟩
theorem ok_Store_room_at (B : Bs fa fn K mg) : ∃ fd, FnOk P w K mg base (L2.CX P w) 3 (He.ma K (He.ga K "Store") "room_at") fd ["self", "index"] (spD ⟨K, mg⟩ 2 F_Store_room_at) ∧ Binds K fd ["self", "index"] [] ∧ PySem.W.keepIn K (.ref (He.ma K (He.ga K "Store") "room_at")) = true := by
    obtain ⟨fd_is_count, G_is_count, b_is_count, k_is_count⟩ := ok_is_count (P := P) (w := w) (base := base) B
    obtain ⟨fd_Store_number, G_Store_number, b_Store_number, k_Store_number⟩ := ok_Store_number (P := P) (w := w) (base := base) B
    obtain ⟨fd, F⟩ := B.says.def_ 27 (d := D_Store_room_at) rfl
    refine ⟨fd, fn_R F sc_Store_room_at rfl (fun cdv A outer s H E hr => ?_), FunD.bindsN F fun _ _ _ _ _ _ us hl => match us, hl with | [_, _], _ => rfl, F.kp⟩
    exact (show JSs _ _ _ _ d_Store_room_at from (js_cons (j_ifS (jt_w (jw_or (jt_not (jt_val (j_call G_is_count (hr.mono (by decide)) rfl (B.glo 89) k_is_count b_is_count .nil isv_nil passE_def (ja_cons (j_var (i := 1)) ja_nil) (al_cons al_nil)))) (jw_or1 (jt_cmp op_dGe (j_var (i := 1)) (j_prop rfl (B.glo 16) (B.cls 17) (B.prop 91) G_Store_number (hr.mono (by decide)) b_Store_number (j_var (i := 0))))))) (js_one j_never) js_nil)
    (js_cons (j_set (i := 2) sc_Store_room_at.nd (j_var (i := 1)))
    (js_cons (j_for (passes_of rfl) rfl (ji_any rfl (j_fld rfl (B.glo 16) (B.cls 17) (B.noat 28) (j_var (i := 0)))) (jg_pat rfl (.tup (.cons (.nm 3) (.cons (.nm 4) (.nil)))) (pgt rfl (pgc (pgn (i := 3) sc_Store_room_at.nd) (pgc (pgn (i := 4) sc_Store_room_at.nd) pg0)))) (js_cons (j_ifS (jt_cmp op_dLt (j_var (i := 2)) (j_var (i := 4))) (js_one j_break) js_nil)
    (js_one (j_aug (i := 2) sc_Store_room_at.nd ip_dSub (j_var (i := 4))))))
    (js_one (j_ret (j_var (i := 3))))))))
def d_is_shutter : DSt := sSeq (sExpr (eCall F_require_arrivals [] (asCons (eV 0) (asCons (eV 1) (asNil))))) (
  sSeq (sIf (bOr (bNot (bVal (eIsi k_tuple (eV 2)))) (bOr (bO2 dNe (eCB cLen (asCons (eV 2) (asNil))) (eK (.int 3))) (bNot (bVal (eCB cAll (asCons (eLc [6] (iAny (eV 2)) (.nm 6) (quiet (bYes)) (quiet (eCall F_is_count [] (asCons (eV 6) (asNil))))) (asNil))))))) (sRet (eK (.bl false))) (sNil)) (
  sSeq (sUnp (.tup (.cons (.nm 3) (.cons (.nm 4) (.cons (.nm 5) (.nil))))) (eV 2)) (
  sSeq (sIf (bOr (bO2 dNotIn (eV 3) (eV 0)) (bNot (bChain dLt dLt (eV 4) (eV 5) (eProp "Store" F_Store_number (eV 1))))) (sRet (eK (.bl false))) (sNil)) (
  sRet (eAnd (eO2 (cmpD dGe) (eMeth "Store" "room_at" F_Store_room_at [] (eV 1) (asCons (eV 4) (asNil))) (eV 3)) (eO2 (cmpD dNe) (eO2 dMod (eCall F_cut_room [] (asCons (eV 0) (asCons (eMeth "Store" "room_at" F_Store_room_at [] (eV 1) (asCons (eV 5) (asNil))) (asNil)))) (eV 3)) (eK (.int 0))))))))
def F_is_shutter : DF := runF ["chain", "store", "value", "size", "index", "later", "part"] d_is_shutter
theorem sc_is_shutter : FnScope ["chain", "store", "value", "size", "index", "later", "part"] ["chain", "store", "value"] (defScope s_is_shutter) := ⟨rfl, rfl, rfl, by decide +kernel, rfl, by decide +kernel, by decide +kernel⟩
theorem ok_is_shutter (B : Bs fa fn K mg) : ∃ fd, FnOk P w K mg base (L2.CX P w) 6 (He.ga K "is_shutter") fd ["chain", "store", "value"] (spD ⟨K, mg⟩ 3 F_is_shutter) ∧ Binds K fd ["chain", "store", "value"] [] ∧ PySem.W.keepIn K (.ref (He.ga K "is_shutter")) = true := by
    obtain ⟨fd_require_arrivals, G_require_arrivals, b_require_arrivals, k_require_arrivals⟩ := ok_require_arrivals (P := P) (w := w) (base := base) B
    obtain ⟨fd_is_count, G_is_count, b_is_count, k_is_count⟩ := ok_is_count (P := P) (w := w) (base := base) B
    obtain ⟨fd_Store_number, G_Store_number, b_Store_number, k_Store_number⟩ := ok_Store_number (P := P) (w := w) (base := base) B
    obtain ⟨fd_Store_room_at, G_Store_room_at, b_Store_room_at, k_Store_room_at⟩ := ok_Store_room_at (P := P) (w := w) (base := base) B
    obtain ⟨fd_cut_room, G_cut_room, b_cut_room, k_cut_room⟩ := ok_cut_room (P := P) (w := w) (base := base) B
    obtain ⟨fd, F⟩ := B.says.def_ 28 (d := D_is_shutter) rfl
    refine ⟨fd, fn_R F sc_is_shutter rfl (fun cdv A outer s H E hr => ?_), FunD.bindsN F fun _ _ _ _ _ _ us hl => match us, hl with | [_, _, _], _ => rfl, F.kp⟩
    exact (show JSs _ _ _ _ d_is_shutter from (js_cons (j_expr (j_call G_require_arrivals (hr.mono (by decide)) rfl (B.glo 79) k_require_arrivals b_require_arrivals .nil isv_nil passE_def (ja_cons (j_var (i := 0)) (ja_cons (j_var (i := 1)) ja_nil)) (al_cons (al_cons al_nil))))
    (js_cons (j_ifS (jt_w (jw_or (jt_not (jt_val (j_isiTy rfl rfl rfl (B.free 26) rfl (B.free 8) (by decide +kernel) (isi_tuple B) (j_var (i := 2))))) (jw_or (jt_cmp (op_dNe rfl (hu64 hr)) (j_callB (call_cLen rfl) rfl (B.free 0) (by decide +kernel) (ja_cons (j_var (i := 2)) ja_nil)) j_int) (jw_or1 (jt_not (jt_val (j_callB (call_cAll rfl) rfl (B.free 58) (by decide +kernel) (ja_cons (j_lc (own := [("part", 6)]) rfl rfl sc_is_shutter.nd (ji_any rfl (j_var (i := 2))) (blkOk_by rfl) (fun _ _ _ _ _ => (pgn (i := 6) sc_is_shutter.nd)) (fun _ _ _ _ _ => jts_nil) (fun _ _ _ _ _ => (j_call G_is_count (hr.mono (by decide)) rfl (B.glo 89) k_is_count b_is_count .nil isv_nil passE_none (ja_cons (j_var (i := 6)) ja_nil) (al_cons al_nil)))) ja_nil)))))))) (js_one (j_ret j_bl)) js_nil)
    (js_cons (j_unp rfl (j_var (i := 2)) (pgt rfl (pgc (pgn (i := 3) sc_is_shutter.nd) (pgc (pgn (i := 4) sc_is_shutter.nd) (pgc (pgn (i := 5) sc_is_shutter.nd) pg0)))))
    (js_cons (j_ifS (jt_w (jw_or (jt_cmp (op_dNotIn rfl (hu65 hr)) (j_var (i := 3)) (j_var (i := 0))) (jw_or1 (jt_not (jt_chain op_dLt op_dLt (j_var (i := 4)) (j_var (i := 5)) (j_prop rfl (B.glo 16) (B.cls 17) (B.prop 91) G_Store_number (hr.mono (by decide)) b_Store_number (j_var (i := 1)))))))) (js_one (j_ret j_bl)) js_nil)
    (js_one (j_ret (j_and (j_cmp op_dGe (j_meth rfl (B.glo 16) (B.cls 17) (B.meth 92) G_Store_room_at (hr.mono (by decide)) b_Store_room_at .nil isv_nil passE_def (j_var (i := 1)) (ja_cons (j_var (i := 4)) ja_nil) (al_cons al_nil)) (j_var (i := 3))) (j_one (j_cmp (op_dNe rfl (hu64 hr)) (j_op (op_dMod) (j_call G_cut_room (hr.mono (by decide)) rfl (B.glo 83) k_cut_room b_cut_room .nil isv_nil passE_def (ja_cons (j_var (i := 0)) (ja_cons (j_meth rfl (B.glo 16) (B.cls 17) (B.meth 92) G_Store_room_at (hr.mono (by decide)) b_Store_room_at .nil isv_nil passE_def (j_var (i := 1)) (ja_cons (j_var (i := 5)) ja_nil) (al_cons al_nil)) ja_nil)) (al_cons (al_cons al_nil))) (j_var (i := 3))) j_int))))))))))
def lb__law_right_1 : DSt := sSeq (sSet 7 (eTup (asCons (eCall F__law_pick [] (asCons (eV 0) (asCons (eO2 dAdd (eCB cList (asCons (eV 1) (asNil))) (eLst (asCons (eO2 dMul (eO2 dIx (eV 1) (eO1 dNeg (eK (.int 1)))) (eK (.int 2))) (asNil)))) (asNil)))) (asCons (eCall F__law_roll [] (asCons (eV 0) (asCons (eK (.int 6)) (asNil)))) (asCons (eCall F__law_roll [] (asCons (eV 0) (asCons (eK (.int 7)) (asNil)))) (asNil)))))) (
  sIf (bO2 dNe (eCB cReprB (asCons (eCall F_is_shutter [] (asCons (eV 1) (asCons (eV 3) (asCons (eV 7) (asNil))))) (asNil))) (eCB cReprB (asCons (eO2 (cmpD dInT) (eV 7) (eV 4)) (asNil)))) (sRet (eK (.bl false))) (sNil))
def tl__law_right_8 : DSt := sSeq (sSet 8 (eLst (asCons (eK .non) (asCons (eK (.int 0)) (asCons (eTup (asNil)) (asCons (eLst (asCons (eK (.int 1)) (asCons (eK (.int 0)) (asCons (eK (.int 1)) (asNil))))) (asCons (eTup (asCons (eO2 dIx (eV 1) (eK (.int 0))) (asCons (eK (.int 0)) (asNil)))) (asCons (eTup (asCons (eO2 dIx (eV 1) (eK (.int 0))) (asCons (eK (.int 0)) (asCons (eK (.int 0)) (asNil))))) (asCons (eTup (asCons (eO2 dIx (eV 1) (eK (.int 0))) (asCons (eO1 dNeg (eK (.int 1))) (asCons (eK (.int 0)) (asNil))))) (asCons (eTup (asCons (eK .non) (asCons (eK (.int 0)) (asCons (eK (.int 1)) (asNil))))) (asCons (eTup (asCons (eO2 dIx (eV 1) (eK (.int 0))) (asCons (eK (.bl true)) (asCons (eK (.int 2)) (asNil))))) (asCons (eDct0) (asNil))))))))))))) (
  sRet (eO2 (cmpD dEq) (eLc [7] (iAny (eV 8)) (.nm 7) (quiet (bO2 dIsNot (eCall F_is_shutter [] (asCons (eV 1) (asCons (eV 3) (asCons (eV 7) (asNil))))) (eK (.bl false)))) (quiet (eV 7))) (eLst (asNil))))
def tl__law_right_7 : DSt := sSeq (sFor (iRng1 (asCons (eK (.int 6)) (asNil))) (gdPat (.nm 6)) (lb__law_right_1)) (
  tl__law_right_8)
def tl__law_right_5 : DSt := sSeq (sIf (bOr (bO2 dNe (eCB cReprB (asCons (eCall F_is_open [] (asCons (eV 1) (asCons (eV 3) (asNil)))) (asNil))) (eCB cReprB (asCons (eO2 (cmpD dEq) (eV 4) (eLst (asNil))) (asNil)))) (bO2 dNe (eO2 (cmpD dIs) (eV 5) (eK .non)) (eO2 (cmpD dEq) (eV 4) (eLst (asNil))))) (sRet (eK (.bl false))) (sNil)) (
  sSeq (sIf (bAnd (bO2 dIsNot (eV 5) (eK .non)) (bOr (bO2 dNotIn (eV 5) (eV 4)) (bO2 dIsNot (eCall F_is_shutter [] (asCons (eV 1) (asCons (eV 3) (asCons (eV 5) (asNil))))) (eK (.bl true))))) (sRet (eK (.bl false))) (sNil)) (
  tl__law_right_7))
def tl__law_right_3 : DSt := sSeq (sUnp (.tup (.cons (.nm 3) (.cons (.nm 4) (.nil)))) (eTup (asCons (eCall F__law_made_store [] (asCons (eV 2) (asNil))) (asCons (eCall F__law_shutters [] (asCons (eV 1) (asCons (eV 2) (asNil)))) (asNil))))) (
  sSeq (sSet 5 (eCall F_shutter [] (asCons (eV 1) (asCons (eV 3) (asNil))))) (
  tl__law_right_5))
def d__law_right : DSt := sSeq (sSet 1 (eCall F__law_chain [] (asCons (eV 0) (asCons (eK (.int 4)) (asCons (eK (.int 3)) (asNil)))))) (
  sSeq (sSet 2 (eCall F__law_small_store [] (asCons (eV 0) (asCons (eO2 dAdd (eO2 dIx (eV 1) (eO1 dNeg (eK (.int 1)))) (eK (.int 3))) (asCons (eK (.int 5)) (asNil)))))) (
  sSeq (sIf (bO2 dEq (eCall F__law_roll [] (asCons (eV 0) (asCons (eK (.int 2)) (asNil)))) (eK (.int 0))) (sSet 2 (eLc [6] (iRng1 (asCons (eK (.int 3)) (asNil))) (.nm 6) (quiet (bYes)) (quiet (eTup (asCons (eO2 dMul (eCall F__law_pick [] (asCons (eV 0) (asCons (eV 1) (asNil)))) (eO2 dAdd (eK (.int 1)) (eCall F__law_roll [] (asCons (eV 0) (asCons (eK (.int 3)) (asNil)))))) (asCons (eO2 dAdd (eK (.int 1)) (eCall F__law_roll [] (asCons (eV 0) (asCons (eK (.int 2)) (asNil))))) (asNil))))))) (sNil)) (
  tl__law_right_3)))
def F__law_right : DF := runF ["dice", "chain", "runs", "store", "due", "told", "turn", "value", "odd"] d__law_right
theorem sc__law_right : FnScope ["dice", "chain", "runs", "store", "due", "told", "turn", "value", "odd"] ["dice"] (defScope s__law_right) := ⟨rfl, rfl, rfl, by decide +kernel, rfl, by decide +kernel, by decide +kernel⟩
theorem ok__law_right (B : Bs fa fn K mg) : ∃ fd, FnOk P w K mg base (L2.CX P w) 7 (He.ga K "_law_right") fd ["dice"] (spD ⟨K, mg⟩ 1 F__law_right) ∧ Binds K fd ["dice"] [] ∧ PySem.W.keepIn K (.ref (He.ga K "_law_right")) = true := by
    obtain ⟨fd__law_chain, G__law_chain, b__law_chain, k__law_chain⟩ := ok__law_chain (P := P) (w := w) (base := base) B
    obtain ⟨fd__law_small_store, G__law_small_store, b__law_small_store, k__law_small_store⟩ := ok__law_small_store (P := P) (w := w) (base := base) B
    obtain ⟨fd__law_roll, G__law_roll, b__law_roll, k__law_roll⟩ := ok__law_roll (P := P) (w := w) (base := base) B
    obtain ⟨fd__law_pick, G__law_pick, b__law_pick, k__law_pick⟩ := ok__law_pick (P := P) (w := w) (base := base) B
    obtain ⟨fd__law_shutters, G__law_shutters, b__law_shutters, k__law_shutters⟩ := ok__law_shutters (P := P) (w := w) (base := base) B
    obtain ⟨fd__law_made_store, G__law_made_store, b__law_made_store, k__law_made_store⟩ := ok__law_made_store (P := P) (w := w) (base := base) B
    obtain ⟨fd_shutter, G_shutter, b_shutter, k_shutter⟩ := ok_shutter (P := P) (w := w) (base := base) B
    obtain ⟨fd_is_open, G_is_open, b_is_open, k_is_open⟩ := ok_is_open (P := P) (w := w) (base := base) B
    obtain ⟨fd_is_shutter, G_is_shutter, b_is_shutter, k_is_shutter⟩ := ok_is_shutter (P := P) (w := w) (base := base) B
    obtain ⟨fd, F⟩ := B.says.def_ 29 (d := D__law_right) rfl
    refine ⟨fd, fn_R F sc__law_right rfl (fun cdv A outer s H E hr => ?_), FunD.bindsN F fun _ _ _ _ _ _ us hl => match us, hl with | [_], _ => rfl, F.kp⟩
    exact (show JSs _ _ _ _ d__law_right from (js_cons (j_set (i := 1) sc__law_right.nd (j_call G__law_chain (hr.mono (by decide)) rfl (B.glo 9) k__law_chain b__law_chain .nil isv_nil passE_def (ja_cons (j_var (i := 0)) (ja_cons j_int (ja_cons j_int ja_nil))) (al_cons (al_cons (al_cons al_nil)))))
    (js_cons (j_set (i := 2) sc__law_right.nd (j_call G__law_small_store (hr.mono (by decide)) rfl (B.glo 10) k__law_small_store b__law_small_store .nil isv_nil passE_def (ja_cons (j_var (i := 0)) (ja_cons (j_op (op_dAdd rfl) (j_ix rfl (j_var (i := 1)) (j_neg j_int)) j_int) (ja_cons j_int ja_nil))) (al_cons (al_cons (al_cons al_nil)))))
    (js_cons (j_ifS (jt_cmp (op_dEq rfl (hu64 hr)) (j_call G__law_roll (hr.mono (by decide)) rfl (B.glo 7) k__law_roll b__law_roll .nil isv_nil passE_def (ja_cons (j_var (i := 0)) (ja_cons j_int ja_nil)) (al_cons (al_cons al_nil))) j_int) (js_one (j_setLc (i := 2) (own := [("turn", 6)]) rfl rfl sc__law_right.nd (ji_rng1 rfl (B.free 3) (ja_cons j_int ja_nil)) (blkOk_by rfl) (fun _ _ _ _ _ => (pgn (i := 6) sc__law_right.nd)) (fun _ _ _ _ _ => jts_nil) (fun _ _ _ _ _ => (j_tup (ja_cons (j_op (op_dMul) (j_call G__law_pick (hr.mono (by decide)) rfl (B.glo 11) k__law_pick b__law_pick .nil isv_nil passE_none (ja_cons (j_var (i := 0)) (ja_cons (j_var (i := 1)) ja_nil)) (al_cons (al_cons al_nil))) (j_op (op_dAdd rfl) j_int (j_call G__law_roll (hr.mono (by decide)) rfl (B.glo 7) k__law_roll b__law_roll .nil isv_nil passE_none (ja_cons (j_var (i := 0)) (ja_cons j_int ja_nil)) (al_cons (al_cons al_nil))))) (ja_cons (j_op (op_dAdd rfl) j_int (j_call G__law_roll (hr.mono (by decide)) rfl (B.glo 7) k__law_roll b__law_roll .nil isv_nil passE_none (ja_cons (j_var (i := 0)) (ja_cons j_int ja_nil)) (al_cons (al_cons al_nil)))) ja_nil)))) (hsw := sw_true rfl rfl rfl rfl))) js_nil)
    (js_cons (j_unp rfl (j_tup (ja_cons (j_call G__law_made_store (hr.mono (by decide)) rfl (B.glo 62) k__law_made_store b__law_made_store .nil isv_nil passE_def (ja_cons (j_var (i := 2)) ja_nil) (al_cons al_nil)) (ja_cons (j_call G__law_shutters (hr.mono (by decide)) rfl (B.glo 13) k__law_shutters b__law_shutters .nil isv_nil passE_def (ja_cons (j_var (i := 1)) (ja_cons (j_var (i := 2)) ja_nil)) (al_cons (al_cons al_nil))) ja_nil))) (pgt rfl (pgc (pgn (i := 3) sc__law_right.nd) (pgc (pgn (i := 4) sc__law_right.nd) pg0))))
    (js_cons (j_set (i := 5) sc__law_right.nd (j_call G_shutter (hr.mono (by decide)) rfl (B.glo 86) k_shutter b_shutter .nil isv_nil passE_def (ja_cons (j_var (i := 1)) (ja_cons (j_var (i := 3)) ja_nil)) (al_cons (al_cons al_nil))))
    (js_cons (j_ifS (jt_w (jw_or (jt_cmp (op_dNe rfl (hu64 hr)) (j_callB (call_cReprB) rfl (B.free 88) (by decide +kernel) (ja_cons (j_call G_is_open (hr.mono (by decide)) rfl (B.glo 87) k_is_open b_is_open .nil isv_nil passE_def (ja_cons (j_var (i := 1)) (ja_cons (j_var (i := 3)) ja_nil)) (al_cons (al_cons al_nil))) ja_nil)) (j_callB (call_cReprB) rfl (B.free 88) (by decide +kernel) (ja_cons (j_cmp (op_dEq rfl (hu64 hr)) (j_var (i := 4)) (j_lst ja_nil)) ja_nil))) (jw_or1 (jt_cmp (op_dNe rfl (hu64 hr)) (j_cmp op_dIs (j_var (i := 5)) j_non) (j_cmp (op_dEq rfl (hu64 hr)) (j_var (i := 4)) (j_lst ja_nil)))))) (js_one (j_ret j_bl)) js_nil)
    (js_cons (j_ifS (jt_w (jw_and (jt_cmp op_dIsNot (j_var (i := 5)) j_non) (jw_and1 (jt_w (jw_or (jt_cmp (op_dNotIn rfl (hu65 hr)) (j_var (i := 5)) (j_var (i := 4))) (jw_or1 (jt_cmp op_dIsNot (j_call G_is_shutter (hr.mono (by decide)) rfl (B.glo 93) k_is_shutter b_is_shutter .nil isv_nil passE_def (ja_cons (j_var (i := 1)) (ja_cons (j_var (i := 3)) (ja_cons (j_var (i := 5)) ja_nil))) (al_cons (al_cons (al_cons al_nil)))) j_bl))))))) (js_one (j_ret j_bl)) js_nil)
    (js_cons (j_for (passes_of rfl) rfl (ji_rng1 rfl (B.free 3) (ja_cons j_int ja_nil)) (jg_pat rfl (.nm 6) (pgn (i := 6) sc__law_right.nd)) (js_cons (j_set (i := 7) sc__law_right.nd (j_tup (ja_cons (j_call G__law_pick (hr.mono (by decide)) rfl (B.glo 11) k__law_pick b__law_pick .nil isv_nil passE_def (ja_cons (j_var (i := 0)) (ja_cons (j_op (op_dAdd rfl) (j_callTy (call_cList rfl) rfl (B.free 14) (by decide +kernel) (ja_cons (j_var (i := 1)) ja_nil)) (j_lst (ja_cons (j_op (op_dMul) (j_ix rfl (j_var (i := 1)) (j_neg j_int)) j_int) ja_nil))) ja_nil)) (al_cons (al_cons al_nil))) (ja_cons (j_call G__law_roll (hr.mono (by decide)) rfl (B.glo 7) k__law_roll b__law_roll .nil isv_nil passE_def (ja_cons (j_var (i := 0)) (ja_cons j_int ja_nil)) (al_cons (al_cons al_nil))) (ja_cons (j_call G__law_roll (hr.mono (by decide)) rfl (B.glo 7) k__law_roll b__law_roll .nil isv_nil passE_def (ja_cons (j_var (i := 0)) (ja_cons j_int ja_nil)) (al_cons (al_cons al_nil))) ja_nil)))))
    (js_one (j_ifS (jt_cmp (op_dNe rfl (hu64 hr)) (j_callB (call_cReprB) rfl (B.free 88) (by decide +kernel) (ja_cons (j_call G_is_shutter (hr.mono (by decide)) rfl (B.glo 93) k_is_shutter b_is_shutter .nil isv_nil passE_def (ja_cons (j_var (i := 1)) (ja_cons (j_var (i := 3)) (ja_cons (j_var (i := 7)) ja_nil))) (al_cons (al_cons (al_cons al_nil)))) ja_nil)) (j_callB (call_cReprB) rfl (B.free 88) (by decide +kernel) (ja_cons (j_cmp (op_dIn rfl (hu65 hr)) (j_var (i := 7)) (j_var (i := 4))) ja_nil))) (js_one (j_ret j_bl)) js_nil))))
    (js_cons (j_set (i := 8) sc__law_right.nd (j_lst (ja_cons j_non (ja_cons j_int (ja_cons (j_tup ja_nil) (ja_cons (j_lst (ja_cons j_int (ja_cons j_int (ja_cons j_int ja_nil)))) (ja_cons (j_tup (ja_cons (j_ix rfl (j_var (i := 1)) j_int) (ja_cons j_int ja_nil))) (ja_cons (j_tup (ja_cons (j_ix rfl (j_var (i := 1)) j_int) (ja_cons j_int (ja_cons j_int ja_nil)))) (ja_cons (j_tup (ja_cons (j_ix rfl (j_var (i := 1)) j_int) (ja_cons (j_neg j_int) (ja_cons j_int ja_nil)))) (ja_cons (j_tup (ja_cons j_non (ja_cons j_int (ja_cons j_int ja_nil)))) (ja_cons (j_tup (ja_cons (j_ix rfl (j_var (i := 1)) j_int) (ja_cons j_bl (ja_cons j_int ja_nil)))) (ja_cons j_dct0 ja_nil))))))))))))
    (js_one (j_ret (j_cmp (op_dEq rfl (hu64 hr)) (j_lc (own := [("value", 7)]) rfl rfl sc__law_right.nd (ji_any rfl (j_var (i := 8))) (blkOk_by rfl) (fun _ _ _ _ _ => (pgn (i := 7) sc__law_right.nd)) (fun _ _ _ _ _ => (jts_one (jt_cmp op_dIsNot (j_call G_is_shutter (hr.mono (by decide)) rfl (B.glo 93) k_is_shutter b_is_shutter .nil isv_nil passE_none (ja_cons (j_var (i := 1)) (ja_cons (j_var (i := 3)) (ja_cons (j_var (i := 7)) ja_nil))) (al_cons (al_cons (al_cons al_nil)))) j_bl))) (fun _ _ _ _ _ => (j_var (i := 7)))) (j_lst ja_nil))))))))))))))
def lb__law_long_chain_1 : DSt := sSeq (sSet 3 (eIf (bO2 dGt (eCall F__law_roll [] (asCons (eV 0) (asCons (eK (.int 3)) (asNil)))) (eK (.int 0))) (eO2 dAdd (eK (.int 2)) (eCall F__law_roll [] (asCons (eV 0) (asCons (eK (.int 3)) (asNil))))) (eO2 dAdd (eK (.int 2)) (eCall F__law_roll [] (asCons (eV 0) (asCons (eK (.int 100003)) (asNil))))))) (
  sExpr (eApp (eV 1) (eO2 dMul (eO2 dIx (eV 1) (eO1 dNeg (eK (.int 1)))) (eV 3))))
def d__law_long_chain : DSt := sSeq (sSet 1 (eLstM (asCons (eO2 dAdd (eK (.int 1)) (eCall F__law_roll [] (asCons (eV 0) (asCons (eK (.int 5)) (asNil))))) (asNil)))) (
  sSeq (sFor (iRng1 (asCons (eCall F__law_roll [] (asCons (eV 0) (asCons (eK (.int 6)) (asNil)))) (asNil))) (gdPat (.nm 2)) (lb__law_long_chain_1)) (
  sRet (eCB cTuple (asCons (eV 1) (asNil)))))
def F__law_long_chain : DF := runF ["dice", "found", "turn", "step"] d__law_long_chain
theorem sc__law_long_chain : FnScope ["dice", "found", "turn", "step"] ["dice"] (defScope s__law_long_chain) := ⟨rfl, rfl, rfl, by decide +kernel, rfl, by decide +kernel, by decide +kernel⟩
theorem ok__law_long_chain (B : Bs fa fn K mg) : ∃ fd, FnOk P w K mg base (L2.CX P w) 2 (He.ga K "_law_long_chain") fd ["dice"] (spD ⟨K, mg⟩ 1 F__law_long_chain) ∧ Binds K fd ["dice"] [] ∧ PySem.W.keepIn K (.ref (He.ga K "_law_long_chain")) = true := by
    obtain ⟨fd__law_roll, G__law_roll, b__law_roll, k__law_roll⟩ := ok__law_roll (P := P) (w := w) (base := base) B
    obtain ⟨fd, F⟩ := B.says.def_ 30 (d := D__law_long_chain) rfl
    refine ⟨fd, fn_R F sc__law_long_chain rfl (fun cdv A outer s H E hr => ?_), FunD.bindsN F fun _ _ _ _ _ _ us hl => match us, hl with | [_], _ => rfl, F.kp⟩
    exact (show JSs _ _ _ _ d__law_long_chain from (js_cons (j_set (i := 1) sc__law_long_chain.nd (j_lstM (ja_cons (j_op (op_dAdd rfl) j_int (j_call G__law_roll (hr.mono (by decide)) rfl (B.glo 7) k__law_roll b__law_roll .nil isv_nil passE_def (ja_cons (j_var (i := 0)) (ja_cons j_int ja_nil)) (al_cons (al_cons al_nil)))) ja_nil)))
    (js_cons (j_for (passes_of rfl) rfl (ji_rng1 rfl (B.free 3) (ja_cons (j_call G__law_roll (hr.mono (by decide)) rfl (B.glo 7) k__law_roll b__law_roll .nil isv_nil passE_def (ja_cons (j_var (i := 0)) (ja_cons j_int ja_nil)) (al_cons (al_cons al_nil))) ja_nil)) (jg_pat rfl (.nm 2) (pgn (i := 2) sc__law_long_chain.nd)) (js_cons (j_set (i := 3) sc__law_long_chain.nd (j_if (jt_cmp op_dGt (j_call G__law_roll (hr.mono (by decide)) rfl (B.glo 7) k__law_roll b__law_roll .nil isv_nil passE_def (ja_cons (j_var (i := 0)) (ja_cons j_int ja_nil)) (al_cons (al_cons al_nil))) j_int) (j_op (op_dAdd rfl) j_int (j_call G__law_roll (hr.mono (by decide)) rfl (B.glo 7) k__law_roll b__law_roll .nil isv_nil passE_def (ja_cons (j_var (i := 0)) (ja_cons j_int ja_nil)) (al_cons (al_cons al_nil)))) (j_op (op_dAdd rfl) j_int (j_call G__law_roll (hr.mono (by decide)) rfl (B.glo 7) k__law_roll b__law_roll .nil isv_nil passE_def (ja_cons (j_var (i := 0)) (ja_cons j_int ja_nil)) (al_cons (al_cons al_nil))))))
    (js_one (j_expr (j_append (j_var (i := 1)) (j_op (op_dMul) (j_ix rfl (j_var (i := 1)) (j_neg j_int)) (j_var (i := 3))))))))
    (js_one (j_ret (j_callTy (call_cTuple rfl) rfl (B.free 8) (by decide +kernel) (ja_cons (j_var (i := 1)) ja_nil)))))))
def lb__law_merged_1 : DSt := sIf (bAnd (bO2 dNe (eV 1) (eLst (asNil))) (bO2 dEq (eO2 dIx (eO2 dIx (eV 1) (eO1 dNeg (eK (.int 1)))) (eK (.int 0))) (eV 2))) (sSetIx (eV 1) (eO1 dNeg (eK (.int 1))) (eTup (asCons (eV 2) (asCons (eO2 dAdd (eO2 dIx (eO2 dIx (eV 1) (eO1 dNeg (eK (.int 1)))) (eK (.int 1))) (eV 3)) (asNil))))) (sExpr (eApp (eV 1) (eTup (asCons (eV 2) (asCons (eV 3) (asNil))))))
def d__law_merged : DSt := sSeq (sSet 1 (eLstM (asNil))) (
  sSeq (sFor (iAny (eV 0)) (gdPat (.tup (.cons (.nm 2) (.cons (.nm 3) (.nil))))) (lb__law_merged_1)) (
  sRet (eV 1)))
def F__law_merged : DF := runF ["runs", "found", "room", "number"] d__law_merged
theorem sc__law_merged : FnScope ["runs", "found", "room", "number"] ["runs"] (defScope s__law_merged) := ⟨rfl, rfl, rfl, by decide +kernel, rfl, by decide +kernel, by decide +kernel⟩
theorem ok__law_merged (B : Bs fa fn K mg) : ∃ fd, FnOk P w K mg base (L2.CX P w) 1 (He.ga K "_law_merged") fd ["runs"] (spD ⟨K, mg⟩ 1 F__law_merged) ∧ Binds K fd ["runs"] [] ∧ PySem.W.keepIn K (.ref (He.ga K "_law_merged")) = true := by
    obtain ⟨fd, F⟩ := B.says.def_ 31 (d := D__law_merged) rfl
    refine ⟨fd, fn_R F sc__law_merged rfl (fun cdv A outer s H E hr => ?_), FunD.bindsN F fun _ _ _ _ _ _ us hl => match us, hl with | [_], _ => rfl, F.kp⟩
    exact (show JSs _ _ _ _ d__law_merged from (js_cons (j_set (i := 1) sc__law_merged.nd (j_lstM ja_nil))
    (js_cons (j_for (passes_of rfl) rfl (ji_any rfl (j_var (i := 0))) (jg_pat rfl (.tup (.cons (.nm 2) (.cons (.nm 3) (.nil)))) (pgt rfl (pgc (pgn (i := 2) sc__law_merged.nd) (pgc (pgn (i := 3) sc__law_merged.nd) pg0)))) (js_one (j_ifS (jt_w (jw_and (jt_cmp (op_dNe rfl (hu64 hr)) (j_var (i := 1)) (j_lst ja_nil)) (jw_and1 (jt_cmp (op_dEq rfl (hu64 hr)) (j_ix rfl (j_ix rfl (j_var (i := 1)) (j_neg j_int)) j_int) (j_var (i := 2)))))) (js_one (j_setIx (j_var (i := 1)) (j_neg j_int) (j_tup (ja_cons (j_var (i := 2)) (ja_cons (j_op (op_dAdd rfl) (j_ix rfl (j_ix rfl (j_var (i := 1)) (j_neg j_int)) j_int) (j_var (i := 3))) ja_nil))))) (js_one (j_expr (j_append (j_var (i := 1)) (j_tup (ja_cons (j_var (i := 2)) (ja_cons (j_var (i := 3)) ja_nil)))))))))
    (js_one (j_ret (j_var (i := 1)))))))
def lb__law_great_1 : DSt := sSet 3 (eO2 dAdd (eO2 dMul (eV 3) (eK (.int 100003))) (eCall F__law_roll [] (asCons (eV 0) (asCons (eK (.int 100003)) (asNil)))))
def d__law_great : DSt := sSeq (sPar 2 3 (asCons (eCall F__law_roll [] (asCons (eV 0) (asCons (eK (.int 4)) (asNil)))) (asCons (eK (.int 0)) (asNil)))) (
  sSeq (sFor (iRng1 (asCons (eIf (bO2 dEq (eV 2) (eK (.int 0))) (eK (.int 6)) (eK (.int 1))) (asNil))) (gdPat (.nm 4)) (lb__law_great_1)) (
  sRet (eO2 dAdd (eV 1) (eIf (bO2 dLt (eV 2) (eK (.int 2))) (eV 3) (eO2 dMod (eV 3) (eK (.int 7)))))))
def F__law_great : DF := runF ["dice", "least", "way", "found", "turn"] d__law_great
theorem sc__law_great : FnScope ["dice", "least", "way", "found", "turn"] ["dice", "least"] (defScope s__law_great) := ⟨rfl, rfl, rfl, by decide +kernel, rfl, by decide +kernel, by decide +kernel⟩
theorem ok__law_great (B : Bs fa fn K mg) : ∃ fd, FnOk P w K mg base (L2.CX P w) 2 (He.ga K "_law_great") fd ["dice", "least"] (spD ⟨K, mg⟩ 2 F__law_great) ∧ Binds K fd ["dice", "least"] [] ∧ PySem.W.keepIn K (.ref (He.ga K "_law_great")) = true := by
    obtain ⟨fd__law_roll, G__law_roll, b__law_roll, k__law_roll⟩ := ok__law_roll (P := P) (w := w) (base := base) B
    obtain ⟨fd, F⟩ := B.says.def_ 32 (d := D__law_great) rfl
    refine ⟨fd, fn_R F sc__law_great rfl (fun cdv A outer s H E hr => ?_), FunD.bindsN F fun _ _ _ _ _ _ us hl => match us, hl with | [_, _], _ => rfl, F.kp⟩
    exact (show JSs _ _ _ _ d__law_great from (js_cons (j_par (i := 2) (j := 3) rfl sc__law_great.nd (ja_cons (j_call G__law_roll (hr.mono (by decide)) rfl (B.glo 7) k__law_roll b__law_roll .nil isv_nil passE_def (ja_cons (j_var (i := 0)) (ja_cons j_int ja_nil)) (al_cons (al_cons al_nil))) (ja_cons j_int ja_nil)))
    (js_cons (j_for (passes_of rfl) rfl (ji_rng1 rfl (B.free 3) (ja_cons (j_if (jt_cmp (op_dEq rfl (hu64 hr)) (j_var (i := 2)) j_int) j_int j_int) ja_nil)) (jg_pat rfl (.nm 4) (pgn (i := 4) sc__law_great.nd)) (js_one (j_set (i := 3) sc__law_great.nd (j_op (op_dAdd rfl) (j_op (op_dMul) (j_var (i := 3)) j_int) (j_call G__law_roll (hr.mono (by decide)) rfl (B.glo 7) k__law_roll b__law_roll .nil isv_nil passE_def (ja_cons (j_var (i := 0)) (ja_cons j_int ja_nil)) (al_cons (al_cons al_nil)))))))
    (js_one (j_ret (j_op (op_dAdd rfl) (j_var (i := 1)) (j_if (jt_cmp op_dLt (j_var (i := 2)) j_int) (j_var (i := 3)) (j_op (op_dMod) (j_var (i := 3)) j_int))))))))
def lb__law_great_store_1 : DSt := sSeq (sSet 4 (eO2 dAdd (eO2 dMul (eCall F__law_pick [] (asCons (eV 0) (asCons (eV 1) (asNil)))) (eO2 dAdd (eK (.int 1)) (eCall F__law_roll [] (asCons (eV 0) (asCons (eK (.int 4)) (asNil)))))) (eCall F__law_roll [] (asCons (eV 0) (asCons (eCall F__law_pick [] (asCons (eV 0) (asCons (eLst (asCons (eK (.int 1)) (asCons (eK (.int 3)) (asCons (eK (.int 9)) (asNil))))) (asNil)))) (asNil)))))) (
  sExpr (eApp (eV 2) (eTup (asCons (eO2 dAdd (eV 4) (eO2 dMul (eCall F__law_roll [] (asCons (eV 0) (asCons (eK (.int 2)) (asNil)))) (eCall F__law_pick [] (asCons (eV 0) (asCons (eV 1) (asNil)))))) (asCons (eCall F__law_great [] (asCons (eV 0) (asCons (eK (.int 1)) (asNil)))) (asNil))))))
def d__law_great_store : DSt := sSeq (sSet 2 (eLstM (asNil))) (
  sSeq (sFor (iRng1 (asCons (eO2 dAdd (eK (.int 1)) (eCall F__law_roll [] (asCons (eV 0) (asCons (eK (.int 5)) (asNil))))) (asNil))) (gdPat (.nm 3)) (lb__law_great_store_1)) (
  sRet (eV 2)))
def F__law_great_store : DF := runF ["dice", "sizes", "found", "turn", "room"] d__law_great_store
theorem sc__law_great_store : FnScope ["dice", "sizes", "found", "turn", "room"] ["dice", "sizes"] (defScope s__law_great_store) := ⟨rfl, rfl, rfl, by decide +kernel, rfl, by decide +kernel, by decide +kernel⟩
theorem ok__law_great_store (B : Bs fa fn K mg) : ∃ fd, FnOk P w K mg base (L2.CX P w) 3 (He.ga K "_law_great_store") fd ["dice", "sizes"] (spD ⟨K, mg⟩ 2 F__law_great_store) ∧ Binds K fd ["dice", "sizes"] [] ∧ PySem.W.keepIn K (.ref (He.ga K "_law_great_store")) = true := by
    obtain ⟨fd__law_roll, G__law_roll, b__law_roll, k__law_roll⟩ := ok__law_roll (P := P) (w := w) (base := base) B
    obtain ⟨fd__law_pick, G__law_pick, b__law_pick, k__law_pick⟩ := ok__law_pick (P := P) (w := w) (base := base) B
    obtain ⟨fd__law_great, G__law_great, b__law_great, k__law_great⟩ := ok__law_great (P := P) (w := w) (base := base) B
    obtain ⟨fd, F⟩ := B.says.def_ 33 (d := D__law_great_store) rfl
    refine ⟨fd, fn_R F sc__law_great_store rfl (fun cdv A outer s H E hr => ?_), FunD.bindsN F fun _ _ _ _ _ _ us hl => match us, hl with | [_, _], _ => rfl, F.kp⟩
    exact (show JSs _ _ _ _ d__law_great_store from (js_cons (j_set (i := 2) sc__law_great_store.nd (j_lstM ja_nil))
    (js_cons (j_for (passes_of rfl) rfl (ji_rng1 rfl (B.free 3) (ja_cons (j_op (op_dAdd rfl) j_int (j_call G__law_roll (hr.mono (by decide)) rfl (B.glo 7) k__law_roll b__law_roll .nil isv_nil passE_def (ja_cons (j_var (i := 0)) (ja_cons j_int ja_nil)) (al_cons (al_cons al_nil)))) ja_nil)) (jg_pat rfl (.nm 3) (pgn (i := 3) sc__law_great_store.nd)) (js_cons (j_set (i := 4) sc__law_great_store.nd (j_op (op_dAdd rfl) (j_op (op_dMul) (j_call G__law_pick (hr.mono (by decide)) rfl (B.glo 11) k__law_pick b__law_pick .nil isv_nil passE_def (ja_cons (j_var (i := 0)) (ja_cons (j_var (i := 1)) ja_nil)) (al_cons (al_cons al_nil))) (j_op (op_dAdd rfl) j_int (j_call G__law_roll (hr.mono (by decide)) rfl (B.glo 7) k__law_roll b__law_roll .nil isv_nil passE_def (ja_cons (j_var (i := 0)) (ja_cons j_int ja_nil)) (al_cons (al_cons al_nil))))) (j_call G__law_roll (hr.mono (by decide)) rfl (B.glo 7) k__law_roll b__law_roll .nil isv_nil passE_def (ja_cons (j_var (i := 0)) (ja_cons (j_call G__law_pick (hr.mono (by decide)) rfl (B.glo 11) k__law_pick b__law_pick .nil isv_nil passE_def (ja_cons (j_var (i := 0)) (ja_cons (j_lst (ja_cons j_int (ja_cons j_int (ja_cons j_int ja_nil)))) ja_nil)) (al_cons (al_cons al_nil))) ja_nil)) (al_cons (al_cons al_nil)))))
    (js_one (j_expr (j_append (j_var (i := 2)) (j_tup (ja_cons (j_op (op_dAdd rfl) (j_var (i := 4)) (j_op (op_dMul) (j_call G__law_roll (hr.mono (by decide)) rfl (B.glo 7) k__law_roll b__law_roll .nil isv_nil passE_def (ja_cons (j_var (i := 0)) (ja_cons j_int ja_nil)) (al_cons (al_cons al_nil))) (j_call G__law_pick (hr.mono (by decide)) rfl (B.glo 11) k__law_pick b__law_pick .nil isv_nil passE_def (ja_cons (j_var (i := 0)) (ja_cons (j_var (i := 1)) ja_nil)) (al_cons (al_cons al_nil))))) (ja_cons (j_call G__law_great (hr.mono (by decide)) rfl (B.glo 96) k__law_great b__law_great .nil isv_nil passE_def (ja_cons (j_var (i := 0)) (ja_cons j_int ja_nil)) (al_cons (al_cons al_nil))) ja_nil))))))))
    (js_one (j_ret (j_var (i := 2)))))))
def tl__law_great_right_3 : DSt := sSeq (sSet 3 (eLc [5, 6] (iAny (eV 2)) (.tup (.cons (.nm 5) (.cons (.nm 6) (.nil)))) (quiet (bYes)) (quiet (eTup (asCons (eV 5) (asCons (eCB cMin2 (asCons (eK (.int 2)) (asCons (eV 6) (asNil)))) (asNil))))))) (
  sSeq (sSet 4 (eCall F_shutter [] (asCons (eV 1) (asCons (eCall F__law_made_store [] (asCons (eV 2) (asNil))) (asNil))))) (
  sSeq (sIf (bO2 dNe (eCall F_is_open [] (asCons (eV 1) (asCons (eCall F__law_made_store [] (asCons (eV 2) (asNil))) (asNil)))) (eO2 (cmpD dEq) (eCall F__law_shutters [] (asCons (eV 1) (asCons (eV 3) (asNil)))) (eLst (asNil)))) (sRet (eK (.bl false))) (sNil)) (
  sRet (eOr (eO2 (cmpD dIs) (eV 4) (eK .non)) (eCall F_is_shutter [] (asCons (eV 1) (asCons (eCall F__law_made_store [] (asCons (eV 2) (asNil))) (asCons (eV 4) (asNil)))))))))
def d__law_great_right : DSt := sSeq (sSet 1 (eCall F__law_long_chain [] (asCons (eV 0) (asNil)))) (
  sSeq (sSet 2 (eCall F__law_merged [] (asCons (eCall F__law_great_store [] (asCons (eV 0) (asCons (eV 1) (asNil)))) (asNil)))) (
  sSeq (sIf (bO2 dEq (eCall F__law_roll [] (asCons (eV 0) (asCons (eK (.int 2)) (asNil)))) (eK (.int 0))) (sSet 2 (eCall F__law_merged [] (asCons (eLc [5, 6] (iAny (eV 2)) (.tup (.cons (.nm 5) (.cons (.nm 6) (.nil)))) (quiet (bYes)) (quiet (eTup (asCons (eO2 dMul (eCall F__law_pick [] (asCons (eV 0) (asCons (eV 1) (asNil)))) (eCall F__law_pick [] (asCons (eV 0) (asCons (eLst (asCons (eK (.int 1)) (asCons (eK (.int 2)) (asCons (eK (.int 3)) (asNil))))) (asNil))))) (asCons (eV 6) (asNil)))))) (asNil)))) (sNil)) (
  tl__law_great_right_3)))
def F__law_great_right : DF := runF ["dice", "chain", "runs", "few", "told", "room", "number"] d__law_great_right
theorem sc__law_great_right : FnScope ["dice", "chain", "runs", "few", "told", "room", "number"] ["dice"] (defScope s__law_great_right) := ⟨rfl, rfl, rfl, by decide +kernel, rfl, by decide +kernel, by decide +kernel⟩
theorem ok__law_great_right (B : Bs fa fn K mg) : ∃ fd, FnOk P w K mg base (L2.CX P w) 7 (He.ga K "_law_great_right") fd ["dice"] (spD ⟨K, mg⟩ 1 F__law_great_right) ∧ Binds K fd ["dice"] [] ∧ PySem.W.keepIn K (.ref (He.ga K "_law_great_right")) = true := by
    obtain ⟨fd__law_long_chain, G__law_long_chain, b__law_long_chain, k__law_long_chain⟩ := ok__law_long_chain (P := P) (w := w) (base := base) B
    obtain ⟨fd__law_merged, G__law_merged, b__law_merged, k__law_merged⟩ := ok__law_merged (P := P) (w := w) (base := base) B
    obtain ⟨fd__law_great_store, G__law_great_store, b__law_great_store, k__law_great_store⟩ := ok__law_great_store (P := P) (w := w) (base := base) B
    obtain ⟨fd__law_roll, G__law_roll, b__law_roll, k__law_roll⟩ := ok__law_roll (P := P) (w := w) (base := base) B
    obtain ⟨fd__law_pick, G__law_pick, b__law_pick, k__law_pick⟩ := ok__law_pick (P := P) (w := w) (base := base) B
    obtain ⟨fd_shutter, G_shutter, b_shutter, k_shutter⟩ := ok_shutter (P := P) (w := w) (base := base) B
    obtain ⟨fd__law_made_store, G__law_made_store, b__law_made_store, k__law_made_store⟩ := ok__law_made_store (P := P) (w := w) (base := base) B
    obtain ⟨fd_is_open, G_is_open, b_is_open, k_is_open⟩ := ok_is_open (P := P) (w := w) (base := base) B
    obtain ⟨fd__law_shutters, G__law_shutters, b__law_shutters, k__law_shutters⟩ := ok__law_shutters (P := P) (w := w) (base := base) B
    obtain ⟨fd_is_shutter, G_is_shutter, b_is_shutter, k_is_shutter⟩ := ok_is_shutter (P := P) (w := w) (base := base) B
    obtain ⟨fd, F⟩ := B.says.def_ 34 (d := D__law_great_right) rfl
    refine ⟨fd, fn_R F sc__law_great_right rfl (fun cdv A outer s H E hr => ?_), FunD.bindsN F fun _ _ _ _ _ _ us hl => match us, hl with | [_], _ => rfl, F.kp⟩
    exact (show JSs _ _ _ _ d__law_great_right from (js_cons (j_set (i := 1) sc__law_great_right.nd (j_call G__law_long_chain (hr.mono (by decide)) rfl (B.glo 95) k__law_long_chain b__law_long_chain .nil isv_nil passE_def (ja_cons (j_var (i := 0)) ja_nil) (al_cons al_nil)))
    (js_cons (j_set (i := 2) sc__law_great_right.nd (j_call G__law_merged (hr.mono (by decide)) rfl (B.glo 98) k__law_merged b__law_merged .nil isv_nil passE_def (ja_cons (j_call G__law_great_store (hr.mono (by decide)) rfl (B.glo 97) k__law_great_store b__law_great_store .nil isv_nil passE_def (ja_cons (j_var (i := 0)) (ja_cons (j_var (i := 1)) ja_nil)) (al_cons (al_cons al_nil))) ja_nil) (al_cons al_nil)))
    (js_cons (j_ifS (jt_cmp (op_dEq rfl (hu64 hr)) (j_call G__law_roll (hr.mono (by decide)) rfl (B.glo 7) k__law_roll b__law_roll .nil isv_nil passE_def (ja_cons (j_var (i := 0)) (ja_cons j_int ja_nil)) (al_cons (al_cons al_nil))) j_int) (js_one (j_set (i := 2) sc__law_great_right.nd (j_call G__law_merged (hr.mono (by decide)) rfl (B.glo 98) k__law_merged b__law_merged .nil isv_nil passE_def (ja_cons (j_lc (own := [("room", 5), ("number", 6)]) rfl rfl sc__law_great_right.nd (ji_any rfl (j_var (i := 2))) (blkOk_by rfl) (fun _ _ _ _ _ => (pgt rfl (pgc (pgn (i := 5) sc__law_great_right.nd) (pgc (pgn (i := 6) sc__law_great_right.nd) pg0)))) (fun _ _ _ _ _ => jts_nil) (fun _ _ _ _ _ => (j_tup (ja_cons (j_op (op_dMul) (j_call G__law_pick (hr.mono (by decide)) rfl (B.glo 11) k__law_pick b__law_pick .nil isv_nil passE_none (ja_cons (j_var (i := 0)) (ja_cons (j_var (i := 1)) ja_nil)) (al_cons (al_cons al_nil))) (j_call G__law_pick (hr.mono (by decide)) rfl (B.glo 11) k__law_pick b__law_pick .nil isv_nil passE_none (ja_cons (j_var (i := 0)) (ja_cons (j_lst (ja_cons j_int (ja_cons j_int (ja_cons j_int ja_nil)))) ja_nil)) (al_cons (al_cons al_nil)))) (ja_cons (j_var (i := 6)) ja_nil))))) ja_nil) (al_cons al_nil)))) js_nil)
    (js_cons (j_setLc (i := 3) (own := [("room", 5), ("number", 6)]) rfl rfl sc__law_great_right.nd (ji_any rfl (j_var (i := 2))) (blkOk_by rfl) (fun _ _ _ _ _ => (pgt rfl (pgc (pgn (i := 5) sc__law_great_right.nd) (pgc (pgn (i := 6) sc__law_great_right.nd) pg0)))) (fun _ _ _ _ _ => jts_nil) (fun _ _ _ _ _ => (j_tup (ja_cons (j_var (i := 5)) (ja_cons (j_callB (call_cMin2 rfl) rfl (B.free 1) (by decide +kernel) (ja_cons j_int (ja_cons (j_var (i := 6)) ja_nil))) ja_nil)))) (hsw := sw_true rfl rfl rfl rfl))
    (js_cons (j_set (i := 4) sc__law_great_right.nd (j_call G_shutter (hr.mono (by decide)) rfl (B.glo 86) k_shutter b_shutter .nil isv_nil passE_def (ja_cons (j_var (i := 1)) (ja_cons (j_call G__law_made_store (hr.mono (by decide)) rfl (B.glo 62) k__law_made_store b__law_made_store .nil isv_nil passE_def (ja_cons (j_var (i := 2)) ja_nil) (al_cons al_nil)) ja_nil)) (al_cons (al_cons al_nil))))
    (js_cons (j_ifS (jt_cmp (op_dNe rfl (hu64 hr)) (j_call G_is_open (hr.mono (by decide)) rfl (B.glo 87) k_is_open b_is_open .nil isv_nil passE_def (ja_cons (j_var (i := 1)) (ja_cons (j_call G__law_made_store (hr.mono (by decide)) rfl (B.glo 62) k__law_made_store b__law_made_store .nil isv_nil passE_def (ja_cons (j_var (i := 2)) ja_nil) (al_cons al_nil)) ja_nil)) (al_cons (al_cons al_nil))) (j_cmp (op_dEq rfl (hu64 hr)) (j_call G__law_shutters (hr.mono (by decide)) rfl (B.glo 13) k__law_shutters b__law_shutters .nil isv_nil passE_def (ja_cons (j_var (i := 1)) (ja_cons (j_var (i := 3)) ja_nil)) (al_cons (al_cons al_nil))) (j_lst ja_nil))) (js_one (j_ret j_bl)) js_nil)
    (js_one (j_ret (j_or (j_cmp op_dIs (j_var (i := 4)) j_non) (j_one (j_call G_is_shutter (hr.mono (by decide)) rfl (B.glo 93) k_is_shutter b_is_shutter .nil isv_nil passE_def (ja_cons (j_var (i := 1)) (ja_cons (j_call G__law_made_store (hr.mono (by decide)) rfl (B.glo 62) k__law_made_store b__law_made_store .nil isv_nil passE_def (ja_cons (j_var (i := 2)) ja_nil) (al_cons al_nil)) (ja_cons (j_var (i := 4)) ja_nil))) (al_cons (al_cons (al_cons al_nil)))))))))))))))
def lb_law_1 : DSt := sIf (bOr (bNot (bVal (eCall F__law_right [] (asCons (eV 2) (asNil))))) (bNot (bVal (eCall F__law_great_right [] (asCons (eV 2) (asNil)))))) (sRet (eK (.bl false))) (sNil)
def lb_law_2 : DSt := sSeq (sSet 2 (eCall F__law_dice [] (asCons (eV 0) (asCons (eV 1) (asNil))))) (
  sFor (iRng1 (asCons (eK (.int 4)) (asNil))) (gdPat (.nm 3)) (lb_law_1))
def lb_law_3 : DSt := sIf (bO2 dNe (eCB cReprB (asCons (eCall F_is_shutter [] (asCons (eTup (asCons (eK (.int 1)) (asCons (eK (.int 2)) (asCons (eK (.int 6)) (asNil))))) (asCons (eV 6) (asCons (eV 8) (asNil))))) (asNil))) (eCB cReprB (asCons (eV 9) (asNil)))) (sRet (eK (.bl false))) (sNil)
def tl_law_5 : DSt := sSeq (sFor (iAny (eLst (asCons (eTup (asCons (eTup (asCons (eK (.int 6)) (asCons (eK (.int 0)) (asCons (eV 7) (asNil))))) (asCons (eK (.bl true)) (asNil)))) (asCons (eTup (asCons (eTup (asCons (eK (.int 6)) (asCons (eO2 dSub (eV 7) (eK (.int 1))) (asCons (eV 7) (asNil))))) (asCons (eK (.bl true)) (asNil)))) (asCons (eTup (asCons (eTup (asCons (eK (.int 6)) (asCons (eK (.int 0)) (asCons (eO2 dSub (eV 7) (eK (.int 1))) (asNil))))) (asCons (eK (.bl false)) (asNil)))) (asCons (eTup (asCons (eTup (asCons (eK (.int 6)) (asCons (eK (.int 0)) (asCons (eO2 dAdd (eV 7) (eK (.int 1))) (asNil))))) (asCons (eK (.bl false)) (asNil)))) (asNil))))))) (gdPat (.tup (.cons (.nm 8) (.cons (.nm 9) (.nil))))) (lb_law_3)) (
  sRet (eO2 (cmpD dEq) (eO2 dAdd (eV 5) (eLst (asCons (eCall F_is_shutter [] (asCons (eTup (asCons (eK (.int 1)) (asCons (eK (.int 2)) (asCons (eK (.int 6)) (asNil))))) (asCons (eV 4) (asCons (eTup (asCons (eK (.int 2)) (asCons (eK (.int 0)) (asCons (eK (.int 4)) (asNil))))) (asNil))))) (asNil)))) (eLst (asCons (eK (.bl false)) (asCons (eK (.bl true)) (asCons (eK (.bl true)) (asCons (eK (.bl true)) (asCons (eK (.bl false)) (asCons (eK (.bl true)) (asCons (eK (.bl true)) (asCons (eK (.bl true)) (asNil))))))))))))
def tl_law_1 : DSt := sSeq (sSet 4 (eCall (mkF "Store" (starF F_Store___init__)) [] (asCons (eTup (asCons (eK (.int 10)) (asCons (eK (.int 2)) (asNil)))) (asCons (eTup (asCons (eK (.int 7)) (asCons (eK (.int 3)) (asNil)))) (asNil))))) (
  sSeq (sSet 5 (eLst (asCons (eCall F_is_open [] (asCons (eTup (asCons (eK (.int 1)) (asCons (eK (.int 2)) (asCons (eK (.int 6)) (asNil))))) (asCons (eV 4) (asNil)))) (asCons (eCall F_is_open [] (asCons (eTup (asCons (eK (.int 1)) (asCons (eK (.int 2)) (asCons (eK (.int 6)) (asNil))))) (asCons (eCall (mkF "Store" (starF F_Store___init__)) [] (asCons (eTup (asCons (eK (.int 12)) (asCons (eK (.int 3)) (asNil)))) (asNil))) (asNil)))) (asCons (eCall F_is_open [] (asCons (eTup (asCons (eK (.int 1)) (asCons (eK (.int 2)) (asCons (eK (.int 6)) (asNil))))) (asCons (eCall (mkF "Store" (starF F_Store___init__)) [] (asCons (eTup (asCons (eK (.int 7)) (asCons (eK (.int 1)) (asNil)))) (asCons (eTup (asCons (eK (.int 6)) (asCons (eK (.int 2)) (asNil)))) (asNil)))) (asNil)))) (asNil)))))) (
  sSeq (sSet 5 (eO2 dAdd (eV 5) (eLst (asCons (eCall F_is_open [] (asCons (eTup (asCons (eK (.int 2)) (asCons (eK (.int 6)) (asNil)))) (asCons (eCall (mkF "Store" (starF F_Store___init__)) [] (asCons (eTup (asCons (eK (.int 7)) (asCons (eK (.int 1)) (asNil)))) (asCons (eTup (asCons (eK (.int 6)) (asCons (eK (.int 2)) (asNil)))) (asNil)))) (asNil)))) (asCons (eCall F_is_open [] (asCons (eTup (asCons (eK (.int 1)) (asCons (eK (.int 7)) (asNil)))) (asCons (eV 4) (asNil)))) (asCons (eCall F_is_open [] (asCons (eTup (asCons (eK (.int 4)) (asNil))) (asCons (eCall (mkF "Store" (starF F_Store___init__)) [] asNil) (asNil)))) (asCons (eCall F_is_open [] (asCons (eTup (asCons (eK (.int 1)) (asCons (eK (.int 4)) (asNil)))) (asCons (eCall (mkF "Store" (starF F_Store___init__)) [] (asCons (eTup (asCons (eK (.int 7)) (asCons (eK (.int 1)) (asNil)))) (asNil))) (asNil)))) (asNil)))))))) (
  sSeq (sPar 6 7 (asCons (eCall (mkF "Store" (starF F_Store___init__)) [] (asCons (eTup (asCons (eK (.int 12)) (asCons (eO2 dPow (eK (.int 10)) (eK (.int 30))) (asNil)))) (asCons (eTup (asCons (eK (.int 7)) (asCons (eK (.int 1)) (asNil)))) (asCons (eTup (asCons (eK (.int 12)) (asCons (eK (.int 5)) (asNil)))) (asNil))))) (asCons (eO2 dPow (eK (.int 10)) (eK (.int 30))) (asNil)))) (
  tl_law_5))))
def d_law : DSt := sSeq (sFor (iRng1 (asCons (eCB cMax2 (asCons (eK (.int 1)) (asCons (eCB cMin2 (asCons (eK (.int 5)) (asCons (eCB cLen (asCons (eV 0) (asNil))) (asNil)))) (asNil)))) (asNil))) (gdPat (.nm 1)) (lb_law_2)) (
  tl_law_1)
def F_law : DF := runF ["script", "spot", "dice", "turn", "shelves", "told", "wide", "last", "value", "due"] d_law
theorem sc_law : FnScope ["script", "spot", "dice", "turn", "shelves", "told", "wide", "last", "value", "due"] ["script"] (defScope s_law) := ⟨rfl, rfl, rfl, by decide +kernel, rfl, by decide +kernel, by decide +kernel⟩
theorem ok_law (B : Bs fa fn K mg) {fd : FuncData} (F : FunD K D_law.name D_law.qual D_law.params D_law.body D_law.scope (D_law.dvs K) (D_law.kws K) (D_law.at_.at K) fd) : FnOk P w K mg base (L2.CX P w) 8 (He.ga K "law") fd ["script"] (spD ⟨K, mg⟩ 1 F_law) := by
    obtain ⟨fd__law_dice, G__law_dice, b__law_dice, k__law_dice⟩ := ok__law_dice (P := P) (w := w) (base := base) B
    obtain ⟨fd__law_right, G__law_right, b__law_right, k__law_right⟩ := ok__law_right (P := P) (w := w) (base := base) B
    obtain ⟨fd__law_great_right, G__law_great_right, b__law_great_right, k__law_great_right⟩ := ok__law_great_right (P := P) (w := w) (base := base) B
    have G_Store___init__ := ok_Store___init__ (P := P) (w := w) (base := base) B
    obtain ⟨fd_is_open, G_is_open, b_is_open, k_is_open⟩ := ok_is_open (P := P) (w := w) (base := base) B
    obtain ⟨fd_is_shutter, G_is_shutter, b_is_shutter, k_is_shutter⟩ := ok_is_shutter (P := P) (w := w) (base := base) B
    refine fn_R F sc_law rfl (fun cdv A outer s H E hr => ?_)
    exact (show JSs _ _ _ _ d_law from (js_cons (j_for (passes_of rfl) rfl (ji_rng1 rfl (B.free 3) (ja_cons (j_callB (call_cMax2 rfl) rfl (B.free 2) (by decide +kernel) (ja_cons j_int (ja_cons (j_callB (call_cMin2 rfl) rfl (B.free 1) (by decide +kernel) (ja_cons j_int (ja_cons (j_callB (call_cLen rfl) rfl (B.free 0) (by decide +kernel) (ja_cons (j_var (i := 0)) ja_nil)) ja_nil))) ja_nil))) ja_nil)) (jg_pat rfl (.nm 1) (pgn (i := 1) sc_law.nd)) (js_cons (j_set (i := 2) sc_law.nd (j_call G__law_dice (hr.mono (by decide)) rfl (B.glo 6) k__law_dice b__law_dice .nil isv_nil passE_def (ja_cons (j_var (i := 0)) (ja_cons (j_var (i := 1)) ja_nil)) (al_cons (al_cons al_nil))))
    (js_one (j_for (passes_of rfl) rfl (ji_rng1 rfl (B.free 3) (ja_cons j_int ja_nil)) (jg_pat rfl (.nm 3) (pgn (i := 3) sc_law.nd)) (js_one (j_ifS (jt_w (jw_or (jt_not (jt_val (j_call G__law_right (hr.mono (by decide)) rfl (B.glo 94) k__law_right b__law_right .nil isv_nil passE_def (ja_cons (j_var (i := 2)) ja_nil) (al_cons al_nil)))) (jw_or1 (jt_not (jt_val (j_call G__law_great_right (hr.mono (by decide)) rfl (B.glo 99) k__law_great_right b__law_great_right .nil isv_nil passE_def (ja_cons (j_var (i := 2)) ja_nil) (al_cons al_nil))))))) (js_one (j_ret j_bl)) js_nil))))))
    (js_cons (j_set (i := 4) sc_law.nd (j_makeS rfl (B.mkr 61) G_Store___init__ (fun n => mkF_wk _ n _) (hr.mono (by decide)) rfl (B.glo 16) passE_def (ja_cons (j_tup (ja_cons j_int (ja_cons j_int ja_nil))) (ja_cons (j_tup (ja_cons j_int (ja_cons j_int ja_nil))) ja_nil)) (al_cons (al_cons al_nil))))
    (js_cons (j_set (i := 5) sc_law.nd (j_lst (ja_cons (j_call G_is_open (hr.mono (by decide)) rfl (B.glo 87) k_is_open b_is_open .nil isv_nil passE_def (ja_cons (j_tup (ja_cons j_int (ja_cons j_int (ja_cons j_int ja_nil)))) (ja_cons (j_var (i := 4)) ja_nil)) (al_cons (al_cons al_nil))) (ja_cons (j_call G_is_open (hr.mono (by decide)) rfl (B.glo 87) k_is_open b_is_open .nil isv_nil passE_def (ja_cons (j_tup (ja_cons j_int (ja_cons j_int (ja_cons j_int ja_nil)))) (ja_cons (j_makeS rfl (B.mkr 61) G_Store___init__ (fun n => mkF_wk _ n _) (hr.mono (by decide)) rfl (B.glo 16) passE_def (ja_cons (j_tup (ja_cons j_int (ja_cons j_int ja_nil))) ja_nil) (al_cons al_nil)) ja_nil)) (al_cons (al_cons al_nil))) (ja_cons (j_call G_is_open (hr.mono (by decide)) rfl (B.glo 87) k_is_open b_is_open .nil isv_nil passE_def (ja_cons (j_tup (ja_cons j_int (ja_cons j_int (ja_cons j_int ja_nil)))) (ja_cons (j_makeS rfl (B.mkr 61) G_Store___init__ (fun n => mkF_wk _ n _) (hr.mono (by decide)) rfl (B.glo 16) passE_def (ja_cons (j_tup (ja_cons j_int (ja_cons j_int ja_nil))) (ja_cons (j_tup (ja_cons j_int (ja_cons j_int ja_nil))) ja_nil)) (al_cons (al_cons al_nil))) ja_nil)) (al_cons (al_cons al_nil))) ja_nil)))))
    (js_cons (j_set (i := 5) sc_law.nd (j_op (op_dAdd rfl) (j_var (i := 5)) (j_lst (ja_cons (j_call G_is_open (hr.mono (by decide)) rfl (B.glo 87) k_is_open b_is_open .nil isv_nil passE_def (ja_cons (j_tup (ja_cons j_int (ja_cons j_int ja_nil))) (ja_cons (j_makeS rfl (B.mkr 61) G_Store___init__ (fun n => mkF_wk _ n _) (hr.mono (by decide)) rfl (B.glo 16) passE_def (ja_cons (j_tup (ja_cons j_int (ja_cons j_int ja_nil))) (ja_cons (j_tup (ja_cons j_int (ja_cons j_int ja_nil))) ja_nil)) (al_cons (al_cons al_nil))) ja_nil)) (al_cons (al_cons al_nil))) (ja_cons (j_call G_is_open (hr.mono (by decide)) rfl (B.glo 87) k_is_open b_is_open .nil isv_nil passE_def (ja_cons (j_tup (ja_cons j_int (ja_cons j_int ja_nil))) (ja_cons (j_var (i := 4)) ja_nil)) (al_cons (al_cons al_nil))) (ja_cons (j_call G_is_open (hr.mono (by decide)) rfl (B.glo 87) k_is_open b_is_open .nil isv_nil passE_def (ja_cons (j_tup (ja_cons j_int ja_nil)) (ja_cons (j_makeS0 rfl (B.mkr 61) G_Store___init__ (fun n => mkF_wk _ n _) (hr.mono (by decide)) rfl (B.glo 16) passE_def) ja_nil)) (al_cons (al_cons al_nil))) (ja_cons (j_call G_is_open (hr.mono (by decide)) rfl (B.glo 87) k_is_open b_is_open .nil isv_nil passE_def (ja_cons (j_tup (ja_cons j_int (ja_cons j_int ja_nil))) (ja_cons (j_makeS rfl (B.mkr 61) G_Store___init__ (fun n => mkF_wk _ n _) (hr.mono (by decide)) rfl (B.glo 16) passE_def (ja_cons (j_tup (ja_cons j_int (ja_cons j_int ja_nil))) ja_nil) (al_cons al_nil)) ja_nil)) (al_cons (al_cons al_nil))) ja_nil)))))))
    (js_cons (j_par (i := 6) (j := 7) rfl sc_law.nd (ja_cons (j_makeS rfl (B.mkr 61) G_Store___init__ (fun n => mkF_wk _ n _) (hr.mono (by decide)) rfl (B.glo 16) passE_def (ja_cons (j_tup (ja_cons j_int (ja_cons (j_op (op_dPow) j_int j_int) ja_nil))) (ja_cons (j_tup (ja_cons j_int (ja_cons j_int ja_nil))) (ja_cons (j_tup (ja_cons j_int (ja_cons j_int ja_nil))) ja_nil))) (al_cons (al_cons (al_cons al_nil)))) (ja_cons (j_op (op_dPow) j_int j_int) ja_nil)))
    (js_cons (j_for (passes_of rfl) rfl (ji_any rfl (j_lst (ja_cons (j_tup (ja_cons (j_tup (ja_cons j_int (ja_cons j_int (ja_cons (j_var (i := 7)) ja_nil)))) (ja_cons j_bl ja_nil))) (ja_cons (j_tup (ja_cons (j_tup (ja_cons j_int (ja_cons (j_op (op_dSub) (j_var (i := 7)) j_int) (ja_cons (j_var (i := 7)) ja_nil)))) (ja_cons j_bl ja_nil))) (ja_cons (j_tup (ja_cons (j_tup (ja_cons j_int (ja_cons j_int (ja_cons (j_op (op_dSub) (j_var (i := 7)) j_int) ja_nil)))) (ja_cons j_bl ja_nil))) (ja_cons (j_tup (ja_cons (j_tup (ja_cons j_int (ja_cons j_int (ja_cons (j_op (op_dAdd rfl) (j_var (i := 7)) j_int) ja_nil)))) (ja_cons j_bl ja_nil))) ja_nil)))))) (jg_pat rfl (.tup (.cons (.nm 8) (.cons (.nm 9) (.nil)))) (pgt rfl (pgc (pgn (i := 8) sc_law.nd) (pgc (pgn (i := 9) sc_law.nd) pg0)))) (js_one (j_ifS (jt_cmp (op_dNe rfl (hu64 hr)) (j_callB (call_cReprB) rfl (B.free 88) (by decide +kernel) (ja_cons (j_call G_is_shutter (hr.mono (by decide)) rfl (B.glo 93) k_is_shutter b_is_shutter .nil isv_nil passE_def (ja_cons (j_tup (ja_cons j_int (ja_cons j_int (ja_cons j_int ja_nil)))) (ja_cons (j_var (i := 6)) (ja_cons (j_var (i := 8)) ja_nil))) (al_cons (al_cons (al_cons al_nil)))) ja_nil)) (j_callB (call_cReprB) rfl (B.free 88) (by decide +kernel) (ja_cons (j_var (i := 9)) ja_nil))) (js_one (j_ret j_bl)) js_nil)))
    (js_one (j_ret (j_cmp (op_dEq rfl (hu64 hr)) (j_op (op_dAdd rfl) (j_var (i := 5)) (j_lst (ja_cons (j_call G_is_shutter (hr.mono (by decide)) rfl (B.glo 93) k_is_shutter b_is_shutter .nil isv_nil passE_def (ja_cons (j_tup (ja_cons j_int (ja_cons j_int (ja_cons j_int ja_nil)))) (ja_cons (j_var (i := 4)) (ja_cons (j_tup (ja_cons j_int (ja_cons j_int (ja_cons j_int ja_nil)))) ja_nil))) (al_cons (al_cons (al_cons al_nil)))) ja_nil))) (j_lst (ja_cons j_bl (ja_cons j_bl (ja_cons j_bl (ja_cons j_bl (ja_cons j_bl (ja_cons j_bl (ja_cons j_bl (ja_cons j_bl ja_nil)))))))))))))))))))
end
def lo0 : List PySem.Str := ["_wall", "LIMIT", "is_integer", "is_count", "is_size", "PackError", "InvalidSizes", "InvalidStore", "InvalidOperation", "InvalidNumber", "TooMany", "NoChain"]
def lo1 : List PySem.Str := ["MAX_SIZES", "is_sizes", "require_size", "MAX_RUNS", "is_run", "merged", "store_of", "Row", "Store", "runs_between", "few_runs", "require_store"]
def lo2 : List PySem.Str := ["require_together", "require_chain", "require_arrivals", "cut_room", "first_of", "shutter_at", "shutter_in", "is_open", "shutter", "is_shutter", "_law_dice", "_law_roll"]
def lo3 : List PySem.Str := ["_law_pick", "_law_great", "_law_chain", "_law_long_chain", "_law_small_store", "_law_great_store", "_law_merged", "_law_made_store", "_law_rooms", "_law_shutters", "_law_right", "_law_great_right"]
def loose : List PySem.Str := lo0 ++ lo1 ++ lo2 ++ lo3
def lawAt : Nat := 57
end W73

set_option maxHeartbeats 4000000
namespace W73
open PySem PySem.Spec PyProof.Rows L2 Cp
variable {l : Nat} {h : DH} {QD : D → DH → Prop} {X : Ex → DH → Prop}
theorem roll_ok {t : Int} (dd : DiceAt l h) (h0 : 0 < t) (h1 : t < 2 ^ 64) (q : ∀ r h', 0 ≤ r → r < t → h'.length = h.length → Dx l h h' → QD (.int r) h') : RW (F__law_roll [.ref l, .int t] h) QD X := by
  refine run_dice dd ?_
  obtain ⟨a, b, c, e⟩ := dd
  have dd : DiceAt l h := ⟨a, b, c, e⟩
  have s8 : small 8000 t = true := small_le (by omega) h1 (by decide)
  have e1 : itemsD (.ref l) h = some [.int a, .int b, .int c] := items_ref e
  have hl := dd.lt
  simp only [d__law_roll]
  by_cases ha : 0 < a
  · have e2 : ¬ a ≤ 0 := by omega
    simp [startD, e1, e, ha, e2, h0, s8, Dx.roll dd]
    exact fun h' k1 k2 => q _ h' (Int.emod_nonneg _ (by omega)) (Int.emod_lt_of_pos _ h0) k1 k2
  · have e2 : a ≤ 0 := by omega
    have m1 : ∀ j, mulOk 67867967 j = true := fun j => mulOk_l (by decide) (by decide)
    have m2 : ∀ j, mulOk 83 j = true := fun j => mulOk_l (by decide) (by decide)
    have m3 : ∀ i, mulOk i 5915587 = true := fun j => mulOk_r (by decide) (by decide)
    have m4 : ∀ i j, mulOk (i % 2305843009213693723) j = true := fun i j => mulOk_l (by omega) (by omega)
    have s9 : small 8000 131072 = true := small_le (by decide) (by decide) (by decide)
    have i1 := fun xs => items_set (h := h) (xs := xs) hl
    simp [startD, e1, e, ha, e2, h0, s8, i1, m1, m2, m3, m4, s9, Dx.roll dd]
    exact fun h' k1 k2 => q _ h' (Int.emod_nonneg _ (by omega)) (Int.emod_lt_of_pos _ h0) k1 k2
end W73

set_option maxHeartbeats 4000000
namespace W73
open PySem PySem.Spec PyProof.Rows L2 Cp
variable {l : Nat} {h : DH} {QD : D → DH → Prop} {X : Ex → DH → Prop}
theorem pick_ok {x : D} {ns : List Int} (dd : DiceAt l h) (hx : ∀ h', itemsD x h' = some (ns.map D.int)) (hn : 0 < ns.length) (hl : ns.length < 2 ^ 60) (q : ∀ r h', r ∈ ns → h'.length = h.length → Dx l h h' → QD (.int r) h') : RW (F__law_pick [.ref l, x] h) QD X := by
  refine run_dice dd ?_
  have e1 := cLen_1 (hx h)
  simp [d__law_pick, startD, e1]
  refine roll_ok dd (by omega) (by omega) fun r h' r0 r1 k1 k2 => ?_
  obtain ⟨d, e2, hd⟩ := atI_mem (xs := ns.map D.int) r0 (by simpa using r1)
  obtain ⟨m, hm, rfl⟩ := List.mem_map.mp hd
  simp [hx h', e2, k2]
  exact fun h' k1 k2 => q m h' hm k1 k2
def ChainI (l m : Nat) (h : DH) (many start n : Int) (i : Nat) (sd : Sl) (h' : DH) : Prop := (i : Int) ≤ n ∧ ∃ (cs : List Int) (t : Option D), Ch cs ∧ cs.length = i + 1 ∧ (∀ c ∈ cs, c ≤ start * 4 ^ i) ∧ h'[m]? = some (.lst (cs.map D.int)) ∧ Dx l h h' ∧ sd = [some (.ref l), some (.int many), some (.int start), some (.ref m), t]
theorem pow4 {a b : Nat} (h : a ≤ b) : (4 : Int) ^ a ≤ 4 ^ b := by exact_mod_cast Nat.pow_le_pow_right (by decide) h
theorem chain_ok {many start : Int} (dd : DiceAt l h) (h0 : 0 < many) (h1 : many ≤ 12) (h2 : 0 < start) (h3 : start ≤ 1000)
    (q : ∀ cs h', Ch cs → (cs.length : Int) ≤ many → (∀ c ∈ cs, c ≤ start * 4 ^ (many.toNat - 1)) → h'.length = h.length → Dx l h h' → QD (.tup (cs.map D.int)) h') : RW (F__law_chain [.ref l, .int many, .int start] h) QD X := by
  refine run_dice dd ?_
  simp [d__law_chain, startD]
  refine roll_ok dd h2 (by omega) fun r ha r0 r1 k1 k2 => ?_
  have k3 := k2.push (.lst [.int (1 + r)])
  simp
  refine roll_ok k3.at_ h0 (by omega) fun n hb n0 n1 k4 k5 => ?_
  have k6 := k3.trans k5
  have hm : ha.length ≠ l := by have := k2.at_.lt; omega
  have hc : hb[ha.length]? = some (.lst [.int (1 + r)]) := k5.get hm (by simp)
  have nn : ((n.toNat : Nat) : Int) = n := Int.toNat_of_nonneg n0
  simp
  refine ⟨by omega, for_inv (ChainI l ha.length h many start n) ?_ ?_ ?_⟩
  · exact ⟨by omega, [1 + r], none, (show 1 ≤ 1 + r by omega), rfl, fun c hc => by simp at hc ⊢; omega, hc, k6, rfl⟩
  · rintro i d sd h' hd ⟨hi, cs, t, c1, c2, c3, c4, c5, rfl⟩
    obtain ⟨hi, rfl⟩ := rngD_get hd
    obtain ⟨a, a1, a2, a3⟩ := c1.grow (k := 2) (by omega)
    simp [lb__law_chain_1, c4, items_ref c4, a1]
    refine roll_ok c5.at_ (by omega) (by omega) fun s h3 s0 s1 k7 k8 => ?_
    have c6 := k8.get hm c4
    have m1 : mulOk a (2 + s) = true := mulOk_r (by omega) (by omega)
    simp [m1, c6]
    refine ⟨fine_of (by omega), by omega, cs ++ [a * (2 + s)], _, ?_, by simp [c2], fun c hc => ?_, ?_, ((c5.trans k8).set dd (by omega) _), rfl⟩
    · obtain ⟨a', b1, b2, b3⟩ := c1.grow (k := 2 + s) (by omega)
      rw [a1] at b1; cases b1; exact b3
    · have pw : (4 : Int) ^ (i + 1) = 4 ^ i * 4 := Int.pow_succ 4 i
      have p0 : (0 : Int) < 4 ^ i := Int.pow_pos (by decide)
      have p1 : 0 < start * 4 ^ i := Int.mul_pos h2 p0
      have p2 : start * 4 ^ (i + 1) = start * 4 ^ i * 4 := by rw [pw, Int.mul_assoc]
      rcases List.mem_append.mp hc with hc | hc
      · have := c3 c hc
        omega
      · have e : c = a * (2 + s) := by simpa using hc
        have ha := c3 a a2
        have h4 : a * (2 + s) ≤ a * 4 := Int.mul_le_mul_of_nonneg_left (by omega) (by have := c1.pos a a2; omega)
        omega
    · rw [List.getElem?_set_self (List.getElem?_eq_some_iff.mp c6).1]
      simp
  · rintro sd h' ⟨hi, cs, t, c1, c2, c3, c4, c5, rfl⟩
    simp at c2 c3
    simp [seq_ref c4, c5]
    refine ⟨_, frz_tup bnds_ints, fun h' k1 k2 => q cs h' c1 (by omega) (fun c hc => ?_) k1 k2⟩
    have := c3 c hc
    have := Int.mul_le_mul_of_nonneg_left (pow4 (show n.toNat ≤ many.toNat - 1 by omega)) (by omega : 0 ≤ start)
    omega
end W73

set_option maxHeartbeats 4000000
namespace W73
open PySem PySem.Spec PyProof.Rows L2 Cp
variable {l : Nat} {h : DH} {QD : D → DH → Prop} {X : Ex → DH → Prop}
@[simp] theorem tag_int {i : Int} : tagD (.int i) h = some (.ty "int") := rfl
@[simp] theorem tag_bl {i : Bool} : tagD (.bl i) h = some (.ty "bool") := rfl
@[simp] theorem tag_non : tagD .non h = some (.ty "NoneType") := rfl
@[simp] theorem tag_tup {xs : List D} : tagD (.tup xs) h = some (.ty "tuple") := rfl
@[simp] theorem tag_lst {xs : List D} : tagD (.lst xs) h = some (.ty "list") := rfl
@[simp] theorem tag_dct {xs : List (D × D)} : tagD (.dct xs) h = some (.ty "dict") := rfl
@[simp] theorem tag_obj {c : Str} {xs : List (Str × D)} : tagD (.obj c xs) h = some (.cls c) := rfl
@[simp] theorem ki_int : k_int (.ty "int") = some true := rfl
@[simp] theorem ki_bl : k_int (.ty "bool") = some true := rfl
@[simp] theorem ki_non : k_int (.ty "NoneType") = some false := rfl
@[simp] theorem kb_int : k_bool (.ty "int") = some false := rfl
@[simp] theorem kb_bl : k_bool (.ty "bool") = some true := rfl
@[simp] theorem kt_tup : k_tuple (.ty "tuple") = some true := rfl
@[simp] theorem kt_non : k_tuple (.ty "NoneType") = some false := rfl
@[simp] theorem kt_int : k_tuple (.ty "int") = some false := rfl
@[simp] theorem kt_lst : k_tuple (.ty "list") = some false := rfl
@[simp] theorem kt_dct : k_tuple (.ty "dict") = some false := rfl
@[simp] theorem kr_tup : k_Row (.ty "tuple") = some false := rfl
@[simp] theorem ks_obj : k_Store (.cls "Store") = some true := rfl
theorem lim1 {i : Int} (h : i < 10 ^ 60) : i < 100000000000000000000000000000000000000000000000000000000000000000000000000000000000000000000000000000000000000000000000000000000000000000000000000000000000000000000000000000000000000000000000000000000 := Int.lt_of_lt_of_le h (by decide)
theorem lim2 {i : Int} (h : -(10 ^ 60) < i) : -100000000000000000000000000000000000000000000000000000000000000000000000000000000000000000000000000000000000000000000000000000000000000000000000000000000000000000000000000000000000000000000000000000000 < i := Int.lt_of_le_of_lt (by decide) h
theorem isinteger_i {i : Int} (h0 : -(10 ^ 60) < i) (h1 : i < 10 ^ 60) : F_is_integer [.int i] h = .ok (.bl true) h := by
  refine RW.eq (run_plain ?_)
  have e1 := lim1 h1
  have e2 := lim2 h0
  simp [d_is_integer, startD, e1, e2]
@[simp] theorem isinteger_bl {i : Bool} : F_is_integer [.bl i] h = .ok (.bl false) h := by
  refine RW.eq (run_plain ?_)
  simp [d_is_integer, startD]
@[simp] theorem isinteger_non : F_is_integer [.non] h = .ok (.bl false) h := by
  refine RW.eq (run_plain ?_)
  simp [d_is_integer, startD]
theorem issize_i {i : Int} (h0 : -(10 ^ 60) < i) (h1 : i < 10 ^ 60) : F_is_size [.int i] h = .ok (.bl (decide (1 ≤ i))) h := by
  refine RW.eq (run_plain ?_)
  by_cases e : 1 ≤ i
  · simp [d_is_size, startD, isinteger_i h0 h1, e]
  · simp [d_is_size, startD, isinteger_i h0 h1, e]
theorem iscount_i {i : Int} (h0 : -(10 ^ 60) < i) (h1 : i < 10 ^ 60) : F_is_count [.int i] h = .ok (.bl (decide (0 ≤ i))) h := by
  refine RW.eq (run_plain ?_)
  by_cases e : 0 ≤ i
  · simp [d_is_count, startD, isinteger_i h0 h1, e]
  · simp [d_is_count, startD, isinteger_i h0 h1, e]
@[simp] theorem iscount_bl {i : Bool} : F_is_count [.bl i] h = .ok (.bl false) h := by
  refine RW.eq (run_plain ?_)
  simp [d_is_count, startD]
@[simp] theorem iscount_non : F_is_count [.non] h = .ok (.bl false) h := by
  refine RW.eq (run_plain ?_)
  simp [d_is_count, startD]
end W73

set_option maxHeartbeats 4000000
namespace W73
open PySem PySem.Spec PyProof.Rows L2 Cp
variable {l : Nat} {h : DH} {QD : D → DH → Prop} {X : Ex → DH → Prop}
def rD (p : Int × Int) : D := .tup [.int p.1, .int p.2]
def RunOk (p : Int × Int) : Prop := 1 ≤ p.1 ∧ p.1 < 10 ^ 40 ∧ 1 ≤ p.2 ∧ p.2 < 10 ^ 40
theorem isrun_ok {p : Int × Int} (hp : RunOk p) : F_is_run [rD p] h = .ok (.bl true) h := by
  refine RW.eq (run_plain ?_)
  obtain ⟨h1, h2, h3, h4⟩ := hp
  have e1 := issize_i (h := h) (i := p.1) (by omega) (by omega)
  have e2 := issize_i (h := h) (i := p.2) (by omega) (by omega)
  simp [d_is_run, startD, rD, e1, e2, h1, h3]
theorem sIx_n {n k : Nat} : HT.sIx n n none = n := rfl
theorem cut_from {xs : List D} {k : Nat} (hk : k ≤ xs.length) : Cp.cutD xs (some (k : Int)) none = xs.drop k := by
  unfold Cp.cutD
  rw [HT.sIx_none]
  have : HT.sIx xs.length 0 (some (k : Int)) = k := by rw [HT.sIx_nat]; omega
  rw [this, List.take_of_length_le (by simp)]
theorem zip_tail {α : Type} {R : α → α → Prop} : ∀ {xs : List α}, xs.Pairwise R → ∀ a b, (a, b) ∈ xs.zip (xs.drop 1) → R a b
  | [], _, _, _, hm => by simp at hm
  | [a], _, _, _, hm => by simp at hm
  | a :: b :: r, hp, x, y, hm => by
    rw [List.pairwise_cons] at hp
    have hm : (x, y) ∈ (a, b) :: (b :: r).zip ((b :: r).drop 1) := hm
    rcases List.mem_cons.mp hm with e | hm
    · cases e; exact hp.1 b (by simp)
    · exact zip_tail hp.2 x y hm
theorem zipD_ints {cs : List Int} {d : D} (hd : d ∈ zipD (cs.map D.int) ((cs.map D.int).drop 1)) : ∃ a b, (a, b) ∈ cs.zip (cs.drop 1) ∧ d = .tup [.int a, .int b] := by
  unfold zipD at hd
  obtain ⟨⟨x, y⟩, hp, rfl⟩ := List.mem_map.mp hd
  rw [← List.map_drop, List.zip_map] at hp
  obtain ⟨⟨a, b⟩, ha, e⟩ := List.mem_map.mp hp
  cases e
  exact ⟨a, b, ha, rfl⟩
theorem all_true {α : Type} {xs : List α} : cAll [.lst (xs.map fun _ => .bl true)] h = some (.bl true) := by
  have : ∀ xs : List α, bools (xs.map fun _ => D.bl true) = some (xs.map fun _ => true) := fun xs => by
    induction xs with
    | nil => rfl
    | cons a r ih => simp [bools, ih]
  simp [cAll, this]
structure ChainOk (cs : List Int) : Prop where
  ch : Ch cs
  len : cs.length ≤ 12
  lim : ∀ c ∈ cs, c < 10 ^ 40
theorem issizes_ok {cs : List Int} (k : ChainOk cs) : F_is_sizes [.tup (cs.map .int)] h = .ok (.bl true) h := by
  refine RW.eq (run_plain ?_)
  have hl : 0 < cs.length := List.length_pos_iff.mpr k.ch.ne
  have h1 : (1 : Int) ≤ cs.length := by omega
  have h2 : (cs.length : Int) ≤ 12 := by have := k.len; omega
  simp [d_is_sizes, startD, h1, h2]
  refine comp_map (fun _ => .bl true) rfl (by simp; have := k.len; omega) (fun d hd => ?_) ?_
  · obtain ⟨c, hc, rfl⟩ := List.mem_map.mp hd
    have h1 := k.ch.pos c hc
    have h2 := k.lim c hc
    have e1 := issize_i (h := h) (i := c) (by omega) (by omega)
    refine ⟨_, pat_nm, rfl, RW.eq ?_⟩
    simp [wipeD, e1, h1]
  · have e2 : (dSl (.tup (cs.map D.int)) (some 1) none h) = some (.tup ((cs.map D.int).drop 1)) := congrArg some (congrArg D.tup (cut_from (k := 1) (by simp; omega)))
    refine ⟨_, all_true, rfl, _, e2, _, rfl, ?_⟩
    refine comp_map (fun _ => .bl true) rfl (by simp [zipD]; have := k.len; omega) (fun d hd => ?_) ?_
    · obtain ⟨a, b, hab, rfl⟩ := zipD_ints hd
      have h1 := zip_tail k.ch.lt a b hab
      refine ⟨_, by simp [wipeD]; rfl, rfl, RW.eq ?_⟩
      simp [h1]
    · exact ⟨_, all_true, ⟨[], by simp⟩, by simp⟩
theorem sortU_id {cs : List Int} (h : cs.Pairwise (· < ·)) : sortU cs = cs := sorted_uniq (pw_sortU cs) h fun k => mem_sortU k cs
theorem together_ok {cs : List Int} (k : ChainOk cs) : F_require_together [.tup (cs.map .int)] h = .ok .non h := by
  refine RW.eq (run_plain ?_)
  have hl : 0 < cs.length := List.length_pos_iff.mpr k.ch.ne
  have k60 : cs.length ≤ 60 := by have := k.len; omega
  have e1 : cSortSet (.tup (cs.map D.int)) h = some (.lst (cs.map D.int)) := by
    have : ∀ ns : List Int, intsD (ns.map D.int) = some ns := fun ns => by
      induction ns with
      | nil => rfl
      | cons a r ih => simp [intsD, ih]
    simp [cSortSet, this, k60, sortU_id k.ch.lt]
  have e2 : (dSl (.tup (cs.map D.int)) (some 1) none h) = some (.tup ((cs.map D.int).drop 1)) := congrArg some (congrArg D.tup (cut_from (k := 1) (by simp; omega)))
  simp [d_require_together, startD, e1, e2]
  refine for_inv (fun _ sd h' => h' = h ∧ ∃ a b, sd = [some (.tup (cs.map D.int)), some (.tup (cs.map D.int)), a, b]) ⟨rfl, _, _, rfl⟩ ?_ ?_
  · rintro i d sd h' hd ⟨rfl, a, b, rfl⟩
    have hd' := List.mem_of_getElem? hd
    rw [← List.drop_one] at hd'
    obtain ⟨x, y, hab, rfl⟩ := zipD_ints hd'
    have h1 := zip_tail k.ch.dvd x y hab
    have h0 : 0 < x := by have := k.ch.pos x (List.of_mem_zip hab).1; omega
    have h2 : y % x = 0 := Int.emod_eq_zero_of_dvd h1
    refine ⟨rfl, _, by simp; rfl, ?_⟩
    simp [lb_require_together_1, h0, h2]
  · rintro sd h' ⟨rfl, a, b, rfl⟩
    exact ⟨rfl, ⟨[], by simp⟩⟩
theorem reqchain_ok {cs : List Int} (k : ChainOk cs) : F_require_chain [.tup (cs.map .int)] h = .ok .non h := by
  refine RW.eq (run_plain ?_)
  simp [d_require_chain, startD, issizes_ok k, together_ok k]
def storeD (rs : List (Int × Int)) : D := .obj "Store" [("own_runs", .tup (rs.map rD))]
theorem reqstore_ok {rs : List (Int × Int)} : F_require_store [storeD rs] h = .ok .non h := by
  refine RW.eq (run_plain ?_)
  simp [d_require_store, startD, storeD]
theorem arrivals_ok {cs : List Int} (k : ChainOk cs) {rs : List (Int × Int)} : F_require_arrivals [.tup (cs.map .int), storeD rs] h = .ok .non h := by
  refine RW.eq (run_plain ?_)
  simp [d_require_arrivals, startD, reqchain_ok k, reqstore_ok]
def cutI (cs : List Int) (r : Int) : Int := r - r % cs.headD 1
theorem cutroom_ok {cs : List Int} (k : ChainOk cs) {r : Int} : F_cut_room [.tup (cs.map .int), .int r] h = .ok (.int (cutI cs r)) h := by
  refine RW.eq (run_plain ?_)
  obtain ⟨c, ds, rfl⟩ := List.exists_cons_of_ne_nil k.ch.ne
  have h0 : 0 < c := by have := k.ch.pos c (by simp); omega
  simp [d_cut_room, startD, h0, cutI]
end W73

set_option maxHeartbeats 4000000
namespace W73
open PySem PySem.Spec PyProof.Rows L2 Cp
variable {l : Nat} {h : DH} {QD : D → DH → Prop} {X : Ex → DH → Prop} {T : Tq}
@[simp] theorem flds_store {rs : List (Int × Int)} : fldsD (Str.ofString "Store") (storeD rs) h = some [(Str.ofString "own_runs", D.tup (rs.map rD))] := rfl
theorem bnds_rs {n : Nat} {rs : List (Int × Int)} : bnds n (rs.map rD) = true := bnds_all fun x hx => by
  obtain ⟨p, _, rfl⟩ := List.mem_map.mp hx
  simp [rD]
@[simp] theorem frz_int2 {n : Nat} {a b : Int} : frz n h (.tup [.int a, .int b]) = some (.tup [.int a, .int b]) := frz_tup (by simp)
@[simp] theorem frz_int3 {n : Nat} {a b c : Int} : frz n h (.tup [.int a, .int b, .int c]) = some (.tup [.int a, .int b, .int c]) := frz_tup (by simp)
@[simp] theorem runs_ok {rs : List (Int × Int)} : F_Store_runs [storeD rs] h = .ok (.tup (rs.map rD)) h := by
  refine RW.eq (run_plain ?_)
  have e2 : frz h.length h (.tup (rs.map rD)) = some (.tup (rs.map rD)) := frz_tup bnds_rs
  simp [d_Store_runs, startD, e2]
/-- enumerated from k -/
def enK (k : Nat) (xs : List D) : List D := (xs.zipIdx k).map fun p => .tup [.int (p.2 : Nat), p.1]
theorem enD_eq {xs : List D} : enD xs = enK 0 xs := rfl
theorem enK_cons {k : Nat} {x : D} {xs : List D} : enK k (x :: xs) = .tup [.int (k : Nat), x] :: enK (k + 1) xs := by simp [enK, List.zipIdx_cons]
theorem enK_nil {k : Nat} : enK k [] = [] := rfl
def firstG (size : Int) : List (Int × Int) → Nat → Int → Option (Nat × Int)
  | [], _, _ => none
  | p :: r, k, ix => if size ≤ p.1 then some (k, ix) else firstG size r (k + 1) (ix + p.2)
theorem first_loop {size : Int} {s : Option D} : ∀ (rs : List (Int × Int)) (k : Nat) (ix : Int) (a b c : Option D), (∀ a i, firstG size rs k ix = some (a, i) → T.rt (.tup [.int a, .int i]) h) → (firstG size rs k ix = none → ∀ sd, T.nx sd h) →
    SW (forD (gdPat (.tup (.cons (.nm 3) (.cons (.tup (.cons (.nm 4) (.cons (.nm 5) (.nil)))) (.nil))))) lb_first_of_1 always (enK k (rs.map rD)) [s, some (.int size), some (.int ix), a, b, c] h) T
  | [], k, ix, a, b, c, h1, h2 => by
    rw [List.map_nil, enK_nil, w_for_nil]
    exact ⟨rfl, h2 rfl _⟩
  | p :: r, k, ix, a, b, c, h1, h2 => by
    rw [List.map_cons, enK_cons, w_for_cons]
    by_cases hp : size ≤ p.1
    · have e : firstG size (p :: r) k ix = some (k, ix) := by simp [firstG, hp]
      simp [lb_first_of_1, rD, hp, goTq]
      exact h1 _ _ e
    · have e : firstG size (p :: r) k ix = firstG size r (k + 1) (ix + p.2) := by simp [firstG, hp]
      have hp' : p.1 < size := by omega
      simp [lb_first_of_1, rD, hp, hp', goTq]
      exact first_loop r _ _ _ _ _ (fun a i z => h1 a i (e.trans z)) fun z => h2 (e.trans z)
def firstD : Option (Nat × Int) → D
  | some (a, i) => .tup [.int a, .int i]
  | none => .non
theorem firstof_ok {rs : List (Int × Int)} {size : Int} : F_first_of [storeD rs, .int size] h = .ok (firstD (firstG size rs 0 0)) h := by
  refine RW.eq (run_plain ?_)
  simp [d_first_of, startD, enD_eq]
  refine first_loop rs 0 0 _ _ _ (fun a i e => ?_) fun e sd => ?_
  · simp [e, firstD]
  · simp [e, firstD]
/-- the walk over the later runs -/
def shG (cut : Int → Int) (size : Int) : List (Int × Int) → Nat → Int → Option Int
  | [], _, _ => none
  | p :: r, k, ix => if (if 0 < k then ix else ix + 1) < ix + p.2 ∧ cut p.1 % size ≠ 0 then some (if 0 < k then ix else ix + 1) else shG cut size r (k + 1) (ix + p.2)
theorem sh_loop {cs : List Int} (kk : ChainOk cs) {size f : Int} (hs : 0 < size) {s2 s3 s4 : Option D} : ∀ (rs : List (Int × Int)) (k : Nat) (ix : Int) (a b c d : Option D), (∀ j, shG (cutI cs) size rs k ix = some j → T.rt (.tup [.int f, .int j]) h) → (shG (cutI cs) size rs k ix = none → ∀ sd, T.nx sd h) →
    SW (forD (gdPat (.tup (.cons (.nm 7) (.cons (.tup (.cons (.nm 8) (.cons (.nm 9) (.nil)))) (.nil))))) lb_shutter_at_1 always (enK k (rs.map rD)) [some (.tup (cs.map .int)), s2, some (.int size), s3, s4, some (.int f), some (.int ix), a, b, c, d] h) T
  | [], k, ix, a, b, c, d, h1, h2 => by
    rw [List.map_nil, enK_nil, w_for_nil]
    exact ⟨rfl, h2 rfl _⟩
  | p :: r, k, ix, a, b, c, d, h1, h2 => by
    rw [List.map_cons, enK_cons, w_for_cons]
    have e0 : (if decide ((0 : Int) < (k : Int)) = true then ix else ix + 1) = if 0 < k then ix else ix + 1 := by
      by_cases hk : 0 < k
      · have : (0 : Int) < (k : Int) := by omega
        simp [hk, this]
      · have : ¬ (0 : Int) < (k : Int) := by omega
        simp [hk, this]
    by_cases hp : (if 0 < k then ix else ix + 1) < ix + p.2 ∧ cutI cs p.1 % size ≠ 0
    · have e : shG (cutI cs) size (p :: r) k ix = some (if 0 < k then ix else ix + 1) := by simp [shG, hp]
      have h1 := h1 _ e
      have q1 := hp.1
      have q2 := hp.2
      by_cases hk : 0 < k
      · have hk' : (0 : Int) < (k : Int) := by omega
        simp only [hk, if_true] at h1 q1
        have q1' : 0 < p.2 := by omega
        simp [lb_shutter_at_1, rD, goTq, hk, hk', cutroom_ok kk, hs, q1, q1', q2]
        exact h1
      · have hk' : ¬ (0 : Int) < (k : Int) := by omega
        have hk0 : k = 0 := by omega
        subst hk0
        simp at h1 q1
        simp [lb_shutter_at_1, rD, goTq, cutroom_ok kk, hs, q1, q2]
        exact h1
    · have e : shG (cutI cs) size (p :: r) k ix = shG (cutI cs) size r (k + 1) (ix + p.2) := by simp only [shG, if_neg hp]
      have ih := fun a b c d => sh_loop kk (f := f) hs (s2 := s2) (s3 := s3) (s4 := s4) r (k + 1) (ix + p.2) a b c d (fun j z => h1 j (e.trans z)) fun z => h2 (e.trans z)
      by_cases hk : 0 < k
      · have hk' : (0 : Int) < (k : Int) := by omega
        simp only [hk, if_true] at hp
        by_cases q1 : 0 < p.2
        · have q2 : cutI cs p.1 % size = 0 := Decidable.byContradiction fun z => hp ⟨by omega, z⟩
          have q1' : ix < ix + p.2 := by omega
          simp [lb_shutter_at_1, rD, goTq, hk, hk', cutroom_ok kk, hs, q1, q1', q2]
          exact ih _ _ _ _
        · have q1' : ¬ ix < ix + p.2 := by omega
          have q1'' : p.2 ≤ 0 := by omega
          simp [lb_shutter_at_1, rD, goTq, hk, hk', cutroom_ok kk, hs, q1, q1', q1'']
          exact ih _ _ _ _
      · have hk0 : k = 0 := by omega
        subst hk0
        simp only [Nat.lt_irrefl, if_false] at hp
        by_cases q1 : ix + 1 < ix + p.2
        · have q2 : cutI cs p.1 % size = 0 := Decidable.byContradiction fun z => hp ⟨by omega, z⟩
          have q1' : 1 < p.2 := by omega
          simp [lb_shutter_at_1, rD, goTq, cutroom_ok kk, hs, q1, q1', q2]
          exact ih _ _ _ _
        · have q1' : p.2 ≤ 1 := by omega
          simp [lb_shutter_at_1, rD, goTq, cutroom_ok kk, hs, q1, q1']
          exact ih _ _ _ _
def shutAt (cs : List Int) (rs : List (Int × Int)) (size : Int) : Option (Int × Int) := match firstG size rs 0 0 with
  | none => none
  | some (a, i) => (shG (cutI cs) size (rs.drop a) 0 i).map fun j => (i, j)
def pairD : Option (Int × Int) → D
  | some (a, i) => .tup [.int a, .int i]
  | none => .non
theorem firstG_lt {size : Int} : ∀ {rs : List (Int × Int)} {k : Nat} {ix : Int} {a : Nat} {i : Int}, firstG size rs k ix = some (a, i) → k ≤ a ∧ a < k + rs.length
  | [], _, _, _, _, e => by cases e
  | p :: r, k, ix, a, i, e => by
    unfold firstG at e
    split at e
    · cases e; simp
    · obtain ⟨h1, h2⟩ := firstG_lt e
      simp; omega
theorem shutat_ok {cs : List Int} (kk : ChainOk cs) {rs : List (Int × Int)} {size : Int} (hs : 0 < size) : F_shutter_at [.tup (cs.map .int), storeD rs, .int size] h = .ok (pairD (shutAt cs rs size)) h := by
  refine RW.eq (run_plain ?_)
  simp [d_shutter_at, startD, enD_eq, firstof_ok]
  cases e : firstG size rs 0 0 with
  | none => simp [firstD, shutAt, e, pairD]
  | some q =>
    obtain ⟨a, i⟩ := q
    obtain ⟨_, ha⟩ := firstG_lt e
    have e2 : dSl (.tup (rs.map rD)) (some (a : Int)) none h = some (.tup ((rs.drop a).map rD)) := by
      have := cut_from (xs := rs.map rD) (k := a) (by simp; omega)
      rw [List.map_drop, ← this]; rfl
    simp [firstD, e2]
    rw [← List.map_drop]
    refine sh_loop kk hs _ 0 i _ _ _ _ (fun j z => ?_) fun z sd => ?_
    · simp [shutAt, e, z, pairD]
    · simp [shutAt, e, z, pairD]
end W73

set_option maxHeartbeats 4000000
namespace W73
open PySem PySem.Spec PyProof.Rows L2 Cp
variable {l : Nat} {h : DH} {QD : D → DH → Prop} {X : Ex → DH → Prop} {T : Tq}
def shutIn (cs : List Int) (rs : List (Int × Int)) : List Int → Option (Int × Int × Int)
  | [] => none
  | s :: r => match shutAt cs rs s with
    | some (f, j) => some (s, f, j)
    | none => shutIn cs rs r
def tripD : Option (Int × Int × Int) → D
  | some (s, f, j) => .tup [.int s, .int f, .int j]
  | none => .non
theorem in_loop {cs : List Int} (kk : ChainOk cs) {rs : List (Int × Int)} : ∀ (ss : List Int) (a b : Option D), (∀ s ∈ ss, 0 < s) → (∀ s f j, shutIn cs rs ss = some (s, f, j) → T.rt (.tup [.int s, .int f, .int j]) h) → (shutIn cs rs ss = none → ∀ sd, T.nx sd h) →
    SW (forD (gdPat (.nm 2)) lb_shutter_in_1 always (ss.map D.int) [some (.tup (cs.map .int)), some (storeD rs), a, b] h) T
  | [], a, b, _, h1, h2 => by
    rw [List.map_nil, w_for_nil]
    exact ⟨rfl, h2 rfl _⟩
  | s :: r, a, b, hs, h1, h2 => by
    rw [List.map_cons, w_for_cons]
    have h0 := hs s (by simp)
    cases e : shutAt cs rs s with
    | some q =>
      obtain ⟨f, j⟩ := q
      simp [lb_shutter_in_1, goTq, shutat_ok kk h0, e, pairD]
      exact h1 s f j (by simp [shutIn, e])
    | none =>
      simp [lb_shutter_in_1, goTq, shutat_ok kk h0, e, pairD]
      have e2 : shutIn cs rs (s :: r) = shutIn cs rs r := by simp [shutIn, e]
      exact in_loop kk r _ _ (fun x hx => hs x (by simp [hx])) (fun s f j z => h1 s f j (e2.trans z)) fun z => h2 (e2.trans z)
theorem ChainOk.pos {cs : List Int} (kk : ChainOk cs) : ∀ s ∈ cs, 0 < s := fun s hs => by have := kk.ch.pos s hs; omega
theorem shutin_ok {cs : List Int} (kk : ChainOk cs) {rs : List (Int × Int)} : F_shutter_in [.tup (cs.map .int), storeD rs] h = .ok (tripD (shutIn cs rs cs)) h := by
  refine RW.eq (run_plain ?_)
  simp [d_shutter_in, startD]
  refine in_loop kk cs _ _ kk.pos (fun s f j e => ?_) fun e sd => ?_
  · simp [e, tripD]
  · simp [e, tripD]
@[simp] theorem isNon_trip {o : Option (Int × Int × Int)} : isNon (tripD o) = o.isNone := by
  cases o with
  | none => rfl
  | some q => rfl
theorem frz_trip {n : Nat} {o : Option (Int × Int × Int)} : frz n h (tripD o) = some (tripD o) := by
  cases o with
  | none => simp [tripD]
  | some q => simp [tripD]
theorem shutter_ok {cs : List Int} (kk : ChainOk cs) {rs : List (Int × Int)} : F_shutter [.tup (cs.map .int), storeD rs] h = .ok (tripD (shutIn cs rs cs)) h := by
  refine RW.eq (run_plain ?_)
  simp [d_shutter, startD, arrivals_ok kk, shutin_ok kk, frz_trip]
theorem isopen_ok {cs : List Int} (kk : ChainOk cs) {rs : List (Int × Int)} : F_is_open [.tup (cs.map .int), storeD rs] h = .ok (.bl (shutIn cs rs cs).isNone) h := by
  refine RW.eq (run_plain ?_)
  cases e : shutIn cs rs cs <;> simp [d_is_open, startD, arrivals_ok kk, shutin_ok kk, e]
def numG (rs : List (Int × Int)) : Int := (rs.map (·.2)).sum
theorem number_ok {rs : List (Int × Int)} (hl : rs.length ≤ 100000) : F_Store_number [storeD rs] h = .ok (.int (numG rs)) h := by
  refine RW.eq (run_plain ?_)
  simp [d_Store_number, startD]
  let f : D → D := fun d => match d with
    | .tup [_, x] => x
    | _ => .non
  refine comp_map f rfl (by simpa using hl) (fun d hd => ?_) ?_
  · obtain ⟨p, _, rfl⟩ := List.mem_map.mp hd
    exact ⟨_, by simp [wipeD, rD]; rfl, rfl, RW.eq (by simp [rD, f])⟩
  · have e : (rs.map rD).map f = (rs.map (·.2)).map D.int := by simp [rD, f, Function.comp_def]
    have e2 : ∀ ns : List Int, intsD (ns.map D.int) = some ns := fun ns => by
      induction ns with
      | nil => rfl
      | cons a r ih => simp [intsD, ih]
    rw [e]
    exact ⟨.int (numG rs), by show ((listD (.lst _) h).bind intsD).map _ = _; rw [list_lst, Option.bind_some, e2]; rfl, ⟨[], by simp⟩, by simp⟩
def roomG : List (Int × Int) → Int → Int
  | [], _ => 0
  | p :: r, i => if i < p.2 then p.1 else roomG r (i - p.2)
theorem room_loop {s s1 : Option D} {room : Int} : ∀ (rs : List (Int × Int)) (i : Int) (a b : Option D), roomG rs i = room → 0 ≤ i → i < numG rs → (∀ i b, T.nx [s, s1, i, some (.int room), b] h) →
    SW (forD (gdPat (.tup (.cons (.nm 3) (.cons (.nm 4) .nil)))) lb_Store_room_at_1 always (rs.map rD) [s, s1, some (.int i), a, b] h) T
  | [], i, a, b, e, h0, hi, q => by
    simp [numG] at hi
    omega
  | p :: r, i, a, b, e, h0, hi, q => by
    rw [List.map_cons, w_for_cons]
    by_cases hp : i < p.2
    · simp [roomG, hp] at e
      subst e
      simp [lb_Store_room_at_1, rD, goTq, hp]
      exact q _ _
    · simp [roomG, hp] at e
      have hp' : p.2 ≤ i := by omega
      simp [lb_Store_room_at_1, rD, goTq, hp, hp']
      exact room_loop r _ _ _ e (by omega) (by simp [numG] at hi ⊢; omega) q
theorem roomat_ok {rs : List (Int × Int)} (hl : rs.length ≤ 100000) {i : Int} (h0 : 0 ≤ i) (h1 : i < numG rs) (h2 : i < 10 ^ 60) : F_Store_room_at [storeD rs, .int i] h = .ok (.int (roomG rs i)) h := by
  refine RW.eq (run_plain ?_)
  have e1 := iscount_i (h := h) (i := i) (by omega) h2
  have e2 : ¬ numG rs ≤ i := by omega
  simp [d_Store_room_at, startD, e1, h0, number_ok hl, e2, h1]
  refine room_loop (room := roomG rs i) rs i _ _ rfl h0 h1 fun i b => ?_
  simp
/-- the law's own look at a triple -/
def isSh (cs : List Int) (rs : List (Int × Int)) (s i j : Int) : Bool := decide (s ∈ cs) && (decide (0 ≤ i ∧ i < j ∧ j < numG rs) && (decide (s ≤ roomG rs i) && decide (cutI cs (roomG rs j) % s ≠ 0)))
theorem toPys_ints {n : Nat} : ∀ (ns : List Int), toPys h (n + 1) (ns.map D.int) = some (ns.map PyData.int)
  | [] => by rw [List.map_nil, toPys]; rfl
  | a :: r => by rw [List.map_cons, toPys, toPy, toPys_ints r]; rfl
theorem notin_ints {s : Int} {cs : List Int} : dNotIn (.int s) (.tup (cs.map D.int)) h = some (!decide (s ∈ cs)) := by
  have f : (cs.map D.int).all flatD = true := by simp [flatD]
  have e : dInT (.int s) (.tup (cs.map D.int)) h = some (decide (s ∈ cs)) := by
    unfold dInT
    simp only [f, flatD, Bool.and_self, if_true]
    unfold dIn
    rw [seq_tup]
    have e1 : toPy h eqDepth (.int s) = some (.int s) := by rw [eqDepth, toPy]
    have e2 : toPys h eqDepth (cs.map D.int) = some (cs.map PyData.int) := toPys_ints cs
    simp only [e1, e2]
    congr 1
    rw [List.any_map]
    induction cs with
    | nil => rfl
    | cons a r ih =>
      have ih := ih (by simp [flatD]) (toPys_ints r)
      rw [List.any_cons, ih]
      show ((a == s) || decide (s ∈ r)) = _
      by_cases ha : a = s
      · subst ha; simp
      · have : ¬ s = a := fun z => ha z.symm
        simp [ha, this]
  unfold dNotIn
  rw [e]; rfl
theorem all_bools {α : Type} (f : α → Bool) {xs : List α} : cAll [.lst (xs.map fun x => .bl (f x))] h = some (.bl (xs.all f)) := by
  have : ∀ xs : List α, bools (xs.map fun x => D.bl (f x)) = some (xs.map f) := fun xs => by
    induction xs with
    | nil => rfl
    | cons a r ih => simp [bools, ih]
  simp [cAll, this]
theorem issh_ok {cs : List Int} (kk : ChainOk cs) {rs : List (Int × Int)} (hl : rs.length ≤ 100000) {s i j : Int} (hs : 0 ≤ s ∧ s < 10 ^ 60) (hi : 0 ≤ i ∧ i < 10 ^ 60) (hj : 0 ≤ j ∧ j < 10 ^ 60) :
    F_is_shutter [.tup (cs.map .int), storeD rs, .tup [.int s, .int i, .int j]] h = .ok (.bl (isSh cs rs s i j)) h := by
  refine RW.eq (run_plain ?_)
  simp [d_is_shutter, startD, arrivals_ok kk]
  refine comp_map (fun _ => .bl true) rfl (by simp) (fun d hd => ?_) ?_
  · have : ∃ x : Int, d = .int x ∧ 0 ≤ x ∧ x < 10 ^ 60 := by
      simp at hd
      rcases hd with rfl | rfl | rfl
      · exact ⟨_, rfl, hs⟩
      · exact ⟨_, rfl, hi⟩
      · exact ⟨_, rfl, hj⟩
    obtain ⟨x, rfl, x0, x1⟩ := this
    have e1 := iscount_i (h := h) (i := x) (by omega) x1
    exact ⟨_, pat_nm, rfl, RW.eq (by simp [wipeD, e1, x0])⟩
  · refine ⟨_, all_true, .inr ⟨rfl, ?_⟩⟩
    have nm : ¬ Str.ofString "room_at" = Str.ofString "own_runs" := by decide
    by_cases a1 : s ∈ cs
    · have s0 := kk.pos s a1
      by_cases a2 : i < j
      · by_cases a3 : j < numG rs
        · have r1 := roomat_ok (h := h) hl hi.1 (by omega) hi.2
          have r2 := roomat_ok (h := h) hl hj.1 a3 hj.2
          by_cases a4 : s ≤ roomG rs i
          · by_cases a5 : cutI cs (roomG rs j) % s = 0
            · simp [notin_ints, a1, a2, number_ok hl, a3, nm, r1, r2, a4, cutroom_ok kk, s0, a5, isSh]
            · simp [notin_ints, a1, a2, number_ok hl, a3, nm, r1, r2, a4, cutroom_ok kk, s0, a5, isSh, hi.1]
          · have a4' : roomG rs i < s := by omega
            simp [notin_ints, a1, a2, number_ok hl, a3, nm, r1, r2, a4, a4', isSh]
        · have a3' : numG rs ≤ j := by omega
          simp [notin_ints, a1, a2, number_ok hl, a3, a3', isSh]
      · have a2' : j ≤ i := by omega
        simp [notin_ints, a1, a2, a2', isSh]
    · simp [notin_ints, a1, isSh]
end W73

set_option maxHeartbeats 4000000
namespace W73
open PySem PySem.Spec PyProof.Rows L2 Cp
variable {l : Nat} {h : DH} {QD : D → DH → Prop} {X : Ex → DH → Prop} {T : Tq}
theorem issh_tag {cs : List Int} (kk : ChainOk cs) {rs : List (Int × Int)} {v : D} {t : Tag} (e : tagD v h = some t) (e2 : k_tuple t = some false) : F_is_shutter [.tup (cs.map .int), storeD rs, v] h = .ok (.bl false) h := by
  refine RW.eq (run_plain ?_)
  simp [d_is_shutter, startD, arrivals_ok kk, e, e2]
theorem issh_len {cs : List Int} (kk : ChainOk cs) {rs : List (Int × Int)} {xs : List D} (e : xs.length ≠ 3) : F_is_shutter [.tup (cs.map .int), storeD rs, .tup xs] h = .ok (.bl false) h := by
  refine RW.eq (run_plain ?_)
  have e1 : ¬ ((xs.length : Int) = 3) := by omega
  simp [d_is_shutter, startD, arrivals_ok kk, e1]
theorem issh_cnt {cs : List Int} (kk : ChainOk cs) {rs : List (Int × Int)} {x y z : D} (f : D → Bool) (hf : ∀ d, d ∈ [x, y, z] → F_is_count [d] h = .ok (.bl (f d)) h) (e : [x, y, z].all f = false) : F_is_shutter [.tup (cs.map .int), storeD rs, .tup [x, y, z]] h = .ok (.bl false) h := by
  refine RW.eq (run_plain ?_)
  simp [d_is_shutter, startD, arrivals_ok kk]
  refine comp_map (fun d => .bl (f d)) rfl (by simp) (fun d hd => ⟨_, pat_nm, rfl, RW.eq (by simp [wipeD, hf d hd])⟩) ?_
  refine ⟨_, all_bools f, ?_⟩
  rw [e]
  simp
@[simp] theorem set_push {c d : Cell} : (h ++ [c]).set h.length d = h ++ [d] := by
  rw [List.set_append_right _ _ (Nat.le_refl _)]; simp
theorem get_push {c : Cell} : (h ++ [c])[h.length]? = some c := by simp
def pyR (p : Int × Int) : PyData := .tuple [.int p.1, .int p.2]
theorem toPys_rs {n : Nat} : ∀ (rs : List (Int × Int)), toPys h (n + 2) (rs.map rD) = some (rs.map pyR)
  | [] => by rw [List.map_nil, toPys]; rfl
  | a :: r => by
    have e : toPy h (n + 2) (rD a) = some (pyR a) := by
      unfold rD; rw [toPy]
      have := toPys_ints (h := h) (n := n) [a.1, a.2]
      have e2 : toPys h (n + 1) [D.int a.1, D.int a.2] = some [PyData.int a.1, PyData.int a.2] := this
      rw [e2]; rfl
    rw [List.map_cons, toPys, e, toPys_rs r]; rfl
theorem ne_empty {x : D} {rs : List (Int × Int)} (hx : (x = .lst (rs.map rD)) ∨ ∃ l, x = .ref l ∧ h[l]? = some (.lst (rs.map rD))) : dNe x (.lst []) h = some (!rs.isEmpty) := by
  have e1 : toPy h eqDepth x = some (.list (rs.map pyR)) := by
    rcases hx with rfl | ⟨l, rfl, e⟩
    · rw [eqDepth, toPy, toPys_rs]; rfl
    · rw [eqDepth, toPy, e]; dsimp only; rw [toPys_rs]; rfl
  have e2 : toPy h eqDepth (.lst []) = some (.list []) := by rw [eqDepth, toPy, toPys]; rfl
  unfold dNe dEq
  rw [e1, e2]
  cases rs <;> rfl
def mergeS (acc : List (Int × Int)) (p : Int × Int) : List (Int × Int) := match acc.getLast? with
  | some q => if q.1 = p.1 then acc.dropLast ++ [(p.1, q.2 + p.2)] else acc ++ [p]
  | none => [p]
def mergeR (rs : List (Int × Int)) : List (Int × Int) := rs.foldl mergeS []
theorem rD_snoc {rs : List (Int × Int)} {p : Int × Int} : rs.map rD ++ [rD p] = (rs ++ [p]).map rD := by simp
theorem mergeS_len {acc : List (Int × Int)} {p : Int × Int} : (mergeS acc p).length ≤ acc.length + 1 := by
  unfold mergeS
  split
  · split
    · simp
    · simp
  · simp
theorem atI_last {ds : List (Int × Int)} {q : Int × Int} : atI ((ds ++ [q]).map rD) (-1) = some (rD q) := by rw [List.map_append]; exact atI_neg1
theorem ixN_last {n : Nat} : ixN (n + 1) (-1) = some n := by
  unfold ixN
  have h1 : ¬ (0 : Int) ≤ -1 := by omega
  have h2 : -((n + 1 : Nat) : Int) ≤ -1 := by omega
  rw [if_neg h1, if_pos h2]
  congr 1; omega
theorem merged_loop {s : Option D} {b : DSt} (hb : b = lb_merged_1) : ∀ (rs acc : List (Int × Int)) (a c : Option D), acc.length + rs.length ≤ 1000 → (∀ a c, T.nx [s, some (.ref h.length), a, c] (h ++ [.lst ((rs.foldl mergeS acc).map rD)])) →
    SW (forD (gdPat (.tup (.cons (.nm 2) (.cons (.nm 3) .nil)))) b always (rs.map rD) [s, some (.ref h.length), a, c] (h ++ [.lst (acc.map rD)])) T
  | [], acc, a, c, _, q => by
    rw [List.map_nil, w_for_nil]
    exact ⟨rfl, q _ _⟩
  | p :: r, acc, a, c, hl, q => by
    have hl' : acc.length + (r.length + 1) ≤ 1000 := hl
    have ih := fun acc' (z : acc'.length ≤ acc.length + 1) (q : ∀ (a c : Option D), T.nx [s, some (.ref h.length), a, c] (h ++ [.lst ((r.foldl mergeS acc').map rD)])) => merged_loop hb r acc' (some (.int p.1)) (some (.int p.2)) (by omega) q
    rw [List.map_cons, w_for_cons]
    subst hb
    rcases List.eq_nil_or_concat acc with rfl | ⟨ds, qq, rfl⟩
    · have e1 := ne_empty (h := h ++ [.lst []]) (x := .ref h.length) (rs := []) (.inr ⟨_, rfl, get_push⟩)
      have ih := ih (mergeS [] p) mergeS_len q
      simp [lb_merged_1, rD, goTq, e1, fine_of]
      exact ih
    · rw [List.concat_eq_append] at *
      have e1 := ne_empty (h := h ++ [.lst ((ds ++ [qq]).map rD)]) (x := .ref h.length) (rs := ds ++ [qq]) (.inr ⟨_, rfl, get_push⟩)
      have e2 := items_push (h := h) (xs := (ds ++ [qq]).map rD)
      have e3 := atI_last (ds := ds) (q := qq)
      have e4 : ixN ((ds ++ [qq]).map rD).length (-1) = some ds.length := by simp; exact ixN_last
      have ih := ih (mergeS (ds ++ [qq]) p) mergeS_len q
      have hf : fine ((ds ++ [qq]).map rD).length = true := fine_of (by simp at hl' ⊢; omega)
      generalize hg : (ds ++ [qq]).map rD = gg at *
      by_cases hp : qq.1 = p.1
      · have e5 : mergeS (ds ++ [qq]) p = ds ++ [(p.1, qq.2 + p.2)] := by simp [mergeS, hp]
        have e6 : gg.set ds.length (.tup [.int p.1, .int (qq.2 + p.2)]) = (ds ++ [(p.1, qq.2 + p.2)]).map rD := by
          rw [← hg, List.map_append, List.set_append_right _ _ (by simp)]
          simp [rD]
        rw [e5] at ih
        simp [lb_merged_1, rD, goTq, e1, e2, e3, e4, hp, get_push, e6]
        simpa [lb_merged_1, rD] using ih
      · have e5 : mergeS (ds ++ [qq]) p = (ds ++ [qq]) ++ [p] := by simp [mergeS, hp]
        have e6 : gg ++ [.tup [.int p.1, .int p.2]] = ((ds ++ [qq]) ++ [p]).map rD := by rw [← hg]; simp [rD]
        rw [e5] at ih
        simp [lb_merged_1, rD, goTq, e1, e2, e3, e4, hp, get_push, hf, e6]
        simpa [lb_merged_1, rD] using ih
end W73

set_option maxHeartbeats 4000000
namespace W73
open Cp
def expand : List (Int × Int) → List Int
  | [] => []
  | p :: r => List.replicate p.2.toNat p.1 ++ expand r
theorem expand_append : ∀ (a b : List (Int × Int)), expand (a ++ b) = expand a ++ expand b
  | [], b => rfl
  | p :: r, b => by simp [expand, expand_append r b]
def Pos (rs : List (Int × Int)) : Prop := ∀ p ∈ rs, 1 ≤ p.2
theorem mergeS_expand {acc : List (Int × Int)} {p : Int × Int} (ha : Pos acc) (hp : 1 ≤ p.2) : expand (mergeS acc p) = expand (acc ++ [p]) ∧ Pos (mergeS acc p) := by
  rcases List.eq_nil_or_concat acc with rfl | ⟨ds, q, rfl⟩
  · exact ⟨rfl, fun x hx => by
      have : x = p := by simpa [mergeS] using hx
      rw [this]; exact hp⟩
  · rw [List.concat_eq_append] at *
    have hq : 1 ≤ q.2 := ha q (by simp)
    by_cases e : q.1 = p.1
    · have e5 : mergeS (ds ++ [q]) p = ds ++ [(p.1, q.2 + p.2)] := by simp [mergeS, e]
      rw [e5]
      refine ⟨?_, fun x hx => ?_⟩
      · rw [expand_append, expand_append, expand_append, List.append_assoc]
        congr 1
        simp only [expand, List.append_nil, e]
        rw [List.replicate_append_replicate]
        congr 1
        omega
      · rcases List.mem_append.mp hx with hx | hx
        · exact ha x (by simp [hx])
        · have : x = (p.1, q.2 + p.2) := by simpa using hx
          rw [this]
          show 1 ≤ q.2 + p.2
          omega
    · have e5 : mergeS (ds ++ [q]) p = (ds ++ [q]) ++ [p] := by simp [mergeS, e]
      rw [e5]
      refine ⟨rfl, fun x hx => ?_⟩
      rcases List.mem_append.mp hx with hx | hx
      · exact ha x hx
      · have : x = p := by simpa using hx
        rw [this]; exact hp
theorem foldl_expand : ∀ (rs acc : List (Int × Int)), Pos acc → Pos rs → expand (rs.foldl mergeS acc) = expand acc ++ expand rs ∧ Pos (rs.foldl mergeS acc)
  | [], acc, ha, _ => by simp [expand]; exact ha
  | p :: r, acc, ha, hr => by
    obtain ⟨e1, e2⟩ := mergeS_expand ha (hr p (by simp))
    obtain ⟨f1, f2⟩ := foldl_expand r (mergeS acc p) e2 (fun x hx => hr x (by simp [hx]))
    refine ⟨?_, f2⟩
    rw [List.foldl_cons, f1, e1, expand_append]
    simp [expand]
theorem merge_expand {rs : List (Int × Int)} (h : Pos rs) : expand (mergeR rs) = expand rs ∧ Pos (mergeR rs) := by
  obtain ⟨e1, e2⟩ := foldl_expand rs [] (fun _ hx => by simp at hx) h
  exact ⟨by rw [mergeR, e1]; rfl, e2⟩
/-- bounds kept by merging -/
theorem mergeS_bound {acc : List (Int × Int)} {p : Int × Int} {A M k : Int} (ha : ∀ x ∈ acc, (1 ≤ x.1 ∧ x.1 ≤ A) ∧ 1 ≤ x.2 ∧ x.2 ≤ k) (hp : (1 ≤ p.1 ∧ p.1 ≤ A) ∧ 1 ≤ p.2 ∧ p.2 ≤ M) (hk : 0 ≤ k) : ∀ x ∈ mergeS acc p, (1 ≤ x.1 ∧ x.1 ≤ A) ∧ 1 ≤ x.2 ∧ x.2 ≤ k + M := by
  intro x hx
  have old : x ∈ acc → (1 ≤ x.1 ∧ x.1 ≤ A) ∧ 1 ≤ x.2 ∧ x.2 ≤ k + M := fun hx => by
    have := ha x hx
    exact ⟨this.1, this.2.1, by omega⟩
  have new : x = p → (1 ≤ x.1 ∧ x.1 ≤ A) ∧ 1 ≤ x.2 ∧ x.2 ≤ k + M := fun e => by
    rw [e]; exact ⟨hp.1, hp.2.1, by omega⟩
  unfold mergeS at hx
  split at hx
  · rename_i q e
    have hq := ha q (List.mem_of_getLast? e)
    split at hx
    · rcases List.mem_append.mp hx with hx | hx
      · exact old (List.dropLast_subset _ hx)
      · have e : x = (p.1, q.2 + p.2) := by simpa using hx
        rw [e]
        exact ⟨hp.1, by show 1 ≤ q.2 + p.2; omega, by show q.2 + p.2 ≤ k + M; omega⟩
    · rcases List.mem_append.mp hx with hx | hx
      · exact old hx
      · exact new (by simpa using hx)
  · exact new (by simpa using hx)
theorem foldl_bound {A M : Int} (hM : 0 ≤ M) : ∀ (rs acc : List (Int × Int)) (k : Int), 0 ≤ k → (∀ x ∈ acc, (1 ≤ x.1 ∧ x.1 ≤ A) ∧ 1 ≤ x.2 ∧ x.2 ≤ k) → (∀ x ∈ rs, (1 ≤ x.1 ∧ x.1 ≤ A) ∧ 1 ≤ x.2 ∧ x.2 ≤ M) → ∀ x ∈ rs.foldl mergeS acc, (1 ≤ x.1 ∧ x.1 ≤ A) ∧ 1 ≤ x.2 ∧ x.2 ≤ k + M * rs.length
  | [], acc, k, hk, ha, _ => by simpa using ha
  | p :: r, acc, k, hk, ha, hr => by
    intro x hx
    have := foldl_bound hM r (mergeS acc p) (k + M) (by omega) (mergeS_bound ha (hr p (by simp)) hk) (fun x hx => hr x (by simp [hx])) x hx
    have e : M * ((p :: r).length : Int) = M * (r.length : Int) + M := by
      rw [List.length_cons, Int.natCast_add, Int.mul_add]; simp
    exact ⟨this.1, this.2.1, by omega⟩
theorem foldl_len : ∀ (rs acc : List (Int × Int)), (rs.foldl mergeS acc).length ≤ acc.length + rs.length
  | [], acc => by simp
  | p :: r, acc => by
    have := foldl_len r (mergeS acc p)
    have := mergeS_len (acc := acc) (p := p)
    simp; omega
theorem merge_bound {A M : Int} (hM : 0 ≤ M) {rs : List (Int × Int)} (hr : ∀ x ∈ rs, (1 ≤ x.1 ∧ x.1 ≤ A) ∧ 1 ≤ x.2 ∧ x.2 ≤ M) : (∀ x ∈ mergeR rs, (1 ≤ x.1 ∧ x.1 ≤ A) ∧ 1 ≤ x.2 ∧ x.2 ≤ M * rs.length) ∧ (mergeR rs).length ≤ rs.length := by
  refine ⟨fun x hx => ?_, by have := foldl_len rs []; simpa [mergeR] using this⟩
  have := foldl_bound (A := A) hM rs [] 0 (by omega) (fun x hx => by simp at hx) hr x hx
  simpa using this
theorem numG_len : ∀ {rs : List (Int × Int)}, Pos rs → numG rs = (expand rs).length
  | [], _ => rfl
  | p :: r, h => by
    have ih := numG_len (rs := r) fun x hx => h x (by simp [hx])
    have hp := h p (by simp)
    simp [numG, expand] at ih ⊢
    rw [← ih]; omega
theorem roomG_get : ∀ {rs : List (Int × Int)} {i : Nat}, Pos rs → i < (expand rs).length → (expand rs)[i]? = some (roomG rs (i : Int))
  | [], i, _, hi => by simp [expand] at hi
  | p :: r, i, h, hi => by
    have hp := h p (by simp)
    by_cases hq : (i : Int) < p.2
    · have : i < p.2.toNat := by omega
      simp [expand, roomG, hq, List.getElem?_append_left, this]
    · have h1 : ¬ i < p.2.toNat := by omega
      have e2 : (i : Int) - p.2 = ((i - p.2.toNat : Nat) : Int) := by omega
      simp only [roomG, if_neg hq, e2]
      rw [expand, List.getElem?_append_right (by simp; omega), List.length_replicate]
      exact roomG_get (fun x hx => h x (by simp [hx])) (by simp [expand] at hi; omega)
def ExP (P Q : Int → Prop) : List Int → Prop
  | [] => False
  | x :: r => (P x ∧ ∃ y ∈ r, Q y) ∨ ExP P Q r
section
variable {P Q : Int → Prop}
theorem exP_get : ∀ {E : List Int}, ExP P Q E ↔ ∃ (i j : Nat) (x y : Int), i < j ∧ E[i]? = some x ∧ E[j]? = some y ∧ P x ∧ Q y
  | [] => by simp [ExP]
  | x :: r => by
    rw [ExP, exP_get (E := r)]
    constructor
    · rintro (⟨hx, y, hy, hq⟩ | ⟨i, j, a, b, h1, h2, h3, h4, h5⟩)
      · obtain ⟨j, hj, e⟩ := List.getElem_of_mem hy
        exact ⟨0, j + 1, x, y, by omega, rfl, by simp [hj, e], hx, hq⟩
      · exact ⟨i + 1, j + 1, a, b, by omega, h2, h3, h4, h5⟩
    · rintro ⟨i, j, a, b, h1, h2, h3, h4, h5⟩
      cases j with
      | zero => omega
      | succ j =>
        cases i with
        | zero =>
          have e : x = a := by simpa using h2
          subst e
          exact .inl ⟨h4, b, List.mem_of_getElem? (by simpa using h3), h5⟩
        | succ i => exact .inr ⟨i, j, a, b, by omega, h2, h3, h4, h5⟩
theorem exP_skip : ∀ {A E : List Int}, (∀ x ∈ A, ¬ P x) → (ExP P Q (A ++ E) ↔ ExP P Q E)
  | [], E, _ => by simp
  | x :: r, E, h => by
    rw [List.cons_append, ExP, exP_skip fun y hy => h y (by simp [hy])]
    constructor
    · rintro (⟨hx, _⟩ | h')
      · exact absurd hx (h x (by simp))
      · exact h'
    · exact .inr
theorem exP_some : ∀ {E : List Int}, ExP P Q E → ∃ y ∈ E, Q y
  | x :: r, h => by
    rcases h with ⟨_, y, hy, hq⟩ | h
    · exact ⟨y, by simp [hy], hq⟩
    · obtain ⟨y, hy, hq⟩ := exP_some h
      exact ⟨y, by simp [hy], hq⟩
theorem exP_head {x : Int} {r : List Int} (hx : P x) : ExP P Q (x :: r) ↔ ∃ y ∈ r, Q y := by
  constructor
  · rintro (⟨_, h⟩ | h)
    · exact h
    · exact exP_some h
  · exact fun h => .inl ⟨hx, h⟩
theorem exP_rep {x : Int} {R : List Int} : ∀ (n : Nat), ExP P Q (List.replicate n x ++ R) ↔ (2 ≤ n ∧ P x ∧ Q x) ∨ (1 ≤ n ∧ P x ∧ ∃ y ∈ R, Q y) ∨ ExP P Q R
  | 0 => by simp
  | n + 1 => by
    rw [List.replicate_succ, List.cons_append, ExP, exP_rep n]
    constructor
    · rintro (⟨hx, y, hy, hq⟩ | h)
      · rcases List.mem_append.mp hy with hy | hy
        · obtain ⟨hn, rfl⟩ := List.mem_replicate.mp hy
          exact .inl ⟨by omega, hx, hq⟩
        · exact .inr (.inl ⟨by omega, hx, y, hy, hq⟩)
      · rcases h with ⟨h1, h2, h3⟩ | ⟨h1, h2⟩ | h
        · exact .inl ⟨by omega, h2, h3⟩
        · exact .inr (.inl ⟨by omega, h2⟩)
        · exact .inr (.inr h)
    · rintro (⟨h1, h2, h3⟩ | ⟨h1, h2, y, hy, hq⟩ | h)
      · exact .inl ⟨h2, x, List.mem_append_left _ (List.mem_replicate.mpr ⟨by omega, rfl⟩), h3⟩
      · exact .inl ⟨h2, y, List.mem_append_right _ hy, hq⟩
      · exact .inr (.inr (.inr h))
def fewR (rs : List (Int × Int)) : List (Int × Int) := rs.map fun p => (p.1, if p.2 < 2 then p.2 else 2)
theorem few_any : ∀ {rs : List (Int × Int)}, Pos rs → ((∃ y ∈ expand (fewR rs), Q y) ↔ ∃ y ∈ expand rs, Q y)
  | [], _ => by simp [fewR]
  | p :: r, h => by
    have ih := few_any (rs := r) fun x hx => h x (by simp [hx])
    have hp := h p (by simp)
    have mem : ∀ n : Nat, 1 ≤ n → ∀ R : List Int, (∃ y ∈ List.replicate n p.1 ++ R, Q y) ↔ Q p.1 ∨ ∃ y ∈ R, Q y := fun n hn R => by
      constructor
      · rintro ⟨y, hy, hq⟩
        rcases List.mem_append.mp hy with hy | hy
        · obtain ⟨_, rfl⟩ := List.mem_replicate.mp hy
          exact .inl hq
        · exact .inr ⟨y, hy, hq⟩
      · rintro (hq | ⟨y, hy, hq⟩)
        · exact ⟨p.1, List.mem_append_left _ (List.mem_replicate.mpr ⟨by omega, rfl⟩), hq⟩
        · exact ⟨y, List.mem_append_right _ hy, hq⟩
    show (∃ y ∈ List.replicate (if p.2 < 2 then p.2 else 2).toNat p.1 ++ expand (fewR r), Q y) ↔ _
    rw [mem _ (by split <;> omega), ih, expand, mem _ (by omega)]
theorem few_ex : ∀ {rs : List (Int × Int)}, Pos rs → (ExP P Q (expand (fewR rs)) ↔ ExP P Q (expand rs))
  | [], _ => by simp [fewR]
  | p :: r, h => by
    have hr : Pos r := fun x hx => h x (by simp [hx])
    have ih := few_ex (rs := r) hr
    have hp := h p (by simp)
    show ExP P Q (List.replicate (if p.2 < 2 then p.2 else 2).toNat p.1 ++ expand (fewR r)) ↔ _
    rw [exP_rep, ih, few_any hr, expand, exP_rep]
    have e1 : 2 ≤ (if p.2 < 2 then p.2 else 2).toNat ↔ 2 ≤ p.2.toNat := by split <;> omega
    have e2 : 1 ≤ (if p.2 < 2 then p.2 else 2).toNat ↔ 1 ≤ p.2.toNat := by split <;> omega
    rw [e1, e2]
end
end W73

set_option maxHeartbeats 4000000
namespace W73
open Cp
theorem firstG_none {s : Int} : ∀ {rs : List (Int × Int)} {k : Nat} {ix : Int}, firstG s rs k ix = none → ∀ p ∈ rs, ¬ s ≤ p.1
  | [], _, _, _, p, hp => by simp at hp
  | q :: r, k, ix, e, p, hp => by
    unfold firstG at e
    split at e
    · cases e
    · rename_i hq
      rcases List.mem_cons.mp hp with rfl | hp
      · exact hq
      · exact firstG_none e p hp
theorem firstG_some {s : Int} : ∀ {rs : List (Int × Int)} {k : Nat} {ix : Int} {a : Nat} {i : Int}, firstG s rs k ix = some (a, i) → ∃ (p : Int × Int) (r : List (Int × Int)), k ≤ a ∧ rs.drop (a - k) = p :: r ∧ s ≤ p.1 ∧ rs = rs.take (a - k) ++ p :: r ∧ (∀ q ∈ rs.take (a - k), ¬ s ≤ q.1) ∧ i = ix + numG (rs.take (a - k))
  | [], _, _, _, _, e => by cases e
  | q :: r, k, ix, a, i, e => by
    unfold firstG at e
    split at e
    · rename_i hq
      cases e
      exact ⟨q, r, Nat.le_refl _, by simp, hq, by simp, by simp, by simp [numG]⟩
    · rename_i hq
      obtain ⟨p, r', h1, h2, h3, h4, h5, h6⟩ := firstG_some e
      have e1 : a - k = (a - (k + 1)) + 1 := by omega
      refine ⟨p, r', by omega, ?_, h3, ?_, ?_, ?_⟩
      · rw [e1, List.drop_succ_cons]; exact h2
      · rw [e1, List.take_succ_cons, List.cons_append, ← h4]
      · rw [e1, List.take_succ_cons]
        intro x hx
        rcases List.mem_cons.mp hx with rfl | hx
        · exact hq
        · exact h5 x hx
      · rw [e1, List.take_succ_cons, h6]
        simp [numG]; omega
theorem mem_expand : ∀ {rs : List (Int × Int)} {x : Int}, x ∈ expand rs → ∃ p ∈ rs, x = p.1
  | [], x, h => by simp [expand] at h
  | p :: r, x, h => by
    rw [expand] at h
    rcases List.mem_append.mp h with h | h
    · exact ⟨p, by simp, (List.mem_replicate.mp h).2⟩
    · obtain ⟨q, hq, e⟩ := mem_expand h
      exact ⟨q, by simp [hq], e⟩
theorem shG_some {c : Int → Int} {s : Int} : ∀ {rs : List (Int × Int)} {k : Nat} {ix j : Int}, Pos rs → 0 < k → shG c s rs k ix = some j → ∃ m : Nat, j = ix + m ∧ ∃ y, (expand rs)[m]? = some y ∧ c y % s ≠ 0
  | [], _, _, _, _, _, e => by cases e
  | p :: r, k, ix, j, h, hk, e => by
    have hp := h p (by simp)
    unfold shG at e
    simp only [hk, if_true] at e
    split at e
    · rename_i hq
      cases e
      refine ⟨0, by simp, p.1, ?_, hq.2⟩
      rw [expand, List.getElem?_append_left (by simp; omega), List.getElem?_replicate, if_pos (by omega)]
    · obtain ⟨m, e1, y, e2, e3⟩ := shG_some (fun x hx => h x (by simp [hx])) (by omega) e
      refine ⟨p.2.toNat + m, by omega, y, ?_, e3⟩
      rw [expand, List.getElem?_append_right (by simp), List.length_replicate]
      rw [Nat.add_sub_cancel_left]; exact e2
theorem shG_none {c : Int → Int} {s : Int} : ∀ {rs : List (Int × Int)} {k : Nat} {ix : Int}, Pos rs → 0 < k → shG c s rs k ix = none → ∀ y ∈ expand rs, c y % s = 0
  | [], _, _, _, _, _, y, hy => by simp [expand] at hy
  | p :: r, k, ix, h, hk, e, y, hy => by
    have hp := h p (by simp)
    unfold shG at e
    simp only [hk, if_true] at e
    split at e
    · cases e
    · rename_i hq
      rw [expand] at hy
      rcases List.mem_append.mp hy with hy | hy
      · rw [(List.mem_replicate.mp hy).2]
        exact Decidable.byContradiction fun z => hq ⟨by omega, z⟩
      · exact shG_none (fun x hx => h x (by simp [hx])) (by omega) e y hy
/-- from the first run on -/
theorem shG0 {c : Int → Int} {s ix : Int} {p : Int × Int} {r : List (Int × Int)} (h : Pos (p :: r)) : (∀ j, shG c s (p :: r) 0 ix = some j → ∃ m : Nat, 0 < m ∧ j = ix + m ∧ ∃ y, (expand (p :: r))[m]? = some y ∧ c y % s ≠ 0) ∧
    (shG c s (p :: r) 0 ix = none → ∀ y ∈ List.replicate (p.2.toNat - 1) p.1 ++ expand r, c y % s = 0) := by
  have hp := h p (by simp)
  have hr : Pos r := fun x hx => h x (by simp [hx])
  unfold shG
  simp only [Nat.lt_irrefl, if_false]
  refine ⟨fun j e => ?_, fun e y hy => ?_⟩
  · split at e
    · rename_i hq
      cases e
      refine ⟨1, by omega, by simp, p.1, ?_, hq.2⟩
      rw [expand, List.getElem?_append_left (by simp; omega), List.getElem?_replicate, if_pos (by omega)]
    · obtain ⟨m, e1, y, e2, e3⟩ := shG_some hr (by omega) e
      refine ⟨p.2.toNat + m, by omega, by omega, y, ?_, e3⟩
      rw [expand, List.getElem?_append_right (by simp), List.length_replicate]
      rw [Nat.add_sub_cancel_left]; exact e2
  · split at e
    · cases e
    · rename_i hq
      rcases List.mem_append.mp hy with hy | hy
      · obtain ⟨h1, rfl⟩ := List.mem_replicate.mp hy
        exact Decidable.byContradiction fun z => hq ⟨by omega, z⟩
      · exact shG_none hr (by omega) e y hy
theorem shutAt_some {cs : List Int} {rs : List (Int × Int)} {s f j : Int} (h : Pos rs) (e : shutAt cs rs s = some (f, j)) : ∃ (a b : Nat) (x y : Int), f = a ∧ j = b ∧ a < b ∧ (expand rs)[a]? = some x ∧ (expand rs)[b]? = some y ∧ s ≤ x ∧ cutI cs y % s ≠ 0 := by
  unfold shutAt at e
  cases e1 : firstG s rs 0 0 with
  | none => simp [e1] at e
  | some q =>
    obtain ⟨a, i⟩ := q
    simp only [e1] at e
    obtain ⟨p, r, _, h2, h3, h4, h5, h6⟩ := firstG_some e1
    simp only [Nat.sub_zero] at h2 h4 h5 h6
    rw [h2] at e
    cases e2 : shG (cutI cs) s (p :: r) 0 i with
    | none => simp [e2] at e
    | some j' =>
      simp [e2] at e
      obtain ⟨rfl, rfl⟩ := e
      have hpr : Pos (p :: r) := fun x hx => h x (by rw [h4]; exact List.mem_append_right _ hx)
      have hpre : Pos (rs.take a) := fun x hx => h x (List.mem_of_mem_take hx)
      obtain ⟨m, m0, m1, y, m2, m3⟩ := (shG0 hpr).1 _ e2
      have hl := numG_len hpre
      have hE : expand rs = expand (rs.take a) ++ expand (p :: r) := by
        have := expand_append (rs.take a) (p :: r)
        rw [← h4] at this; exact this
      have hp := hpr p (by simp)
      refine ⟨(expand (rs.take a)).length, (expand (rs.take a)).length + m, p.1, y, by omega, by omega, by omega, ?_, ?_, h3, m3⟩
      · rw [hE, List.getElem?_append_right (Nat.le_refl _), Nat.sub_self, expand, List.getElem?_append_left (by simp; omega), List.getElem?_replicate, if_pos (by omega)]
      · rw [hE, List.getElem?_append_right (by omega), Nat.add_sub_cancel_left]; exact m2
theorem shutAt_none {cs : List Int} {rs : List (Int × Int)} {s : Int} (h : Pos rs) (e : shutAt cs rs s = none) : ¬ ExP (fun x => s ≤ x) (fun y => cutI cs y % s ≠ 0) (expand rs) := by
  unfold shutAt at e
  cases e1 : firstG s rs 0 0 with
  | none =>
    have h1 := firstG_none e1
    have : expand rs = expand rs ++ [] := by simp
    rw [this, exP_skip fun x hx => ?_]
    · exact fun z => z
    · obtain ⟨p, hp, rfl⟩ := mem_expand hx
      exact h1 p hp
  | some q =>
    obtain ⟨a, i⟩ := q
    simp only [e1] at e
    obtain ⟨p, r, _, h2, h3, h4, h5, h6⟩ := firstG_some e1
    simp only [Nat.sub_zero] at h2 h4 h5 h6
    rw [h2] at e
    have e2 : shG (cutI cs) s (p :: r) 0 i = none := by
      cases e2 : shG (cutI cs) s (p :: r) 0 i with
      | none => rfl
      | some j' => simp [e2] at e
    have hpr : Pos (p :: r) := fun x hx => h x (by rw [h4]; exact List.mem_append_right _ hx)
    have hE : expand rs = expand (rs.take a) ++ expand (p :: r) := by
      have := expand_append (rs.take a) (p :: r)
      rw [← h4] at this; exact this
    have hp := hpr p (by simp)
    have e3 := (shG0 hpr).2 e2
    have hE2 : expand (p :: r) = p.1 :: (List.replicate (p.2.toNat - 1) p.1 ++ expand r) := by
      rw [expand]
      obtain ⟨n, hn⟩ : ∃ n, p.2.toNat = n + 1 := ⟨p.2.toNat - 1, by omega⟩
      rw [hn, List.replicate_succ]; rfl
    rw [hE, exP_skip fun x hx => ?_, hE2, exP_head h3]
    · rintro ⟨y, hy, hq⟩
      exact hq (e3 y hy)
    · obtain ⟨q, hq, rfl⟩ := mem_expand hx
      exact h5 q hq
def good (cs E : List Int) (s : Int) (i j : Nat) : Prop := ∃ x y, E[i]? = some x ∧ E[j]? = some y ∧ s ≤ x ∧ cutI cs y % s ≠ 0
theorem isSh_iff {cs : List Int} {rs : List (Int × Int)} {s i j : Int} (h : Pos rs) : isSh cs rs s i j = true ↔ s ∈ cs ∧ ∃ a b : Nat, i = a ∧ j = b ∧ a < b ∧ good cs (expand rs) s a b := by
  unfold isSh
  rw [numG_len h]
  simp only [Bool.and_eq_true, decide_eq_true_eq]
  constructor
  · rintro ⟨h1, ⟨h2, h3, h4⟩, h5, h6⟩
    obtain ⟨a, rfl⟩ := Int.eq_ofNat_of_zero_le h2
    obtain ⟨b, rfl⟩ := Int.eq_ofNat_of_zero_le (by omega : 0 ≤ j)
    exact ⟨h1, a, b, rfl, rfl, by omega, _, _, roomG_get h (by omega), roomG_get h (by omega), h5, h6⟩
  · rintro ⟨h1, a, b, rfl, rfl, h2, x, y, h3, h4, h5, h6⟩
    have hb := (List.getElem?_eq_some_iff.mp h4).1
    rw [roomG_get h (by omega)] at h3
    rw [roomG_get h hb] at h4
    cases h3; cases h4
    exact ⟨h1, ⟨by omega, by omega, by omega⟩, h5, h6⟩
theorem shutIn_some {cs : List Int} {rs : List (Int × Int)} {s f j : Int} : ∀ {ss : List Int}, shutIn cs rs ss = some (s, f, j) → s ∈ ss ∧ shutAt cs rs s = some (f, j)
  | [], e => by cases e
  | t :: r, e => by
    unfold shutIn at e
    cases e1 : shutAt cs rs t with
    | none =>
      rw [e1] at e
      obtain ⟨h1, h2⟩ := shutIn_some e
      exact ⟨by simp [h1], h2⟩
    | some q =>
      obtain ⟨a, b⟩ := q
      rw [e1] at e
      cases e
      exact ⟨by simp, e1⟩
theorem shutIn_none {cs : List Int} {rs : List (Int × Int)} : ∀ {ss : List Int}, shutIn cs rs ss = none → ∀ s ∈ ss, shutAt cs rs s = none
  | [], _, s, hs => by simp at hs
  | t :: r, e, s, hs => by
    unfold shutIn at e
    cases e1 : shutAt cs rs t with
    | none =>
      rw [e1] at e
      rcases List.mem_cons.mp hs with rfl | hs
      · exact e1
      · exact shutIn_none e s hs
    | some q =>
      obtain ⟨a, b⟩ := q
      rw [e1] at e
      cases e
/-- what is told is a shutter -/
theorem told_isSh {cs : List Int} {rs : List (Int × Int)} {s f j : Int} (h : Pos rs) (e : shutIn cs rs cs = some (s, f, j)) : isSh cs rs s f j = true := by
  obtain ⟨h1, h2⟩ := shutIn_some e
  obtain ⟨a, b, x, y, k1, k2, k3, k4, k5, k6, k7⟩ := shutAt_some h h2
  exact (isSh_iff h).mpr ⟨h1, a, b, k1, k2, k3, x, y, k4, k5, k6, k7⟩
/-- open just if there is none -/
theorem open_iff {cs : List Int} {rs : List (Int × Int)} (h : Pos rs) : shutIn cs rs cs = none ↔ ∀ s ∈ cs, ¬ ExP (fun x => s ≤ x) (fun y => cutI cs y % s ≠ 0) (expand rs) := by
  constructor
  · exact fun e s hs => shutAt_none h (shutIn_none e s hs)
  · intro hn
    cases e : shutIn cs rs cs with
    | none => rfl
    | some q =>
      obtain ⟨s, f, j⟩ := q
      obtain ⟨h1, h2⟩ := shutIn_some e
      obtain ⟨a, b, x, y, k1, k2, k3, k4, k5, k6, k7⟩ := shutAt_some h h2
      exact absurd (exP_get.mpr ⟨a, b, x, y, k3, k4, k5, k6, k7⟩) (hn s h1)
def getI (E : List Int) (j : Int) : Int := E.getD j.toNat 0
def rngI (lo : Int) (n : Nat) : List Int := (List.range n).map fun i => lo + (i : Nat)
def dueJ (cs E : List Int) (s a : Int) (js : List Int) : List (Int × Int × Int) := js.flatMap fun j => if s ≤ getI E a ∧ cutI cs (getI E j) % s ≠ 0 then [(s, a, j)] else []
def dueA (cs E : List Int) (s : Int) (as : List Int) : List (Int × Int × Int) := as.flatMap fun a => dueJ cs E s a (rngI (a + 1) (E.length - (a + 1)).toNat)
def dueS (cs E : List Int) (ss : List Int) : List (Int × Int × Int) := ss.flatMap fun s => dueA cs E s (rngI 0 E.length)
theorem mem_rngI {lo : Int} {n : Nat} {x : Int} : x ∈ rngI lo n ↔ lo ≤ x ∧ x < lo + n := by
  unfold rngI
  rw [List.mem_map]
  constructor
  · rintro ⟨i, hi, rfl⟩
    have := List.mem_range.mp hi
    omega
  · rintro ⟨h1, h2⟩
    exact ⟨(x - lo).toNat, List.mem_range.mpr (by omega), by omega⟩
theorem getI_get {E : List Int} {j : Nat} (hj : j < E.length) : E[j]? = some (getI E (j : Int)) := by simp [getI, hj]
theorem mem_due {cs E : List Int} {s a j : Int} : (s, a, j) ∈ dueS cs E cs ↔ s ∈ cs ∧ ∃ m n : Nat, a = m ∧ j = n ∧ m < n ∧ good cs E s m n := by
  unfold dueS dueA dueJ
  simp only [List.mem_flatMap, mem_rngI]
  constructor
  · rintro ⟨s', hs, a', ⟨ha0, ha1⟩, j', ⟨hj0, hj1⟩, hm⟩
    split at hm
    · rename_i hq
      have : (s, a, j) = (s', a', j') := by simpa using hm
      cases this
      obtain ⟨m, rfl⟩ := Int.eq_ofNat_of_zero_le ha0
      obtain ⟨n, rfl⟩ := Int.eq_ofNat_of_zero_le (by omega : 0 ≤ j)
      exact ⟨hs, m, n, rfl, rfl, by omega, _, _, getI_get (by omega), getI_get (by omega), hq.1, hq.2⟩
    · simp at hm
  · rintro ⟨hs, m, n, rfl, rfl, hmn, x, y, h3, h4, h5, h6⟩
    have hn := (List.getElem?_eq_some_iff.mp h4).1
    refine ⟨s, hs, m, by omega, n, by omega, ?_⟩
    rw [getI_get (by omega)] at h3
    rw [getI_get hn] at h4
    cases h3; cases h4
    rw [if_pos ⟨h5, h6⟩]; simp
theorem due_nil {cs E : List Int} : dueS cs E cs = [] ↔ ∀ s ∈ cs, ¬ ExP (fun x => s ≤ x) (fun y => cutI cs y % s ≠ 0) E := by
  constructor
  · intro e s hs hx
    obtain ⟨i, j, x, y, h1, h2, h3, h4, h5⟩ := exP_get.mp hx
    have : (s, (i : Int), (j : Int)) ∈ dueS cs E cs := mem_due.mpr ⟨hs, i, j, rfl, rfl, h1, x, y, h2, h3, h4, h5⟩
    rw [e] at this; simp at this
  · intro hn
    cases e : dueS cs E cs with
    | nil => rfl
    | cons t r =>
      obtain ⟨s, a, j⟩ := t
      have : (s, a, j) ∈ dueS cs E cs := by rw [e]; simp
      obtain ⟨hs, m, n, _, _, h1, x, y, h2, h3, h4, h5⟩ := mem_due.mp this
      exact absurd (exP_get.mpr ⟨m, n, x, y, h1, h2, h3, h4, h5⟩) (hn s hs)
end W73

set_option maxHeartbeats 4000000
namespace W73
open PySem PySem.Spec PyProof.Rows L2 Cp
variable {l : Nat} {h : DH} {QD : D → DH → Prop} {X : Ex → DH → Prop} {T : Tq}
theorem frz_cell {xs : List D} (e : bnds h.length xs = true) : frz h.length (h ++ [.lst xs]) (.ref h.length) = some (.lst xs) := frz_new (Nat.le_refl _) get_push e
theorem merged_ok {rs : List (Int × Int)} (hl : rs.length ≤ 1000) {x : D} (hx : x = .tup (rs.map rD) ∨ x = .lst (rs.map rD)) : F_merged [x] h = .ok (.lst ((mergeR rs).map rD)) h := by
  refine RW.eq (run_plain ?_)
  have e1 : ∀ h', anyI x h' = some ⟨rs.map rD, always⟩ := fun h' => by rcases hx with rfl | rfl <;> rfl
  simp [d_merged, startD, e1]
  refine merged_loop rfl rs [] none none (by simpa using hl) fun a c => ?_
  have := frz_cell (h := h) (bnds_rs (n := h.length) (rs := rs.foldl mergeS []))
  simp [this, mergeR]
theorem lmerged_ok {rs : List (Int × Int)} (hl : rs.length ≤ 1000) {x : D} (hx : x = .tup (rs.map rD) ∨ x = .lst (rs.map rD)) : F__law_merged [x] h = .ok (.lst ((mergeR rs).map rD)) h := by
  refine RW.eq (run_plain ?_)
  have e1 : ∀ h', anyI x h' = some ⟨rs.map rD, always⟩ := fun h' => by rcases hx with rfl | rfl <;> rfl
  simp [d__law_merged, startD, e1]
  refine merged_loop rfl rs [] none none (by simpa using hl) fun a c => ?_
  have := frz_cell (h := h) (bnds_rs (n := h.length) (rs := rs.foldl mergeS []))
  simp [this, mergeR]
@[simp] theorem dMul_li {a : List D} {k : Int} : dMul (.lst a) (.int k) h = if decide (0 ≤ k) && decide (k ≤ 100000) && fine (a.length * k.toNat) then some (.lst (List.replicate k.toNat a).flatten) else none := rfl
theorem rep_one {n : Nat} {x : D} : (List.replicate n [x]).flatten = List.replicate n x := by
  induction n with
  | zero => rfl
  | succ n ih => rw [List.replicate_succ, List.flatten_cons, ih, List.replicate_succ]; rfl
theorem rooms_loop {s : Option D} : ∀ (rs : List (Int × Int)) (acc : List Int) (a c : Option D), Pos rs → acc.length + (expand rs).length ≤ 1000 → (∀ a c, T.nx [s, some (.ref h.length), a, c] (h ++ [.lst ((acc ++ expand rs).map .int)])) →
    SW (forD (gdPat (.tup (.cons (.nm 2) (.cons (.nm 3) .nil)))) lb__law_rooms_1 always (rs.map rD) [s, some (.ref h.length), a, c] (h ++ [.lst (acc.map .int)])) T
  | [], acc, a, c, _, _, q => by
    rw [List.map_nil, w_for_nil]
    have := q a c
    simp [expand] at this
    exact ⟨rfl, this⟩
  | p :: r, acc, a, c, hp, hl, q => by
    have hp2 := hp p (by simp)
    have hl' : acc.length + (p.2.toNat + (expand r).length) ≤ 1000 := by simpa [expand] using hl
    rw [List.map_cons, w_for_cons]
    have e1 : p.2 ≤ 100000 := by omega
    have e2 : 0 ≤ p.2 := by omega
    have e3 : fine p.2.toNat = true := fine_of (by omega)
    have e4 : fine (acc.length + p.2.toNat) = true := fine_of (by omega)
    have ih := rooms_loop r (acc ++ List.replicate p.2.toNat p.1) (some (.int p.1)) (some (.int p.2)) (fun x hx => hp x (by simp [hx])) (by simp; omega) (fun (a c : Option D) => show T.nx [s, some (.ref h.length), a, c] (h ++ [.lst ((acc ++ List.replicate p.2.toNat p.1 ++ expand r).map .int)]) from by
      have := q a c
      simpa [expand] using this)
    simp [lb__law_rooms_1, rD, goTq, e1, e2, e3, e4, rep_one]
    simpa [lb__law_rooms_1, rD] using ih
theorem rooms_ok {rs : List (Int × Int)} (hp : Pos rs) (hl : (expand rs).length ≤ 1000) : F__law_rooms [.lst (rs.map rD)] h = .ok (.lst ((expand rs).map .int)) h := by
  refine RW.eq (run_plain ?_)
  simp [d__law_rooms, startD]
  refine rooms_loop rs [] none none hp (by simpa using hl) fun a c => ?_
  have := frz_cell (h := h) (bnds_ints (n := h.length) (ns := [] ++ expand rs))
  simp at this ⊢
  exact this
def trD (t : Int × Int × Int) : D := .tup [.int t.1, .int t.2.1, .int t.2.2]
theorem rngD_ints {lo : Int} {n : Nat} : rngD lo n = (rngI lo n).map D.int := by simp [rngD, rngI]
theorem dIx_ints {E : List Int} {j : Int} (h0 : 0 ≤ j) (h1 : j < E.length) : atI (E.map D.int) j = some (.int (getI E j)) := by
  obtain ⟨n, rfl⟩ := Int.eq_ofNat_of_zero_le h0
  have hn : n < E.length := by omega
  rw [atI_nat (by simpa using hn)]
  simp [getI, hn]
section
variable {cs E : List Int} (kk : ChainOk cs)
theorem head_get (kk : ChainOk cs) : atI (cs.map D.int) 0 = some (.int (cs.headD 1)) ∧ 0 < cs.headD 1 := by
  obtain ⟨c, ds, rfl⟩ := List.exists_cons_of_ne_nil kk.ch.ne
  exact ⟨by simp, kk.pos c (by simp)⟩
theorem loopJ (kk : ChainOk cs) {s a : Int} (hs : 0 < s) (ha : 0 ≤ a ∧ a < E.length) {x1 : Option D} : ∀ (js : List Int) (acc : List (Int × Int × Int)) (u v : Option D), (∀ j ∈ js, 0 ≤ j ∧ j < E.length) → acc.length + js.length ≤ 90000 →
    (∀ u v, T.nx [some (.tup (cs.map .int)), x1, some (.lst (E.map .int)), some (.ref h.length), some (.int s), some (.int a), u, v] (h ++ [.lst ((acc ++ dueJ cs E s a js).map trD)])) →
    SW (forD (gdPat (.nm 6)) lb__law_shutters_1 always (js.map D.int) [some (.tup (cs.map .int)), x1, some (.lst (E.map .int)), some (.ref h.length), some (.int s), some (.int a), u, v] (h ++ [.lst (acc.map trD)])) T
  | [], acc, u, v, _, _, q => by
    rw [List.map_nil, w_for_nil]
    have := q u v
    simp [dueJ] at this
    exact ⟨rfl, this⟩
  | j :: r, acc, u, v, hj, hl, q => by
    obtain ⟨j0, j1⟩ := hj j (by simp)
    have e1 := dIx_ints (E := E) j0 j1
    have e2 := dIx_ints (E := E) ha.1 ha.2
    obtain ⟨c0, e3, e4, hcut⟩ : ∃ c0, atI (cs.map D.int) 0 = some (.int c0) ∧ 0 < c0 ∧ ∀ x, cutI cs x = x - x % c0 := ⟨_, (head_get kk).1, (head_get kk).2, fun _ => rfl⟩
    have hl' : acc.length + (r.length + 1) ≤ 90000 := by simpa using hl
    have e5 : fine acc.length = true := fine_of (by omega)
    rw [List.map_cons, w_for_cons]
    by_cases hq : s ≤ getI E a ∧ cutI cs (getI E j) % s ≠ 0
    · have e6 : dueJ cs E s a (j :: r) = (s, a, j) :: dueJ cs E s a r := by unfold dueJ; rw [List.flatMap_cons, if_pos hq]; rfl
      have ih := loopJ kk hs ha r (acc ++ [(s, a, j)]) (some (.int j)) (some (.int (cutI cs (getI E j)))) (fun x hx => hj x (by simp [hx])) (by simp; omega) (fun u v => show T.nx [some (.tup (cs.map .int)), x1, some (.lst (E.map .int)), some (.ref h.length), some (.int s), some (.int a), u, v] (h ++ [.lst ((acc ++ [(s, a, j)] ++ dueJ cs E s a r).map trD)]) from by
        have := q u v
        rw [e6] at this
        simpa using this)
      have q2 := hq.2
      rw [hcut] at q2 ih
      simp [lb__law_shutters_1, goTq, e1, e2, e3, e4, hs, hq.1, q2, e5]
      simpa [lb__law_shutters_1, trD] using ih
    · have e6 : dueJ cs E s a (j :: r) = dueJ cs E s a r := by unfold dueJ; rw [List.flatMap_cons, if_neg hq]; rfl
      have ih := loopJ kk hs ha r acc (some (.int j)) (some (.int (cutI cs (getI E j)))) (fun x hx => hj x (by simp [hx])) (by omega) (fun u v => show T.nx [some (.tup (cs.map .int)), x1, some (.lst (E.map .int)), some (.ref h.length), some (.int s), some (.int a), u, v] (h ++ [.lst ((acc ++ dueJ cs E s a r).map trD)]) from by
        have := q u v
        rw [e6] at this
        exact this)
      rw [hcut] at ih hq
      by_cases q1 : s ≤ getI E a
      · have q2 : (getI E j - getI E j % c0) % s = 0 := Decidable.byContradiction fun z => hq ⟨q1, z⟩
        simp [lb__law_shutters_1, goTq, e1, e2, e3, e4, hs, q1, q2, e5]
        simpa [lb__law_shutters_1] using ih
      · have q1' : getI E a < s := by omega
        simp [lb__law_shutters_1, goTq, e1, e2, e3, e4, hs, q1, q1', e5]
        simpa [lb__law_shutters_1] using ih
end
end W73

set_option maxHeartbeats 4000000
namespace W73
open PySem PySem.Spec PyProof.Rows L2 Cp
variable {l : Nat} {h : DH} {QD : D → DH → Prop} {X : Ex → DH → Prop} {T : Tq}
theorem dueJ_len {cs E : List Int} {s a : Int} (js : List Int) : (dueJ cs E s a js).length ≤ js.length := by
  induction js with
  | nil => simp [dueJ]
  | cons j r ih =>
    unfold dueJ at ih ⊢
    rw [List.flatMap_cons, List.length_append]
    split <;> simp only [List.length_cons, List.length_nil] <;> omega
@[simp] theorem rngI_len {lo : Int} {n : Nat} : (rngI lo n).length = n := by simp [rngI]
section
variable {cs E : List Int}
theorem loopA (kk : ChainOk cs) (hE : E.length ≤ 1000) {s : Int} (hs : 0 < s) {x1 : Option D} : ∀ (as : List Int) (acc : List (Int × Int × Int)) (t u v : Option D), (∀ a ∈ as, 0 ≤ a ∧ a < E.length) → acc.length + as.length * E.length ≤ 90000 →
    (∀ t u v, T.nx [some (.tup (cs.map .int)), x1, some (.lst (E.map .int)), some (.ref h.length), some (.int s), t, u, v] (h ++ [.lst ((acc ++ dueA cs E s as).map trD)])) →
    SW (forD (gdPat (.nm 5)) lb__law_shutters_2 always (as.map D.int) [some (.tup (cs.map .int)), x1, some (.lst (E.map .int)), some (.ref h.length), some (.int s), t, u, v] (h ++ [.lst (acc.map trD)])) T
  | [], acc, t, u, v, _, _, q => by
    rw [List.map_nil, w_for_nil]
    have := q t u v
    simp [dueA] at this
    exact ⟨rfl, this⟩
  | a :: r, acc, t, u, v, ha, hl, q => by
    obtain ⟨a0, a1⟩ := ha a (by simp)
    have hl' : acc.length + (r.length * E.length + E.length) ≤ 90000 := by
      have : (a :: r).length * E.length = r.length * E.length + E.length := by rw [List.length_cons, Nat.add_mul]; simp
      omega
    rw [List.map_cons, w_for_cons]
    have b1 : -4611686018427387904 ≤ a + 1 ∧ a + 1 < 4611686018427387904 := by omega
    have b2 : -4611686018427387904 ≤ (E.length : Int) ∧ (E.length : Int) < 4611686018427387904 := by omega
    have e6 : dueA cs E s (a :: r) = dueJ cs E s a (rngI (a + 1) (E.length - (a + 1)).toNat) ++ dueA cs E s r := rfl
    have dl := dueJ_len (cs := cs) (E := E) (s := s) (a := a) (rngI (a + 1) (E.length - (a + 1)).toNat)
    rw [rngI_len] at dl
    have ih := fun u v => loopA kk hE hs r (acc ++ dueJ cs E s a (rngI (a + 1) (E.length - (a + 1)).toNat)) (some (.int a)) u v (fun x hx => ha x (by simp [hx])) (by simp; omega) (fun t u v => show T.nx [some (.tup (cs.map .int)), x1, some (.lst (E.map .int)), some (.ref h.length), some (.int s), t, u, v] (h ++ [.lst ((acc ++ dueJ cs E s a (rngI (a + 1) (E.length - (a + 1)).toNat) ++ dueA cs E s r).map trD)]) from by
      have := q t u v
      rw [e6] at this
      rwa [List.append_assoc])
    simp [lb__law_shutters_2, b1, b2, rngD_ints]
    have rl : ((E.length : Int) - (a + 1)).toNat ≤ E.length := by omega
    refine loopJ kk hs ⟨a0, a1⟩ _ acc u v (fun j hj => ?_) (by simp; omega) fun u v => ?_
    · have := mem_rngI.mp hj
      omega
    · exact ih u v
theorem dueA_len {s : Int} : ∀ as : List Int, (∀ a ∈ as, 0 ≤ a) → (dueA cs E s as).length ≤ as.length * E.length
  | [], _ => by simp [dueA]
  | a :: as, h0 => by
    have ih := dueA_len (s := s) as fun x hx => h0 x (by simp [hx])
    have ha0 := h0 a (by simp)
    have dl := dueJ_len (cs := cs) (E := E) (s := s) (a := a) (rngI (a + 1) (E.length - (a + 1)).toNat)
    rw [rngI_len] at dl
    have e : dueA cs E s (a :: as) = dueJ cs E s a (rngI (a + 1) (E.length - (a + 1)).toNat) ++ dueA cs E s as := rfl
    have : (a :: as).length * E.length = as.length * E.length + E.length := by rw [List.length_cons, Nat.add_mul]; simp
    rw [e, List.length_append]
    omega
theorem loopS (kk : ChainOk cs) (hE : E.length ≤ 60) {N : Nat} (hN : N ≤ 90000) {x1 : Option D} : ∀ (ss : List Int) (acc : List (Int × Int × Int)) (y t u v : Option D), (∀ s ∈ ss, 0 < s) → acc.length + ss.length * (E.length * E.length) ≤ N →
    (∀ y t u v, T.nx [some (.tup (cs.map .int)), x1, some (.lst (E.map .int)), some (.ref h.length), y, t, u, v] (h ++ [.lst ((acc ++ dueS cs E ss).map trD)])) →
    SW (forD (gdPat (.nm 4)) lb__law_shutters_3 always (ss.map D.int) [some (.tup (cs.map .int)), x1, some (.lst (E.map .int)), some (.ref h.length), y, t, u, v] (h ++ [.lst (acc.map trD)])) T := by
  intro ss
  induction ss with
  | nil =>
    intro acc y t u v _ _ q
    rw [List.map_nil, w_for_nil]
    have := q y t u v
    simp [dueS] at this
    exact ⟨rfl, this⟩
  | cons s r ihh =>
    intro acc y t u v ha hl q
    have s0 := ha s (by simp)
    have hl' : acc.length + (r.length * (E.length * E.length) + E.length * E.length) ≤ N := by
      have : (s :: r).length * (E.length * E.length) = r.length * (E.length * E.length) + E.length * E.length := by rw [List.length_cons, Nat.add_mul]; simp
      omega
    rw [List.map_cons, w_for_cons]
    have b2 : -4611686018427387904 ≤ (E.length : Int) ∧ (E.length : Int) < 4611686018427387904 := by omega
    have e6 : dueS cs E (s :: r) = dueA cs E s (rngI 0 E.length) ++ dueS cs E r := by unfold dueS; rw [List.flatMap_cons]
    have dl := dueA_len (cs := cs) (E := E) (s := s) (rngI 0 E.length) fun x hx => (mem_rngI.mp hx).1
    rw [rngI_len] at dl
    have ih := fun t u v => ihh (acc ++ dueA cs E s (rngI 0 E.length)) (some (.int s)) t u v (fun x hx => ha x (by simp [hx])) (by simp; omega) (fun y t u v => show T.nx [some (.tup (cs.map .int)), x1, some (.lst (E.map .int)), some (.ref h.length), y, t, u, v] (h ++ [.lst ((acc ++ dueA cs E s (rngI 0 E.length) ++ dueS cs E r).map trD)]) from by
      have := q y t u v
      rw [e6] at this
      rwa [List.append_assoc])
    simp [lb__law_shutters_3, b2, rngD_ints]
    refine loopA kk (by omega) s0 _ acc t u v (fun j hj => ?_) (by simp; omega) fun t u v => ?_
    · have := mem_rngI.mp hj
      omega
    · exact ih t u v
theorem bnds_tr {n : Nat} {ts : List (Int × Int × Int)} : bnds n (ts.map trD) = true := bnds_all fun x hx => by
  obtain ⟨p, _, rfl⟩ := List.mem_map.mp hx
  simp [trD]
theorem lshutters_ok (kk : ChainOk cs) {rs : List (Int × Int)} (hp : Pos rs) (hl : (expand rs).length ≤ 60) : F__law_shutters [.tup (cs.map .int), .lst (rs.map rD)] h = .ok (.lst ((dueS cs (expand rs) cs).map trD)) h := by
  refine RW.eq (run_plain ?_)
  simp [d__law_shutters, startD, rooms_ok hp (by omega)]
  refine ⟨_, _, ⟨rfl, rfl⟩, loopS kk hl (Nat.le_refl 90000) cs [] _ _ _ _ kk.pos ?_ fun y t u v => ?_⟩
  · have h1 := kk.len
    have h2 : (expand rs).length * (expand rs).length ≤ 60 * 60 := Nat.mul_le_mul hl hl
    have h3 : cs.length * ((expand rs).length * (expand rs).length) ≤ 12 * (60 * 60) := Nat.mul_le_mul h1 h2
    simp; omega
  · have := frz_cell (h := h) (bnds_tr (n := h.length) (ts := dueS cs (expand rs) cs))
    simp [this]
end
end W73

set_option maxHeartbeats 4000000
namespace W73
open PySem PySem.Spec PyProof.Rows L2 Cp
variable {l : Nat} {h : DH} {QD : D → DH → Prop} {X : Ex → DH → Prop} {T : Tq}
theorem run_set {N : List Str} {b : DSt} {ds : List D} (hb : SW (b (startD N ds) h) { nx := fun _ h1 => ∃ l c, h1 = h.set l c ∧ bndC h.length c = true ∧ QD .non (h.set l c), rt := fun _ _ => False, exc := fun _ _ => False }) : RW (runF N b ds h) QD X := by
  unfold runF outF
  cases e : b (startD N ds) h with
  | nx sd h1 =>
    rw [e] at hb
    obtain ⟨l, c, rfl, hc, q⟩ := hb
    have e1 : (h.set l c).take h.length = h.set l c := List.take_of_length_le (by simp)
    simp [Nat.ble_eq, e1, okC_set hc]
    exact q
  | rt d h1 => rw [e] at hb; exact hb.elim
  | exc x h1 => rw [e] at hb; exact hb.elim
  | _ => rw [e] at hb; exact hb.elim
def RunsOk (rs : List (Int × Int)) : Prop := (∀ p ∈ rs, RunOk p) ∧ rs.length ≤ 40
theorem init_ok {rs : List (Int × Int)} (hr : RunsOk rs) : F_Store___init__ [.ref h.length, .tup (rs.map rD)] (h ++ [Cell.ins "Store" []]) = .ok .non (h ++ [Cell.ins "Store" [("own_runs", .tup ((mergeR rs).map rD))]]) := by
  refine RW.eq (run_set ?_)
  have hl := hr.2
  have hm : (mergeR rs).length ≤ 40 := by
    have := foldl_len rs []
    simp [mergeR] at this ⊢; omega
  have hm' : ((mergeR rs).length : Int) ≤ 40 := by omega
  have hm'' : ¬ (40 : Int) < (mergeR rs).length := by omega
  have key : (rs.map rD).length = 1 → ∃ p, rs.map rD = [rD p] := fun e => by
    match rs, e with
    | [p], _ => exact ⟨p, rfl⟩
  have rest : ∀ (sd : Sl), sd = [some (.ref h.length), some (.tup (rs.map rD)), none, none] → SW (sSeq (sIf (bNot (bVal (eCB cAll (asCons (eLc [3] (iAny (eV 1)) (.nm 3) (quiet (bYes)) (quiet (eCall F_is_run [] (asCons (eV 3) (asNil))))) (asNil))))) (sNo) (sNil)) (
      sSeq (sSet 2 (eCall F_merged [] (asCons (eV 1) (asNil)))) (
      sSeq (sIf (bO2 dGt (eCB cLen (asCons (eV 2) (asNil))) (eK (.int (40)))) (sNo) (sNil)) (
      sFldSet "Store" "own_runs" (eV 0) (eCB cTuple (asCons (eV 2) (asNil)))))) sd (h ++ [Cell.ins "Store" []])) { nx := fun _ h1 => ∃ l c, h1 = (h ++ [Cell.ins "Store" []]).set l c ∧ bndC (h ++ [Cell.ins "Store" []]).length c = true ∧ (.non = D.non ∧ (h ++ [Cell.ins "Store" []]).set l c = h ++ [Cell.ins "Store" [("own_runs", .tup ((mergeR rs).map rD))]]), rt := fun _ _ => False, exc := fun _ _ => False } := by
    rintro sd rfl
    simp
    refine comp_map (fun _ => .bl true) rfl (by simp; omega) (fun d hd => ?_) ?_
    · obtain ⟨p, hp, rfl⟩ := List.mem_map.mp hd
      exact ⟨_, pat_nm, rfl, RW.eq (by simp [wipeD, isrun_ok (hr.1 p hp)])⟩
    · refine ⟨_, all_true, rfl, ?_⟩
      have e1 := merged_ok (h := h ++ [Cell.ins "Store" []]) (rs := rs) (by omega) (x := .tup (rs.map rD)) (.inl rfl)
      simp [e1, hm', hm'']
      refine ⟨h.length, _, set_push.symm, ?_, ?_⟩
      · simp [bndC, bndf, putD, bnds_rs]
      · simp [putD]
  simp only [d_Store___init__, startD]
  rw [w_sIf]
  by_cases e : rs.length = 1
  · obtain ⟨p, hp⟩ := key (by simpa using e)
    have e1 : (rs.length : Int) = 1 := by omega
    have e2 : k_Row (.ty "tuple") = some false := rfl
    have := rest _ rfl
    simp [e1, hp, rD] at this ⊢
    simpa using this
  · have e1 : ¬ (rs.length : Int) = 1 := by omega
    have := rest _ rfl
    simp [e1]
    simpa using this
theorem make_ok {rs : List (Int × Int)} (hr : RunsOk rs) : mkF "Store" (starF F_Store___init__) (rs.map rD) h = .ok (storeD (mergeR rs)) h := by
  unfold mkF starF
  dsimp only
  rw [init_ok hr]
  have e : frz h.length (h ++ [Cell.ins "Store" [("own_runs", .tup ((mergeR rs).map rD))]]) (.ref h.length) = some (storeD (mergeR rs)) := by
    simp [frz, bndf, bnds_rs, storeD]
  simp [Nat.ble_eq, e]
end W73

set_option maxHeartbeats 4000000
namespace W73
open PySem PySem.Spec PyProof.Rows L2 Cp
variable {l : Nat} {h : DH} {QD : D → DH → Prop} {X : Ex → DH → Prop} {T : Tq}
theorem eq_empty {rs : List (Int × Int)} : dEq (.lst (rs.map rD)) (.lst []) h = some rs.isEmpty := by
  have := ne_empty (h := h) (x := .lst (rs.map rD)) (rs := rs) (.inl rfl)
  unfold dNe at this
  cases e : dEq (.lst (rs.map rD)) (.lst []) h with
  | none => rw [e] at this; cases this
  | some b =>
    rw [e] at this
    cases b <;> cases hh : rs.isEmpty <;> simp [hh] at this ⊢
theorem bnd_store {n : Nat} {rs : List (Int × Int)} : bnd n (storeD rs) = true := by simp [storeD, bnd, bndf, bnds_rs]
theorem frz_store {n : Nat} {rs : List (Int × Int)} : frz n h (storeD rs) = some (storeD rs) := by
  have := bnd_store (n := n) (rs := rs)
  unfold storeD at *
  simp [frz, this]
theorem if_skip {t : DM Bool} {a b : DSt} {sd : Sl} (ht : t sd h = .ok false h) (k : SW (b sd h) T) : SW (sSeq (sIf t a sNil) b sd h) T := by
  rw [w_sSeq, w_sIf, ht]
  exact ⟨(fun z => by cases z), (fun _ => k)⟩
theorem if_take {t : DM Bool} {a b : DSt} {sd : Sl} (ht : t sd h = .ok true h) (k : SW (a sd h) { T with nx := fun sd h => SW (b sd h) T }) : SW (sSeq (sIf t a sNil) b sd h) T := by
  rw [w_sSeq, w_sIf, ht]
  exact ⟨(fun _ => k), (fun z => by cases z)⟩
theorem eqE {xs : List D} {sd : Sl} {b : Bool} (e : dEq (.lst xs) (.lst []) h = some b) : bO2 dEq (eV 0) (eLst asNil) (some (.lst xs) :: sd) h = .ok b h := by
  refine RW.eq ?_
  simp [e]
theorem lenE {xs : List D} {sd : Sl} {b : Bool} {k : Int} (e : decide ((xs.length : Int) = k) = b) : bO2 dEq (eCB cLen (asCons (eV 0) asNil)) (eK (.int k)) (some (.lst xs) :: sd) h = .ok b h := by
  refine RW.eq ?_
  simp [e]
theorem made_ok {rs : List (Int × Int)} (hr : RunsOk rs) (hl : rs.length ≤ 8) : F__law_made_store [.lst (rs.map rD)] h = .ok (storeD (mergeR rs)) h := by
  refine RW.eq (run_plain ?_)
  have mk := make_ok (h := h) hr
  have fz := frz_store (h := h) (n := h.length) (rs := mergeR rs)
  have ee := eq_empty (h := h) (rs := rs)
  have r8 : (List.replicate 8 [D.non]).flatten = [.non, .non, .non, .non, .non, .non, .non, .non] := rfl
  have fn : ∀ n, n ≤ 20 → fine n = true := fun n hn => fine_of (by omega)
  simp only [d__law_made_store, startD]
  match rs, hl, mk, fz, ee with
  | [], _, mk, fz, ee =>
    simp only [List.map_cons, List.map_nil, List.isEmpty_cons, List.isEmpty_nil] at mk ee ⊢
    rw [w_sSeq, w_sSet]
    simp [r8, fn, dAdd, -w_sSeq]
    rw [w_sSeq, w_sUnl]
    simp [dSl, Cp.cutD, HT.sIx, -w_sSeq]
    refine if_take (eqE ee) ?_
    simp [mk, fz]
  | [a], _, mk, fz, ee =>
    simp only [List.map_cons, List.map_nil, List.isEmpty_cons, List.isEmpty_nil] at mk ee ⊢
    rw [w_sSeq, w_sSet]
    simp [r8, fn, dAdd, -w_sSeq]
    rw [w_sSeq, w_sUnl]
    simp [dSl, Cp.cutD, HT.sIx, -w_sSeq]
    refine if_skip (eqE ee) ?_
    refine if_take (lenE rfl) ?_
    simp [mk, fz]
  | [a, b], _, mk, fz, ee =>
    simp only [List.map_cons, List.map_nil, List.isEmpty_cons, List.isEmpty_nil] at mk ee ⊢
    rw [w_sSeq, w_sSet]
    simp [r8, fn, dAdd, -w_sSeq]
    rw [w_sSeq, w_sUnl]
    simp [dSl, Cp.cutD, HT.sIx, -w_sSeq]
    refine if_skip (eqE ee) ?_
    refine if_skip (lenE rfl) ?_
    refine if_take (lenE rfl) ?_
    simp [mk, fz]
  | [a, b, c], _, mk, fz, ee =>
    simp only [List.map_cons, List.map_nil, List.isEmpty_cons, List.isEmpty_nil] at mk ee ⊢
    rw [w_sSeq, w_sSet]
    simp [r8, fn, dAdd, -w_sSeq]
    rw [w_sSeq, w_sUnl]
    simp [dSl, Cp.cutD, HT.sIx, -w_sSeq]
    refine if_skip (eqE ee) ?_
    refine if_skip (lenE rfl) ?_
    refine if_skip (lenE rfl) ?_
    refine if_take (lenE rfl) ?_
    simp [mk, fz]
  | [a, b, c, d], _, mk, fz, ee =>
    simp only [List.map_cons, List.map_nil, List.isEmpty_cons, List.isEmpty_nil] at mk ee ⊢
    rw [w_sSeq, w_sSet]
    simp [r8, fn, dAdd, -w_sSeq]
    rw [w_sSeq, w_sUnl]
    simp [dSl, Cp.cutD, HT.sIx, -w_sSeq]
    refine if_skip (eqE ee) ?_
    refine if_skip (lenE rfl) ?_
    refine if_skip (lenE rfl) ?_
    refine if_skip (lenE rfl) ?_
    refine if_take (lenE rfl) ?_
    simp [mk, fz]
  | [a, b, c, d, e], _, mk, fz, ee =>
    simp only [List.map_cons, List.map_nil, List.isEmpty_cons, List.isEmpty_nil] at mk ee ⊢
    rw [w_sSeq, w_sSet]
    simp [r8, fn, dAdd, -w_sSeq]
    rw [w_sSeq, w_sUnl]
    simp [dSl, Cp.cutD, HT.sIx, -w_sSeq]
    refine if_skip (eqE ee) ?_
    refine if_skip (lenE rfl) ?_
    refine if_skip (lenE rfl) ?_
    refine if_skip (lenE rfl) ?_
    refine if_skip (lenE rfl) ?_
    refine if_take (lenE rfl) ?_
    simp [mk, fz]
  | [a, b, c, d, e, f], _, mk, fz, ee =>
    simp only [List.map_cons, List.map_nil, List.isEmpty_cons, List.isEmpty_nil] at mk ee ⊢
    rw [w_sSeq, w_sSet]
    simp [r8, fn, dAdd, -w_sSeq]
    rw [w_sSeq, w_sUnl]
    simp [dSl, Cp.cutD, HT.sIx, -w_sSeq]
    refine if_skip (eqE ee) ?_
    refine if_skip (lenE rfl) ?_
    refine if_skip (lenE rfl) ?_
    refine if_skip (lenE rfl) ?_
    refine if_skip (lenE rfl) ?_
    refine if_skip (lenE rfl) ?_
    refine if_take (lenE rfl) ?_
    simp [mk, fz]
  | [a, b, c, d, e, f, g], _, mk, fz, ee =>
    simp only [List.map_cons, List.map_nil, List.isEmpty_cons, List.isEmpty_nil] at mk ee ⊢
    rw [w_sSeq, w_sSet]
    simp [r8, fn, dAdd, -w_sSeq]
    rw [w_sSeq, w_sUnl]
    simp [dSl, Cp.cutD, HT.sIx, -w_sSeq]
    refine if_skip (eqE ee) ?_
    refine if_skip (lenE rfl) ?_
    refine if_skip (lenE rfl) ?_
    refine if_skip (lenE rfl) ?_
    refine if_skip (lenE rfl) ?_
    refine if_skip (lenE rfl) ?_
    refine if_skip (lenE rfl) ?_
    refine if_take (lenE rfl) ?_
    simp [mk, fz]
  | [a, b, c, d, e, f, g, i], _, mk, fz, ee =>
    simp only [List.map_cons, List.map_nil, List.isEmpty_cons, List.isEmpty_nil] at mk ee ⊢
    rw [w_sSeq, w_sSet]
    simp [r8, fn, dAdd, -w_sSeq]
    rw [w_sSeq, w_sUnl]
    simp [dSl, Cp.cutD, HT.sIx, -w_sSeq]
    refine if_skip (eqE ee) ?_
    refine if_skip (lenE rfl) ?_
    refine if_skip (lenE rfl) ?_
    refine if_skip (lenE rfl) ?_
    refine if_skip (lenE rfl) ?_
    refine if_skip (lenE rfl) ?_
    refine if_skip (lenE rfl) ?_
    refine if_skip (lenE rfl) ?_
    simp [mk, fz]
end W73

set_option maxHeartbeats 4000000
namespace W73
open PySem PySem.Spec PyProof.Rows L2 Cp
variable {l : Nat} {h : DH} {QD : D → DH → Prop} {X : Ex → DH → Prop} {T : Tq}
def SmallI (l m : Nat) (h : DH) (g most n : Int) (i : Nat) (sd : Sl) (h' : DH) : Prop := (i : Int) ≤ n ∧ ∃ (rs : List (Int × Int)) (t : Option D), rs.length = i ∧ (∀ p ∈ rs, (1 ≤ p.1 ∧ p.1 ≤ g) ∧ p.2 = 1) ∧ h'[m]? = some (.lst (rs.map rD)) ∧ Dx l h h' ∧ sd = [some (.ref l), some (.int g), some (.int most), some (.ref m), t]
theorem small_ok {g : Int} (dd : DiceAt l h) (g0 : 0 < g) (g1 : g < 2 ^ 60) (q : ∀ (rs : List (Int × Int)) h', (∀ p ∈ rs, (1 ≤ p.1 ∧ p.1 ≤ g) ∧ 1 ≤ p.2 ∧ p.2 ≤ 5) → rs.length ≤ 5 → h'.length = h.length → Dx l h h' → QD (.lst (rs.map rD)) h') : RW (F__law_small_store [.ref l, .int g, .int 5] h) QD X := by
  refine run_dice dd ?_
  have hm : h.length ≠ l := by have := dd.lt; omega
  have k0 := (Dx.refl dd).push (.lst [])
  simp [d__law_small_store, startD]
  refine roll_ok k0.at_ (by omega) (by omega) fun n hb n0 n1 k4 k5 => ?_
  have k6 := k0.trans k5
  have hc : hb[h.length]? = some (.lst []) := k5.get hm (by simp)
  simp
  refine ⟨by omega, for_inv (SmallI l h.length h g 5 (n + 1)) ?_ ?_ ?_⟩
  · exact ⟨by omega, [], none, rfl, by simp, hc, k6, rfl⟩
  · rintro i d sd h' hd ⟨hi, rs, t, c2, c3, c4, c5, rfl⟩
    obtain ⟨hi, rfl⟩ := rngD_get hd
    simp [lb__law_small_store_1, c4]
    refine roll_ok c5.at_ g0 (by omega) fun s h3 s0 s1 k7 k8 => ?_
    have c6 := k8.get hm c4
    simp [c6]
    refine ⟨fine_of (by omega), by omega, rs ++ [(1 + s, 1)], _, by simp [c2], fun p hp => ?_, ?_, ((c5.trans k8).set dd (by omega) _), rfl⟩
    · rcases List.mem_append.mp hp with hp | hp
      · exact c3 p hp
      · have : p = (1 + s, 1) := by simpa using hp
        rw [this]
        exact ⟨⟨by show 1 ≤ 1 + s; omega, by show 1 + s ≤ g; omega⟩, rfl⟩
    · rw [List.getElem?_set_self (List.getElem?_eq_some_iff.mp c6).1]
      simp [rD]
  · rintro sd h' ⟨hi, rs, t, c2, c3, c4, c5, rfl⟩
    simp at c2
    simp
    refine roll_ok c5.at_ (by omega) (by omega) fun s h3 s0 s1 k7 k8 => ?_
    have c6 := k8.get hm c4
    have c7 := c5.trans k8
    have hlen : rs.length ≤ 5 := by omega
    obtain ⟨p, r, rfl⟩ : ∃ p r, rs = p :: r := by
      cases rs with
      | nil => simp at c2; omega
      | cons p r => exact ⟨p, r, rfl⟩
    have fin : ∀ (rs' : List (Int × Int)) (m : Nat) (h4 : DH), h.length ≤ m → h4[m]? = some (.lst (rs'.map rD)) → Dx l h h4 → (∀ p ∈ rs', (1 ≤ p.1 ∧ p.1 ≤ g) ∧ 1 ≤ p.2 ∧ p.2 ≤ 5) → rs'.length ≤ 5 →
        RW (F__law_roll [.ref l, .int 12] h4) (fun x h1 => ∃ d, dGt x (.int 0) h1 = some d ∧ ((d = true → Dx l h h1 ∧ ∃ d', frz h.length h1 (.ref m) = some d' ∧ ∀ h', h'.length = h.length → Dx l h h' → QD d' h') ∧ (d = false → Dx l h h1 ∧ ∃ d', frz h.length h1 (.lst []) = some d' ∧ ∀ h', h'.length = h.length → Dx l h h' → QD d' h'))) fun _ _ => False := by
      intro rs' m h4 hm4 e4 x4 b4 l4
      refine roll_ok x4.at_ (by omega) (by omega) fun s h3 s0 s1 k7 k8 => ?_
      have e5 := k8.get (m := m) (by have := dd.lt; omega) e4
      have x5 := x4.trans k8
      refine ⟨_, dGt_ii, fun _ => ⟨x5, _, frz_new hm4 e5 bnds_rs, fun h' k1 k2 => q rs' h' b4 l4 k1 k2⟩, fun _ => ⟨x5, _, frz_lst (by simp), fun h' k1 k2 => q [] h' (by simp) (by simp) k1 k2⟩⟩
    have lenc : cLen [.ref h.length] h3 = some (.int ((p :: r).length : Int)) := by
      have := cLen_1 (items_ref c6); simpa using this
    have pp := c3 p (by simp)
    by_cases hs : s = 0
    · have it := items_ref c6
      rw [List.map_cons] at it
      have z := fin [(p.1, ((p :: r).length : Int))] h3.length (h3 ++ [.lst ([(p.1, ((p :: r).length : Int))].map rD)]) (by have := c7.len; omega) get_push (c7.push _) (fun x hx => by
        have : x = (p.1, ((p :: r).length : Int)) := by simpa using hx
        rw [this]
        exact ⟨pp.1, by show 1 ≤ ((p :: r).length : Int); simp; omega, by show ((p :: r).length : Int) ≤ 5; omega⟩) (by simp)
      simp [hs, it, rD, lenc]
      simpa [rD] using z
    · have z := fin (p :: r) h.length h3 (Nat.le_refl _) c6 c7 (fun x hx => by
        have := c3 x hx
        exact ⟨this.1, by omega, by omega⟩) hlen
      simp [hs]
      simpa using z
end W73

set_option maxHeartbeats 4000000
namespace W73
open PySem PySem.Spec PyProof.Rows L2 Cp
variable {l : Nat} {h : DH} {QD : D → DH → Prop} {X : Ex → DH → Prop} {T : Tq}
def LongI (l m : Nat) (h : DH) (n : Int) (i : Nat) (sd : Sl) (h' : DH) : Prop := (i : Int) ≤ n ∧ ∃ (cs : List Int) (t u : Option D), Ch cs ∧ cs.length = i + 1 ∧ (∀ c ∈ cs, c ≤ 5 * 100005 ^ i) ∧ h'[m]? = some (.lst (cs.map D.int)) ∧ Dx l h h' ∧ sd = [some (.ref l), some (.ref m), t, u]
theorem pow5 {a b : Nat} (h : a ≤ b) : (100005 : Int) ^ a ≤ 100005 ^ b := by
  have e : ∀ k : Nat, (100005 : Int) ^ k = ((100005 ^ k : Nat) : Int) := fun k => (Int.natCast_pow 100005 k).symm
  rw [e, e]
  exact Int.ofNat_le.mpr (Nat.pow_le_pow_right (by omega) h)
theorem long_ok (dd : DiceAt l h) (q : ∀ (cs : List Int) h', ChainOk cs → (∀ c ∈ cs, c ≤ 10 ^ 26) → cs.length ≤ 6 → h'.length = h.length → Dx l h h' → QD (.tup (cs.map D.int)) h') : RW (F__law_long_chain [.ref l] h) QD X := by
  refine run_dice dd ?_
  simp [d__law_long_chain, startD]
  refine roll_ok dd (by omega) (by omega) fun r ha r0 r1 k1 k2 => ?_
  have k3 := k2.push (.lst [.int (1 + r)])
  simp
  refine roll_ok k3.at_ (by omega) (by omega) fun n hb n0 n1 k4 k5 => ?_
  have k6 := k3.trans k5
  have hm : ha.length ≠ l := by have := k2.at_.lt; omega
  have hc : hb[ha.length]? = some (.lst [.int (1 + r)]) := k5.get hm (by simp)
  have nn : ((n.toNat : Nat) : Int) = n := Int.toNat_of_nonneg n0
  simp
  refine ⟨by omega, for_inv (LongI l ha.length h n) ?_ ?_ ?_⟩
  · exact ⟨by omega, [1 + r], none, none, (show 1 ≤ 1 + r by omega), rfl, fun c hc => by simp at hc ⊢; omega, hc, k6, rfl⟩
  · rintro i d sd h' hd ⟨hi, cs, t, u, c1, c2, c3, c4, c5, rfl⟩
    obtain ⟨hi, rfl⟩ := rngD_get hd
    -- the step: what it multiplies by
    have step : ∀ (s : Int) (h3 : DH), 2 ≤ s → s ≤ 100004 → Dx l h' h3 → SW (sExpr (eApp (eV 1) (eO2 dMul (eO2 dIx (eV 1) (eO1 dNeg (eK (.int 1)))) (eV 3))) [some (.ref l), some (.ref ha.length), some (.int (0 + (i : Int))), some (.int s)] h3) { nx := LongI l ha.length h n (i + 1), ct := LongI l ha.length h n (i + 1), bk := fun _ _ => False, rt := fun _ _ => False, exc := fun _ _ => False } := by
      intro s h3 s0 s1 k8
      have c6 := k8.get hm c4
      obtain ⟨a, a1, a2, a3⟩ := c1.grow (k := s) s0
      have m1 : mulOk a s = true := mulOk_r (by omega) (by omega)
      simp [c6, items_ref c6, a1, m1]
      refine ⟨fine_of (by omega), by omega, cs ++ [a * s], _, _, a3, by simp [c2], fun c hc => ?_, ?_, ((c5.trans k8).set dd (by omega) _), rfl⟩
      · have pw : (100005 : Int) ^ (i + 1) = 100005 ^ i * 100005 := Int.pow_succ 100005 i
        have p0 : (0 : Int) < 100005 ^ i := Int.pow_pos (by decide)
        rcases List.mem_append.mp hc with hc | hc
        · have := c3 c hc
          omega
        · have e : c = a * s := by simpa using hc
          have ha := c3 a a2
          have h4 : a * s ≤ a * 100005 := Int.mul_le_mul_of_nonneg_left (by omega) (by have := c1.pos a a2; omega)
          omega
      · rw [List.getElem?_set_self (List.getElem?_eq_some_iff.mp c6).1]
        simp
    refine ⟨rfl, _, pat_nm, ?_⟩
    unfold lb__law_long_chain_1
    rw [w_sSeq, w_sSet, w_eIf, w_bO2]
    simp [-w_sExpr]
    refine roll_ok c5.at_ (by omega) (by omega) fun s h3 s0 s1 k7 k8 => ?_
    have step : ∀ (s : Int) (h3 : DH), 2 ≤ s → s ≤ 100004 → Dx l h' h3 → SW (sExpr (eApp (eV 1) (eO2 dMul (eO2 dIx (eV 1) (eO1 dNeg (eK (.int 1)))) (eV 3))) [some (.ref l), some (.ref ha.length), some (.int (i : Int)), some (.int s)] h3) { nx := LongI l ha.length h n (i + 1), ct := LongI l ha.length h n (i + 1), bk := fun _ _ => False, rt := fun _ _ => False, exc := fun _ _ => False } := fun s h3 a b c => by
      have := step s h3 a b c
      rwa [Int.zero_add] at this
    by_cases hs : 0 < s
    · simp [hs, -w_sExpr]
      refine roll_ok k8.at_ (by omega) (by omega) fun s' h4 s0' s1' k7' k8' => ?_
      refine ⟨_, dAdd_ii, (step _ _ (by omega) (by omega) (k8.trans k8')).mono (fun _ _ z => z) (fun _ _ z => z.elim) (fun _ _ z => z) (fun _ _ z => z.elim) (fun _ _ z => z)⟩
    · simp [hs, -w_sExpr]
      refine roll_ok k8.at_ (by omega) (by omega) fun s' h4 s0' s1' k7' k8' => ?_
      refine ⟨_, dAdd_ii, (step _ _ (by omega) (by omega) (k8.trans k8')).mono (fun _ _ z => z) (fun _ _ z => z.elim) (fun _ _ z => z) (fun _ _ z => z.elim) (fun _ _ z => z)⟩
  · rintro sd h' ⟨hi, cs, t, u, c1, c2, c3, c4, c5, rfl⟩
    simp at c2 c3
    simp [seq_ref c4, c5]
    have hb : ∀ c ∈ cs, c ≤ 10 ^ 26 := fun c hc => by
      have := c3 c hc
      have h2 := pow5 (show n.toNat ≤ 5 by omega)
      have h3 : (5 : Int) * 100005 ^ 5 ≤ 10 ^ 26 := by decide
      omega
    refine ⟨_, frz_tup bnds_ints, fun h' k1 k2 => q cs h' ⟨c1, by omega, fun c hc => Int.lt_of_le_of_lt (hb c hc) (by decide)⟩ hb (by omega) k1 k2⟩
end W73

set_option maxHeartbeats 4000000
namespace W73
open PySem PySem.Spec PyProof.Rows L2 Cp
variable {l : Nat} {h : DH} {QD : D → DH → Prop} {X : Ex → DH → Prop} {T : Tq}
def GreatI (l : Nat) (h : DH) (w : Int) (i : Nat) (sd : Sl) (h' : DH) : Prop := ∃ (f : Int) (t : Option D), 0 ≤ f ∧ f + 1 ≤ 100003 ^ i ∧ Dx l h h' ∧ sd = [some (.ref l), some (.int 1), some (.int w), some (.int f), t]
theorem great_ok (dd : DiceAt l h) (q : ∀ r h', 1 ≤ r → r ≤ 10 ^ 31 → h'.length = h.length → Dx l h h' → QD (.int r) h') : RW (F__law_great [.ref l, .int 1] h) QD X := by
  refine run_dice dd ?_
  simp [d__law_great, startD, -w_sFor]
  refine roll_ok dd (by omega) (by omega) fun w ha w0 w1 k1 k2 => ?_
  refine ⟨_, _, ⟨rfl, rfl⟩, ?_⟩
  have key : ∀ n : Nat, n ≤ 6 → SW (forD (gdPat (.nm 4)) lb__law_great_1 always (rngD 0 n) [some (.ref l), some (.int 1), some (.int w), some (.int 0), none] ha)
      { nx := fun sd h_1 => ∃ (f : Int) (t : Option D), 0 ≤ f ∧ f ≤ 10 ^ 31 - 1 ∧ Dx l h h_1 ∧ sd = [some (.ref l), some (.int 1), some (.int w), some (.int f), t], rt := fun _ _ => False, exc := fun _ _ => False } := by
    intro n hn
    refine for_inv (GreatI l h w) ?_ ?_ ?_
    · exact ⟨0, none, by omega, by decide, k2, rfl⟩
    · rintro i d sd h' hd ⟨f, t, f0, f1, c5, rfl⟩
      obtain ⟨hi, rfl⟩ := rngD_get hd
      have m1 : mulOk f 100003 = true := mulOk_r (by decide) (by decide)
      simp [lb__law_great_1, m1]
      refine roll_ok c5.at_ (by omega) (by omega) fun s h3 s0 s1 k7 k8 => ?_
      refine ⟨_, dAdd_ii, f * 100003 + s, _, by omega, ?_, c5.trans k8, rfl⟩
      have pw : (100003 : Int) ^ (i + 1) = 100003 ^ i * 100003 := Int.pow_succ 100003 i
      omega
    · rintro sd h' ⟨f, t, f0, f1, c5, rfl⟩
      refine ⟨rfl, f, t, f0, ?_, c5, rfl⟩
      simp at f1
      have e : ∀ k : Nat, (100003 : Int) ^ k = ((100003 ^ k : Nat) : Int) := fun k => (Int.natCast_pow 100003 k).symm
      have h2 : (100003 : Int) ^ n ≤ 100003 ^ 6 := by
        rw [e, e]
        exact Int.ofNat_le.mpr (Nat.pow_le_pow_right (by omega) hn)
      have h3 : (100003 : Int) ^ 6 ≤ 10 ^ 31 := by decide
      omega
  have fin : ∀ (f : Int) (h' : DH), 0 ≤ f → f ≤ 10 ^ 31 - 1 → Dx l h h' → ∀ t, RW (eO2 dAdd (eV 1) (eIf (bO2 dLt (eV 2) (eK (.int 2))) (eV 3) (eO2 dMod (eV 3) (eK (.int 7)))) [some (.ref l), some (.int 1), some (.int w), some (.int f), t] h') (fun d h1 => Dx l h h1 ∧ ∃ d', frz h.length h1 d = some d' ∧ ∀ h', h'.length = h.length → Dx l h h' → QD d' h') fun _ _ => False := by
    intro f h' f0 f1 x t
    by_cases hw : w < 2
    · have hw' : ¬ 2 ≤ w := by omega
      simp [hw, hw', x]
      exact fun h' k1 k2 => q _ h' (by omega) (by omega) k1 k2
    · have hw' : 2 ≤ w := by omega
      simp [hw, hw', x]
      exact fun h' k1 k2 => q _ h' (by omega) (by omega) k1 k2
  rw [w_sFor]
  by_cases hw : w = 0
  · simp [hw] at key fin ⊢
    refine (key 6 (by omega)).mono (fun sd h' z => ?_) (fun _ _ z => z.elim) (fun _ _ z => z) (fun _ _ z => z.elim) (fun _ _ z => z.elim)
    obtain ⟨f, f0, f1, c5, t, rfl⟩ := z
    have := fin f h' f0 f1 c5
    simp at this ⊢
    exact this
  · simp [hw] at key fin ⊢
    refine (key 1 (by omega)).mono (fun sd h' z => ?_) (fun _ _ z => z.elim) (fun _ _ z => z) (fun _ _ z => z.elim) (fun _ _ z => z.elim)
    obtain ⟨f, f0, f1, c5, t, rfl⟩ := z
    have := fin f h' f0 f1 c5
    simp at this ⊢
    exact this
end W73

set_option maxHeartbeats 4000000
namespace W73
open PySem PySem.Spec PyProof.Rows L2 Cp
variable {l : Nat} {h : DH} {QD : D → DH → Prop} {X : Ex → DH → Prop} {T : Tq}
def BigOk (rs : List (Int × Int)) : Prop := (∀ p ∈ rs, (1 ≤ p.1 ∧ p.1 ≤ 10 ^ 28) ∧ 1 ≤ p.2 ∧ p.2 ≤ 10 ^ 31) ∧ rs.length ≤ 5
def GsI (l m : Nat) (h : DH) (cs : List Int) (n : Int) (i : Nat) (sd : Sl) (h' : DH) : Prop := (i : Int) ≤ n ∧ ∃ (rs : List (Int × Int)) (t u : Option D), rs.length = i ∧ (∀ p ∈ rs, (1 ≤ p.1 ∧ p.1 ≤ 10 ^ 28) ∧ 1 ≤ p.2 ∧ p.2 ≤ 10 ^ 31) ∧ h'[m]? = some (.lst (rs.map rD)) ∧ Dx l h h' ∧ sd = [some (.ref l), some (.tup (cs.map .int)), some (.ref m), t, u]
theorem gs_ok {cs : List Int} (kk : ChainOk cs) (hb : ∀ c ∈ cs, c ≤ 10 ^ 26) (dd : DiceAt l h) (q : ∀ (rs : List (Int × Int)) h', BigOk rs → h'.length = h.length → Dx l h h' → QD (.lst (rs.map rD)) h') : RW (F__law_great_store [.ref l, .tup (cs.map .int)] h) QD X := by
  refine run_dice dd ?_
  have hm : h.length ≠ l := by have := dd.lt; omega
  have k0 := (Dx.refl dd).push (.lst [])
  have hcs : 0 < cs.length := List.length_pos_iff.mpr kk.ch.ne
  have hcl : cs.length < 2 ^ 60 := by have := kk.len; omega
  simp [d__law_great_store, startD]
  refine roll_ok k0.at_ (by omega) (by omega) fun n hb' n0 n1 k4 k5 => ?_
  have k6 := k0.trans k5
  have hc : hb'[h.length]? = some (.lst []) := k5.get hm (by simp)
  simp
  refine ⟨by omega, for_inv (GsI l h.length h cs (1 + n)) ?_ ?_ ?_⟩
  · exact ⟨by omega, [], none, none, rfl, by simp, hc, k6, rfl⟩
  · rintro i d sd h' hd ⟨hi, rs, t, u, c2, c3, c4, c5, rfl⟩
    obtain ⟨hi, rfl⟩ := rngD_get hd
    simp [lb__law_great_store_1]
    refine pick_ok c5.at_ (fun _ => rfl) hcs hcl fun a ha am _ x1 => ?_
    have a0 := kk.pos a am
    have a1 := hb a am
    refine roll_ok x1.at_ (by omega) (by omega) fun b hb2 b0 b1 _ x2 => ?_
    have m1 : mulOk a (1 + b) = true := mulOk_r (by omega) (by omega)
    simp [m1]
    refine pick_ok (ns := [1, 3, 9]) x2.at_ (fun _ => rfl) (by simp) (by simp) fun e he em _ x3 => ?_
    have e0 : 0 < e ∧ e ≤ 9 := by
      simp at em
      omega
    refine roll_ok x3.at_ e0.1 (by omega) fun f hf f0 f1 _ x4 => ?_
    have x14 := ((x1.trans x2).trans x3).trans x4
    have c6 := x14.get hm c4
    simp [c6]
    refine roll_ok x4.at_ (by omega) (by omega) fun g hg g0 g1 _ x5 => ?_
    refine pick_ok x5.at_ (fun _ => rfl) hcs hcl fun a2 ha2 am2 _ x6 => ?_
    have a20 := kk.pos a2 am2
    have a21 := hb a2 am2
    have m2 : mulOk g a2 = true := mulOk_l (by omega) (by omega)
    simp [m2]
    refine great_ok x6.at_ fun v hv v0 v1 _ x7 => ?_
    have x17 := (((x14.trans x5).trans x6).trans x7)
    have c7 := x17.get hm c4
    have ml : a * (1 + b) ≤ a * 4 := Int.mul_le_mul_of_nonneg_left (by omega) (by omega)
    have mp : a * 1 ≤ a * (1 + b) := Int.mul_le_mul_of_nonneg_left (by omega) (by omega)
    have nl : g * a2 ≤ 1 * a2 := Int.mul_le_mul_of_nonneg_right (by omega) (by omega)
    have np : 0 ≤ g * a2 := Int.mul_nonneg g0 (by omega)
    simp [c7]
    refine ⟨fine_of (by omega), by omega, rs ++ [(a * (1 + b) + f + g * a2, v)], _, _, by simp [c2], fun p hp => ?_, ?_, ((c5.trans x17).set dd (by omega) _), rfl⟩
    · rcases List.mem_append.mp hp with hp | hp
      · exact c3 p hp
      · have : p = (a * (1 + b) + f + g * a2, v) := by simpa using hp
        rw [this]
        refine ⟨⟨?_, ?_⟩, v0, v1⟩
        · show 1 ≤ a * (1 + b) + f + g * a2
          omega
        · show a * (1 + b) + f + g * a2 ≤ 10 ^ 28
          omega
    · rw [List.getElem?_set_self (List.getElem?_eq_some_iff.mp c7).1]
      simp [rD]
  · rintro sd h' ⟨hi, rs, t, u, c2, c3, c4, c5, rfl⟩
    simp at c2
    simp [c5]
    exact ⟨_, frz_new (Nat.le_refl _) c4 bnds_rs, fun h' k1 k2 => q rs h' ⟨c3, by omega⟩ k1 k2⟩
end W73

set_option maxHeartbeats 4000000
namespace W73
open PySem PySem.Spec PyProof.Rows L2 Cp
variable {l : Nat} {h : DH} {QD : D → DH → Prop} {X : Ex → DH → Prop} {T : Tq}
theorem ne_repr {b c : Bool} : dNe (.str (if b = true then "True" else "False")) (.str (if c = true then "True" else "False")) h = some (b != c) := by
  have k1 : PyData.canLay0 (.str "True") = true := by decide +kernel
  have k2 : PyData.canLay0 (.str "False") = true := by decide +kernel
  cases b <;> cases c <;> simp [dNe, dEq, eqDepth, toPy, k1, k2, PyData.eqv] <;> decide
theorem eqv3 {a b c x y z : Int} : PyData.eqv (.tuple [.int a, .int b, .int c]) (.tuple [.int x, .int y, .int z]) = decide ((a, b, c) = (x, y, z)) := by
  simp only [PyData.eqv, PyData.eqvAll]
  by_cases h1 : a = x
  · by_cases h2 : b = y
    · by_cases h3 : c = z
      · simp [h1, h2, h3]
      · simp [h1, h2, h3]
    · simp [h1, h2]
  · simp [h1]
theorem toPy_tr {n : Nat} {t : Int × Int × Int} : toPy h (n + 2) (trD t) = some (.tuple [.int t.1, .int t.2.1, .int t.2.2]) := by
  unfold trD; rw [toPy]
  have := toPys_ints (h := h) (n := n) [t.1, t.2.1, t.2.2]
  have e2 : toPys h (n + 1) [D.int t.1, D.int t.2.1, D.int t.2.2] = some [PyData.int t.1, PyData.int t.2.1, PyData.int t.2.2] := this
  rw [e2]; rfl
theorem toPys_tr {n : Nat} : ∀ (ts : List (Int × Int × Int)), toPys h (n + 2) (ts.map trD) = some (ts.map fun t => .tuple [.int t.1, .int t.2.1, .int t.2.2])
  | [] => by rw [List.map_nil, toPys]; rfl
  | t :: r => by rw [List.map_cons, toPys, toPy_tr, toPys_tr r]; rfl
theorem in_tr {s i j : Int} {ts : List (Int × Int × Int)} : dInT (.tup [.int s, .int i, .int j]) (.lst (ts.map trD)) h = some (decide ((s, i, j) ∈ ts)) := by
  unfold dInT
  dsimp only
  unfold dIn
  rw [seq_lst]
  have e1 : toPy h eqDepth (.tup [.int s, .int i, .int j]) = some (.tuple [.int s, .int i, .int j]) := toPy_tr (t := (s, i, j))
  have e2 : toPys h eqDepth (ts.map trD) = some (ts.map fun t => .tuple [.int t.1, .int t.2.1, .int t.2.2]) := toPys_tr ts
  simp only [e1, e2]
  congr 1
  rw [List.any_map]
  clear e2
  induction ts with
  | nil => rfl
  | cons t r ih =>
    rw [List.any_cons, ih]
    simp only [Function.comp, eqv3]
    by_cases ht : (s, i, j) = t
    · simp [ht.symm]
    · have : ¬ (t.1, t.2.1, t.2.2) = (s, i, j) := fun z => ht z.symm
      simp [ht, this]
theorem notin_tr {s i j : Int} {ts : List (Int × Int × Int)} : dNotIn (.tup [.int s, .int i, .int j]) (.lst (ts.map trD)) h = some (!decide ((s, i, j) ∈ ts)) := by
  unfold dNotIn; rw [in_tr]; rfl
theorem eq_tr {ts : List (Int × Int × Int)} : dEq (.lst (ts.map trD)) (.lst []) h = some ts.isEmpty := by
  unfold dEq
  have e1 : toPy h eqDepth (.lst (ts.map trD)) = some (.list (ts.map fun t => .tuple [.int t.1, .int t.2.1, .int t.2.2])) := by rw [eqDepth, toPy, toPys_tr]; rfl
  have e2 : toPy h eqDepth (.lst []) = some (.list []) := by rw [eqDepth, toPy, toPys]; rfl
  rw [e1, e2]
  cases ts <;> rfl
theorem eq_nil : dEq (.lst []) (.lst []) h = some true := eq_tr (ts := [])
/-- the odd values -/
theorem tail8 {cs : List Int} (kk : ChainOk cs) {ms : List (Int × Int)} (hl : ms.length ≤ 100000) {d0 x2 x4 x5 x6 x7 x8 : Option D} (q : T.rt (.bl true) h) : SW (tl__law_right_8 [d0, some (.tup (cs.map .int)), x2, some (storeD ms), x4, x5, x6, x7, x8] h) T := by
  obtain ⟨c0, e3, e4, hcut⟩ : ∃ c0, atI (cs.map D.int) 0 = some (.int c0) ∧ 0 < c0 ∧ ∀ x, cutI cs x = x - x % c0 := ⟨_, (head_get kk).1, (head_get kk).2, fun _ => rfl⟩
  have c1 : c0 < 10 ^ 60 := by
    obtain ⟨c, ds, rfl⟩ := List.exists_cons_of_ne_nil kk.ch.ne
    have := kk.lim c (by simp)
    simp at e3
    omega
  have fn : ∀ n, n ≤ 20 → fine n = true := fun n hn => fine_of (by omega)
  simp [tl__law_right_8, e3, fn]
  have hv : ∀ v, v ∈ [D.non, .int 0, .tup [], .lst [.int 1, .int 0, .int 1], .tup [.int c0, .int 0], .tup [.int c0, .int 0, .int 0], .tup [.int c0, .int (-1), .int 0], .tup [.non, .int 0, .int 1], .tup [.int c0, .bl true, .int 2], .dct []] → F_is_shutter [.tup (cs.map .int), storeD ms, v] h = .ok (.bl false) h := by
    intro v hv
    have cn : ∀ i : Int, -5 < i → i < 10 ^ 60 → F_is_count [.int i] h = .ok (.bl (decide (0 ≤ i))) h := fun i a b => iscount_i (by omega) b
    have cf : D → Bool := fun _ => false
    let f : D → Bool := fun d => match d with
      | .int i => decide (0 ≤ i)
      | _ => false
    have hf : ∀ d, d ∈ [D.int c0, .int (-1), .int 0, .int 1, .int 2, .non, .bl true] → F_is_count [d] h = .ok (.bl (f d)) h := by
      intro d hd
      simp at hd
      rcases hd with rfl | rfl | rfl | rfl | rfl | rfl | rfl
      · exact cn _ (by omega) c1
      · exact cn _ (by omega) (by omega)
      · exact cn _ (by omega) (by omega)
      · exact cn _ (by omega) (by omega)
      · exact cn _ (by omega) (by omega)
      · simp [f]
      · simp [f]
    simp at hv
    rcases hv with rfl | rfl | rfl | rfl | rfl | rfl | rfl | rfl | rfl | rfl
    · exact issh_tag kk tag_non kt_non
    · exact issh_tag kk tag_int kt_int
    · exact issh_len kk (by simp)
    · exact issh_tag kk tag_lst kt_lst
    · exact issh_len kk (by simp)
    · rw [issh_ok kk hl ⟨by omega, c1⟩ ⟨by omega, by omega⟩ ⟨by omega, by omega⟩]
      simp [isSh]
    · exact issh_cnt kk f (fun d hd => hf d (by simp at hd ⊢; rcases hd with rfl | rfl | rfl <;> simp)) (by simp [f])
    · exact issh_cnt kk f (fun d hd => hf d (by simp at hd ⊢; rcases hd with rfl | rfl | rfl <;> simp)) (by simp [f])
    · exact issh_cnt kk f (fun d hd => hf d (by simp at hd ⊢; rcases hd with rfl | rfl | rfl <;> simp)) (by simp [f])
    · exact issh_tag kk tag_dct kt_dct
  refine comp_inv (fun i acc h' => acc = [] ∧ h' = h) ⟨rfl, rfl⟩ (fun i d acc h' hd hI => ?_) fun acc h' hI => ?_
  · obtain ⟨rfl, rfl⟩ := hI
    have := hv d (List.mem_of_getElem? hd)
    refine ⟨rfl, _, pat_nm, ?_⟩
    simp [wipeD, this]
  · obtain ⟨rfl, rfl⟩ := hI
    simp [eq_nil]
    exact q
end W73

set_option maxHeartbeats 4000000
namespace W73
open PySem PySem.Spec PyProof.Rows L2 Cp
variable {l : Nat} {h : DH} {QD : D → DH → Prop} {X : Ex → DH → Prop} {T : Tq}
theorem ne_bb {b c : Bool} : dNe (.bl b) (.bl c) h = some (b != c) := by
  cases b <;> cases c <;> simp [dNe, dEq, eqDepth, toPy, PyData.eqv]
structure Agree (cs : List Int) (ms : List (Int × Int)) (ts : List (Int × Int × Int)) : Prop where
  ch : ChainOk cs
  len : ms.length ≤ 100000
  none_ : shutIn cs ms cs = none ↔ ts = []
  told : ∀ s f j, shutIn cs ms cs = some (s, f, j) → (s, f, j) ∈ ts ∧ isSh cs ms s f j = true ∧ (0 ≤ s ∧ s < 10 ^ 60) ∧ (0 ≤ f ∧ f < 10 ^ 60) ∧ (0 ≤ j ∧ j < 10 ^ 60)
  sh : ∀ s i j, isSh cs ms s i j = decide ((s, i, j) ∈ ts)
def R7I (l : Nat) (h : DH) (a : List (Option D)) (i : Nat) (sd : Sl) (h' : DH) : Prop := Dx l h h' ∧ ∃ x6 x7 x8, sd = some (.ref l) :: (a ++ [x6, x7, x8])
theorem tail7 {cs : List Int} {ms : List (Int × Int)} {ts : List (Int × Int × Int)} (A : Agree cs ms ts) (dd : DiceAt l h) {x2 x5 x6 x7 x8 : Option D} (q : ∀ h', Dx l h h' → T.rt (.bl true) h') : SW (tl__law_right_7 [some (.ref l), some (.tup (cs.map .int)), x2, some (storeD ms), some (.lst (ts.map trD)), x5, x6, x7, x8] h) T := by
  have kk := A.ch
  obtain ⟨a, a1, a2, a3⟩ := kk.ch.grow (k := 2) (by omega)
  have ap := kk.pos a a2
  have al := kk.lim a a2
  have fn : ∀ n, n ≤ 20 → fine n = true := fun n hn => fine_of (by omega)
  have fc : fine (cs.length + 1) = true := fine_of (by have := kk.len; omega)
  simp [tl__law_right_7]
  refine for_inv (R7I l h [some (.tup (cs.map .int)), x2, some (storeD ms), some (.lst (ts.map trD)), x5]) ⟨Dx.refl dd, _, _, _, rfl⟩ ?_ ?_
  · rintro i d sd h' hd ⟨x, y6, y7, y8, rfl⟩
    obtain ⟨hi, rfl⟩ := rngD_get hd
    have m1 : mulOk a 2 = true := mulOk_r (by decide) (by decide)
    simp [lb__law_right_1, a1, m1, dAdd, fc]
    refine pick_ok (ns := cs ++ [a * 2]) x.at_ (fun _ => by simp) (by simp) (by have := kk.len; simp; omega) fun s ha sm _ x1 => ?_
    have s0 : 0 < s ∧ s < 10 ^ 50 := by
      rcases List.mem_append.mp sm with sm | sm
      · have := kk.pos s sm
        have := kk.lim s sm
        omega
      · have : s = a * 2 := by simpa using sm
        omega
    refine roll_ok x1.at_ (by omega) (by omega) fun b hb b0 b1 _ x2 => ?_
    refine roll_ok x2.at_ (by omega) (by omega) fun c hc c0 c1 _ x3 => ?_
    have e1 := issh_ok (h := hc) kk A.len (s := s) (i := b) (j := c) (by omega) (by omega) (by omega)
    rw [A.sh] at e1
    have g := ((x.trans x1).trans x2).trans x3
    have n1 : dNe (.str "True") (.str "True") hc = some false := ne_repr (b := true) (c := true)
    have n2 : dNe (.str "False") (.str "False") hc = some false := ne_repr (b := false) (c := false)
    rw [e1, rw_ok]
    by_cases hm : (s, b, c) ∈ ts
    · simp [in_tr, hm, n1]
      exact ⟨g, _, _, _, rfl⟩
    · simp [in_tr, hm, n2]
      exact ⟨g, _, _, _, rfl⟩
  · rintro sd h' ⟨x, y6, y7, y8, rfl⟩
    exact ⟨rfl, tail8 kk A.len (q h' x)⟩
theorem tail5 {cs : List Int} {ms : List (Int × Int)} {ts : List (Int × Int × Int)} (A : Agree cs ms ts) (dd : DiceAt l h) {x2 x6 x7 x8 : Option D} (q : ∀ h', Dx l h h' → T.rt (.bl true) h') : SW (tl__law_right_5 [some (.ref l), some (.tup (cs.map .int)), x2, some (storeD ms), some (.lst (ts.map trD)), some (tripD (shutIn cs ms cs)), x6, x7, x8] h) T := by
  have kk := A.ch
  have n1 : dNe (.str "True") (.str "True") h = some false := ne_repr (b := true) (c := true)
  have n2 : dNe (.str "False") (.str "False") h = some false := ne_repr (b := false) (c := false)
  have e0 := isopen_ok (h := h) kk (rs := ms)
  cases e : shutIn cs ms cs with
  | none =>
    have et := A.none_.mp e
    subst et
    have z := tail7 (T := T) A dd (x2 := x2) (x5 := some .non) (x6 := x6) (x7 := x7) (x8 := x8) q
    simp at z
    simp [tl__law_right_5, e0, e, tripD, eq_nil, n1, ne_bb]
    exact z
  | some t =>
    obtain ⟨s, f, j⟩ := t
    obtain ⟨h1, h2, h3, h4, h5⟩ := A.told s f j e
    have hne : ts.isEmpty = false := by
      cases ts with
      | nil => simp at h1
      | cons a r => rfl
    have z := tail7 (T := T) A dd (x2 := x2) (x5 := some (.tup [.int s, .int f, .int j])) (x6 := x6) (x7 := x7) (x8 := x8) q
    have e1 := issh_ok (h := h) kk A.len h3 h4 h5
    rw [h2] at e1
    have e2 := eq_tr (h := h) (ts := ts)
    rw [hne] at e2
    simp [tl__law_right_5, e0, e, tripD, e2, n2, ne_bb, notin_tr, h1, e1]
    exact z
end W73

set_option maxHeartbeats 4000000
namespace W73
open PySem PySem.Spec PyProof.Rows L2 Cp
variable {l : Nat} {h : DH} {QD : D → DH → Prop} {X : Ex → DH → Prop} {T : Tq}
def SmallOk (rs : List (Int × Int)) : Prop := (∀ p ∈ rs, (1 ≤ p.1 ∧ p.1 ≤ 10 ^ 6) ∧ 1 ≤ p.2 ∧ p.2 ≤ 5) ∧ rs.length ≤ 5
theorem SmallOk.pos {rs : List (Int × Int)} (h : SmallOk rs) : Pos rs := fun p hp => (h.1 p hp).2.1
theorem expand_le : ∀ {rs : List (Int × Int)}, (∀ p ∈ rs, p.2 ≤ 5) → (expand rs).length ≤ 5 * rs.length
  | [], _ => by simp [expand]
  | p :: r, h => by
    have ih := expand_le (rs := r) fun x hx => h x (by simp [hx])
    have := h p (by simp)
    simp [expand]; omega
theorem SmallOk.exp {rs : List (Int × Int)} (h : SmallOk rs) : (expand rs).length ≤ 60 := by
  have := expand_le fun p hp => (h.1 p hp).2.2
  have := h.2
  omega
theorem agree {cs : List Int} (kk : ChainOk cs) {rs : List (Int × Int)} (hp : Pos rs) (hl : (expand rs).length ≤ 60) (hm : rs.length ≤ 1000) : Agree cs (mergeR rs) (dueS cs (expand rs) cs) := by
  obtain ⟨e1, e2⟩ := merge_expand hp
  have sh : ∀ s i j, isSh cs (mergeR rs) s i j = decide ((s, i, j) ∈ dueS cs (expand rs) cs) := fun s i j => by
    have : isSh cs (mergeR rs) s i j = true ↔ (s, i, j) ∈ dueS cs (expand rs) cs := by rw [isSh_iff e2, mem_due, e1]
    cases hb : isSh cs (mergeR rs) s i j with
    | true => rw [hb] at this; simp [this.mp rfl]
    | false =>
      have hn : (s, i, j) ∉ dueS cs (expand rs) cs := fun z => by rw [hb] at this; exact absurd (this.mpr z) (by simp)
      simp [hn]
  refine ⟨kk, ?_, ?_, fun s f j e => ?_, sh⟩
  · have := foldl_len rs []
    simp [mergeR] at this ⊢; omega
  · rw [open_iff e2, due_nil, e1]
  · have h1 := told_isSh e2 e
    have h2 := sh s f j
    rw [h1] at h2
    have h2 := of_decide_eq_true h2.symm
    obtain ⟨hs, m, n, rfl, rfl, hmn, x, y, _, h4, _⟩ := mem_due.mp h2
    have hn := (List.getElem?_eq_some_iff.mp h4).1
    have := kk.pos s hs
    have := kk.lim s hs
    exact ⟨h2, h1, ⟨by omega, by omega⟩, ⟨by omega, by omega⟩, ⟨by omega, by omega⟩⟩
theorem tail3 {cs : List Int} (kk : ChainOk cs) {rs : List (Int × Int)} (hr : SmallOk rs) (dd : DiceAt l h) {x3 x4 x5 x6 x7 x8 : Option D} (q : ∀ h', Dx l h h' → T.rt (.bl true) h') : SW (tl__law_right_3 [some (.ref l), some (.tup (cs.map .int)), some (.lst (rs.map rD)), x3, x4, x5, x6, x7, x8] h) T := by
  have e1 := made_ok (h := h) (rs := rs) ⟨fun p hp => by
    have := hr.1 p hp
    exact ⟨this.1.1, by omega, this.2.1, by omega⟩, by have := hr.2; omega⟩ (by have := hr.2; omega)
  have e2 := lshutters_ok (h := h) kk hr.pos hr.exp
  have e3 := shutter_ok (h := h) kk (rs := mergeR rs)
  have z := tail5 (T := T) (agree kk hr.pos hr.exp (by have := hr.2; omega)) dd (x2 := some (.lst (rs.map rD))) (x6 := x6) (x7 := x7) (x8 := x8) q
  simp [tl__law_right_3, e1, e2, e3]
  exact z
def R3I (l : Nat) (h : DH) (i : Nat) (acc : List D) (h' : DH) : Prop := Dx l h h' ∧ ∃ rs : List (Int × Int), acc = rs.map rD ∧ rs.length = i ∧ ∀ p ∈ rs, (1 ≤ p.1 ∧ p.1 ≤ 10 ^ 6) ∧ 1 ≤ p.2 ∧ p.2 ≤ 5
theorem right_ok (dd : DiceAt l h) (q : ∀ h', h'.length = h.length → Dx l h h' → QD (.bl true) h') : RW (F__law_right [.ref l] h) QD X := by
  refine run_dice dd ?_
  simp [d__law_right, startD]
  refine chain_ok dd (by omega) (by omega) (by omega) (by omega) fun cs h1 c1 c2 c3 _ x1 => ?_
  have c4 : ∀ c ∈ cs, c ≤ 192 := fun c hc => by
    have := c3 c hc
    have e : (3 : Int) * 4 ^ ((4 : Int).toNat - 1) = 192 := by decide
    omega
  have kk : ChainOk cs := ⟨c1, by omega, fun c hc => by have := c4 c hc; omega⟩
  obtain ⟨a, a1, a2, a3⟩ := c1.grow (k := 2) (by omega)
  have ap := kk.pos a a2
  have al := c4 a a2
  simp [a1]
  refine small_ok x1.at_ (by omega) (by omega) fun rs h2 r1 r2 _ x2 => ?_
  have x12 := x1.trans x2
  refine roll_ok x2.at_ (by omega) (by omega) fun w h3 w0 w1 _ x3 => ?_
  have x13 := x12.trans x3
  have fin : ∀ (rs : List (Int × Int)) (h4 : DH), SmallOk rs → Dx l h h4 → SW (tl__law_right_3 [some (.ref l), some (.tup (cs.map .int)), some (.lst (rs.map rD)), none, none, none, none, none, none] h4) { nx := fun _ h1 => Dx l h h1 ∧ ∀ h', h'.length = h.length → Dx l h h' → QD .non h', rt := fun d h1 => Dx l h h1 ∧ ∃ d', frz h.length h1 d = some d' ∧ ∀ h', h'.length = h.length → Dx l h h' → QD d' h', exc := fun _ _ => False } := fun rs h4 hr x => tail3 kk hr x.at_ fun h' y => ⟨x.trans y, .bl true, by simp, fun h' k1 k2 => q h' k1 k2⟩
  by_cases hw : w = 0
  · simp [hw]
    refine comp_inv (R3I l h) ⟨x13, [], rfl, rfl, by simp⟩ (fun i d acc h' hd hI => ?_) fun acc h' hI => ?_
    · obtain ⟨x, rs', rfl, l1, b1⟩ := hI
      obtain ⟨hi, rfl⟩ := rngD_get hd
      refine ⟨rfl, _, pat_nm, ?_⟩
      simp [wipeD]
      refine pick_ok x.at_ (fun _ => rfl) (List.length_pos_iff.mpr c1.ne) (by have := kk.len; omega) fun s h5 sm _ y1 => ?_
      have sp := kk.pos s sm
      have sl := c4 s sm
      refine roll_ok y1.at_ (by omega) (by omega) fun b h6 b0 b1' _ y2 => ?_
      have m1 : mulOk s (1 + b) = true := mulOk_r (by omega) (by omega)
      simp [m1]
      refine roll_ok y2.at_ (by omega) (by omega) fun c h7 c0 c1' _ y3 => ?_
      have ml : s * (1 + b) ≤ s * 3 := Int.mul_le_mul_of_nonneg_left (by omega) (by omega)
      have mp : s * 1 ≤ s * (1 + b) := Int.mul_le_mul_of_nonneg_left (by omega) (by omega)
      simp
      refine ⟨fine_of (by omega), ((x.trans y1).trans y2).trans y3, rs' ++ [(s * (1 + b), 1 + c)], by simp [rD], by simp [l1], fun p hp => ?_⟩
      rcases List.mem_append.mp hp with hp | hp
      · exact b1 p hp
      · have : p = (s * (1 + b), 1 + c) := by simpa using hp
        rw [this]
        refine ⟨⟨?_, ?_⟩, ?_, ?_⟩
        · show 1 ≤ s * (1 + b)
          omega
        · show s * (1 + b) ≤ 10 ^ 6
          omega
        · show 1 ≤ 1 + c
          omega
        · show 1 + c ≤ 5
          omega
    · obtain ⟨x, rs', rfl, l1, b1⟩ := hI
      simp at l1
      have := fin rs' h' ⟨b1, by omega⟩ x
      simp at this ⊢
      exact this
  · simp [hw]
    have := fin rs h3 ⟨fun p hp => by
      have := r1 p hp
      exact ⟨⟨this.1.1, by omega⟩, this.2.1, this.2.2⟩, r2⟩ x13
    simp at this ⊢
    exact this
end W73

set_option maxHeartbeats 4000000
namespace W73
open PySem PySem.Spec PyProof.Rows L2 Cp
variable {l : Nat} {h : DH} {QD : D → DH → Prop} {X : Ex → DH → Prop} {T : Tq}
def GR (rs : List (Int × Int)) : Prop := (∀ p ∈ rs, (1 ≤ p.1 ∧ p.1 ≤ 10 ^ 28) ∧ 1 ≤ p.2 ∧ p.2 ≤ 10 ^ 35) ∧ rs.length ≤ 5
theorem GR.pos {rs : List (Int × Int)} (h : GR rs) : Pos rs := fun p hp => (h.1 p hp).2.1
theorem GR.runs {rs : List (Int × Int)} (h : GR rs) : RunsOk rs := ⟨fun p hp => by
  have := h.1 p hp
  exact ⟨this.1.1, by omega, this.2.1, by omega⟩, by have := h.2; omega⟩
theorem numG_le : ∀ {rs : List (Int × Int)}, (∀ p ∈ rs, p.2 ≤ 10 ^ 35) → numG rs ≤ 10 ^ 35 * rs.length
  | [], _ => by simp [numG]
  | p :: r, h => by
    have ih := numG_le (rs := r) fun x hx => h x (by simp [hx])
    have := h p (by simp)
    simp [numG] at ih ⊢
    omega
theorem few_len : ∀ {rs : List (Int × Int)}, (expand (fewR rs)).length ≤ 2 * rs.length
  | [] => by simp [fewR, expand]
  | p :: r => by
    have ih := few_len (rs := r)
    show (List.replicate (if p.2 < 2 then p.2 else 2).toNat p.1 ++ expand (fewR r)).length ≤ _
    rw [List.length_append, List.length_replicate, List.length_cons]
    split <;> omega
theorem few_pos {rs : List (Int × Int)} (h : Pos rs) : Pos (fewR rs) := fun p hp => by
  obtain ⟨q, hq, rfl⟩ := List.mem_map.mp hp
  have := h q hq
  show 1 ≤ if q.2 < 2 then q.2 else 2
  split <;> omega
theorem open_few {cs : List Int} {rs : List (Int × Int)} (hp : Pos rs) : (shutIn cs (mergeR rs) cs).isNone = (dueS cs (expand (fewR rs)) cs).isEmpty := by
  obtain ⟨e1, e2⟩ := merge_expand hp
  have k : shutIn cs (mergeR rs) cs = none ↔ dueS cs (expand (fewR rs)) cs = [] := by
    rw [open_iff e2, due_nil, e1]
    constructor
    · exact fun z s hs y => z s hs ((few_ex hp).mp y)
    · exact fun z s hs y => z s hs ((few_ex hp).mpr y)
  cases e : shutIn cs (mergeR rs) cs with
  | none => rw [k.mp e]; rfl
  | some t =>
    cases e3 : dueS cs (expand (fewR rs)) cs with
    | nil => rw [k.mpr e3] at e; cases e
    | cons a r => rfl
theorem gtail {cs : List Int} (kk : ChainOk cs) {rs : List (Int × Int)} (hr : GR rs) {d0 x3 x4 x5 x6 : Option D} (q : T.rt (.bl true) h) : SW (tl__law_great_right_3 [d0, some (.tup (cs.map .int)), some (.lst (rs.map rD)), x3, x4, x5, x6] h) T := by
  have hp := hr.pos
  have e1 := made_ok (h := h) hr.runs (by have := hr.2; omega)
  have fl := few_len (rs := rs)
  have e2 := lshutters_ok (h := h) kk (few_pos hp) (by have := hr.2; omega)
  have e3 := shutter_ok (h := h) kk (rs := mergeR rs)
  have e4 := isopen_ok (h := h) kk (rs := mergeR rs)
  have e5 := eq_tr (h := h) (ts := dueS cs (expand (fewR rs)) cs)
  have eo := open_few (cs := cs) hp
  have fn : ∀ n, n ≤ 20 → fine n = true := fun n hn => fine_of (by omega)
  simp [tl__law_great_right_3]
  let f : D → D := fun d => match d with
    | .tup [x, .int n] => .tup [x, .int (if n < 2 then n else 2)]
    | _ => .non
  have ef : (rs.map rD).map f = (fewR rs).map rD := by simp [fewR, rD, f, Function.comp_def]
  refine comp_map f rfl (by have := hr.2; simp; omega) (fun d hd => ?_) ?_
  · obtain ⟨p, hp, rfl⟩ := List.mem_map.mp hd
    refine ⟨_, by simp [wipeD, rD]; rfl, rfl, RW.eq ?_⟩
    simp [rD, f]
  · rw [ef]
    rw [← eo] at e5
    cases e : shutIn cs (mergeR rs) cs with
    | none =>
      rw [e] at e3 e4 e5
      simp [e1, e2, e3, e4, e5, ne_bb, tripD]
      exact q
    | some t =>
      obtain ⟨s, a, j⟩ := t
      obtain ⟨m1, m2⟩ := merge_expand hp
      have h2 := told_isSh m2 e
      have h3 := h2
      obtain ⟨hs, a', b', rfl, rfl, hab, x, y, _, h4, _⟩ := (isSh_iff m2).mp h3
      have hb := (List.getElem?_eq_some_iff.mp h4).1
      have n1 := numG_len m2
      have n2 := numG_len hp
      have n3 := numG_le fun p hp => (hr.1 p hp).2.2
      have n4 := hr.2
      rw [m1] at n1 hb
      have := kk.pos s hs
      have := kk.lim s hs
      have e6 := issh_ok (h := h) kk (rs := mergeR rs) (by have := foldl_len rs []; simp [mergeR] at this ⊢; omega) (s := s) (i := a') (j := b') ⟨by omega, by omega⟩ ⟨by omega, by omega⟩ ⟨by omega, by omega⟩
      rw [h2] at e6
      rw [e] at e3 e4 e5
      simp [e1, e2, e3, e4, e5, ne_bb, tripD, e6]
      exact q
def CgI (l : Nat) (h : DH) (rs : List (Int × Int)) (i : Nat) (acc : List D) (h' : DH) : Prop := Dx l h h' ∧ ∃ rs2 : List (Int × Int), acc = rs2.map rD ∧ rs2.length = i ∧ ∀ p ∈ rs2, (1 ≤ p.1 ∧ p.1 ≤ 10 ^ 28) ∧ 1 ≤ p.2 ∧ p.2 ≤ 10 ^ 33
theorem great_right_ok (dd : DiceAt l h) (q : ∀ h', h'.length = h.length → Dx l h h' → QD (.bl true) h') : RW (F__law_great_right [.ref l] h) QD X := by
  refine run_dice dd ?_
  simp [d__law_great_right, startD]
  refine long_ok dd fun cs h1 kk c4 c5 _ x1 => ?_
  refine gs_ok kk c4 x1.at_ fun rs0 h2 b0 _ x2 => ?_
  have x12 := x1.trans x2
  have mb := merge_bound (A := 10 ^ 28) (M := 10 ^ 31) (by omega) b0.1
  have em := lmerged_ok (h := h2) (rs := rs0) (by have := b0.2; omega) (x := .lst (rs0.map rD)) (.inr rfl)
  simp [em]
  have l0 := b0.2
  have mb1 : ∀ p ∈ mergeR rs0, (1 ≤ p.1 ∧ p.1 ≤ 10 ^ 28) ∧ 1 ≤ p.2 ∧ p.2 ≤ 10 ^ 33 := fun p hp => by
    have := mb.1 p hp
    exact ⟨this.1, this.2.1, by omega⟩
  have ml := mb.2
  refine roll_ok x2.at_ (by omega) (by omega) fun w h3 w0 w1 _ x3 => ?_
  have x13 := x12.trans x3
  have fin : ∀ (rs : List (Int × Int)) (h4 : DH), GR rs → Dx l h h4 → SW (tl__law_great_right_3 [some (.ref l), some (.tup (cs.map .int)), some (.lst (rs.map rD)), none, none, none, none] h4) { nx := fun _ h1 => Dx l h h1 ∧ ∀ h', h'.length = h.length → Dx l h h' → QD .non h', rt := fun d h1 => Dx l h h1 ∧ ∃ d', frz h.length h1 d = some d' ∧ ∀ h', h'.length = h.length → Dx l h h' → QD d' h', exc := fun _ _ => False } := fun rs h4 hr x => gtail kk hr ⟨x, .bl true, by simp, fun h' k1 k2 => q h' k1 k2⟩
  by_cases hw : w = 0
  · simp [hw]
    refine comp_inv (CgI l h (mergeR rs0)) ⟨x13, [], rfl, rfl, by simp⟩ (fun i d acc h' hd hI => ?_) fun acc h' hI => ?_
    · obtain ⟨x, rs', rfl, l1, b1⟩ := hI
      have hd' := List.mem_of_getElem? hd
      obtain ⟨p, hp, rfl⟩ := List.mem_map.mp hd'
      have bp := mb1 p hp
      have hi := (List.getElem?_eq_some_iff.mp hd).1
      simp at hi
      refine ⟨rfl, _, by simp [wipeD, rD]; rfl, ?_⟩
      simp
      refine pick_ok x.at_ (fun _ => rfl) (List.length_pos_iff.mpr kk.ch.ne) (by have := kk.len; omega) fun s h5 sm _ y1 => ?_
      have sp := kk.pos s sm
      have sl := c4 s sm
      refine pick_ok (ns := [1, 2, 3]) y1.at_ (fun _ => rfl) (by simp) (by simp) fun e h6 em _ y2 => ?_
      have e0 : 1 ≤ e ∧ e ≤ 3 := by
        simp at em
        omega
      have m1 : mulOk s e = true := mulOk_r (by omega) (by omega)
      have ml : s * e ≤ s * 3 := Int.mul_le_mul_of_nonneg_left (by omega) (by omega)
      have mp : s * 1 ≤ s * e := Int.mul_le_mul_of_nonneg_left (by omega) (by omega)
      simp [m1]
      refine ⟨fine_of (by omega), (x.trans y1).trans y2, rs' ++ [(s * e, p.2)], by simp [rD], by simp [l1], fun p' hp' => ?_⟩
      rcases List.mem_append.mp hp' with hp' | hp'
      · exact b1 p' hp'
      · have : p' = (s * e, p.2) := by simpa using hp'
        rw [this]
        refine ⟨⟨?_, ?_⟩, bp.2⟩
        · show 1 ≤ s * e
          omega
        · show s * e ≤ 10 ^ 28
          omega
    · obtain ⟨x, rs', rfl, l1, b1⟩ := hI
      simp at l1
      have em2 := lmerged_ok (h := h') (rs := rs') (by omega) (x := .lst (rs'.map rD)) (.inr rfl)
      have mb2 := merge_bound (A := 10 ^ 28) (M := 10 ^ 33) (by omega) b1
      have l2 := mb2.2
      have := fin (mergeR rs') h' ⟨fun p hp => by
        have := mb2.1 p hp
        exact ⟨this.1, this.2.1, by omega⟩, by omega⟩ x
      simp [em2] at this ⊢
      exact this
  · simp [hw]
    have := fin (mergeR rs0) h3 ⟨fun p hp => by
      have := mb1 p hp
      exact ⟨this.1, this.2.1, by omega⟩, by omega⟩ x13
    simp at this ⊢
    exact this
end W73

set_option maxHeartbeats 4000000
namespace W73
open PySem PySem.Spec PyProof.Rows L2 Cp
variable {l : Nat} {h : DH} {QD : D → DH → Prop} {X : Ex → DH → Prop} {T : Tq}
theorem w_runA {N : List Str} {b : DSt} {ds : List D} (hb : SW (b (startD N ds) h) { nx := fun _ h1 => QD .non h1, rt := QD, exc := X }) : RW (runA N b ds h) QD X := by
  unfold runA
  cases e : b (startD N ds) h <;> rw [e] at hb <;> exact hb
theorem dPow_ii {i j : Int} : dPow (.int i) (.int j) h = if (decide (0 ≤ j) && decide (j ≤ 1000) && small 60 i) = true then some (.int (i ^ j.toNat)) else none := rfl
theorem p15 : dPow (.int 10) (.int 15) h = some (.int (10 ^ 15)) := by rw [dPow_ii, if_pos (by decide)]; rfl
theorem p60 : dPow (.int 10) (.int 60) h = some (.int (10 ^ 60)) := by rw [dPow_ii, if_pos (by decide)]; rfl
theorem p30 : dPow (.int 10) (.int 30) h = some (.int (10 ^ 30)) := by rw [dPow_ii, if_pos (by decide)]; rfl
theorem dice_ok {ns : List Int} {s : Int} (hs : 0 ≤ s) (q : ∀ a b : Int, QD (.ref h.length) (h ++ [.lst [.int a, .int b, .int 0]])) : RW (F__law_dice [.scr ns, .int s] h) QD X := by
  refine w_runA ?_
  have m1 : ∀ j, mulOk 71 j = true := fun j => mulOk_l (by decide) (by decide)
  have m2 : ∀ j, mulOk 1009 j = true := fun j => mulOk_l (by decide) (by decide)
  have m3 : ∀ j, mulOk 31 j = true := fun j => mulOk_l (by decide) (by decide)
  have m4 : ∀ j, mulOk j 43 = true := fun j => mulOk_r (by decide) (by decide)
  have m5 : mulOk (10 ^ 60) (10 ^ 60) = true := by decide
  have z : (0 : Int) < 10 ^ 60 * 10 ^ 60 := by decide
  have tail : ∀ (sd : Sl) (v : Int), sd = [some (.scr ns), some (.int s), some (.int v), none] → SW (sSeq (sSet 3 (eO2 dMod (eCB cMax2 (asCons (eK (.int 0)) (asCons (eO2 dSub (eCB cAbs (asCons (eV 2) (asNil))) (eO2 dPow (eK (.int 10)) (eK (.int 15)))) (asNil)))) (eO2 dMul (eO2 dPow (eK (.int 10)) (eK (.int 60))) (eO2 dPow (eK (.int 10)) (eK (.int 60)))))) (
      sRet (eLstM (asCons (eV 3) (asCons (eO2 dAdd (eO2 dAdd (eO2 dAdd (eO2 dMul (eO2 dMod (eCB cAbs (asCons (eV 2) (asNil))) (eK (.int 1152921504606846877))) (eK (.int 43))) (eO2 dMul (eK (.int 1009)) (eV 1))) (eO2 dMul (eK (.int 31)) (eCB cInt (asCons (eO2 (cmpD dLt) (eV 2) (eK (.int 0))) (asNil))))) (eK (.int 11))) (asCons (eK (.int 0)) (asNil)))))) sd h) { nx := fun _ h1 => QD .non h1, rt := QD, exc := X } := by
    rintro sd v rfl
    simp only [w_sSeq, w_sSet, w_eO2, w_eCB, w_asCons, w_asNil, w_eK, w_eV, p15, p60]
    simp [m2, m3, m4, -Int.reducePow]
    simp only [m5, z, true_and]
    simp
    by_cases hv : v < 0
    · have hv' : ¬ 0 ≤ v := by omega
      have m31 : mulOk 31 1 = true := m3 1
      simp [hv, hv', m31]
      exact q _ _
    · have hv' : 0 ≤ v := by omega
      have m30 : mulOk 31 0 = true := m3 0
      simp [hv, hv', m30]
      exact q _ _
  unfold d__law_dice startD
  rw [w_sSeq, w_sSet]
  by_cases hl : s < (ns.length : Int)
  · obtain ⟨n, rfl⟩ := Int.eq_ofNat_of_zero_le hs
    have hn : n < ns.length := by omega
    have e1 : atI (ns.map D.int) (n : Int) = some (.int ns[n]) := by rw [atI_nat (by simpa using hn)]; simp
    simp [hl, e1, -w_sSeq]
    exact tail _ _ rfl
  · have hl' : (ns.length : Int) ≤ s := by omega
    simp [hl, hl', m1, -w_sSeq]
    exact tail _ _ rfl
end W73

set_option maxHeartbeats 4000000
namespace W73
open PySem PySem.Spec PyProof.Rows L2 Cp
variable {l : Nat} {h : DH} {QD : D → DH → Prop} {X : Ex → DH → Prop} {T : Tq}
theorem chOf {cs : List Int} (h : Ch cs) (h2 : cs.length ≤ 12) (h3 : ∀ c ∈ cs, c < 10 ^ 40) : ChainOk cs := ⟨h, h2, h3⟩
theorem k126 : ChainOk [1, 2, 6] := ⟨by simp [Ch], by simp, by simp⟩
theorem k26 : ChainOk [2, 6] := ⟨by simp [Ch], by simp, by simp⟩
theorem k17 : ChainOk [1, 7] := ⟨by simp [Ch], by simp, by simp⟩
theorem k4 : ChainOk [4] := ⟨by simp [Ch], by simp, by simp⟩
theorem k14 : ChainOk [1, 4] := ⟨by simp [Ch], by simp, by simp⟩
def wide : List (Int × Int) := [(12, 1000000000000000000000000000000), (7, 1), (12, 5)]
theorem wide_sh (s i j : Int) (hs : 0 ≤ s ∧ s < 10 ^ 60) (hi : 0 ≤ i ∧ i < 10 ^ 60) (hj : 0 ≤ j ∧ j < 10 ^ 60) : F_is_shutter [.tup [.int 1, .int 2, .int 6], storeD wide, .tup [.int s, .int i, .int j]] h = .ok (.bl (isSh [1, 2, 6] wide s i j)) h := issh_ok k126 (by decide) hs hi hj
theorem loop3 {d0 d1 d2 d3 d4 d5 d7 : Option D} : ∀ (vs : List (D × Bool)) (a b : Option D), (∀ v ∈ vs, F_is_shutter [.tup [.int 1, .int 2, .int 6], storeD wide, v.1] h = .ok (.bl v.2) h) → (∀ a b, T.nx [d0, d1, d2, d3, d4, d5, some (storeD wide), d7, a, b] h) →
    SW (forD (gdPat (.tup (.cons (.nm 8) (.cons (.nm 9) (.nil))))) lb_law_3 always (vs.map fun v => .tup [v.1, .bl v.2]) [d0, d1, d2, d3, d4, d5, some (storeD wide), d7, a, b] h) T
  | [], a, b, _, q => by
    rw [List.map_nil, w_for_nil]
    exact ⟨rfl, q a b⟩
  | v :: r, a, b, hv, q => by
    rw [List.map_cons, w_for_cons]
    have ih := loop3 (d0 := d0) (d1 := d1) (d2 := d2) (d3 := d3) (d4 := d4) (d5 := d5) (d7 := d7) r (some v.1) (some (.bl v.2)) (fun x hx => hv x (by simp [hx])) q
    have e := hv v (by simp)
    have n1 : dNe (.str "True") (.str "True") h = some false := ne_repr (b := true) (c := true)
    have n2 : dNe (.str "False") (.str "False") h = some false := ne_repr (b := false) (c := false)
    refine ⟨rfl, _, by simp; rfl, ?_⟩
    generalize hb : v.2 = vb at *
    cases vb
    · simp [lb_law_3, e, n2, goTq]
      exact ih
    · simp [lb_law_3, e, n1, goTq]
      exact ih
theorem ltail5 {rs : List (Int × Int)} {d0 d1 d2 d3 d8 d9 : Option D} (q : T.rt (.bl true) h) : SW (tl_law_5 [d0, d1, d2, d3, some (storeD [(10, 2), (7, 3)]), some (.lst [.bl false, .bl true, .bl true, .bl true, .bl false, .bl true, .bl true]), some (storeD wide), some (.int 1000000000000000000000000000000), d8, d9] h) T := by
  have n1 : dNe (.str "True") (.str "True") h = some false := ne_repr (b := true) (c := true)
  have n2 : dNe (.str "False") (.str "False") h = some false := ne_repr (b := false) (c := false)
  have w1 := wide_sh (h := h) 6 0 1000000000000000000000000000000 (by omega) (by omega) (by omega)
  have w2 := wide_sh (h := h) 6 999999999999999999999999999999 1000000000000000000000000000000 (by omega) (by omega) (by omega)
  have w3 := wide_sh (h := h) 6 0 999999999999999999999999999999 (by omega) (by omega) (by omega)
  have w4 := wide_sh (h := h) 6 0 1000000000000000000000000000001 (by omega) (by omega) (by omega)
  have i1 : isSh [1, 2, 6] wide 6 0 1000000000000000000000000000000 = true := by decide +kernel
  have i2 : isSh [1, 2, 6] wide 6 999999999999999999999999999999 1000000000000000000000000000000 = true := by decide +kernel
  have i3 : isSh [1, 2, 6] wide 6 0 999999999999999999999999999999 = false := by decide +kernel
  have i4 : isSh [1, 2, 6] wide 6 0 1000000000000000000000000000001 = false := by decide +kernel
  rw [i1] at w1; rw [i2] at w2; rw [i3] at w3; rw [i4] at w4
  have s1 : F_is_shutter [.tup [.int 1, .int 2, .int 6], storeD [(10, 2), (7, 3)], .tup [.int 2, .int 0, .int 4]] h = .ok (.bl true) h := by
    have := issh_ok (h := h) k126 (rs := [(10, 2), (7, 3)]) (by decide) (s := 2) (i := 0) (j := 4) (by omega) (by omega) (by omega)
    have e : isSh [1, 2, 6] [(10, 2), (7, 3)] 2 0 4 = true := by decide +kernel
    rw [e] at this; exact this
  have fn : ∀ n, n ≤ 20 → fine n = true := fun n hn => fine_of (by omega)
  have z := loop3 (T := { T with nx := fun sd h1 => SW (sRet (eO2 (cmpD dEq) (eO2 dAdd (eV 5) (eLst (asCons (eCall F_is_shutter [] (asCons (eTup (asCons (eK (.int 1)) (asCons (eK (.int 2)) (asCons (eK (.int 6)) (asNil))))) (asCons (eV 4) (asCons (eTup (asCons (eK (.int 2)) (asCons (eK (.int 0)) (asCons (eK (.int 4)) (asNil))))) (asNil))))) (asNil)))) (eLst (asCons (eK (.bl false)) (asCons (eK (.bl true)) (asCons (eK (.bl true)) (asCons (eK (.bl true)) (asCons (eK (.bl false)) (asCons (eK (.bl true)) (asCons (eK (.bl true)) (asCons (eK (.bl true)) (asNil))))))))))) sd h1) T }) (h := h) (d0 := d0) (d1 := d1) (d2 := d2) (d3 := d3) (d4 := some (storeD [(10, 2), (7, 3)])) (d5 := some (.lst [.bl false, .bl true, .bl true, .bl true, .bl false, .bl true, .bl true])) (d7 := some (.int 1000000000000000000000000000000)) [(.tup [.int 6, .int 0, .int 1000000000000000000000000000000], true), (.tup [.int 6, .int 999999999999999999999999999999, .int 1000000000000000000000000000000], true), (.tup [.int 6, .int 0, .int 999999999999999999999999999999], false), (.tup [.int 6, .int 0, .int 1000000000000000000000000000001], false)] d8 d9 (fun v hv => by
    simp only [List.mem_cons, List.not_mem_nil, or_false] at hv
    rcases hv with rfl | rfl | rfl | rfl
    · exact w1
    · exact w2
    · exact w3
    · exact w4) (fun a b => by
    simp [s1, dAdd, fn]
    simp [dEq, eqDepth, toPy, toPys, PyData.eqv, PyData.eqvAll]
    exact q)
  rw [tl_law_5, w_sSeq, w_sFor]
  simp [fn, -w_sRet]
  exact z
end W73

set_option maxHeartbeats 4000000
namespace W73
open PySem PySem.Spec PyProof.Rows L2 Cp
variable {l : Nat} {h : DH} {QD : D → DH → Prop} {X : Ex → DH → Prop} {T : Tq}
theorem mkS (rs : List (Int × Int)) (hr : RunsOk rs) {xs : List D} (e : xs = rs.map rD) {ms : List (Int × Int)} (e2 : mergeR rs = ms) : mkF "Store" (starF F_Store___init__) xs h = .ok (storeD ms) h := by
  subst e e2; exact make_ok hr
theorem opS {cs : List Int} (kk : ChainOk cs) {rs : List (Int × Int)} {xs : List D} (e : xs = cs.map .int) {b : Bool} (e2 : (shutIn cs rs cs).isNone = b) : F_is_open [.tup xs, storeD rs] h = .ok (.bl b) h := by
  subst e e2; exact isopen_ok kk
theorem runsOk {rs : List (Int × Int)} (h : rs.all (fun p => decide (1 ≤ p.1) && (decide (p.1 < 10 ^ 40) && (decide (1 ≤ p.2) && decide (p.2 < 10 ^ 40)))) = true) (h2 : rs.length ≤ 40) : RunsOk rs := ⟨fun p hp => by
  have := List.all_eq_true.mp h p hp
  simp only [Bool.and_eq_true, decide_eq_true_eq] at this
  exact ⟨this.1, this.2.1, this.2.2.1, this.2.2.2⟩, h2⟩
theorem ltail1 {d0 d1 d2 d3 d4 d5 d6 d7 d8 d9 : Option D} (q : T.rt (.bl true) h) : SW (tl_law_1 [d0, d1, d2, d3, d4, d5, d6, d7, d8, d9] h) T := by
  have a1 := mkS (h := h) [(10, 2), (7, 3)] (runsOk (by decide) (by decide)) (xs := [.tup [.int 10, .int 2], .tup [.int 7, .int 3]]) rfl (ms := [(10, 2), (7, 3)]) (by decide)
  have a2 := mkS (h := h) [(12, 3)] (runsOk (by decide) (by decide)) (xs := [.tup [.int 12, .int 3]]) rfl (ms := [(12, 3)]) (by decide)
  have a3 := mkS (h := h) [(7, 1), (6, 2)] (runsOk (by decide) (by decide)) (xs := [.tup [.int 7, .int 1], .tup [.int 6, .int 2]]) rfl (ms := [(7, 1), (6, 2)]) (by decide)
  have a4 := mkS (h := h) [] (runsOk (by decide) (by decide)) (xs := []) rfl (ms := []) (by decide)
  have a5 := mkS (h := h) [(7, 1)] (runsOk (by decide) (by decide)) (xs := [.tup [.int 7, .int 1]]) rfl (ms := [(7, 1)]) (by decide)
  have a6 := mkS (h := h) wide (runsOk (by decide +kernel) (by decide)) (xs := [.tup [.int 12, .int 1000000000000000000000000000000], .tup [.int 7, .int 1], .tup [.int 12, .int 5]]) rfl (ms := wide) (by decide +kernel)
  have o1 := opS (h := h) k126 (rs := [(10, 2), (7, 3)]) (xs := [.int 1, .int 2, .int 6]) rfl (b := false) (by decide +kernel)
  have o2 := opS (h := h) k126 (rs := [(12, 3)]) (xs := [.int 1, .int 2, .int 6]) rfl (b := true) (by decide +kernel)
  have o3 := opS (h := h) k126 (rs := [(7, 1), (6, 2)]) (xs := [.int 1, .int 2, .int 6]) rfl (b := true) (by decide +kernel)
  have o4 := opS (h := h) k26 (rs := [(7, 1), (6, 2)]) (xs := [.int 2, .int 6]) rfl (b := true) (by decide +kernel)
  have o5 := opS (h := h) k17 (rs := [(10, 2), (7, 3)]) (xs := [.int 1, .int 7]) rfl (b := false) (by decide +kernel)
  have o6 := opS (h := h) k4 (rs := []) (xs := [.int 4]) rfl (b := true) (by decide +kernel)
  have o7 := opS (h := h) k14 (rs := [(7, 1)]) (xs := [.int 1, .int 4]) rfl (b := true) (by decide +kernel)
  have p : dPow (.int 10) (.int 30) h = some (.int 1000000000000000000000000000000) := p30
  have fn : ∀ n, n ≤ 20 → fine n = true := fun n hn => fine_of (by omega)
  have z := ltail5 (h := h) (T := T) (rs := []) (d0 := d0) (d1 := d1) (d2 := d2) (d3 := d3) (d8 := d8) (d9 := d9) q
  rw [tl_law_1, w_sSeq, w_sSet]
  simp [a1, -w_sSeq]
  rw [w_sSeq, w_sSet]
  simp [fn, o1, a2, o2, a3, o3, -w_sSeq]
  rw [w_sSeq, w_sSet]
  simp [fn, dAdd, a3, o4, o5, a4, o6, a5, o7, -w_sSeq]
  rw [w_sSeq, w_sPar]
  simp [p, a6, fn]
  exact ⟨_, _, ⟨rfl, rfl⟩, z⟩
def LawI (ns : List Int) (i : Nat) (sd : Sl) (h : DH) : Prop := ∃ t2 t3 t4 t5 t6 t7 t8 t9 t10, sd = [some (.scr ns), t2, t3, t4, t5, t6, t7, t8, t9, t10]
def TurnI (l : Nat) (ns : List Int) (i : Nat) (sd : Sl) (h : DH) : Prop := DiceAt l h ∧ ∃ t2 t4 t5 t6 t7 t8 t9 t10, sd = [some (.scr ns), t2, some (.ref l), t4, t5, t6, t7, t8, t9, t10]
theorem law_ok (ns : List Int) (hl : ns.length ≤ 63) : ∃ h', F_law [.scr ns] [] = .ok (.bl true) h' := by
  have k : RW (F_law [.scr ns] []) (fun d h' => d = .bl true) fun _ _ => False := by
    refine run_plain ?_
    simp [d_law, startD]
    have b : ∀ x : Int, 1 ≤ x → x ≤ 5 → -4611686018427387904 ≤ x ∧ x < 4611686018427387904 := fun x a b => by omega
    refine ⟨by split <;> split <;> omega, ?_⟩
    refine for_inv (LawI ns) ⟨_, _, _, _, _, _, _, _, _, rfl⟩ ?_ ?_
    · rintro i d sd h hd ⟨t2, t3, t4, t5, t6, t7, t8, t9, t10, rfl⟩
      obtain ⟨hi, rfl⟩ := rngD_get hd
      simp [lb_law_2]
      refine dice_ok (by omega) fun a b => ?_
      have dd : DiceAt h.length (h ++ [.lst [.int a, .int b, .int 0]]) := ⟨a, b, 0, by simp⟩
      refine for_inv (TurnI h.length ns) ⟨dd, _, _, _, _, _, _, _, _, rfl⟩ ?_ ?_
      · rintro i d sd h' hd ⟨dd, t2, t4, t5, t6, t7, t8, t9, t10, rfl⟩
        obtain ⟨hi, rfl⟩ := rngD_get hd
        simp [lb_law_1]
        refine right_ok dd fun h1 k1 x1 => ?_
        simp
        refine great_right_ok x1.at_ fun h2 k2 x2 => ?_
        simp
        exact ⟨x2.at_, _, _, _, _, _, _, _, _, rfl⟩
      · rintro sd h' ⟨dd, t2, t4, t5, t6, t7, t8, t9, t10, rfl⟩
        exact ⟨rfl, _, _, _, _, _, _, _, _, _, rfl⟩
    · rintro sd h ⟨t2, t3, t4, t5, t6, t7, t8, t9, t10, rfl⟩
      exact ⟨rfl, ltail1 (by simp)⟩
  obtain ⟨d, h', e, rfl⟩ := k.ex
  exact ⟨h', e⟩
end W73

set_option maxHeartbeats 0
namespace W73
open PySem PySem.Spec PyProof.Rows L2 Cp
abbrev hk : PySem.W.Hook := hookX 5 fa fn
def ob (s : PySem.W.SharedT) : He.AlD := obsXG 5 fa fn (HandSHeadRun.getT s)
theorem ob_eq (s : PySem.W.SharedT) : ob s = hk.obs s.abs := obsXG_eq (HandSHeadRun.getT_eq s)
theorem run (w : World) : HandSHeadRun.RunEq RowW (PySem.W.view RowW.prog [lawAt]) hk ob 60000 loose w := by
  intro os
  kernel_rfl
def LawTrue : Prop := ∀ ns : List Int, ns.length ≤ 63 → ∃ h', F_law [.scr ns] [] = .ok (.bl true) h'
theorem law_sp (L : LawTrue) {K : PySem.W.Frag} {mg : Str → Option Value} {H : Hp} {a : Addr} {ns : List Int} (hl : ns.length ≤ 63) (hS : SqL K H a (ns.map V.int)) : spD ⟨K, mg⟩ 1 F_law [.ref a] H (fun v _ => v = .bl true) fun _ _ _ => False := by
  obtain ⟨h', e⟩ := L ns hl
  let ρ : Lc := ⟨[], [], fun _ h => h⟩
  refine ⟨ρ, [], [.scr ns], ⟨rfl, .nil, (fun a ha => by cases ha), (fun l c e => by simp at e)⟩, .cons (.scr ?_) .nil, rfl, ?_⟩
  · rcases hS with h | h
    · exact .inl ⟨h, fun z => by cases z⟩
    · exact .inr h
  · rw [e]
    intro v ρ' H' _ _ i
    cases i; rfl
theorem facts {P : Program} {w : World} {K : PySem.W.Frag} {h : Heap} {mg : Str → Option Value} {f : Addr} (X : K.In h) (G : h.Ns mainGlobals mg) (hfa : mg ("law" : Str) = some (.ref f)) (c : SaysX fa fn K) :
    ∃ fd : FuncData, (∀ (s : Shared) (v : Value), BindsTo s fd ⟨[v], []⟩ [("script", v)]) ∧ ∀ base : Heap, K.In base → base.Ns mainGlobals mg → FnOk P w K mg base (L2.CX P w) 8 f fd ["script"] (spD ⟨K, mg⟩ 1 F_law) := by
  have B : Bs fa fn K mg := ⟨c, h, X, G⟩
  obtain ⟨fd, F⟩ := c.def_ 35 (d := D_law) rfl
  have e : f = He.ga K "law" := by
    have := hfa.symm.trans (He.glo_ok X G (c.fact 100 (f := .fa (.glo "law")) rfl))
    cases this; rfl
  subst e
  have b := FunD.bindsA (ps := ["script"]) F fun _ _ _ _ _ _ us hl => match us, hl with | [_], _ => rfl
  exact ⟨fd, fun s v => b s [v] rfl, fun base _ _ => ok_law (P := P) (w := w) (base := base) B F⟩
end W73
open PySem PySem.W PySem.Calls PyProof.Rows
theorem W73.holds_of (L : W73.LawTrue) : PySem.Challenge.rw_chainpacks_k73_whole_open_stores.Holds := by
  w_on; o_law
  refine HandSHeadRun.head_any (r := OpenLaw.row PySem.Challenge.rw_chainpacks_k73_whole_open_stores) (q := view (OpenLaw.row PySem.Challenge.rw_chainpacks_k73_whole_open_stores).prog [57]) (H := W73.hk) (ob := W73.ob) (M := 60000) (loose := W73.loose) (d := HandSHeadRun.topDef (OpenLaw.row PySem.Challenge.rw_chainpacks_k73_whole_open_stores).prog 57) (kwd := []) W73.ob_eq
    (by kernel_rfl) (fun s => by kernel_rfl) W73.run (by kernel_rfl) (by kernel_rfl) (by kernel_rfl) (by rfl) (by first | assumption | decide +kernel) (by decide +kernel) ⟨rfl, rfl, rfl, rfl, rfl, by decide +kernel⟩ ?hw ?hc
  case hw => w_witness2
  case hc =>
    refine L2.walk_ofE (l := PySem.Challenge.rw_chainpacks_k73_whole_open_stores) (n := 63) (k := 8) (x := "script") (CX := fun _ _ _ _ _ _ => False) rfl (by decide) (by kernel_rfl) ⟨rfl, by decide, by decide⟩ ?F (fun _ _ _ _ z => z)
    intro w mg fa h Y G hmg0
    obtain ⟨K, KX, c⟩ := Y
    have hmg : mg ("law" : PySem.Str) = some (.ref fa) := by
      have e : (HandSHeadRun.topDef (OpenLaw.row PySem.Challenge.rw_chainpacks_k73_whole_open_stores).prog 57).name = ("law" : PySem.Str) := by kernel_rfl
      rw [← e]
      exact hmg0
    obtain ⟨fd, hb, hF⟩ := W73.facts (P := (PySem.Challenge.rw_chainpacks_k73_whole_open_stores).prog) (w := w) KX G hmg c
    exact ⟨K, fd, (fun vs H Q _ => Cp.spD ⟨K, mg⟩ 1 W73.F_law vs H Q fun _ _ _ => False), KX, hb, fun H a ns hl _ hS => W73.law_sp L hl hS, fun base a b => Cp.fn_out (hF base a b)⟩

theorem PySem.Challenge.cw_chainpacks_k73_whole_open_stores_holds : PySem.Challenge.rw_chainpacks_k73_whole_open_stores.Holds := by
  exact W73.holds_of W73.law_ok
